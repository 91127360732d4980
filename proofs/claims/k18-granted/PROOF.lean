import PyProof.Rows.All
import Wide.All
import OpenK.AllK
import Wide.FinOn
import KE.KStateDown
import Lean
import HandS.ForMost
import HandS.ForExc
import HandS.Flow
import HandS.StrMore
import HandS.Defaults
import HandS.ExcInit
import HandS.ExcField
import HandS.More
import HandS.HeadHook3
import PyProof.ListStr
import HandS.Head0
import HandS.Head1
import HandS.Head2
import HandS.HeadEnd
import HandS.Zip
import HandS.FStr
import HandS.StrMore
import HandS.Style
import HandS.Codes
import HandS.OwnEq
import HandS.NoneIn
import HandS.Small
import HandS.HotCalls
import HandS.ExcInitHot
import PyProof.InstEq
import HandS.IsInst
import HandS.HeadNt
import HandS.TupLe
import PyProof.Rows.SortShellAny
import HandS.Set
import HandS.SetFor
import HandS.SetBool
import HandS.Deep
import HandS.TupAny
import KE.KEqDict
import HandS.DictComp
import HandS.DeepEq
import HandS.List
import HandS.SetKeys
import KE.GoesNew
import KE.GoesMore
import PyProof.AutoSeq1
import HandS.Sort
import KE.KSortTupAny
import KE.KOpsOwn
import HandS.WordsDict
import KE.KDictList
import PyProof.SetRoads
import HandS.ExcCtx
import HandS.Comp
import KE.GoesRaise
import KE.GoesComp
import KE.KIsAll
import KE.KExcIs
import HandS.Base
import HandS.Call
import HandS.Exc
import HandS.ExcIs
import HandS.Property
import PyProof.NeKinds
import PySem.Challenge.RW_openroads_k18_wishes_granted
set_option Elab.async false
set_option linter.all false
set_option maxRecDepth 100000
set_option maxHeartbeats 4000000
namespace Rd
open PySem PySem.Spec PyProof.Rows L2
/-- a function of the module by its name: promise, binding, place -/
structure Fk (P : Program) (w : World) (K : PySem.W.Frag) (mg : Str → Option Value) (base : Heap) (CX : CXT) (k : Nat) (x : Str) (ps : List Str) (sp : Sp) : Prop where
  ex : ∃ fd, FnOk P w K mg base CX k (He.ga K x) fd ps sp ∧ Binds K fd ps []
  g : mg x = some (.ref (He.ga K x))
  kp : PySem.W.keepIn K (.ref (He.ga K x)) = true
/-- what the head tells of a function of the module -/
structure Fh (K : PySem.W.Frag) (mg : Str → Option Value) (x : Str) (st : Stmt) : Prop where
  ex : ∃ fd, FunD K x x (defArgs st) (defBody st) (defScope st) [] [] (He.ga K x) fd
  g : mg x = some (.ref (He.ga K x))
section
variable {P : Program} {w : World} {K : PySem.W.Frag} {mg : Str → Option Value} {base : Heap} {CX : CXT} {k : Nat} {x : Str} {ps N : List Str} {sp : Sp} {st : Stmt}
theorem Fh.ok (F : Fh K mg x st) (S : FnScope N ps (defScope st))
    (hb : ∀ (kV doc pm : Value) (an : Option Addr) (cdv ct : Value) (us : List Value), us.length = ps.length → bindArgs (PySem.W.fnOf x x (defArgs st) (defBody st) (defScope st) .none kV doc pm an cdv ct) ⟨us, []⟩ = pure (ps.zip us))
    (len : ∀ vs H Q E, sp vs H Q E → vs.length = ps.length)
    (hbody : ∀ (cdv : Value) (A : Around) (outer : List Env) (s : Shared) (H : Hp) (vs : List V) (Q : VK) (E : XK), Room k (A.deeper (envOfC x (defScope st) s.heap.objs.size (He.ga K x) cdv)) → sp vs H Q E →
      ∃ t, PSs (cxOf CX P w K mg base N x (defScope st) (He.ga K x) cdv A outer s H E) (defBody st) t ∧ t { nx := fun _ H' => Q .non H', rt := Q } (start N vs) H) : Fk P w K mg base CX (k + 1) x ps sp := by
  obtain ⟨fd, F'⟩ := F.ex
  exact ⟨⟨fd, F'.ok S len hbody, F'.bindsN hb⟩, F.g, F'.kp⟩
/-- no exception leaves -/
theorem Fh.ok0 (F : Fh K mg x st) (S : FnScope N ps (defScope st))
    (hb : ∀ (kV doc pm : Value) (an : Option Addr) (cdv ct : Value) (us : List Value), us.length = ps.length → bindArgs (PySem.W.fnOf x x (defArgs st) (defBody st) (defScope st) .none kV doc pm an cdv ct) ⟨us, []⟩ = pure (ps.zip us))
    (len : ∀ vs H Q E, sp vs H Q E → vs.length = ps.length)
    (hbody : ∀ (cdv : Value) (A : Around) (outer : List Env) (s : Shared) (H : Hp) (vs : List V) (Q : VK) (E : XK), Room k (A.deeper (envOfC x (defScope st) s.heap.objs.size (He.ga K x) cdv)) → sp vs H Q E →
      ∃ t, PSs (cxOf CX0 P w K mg base N x (defScope st) (He.ga K x) cdv A outer s H E).nox (defBody st) t ∧ t { nx := fun _ H' => Q .non H', rt := Q } (start N vs) H) : Fk P w K mg base CX0 (k + 1) x ps sp :=
  F.ok S hb len fun cdv A outer s H vs Q E hr h => by
    obtain ⟨t, h1, h2⟩ := hbody cdv A outer s H vs Q E hr h
    exact ⟨t, h1.nox, h2⟩
theorem Fk.mono {j : Nat} (F : Fk P w K mg base CX j x ps sp) (h : j ≤ k) : Fk P w K mg base CX k x ps sp := by
  obtain ⟨⟨fd, a, b⟩, c, d⟩ := F
  exact ⟨⟨fd, a.mono h, b⟩, c, d⟩
end
section
variable {X : Cx} {CX : CXT} {k : Nat} {ps : List Str} {sp : Sp} {E : XK} {x : Str} {p pos : Pos} {e : Expr} {es : List Expr} {t : TA}
theorem pe_fk (F : Fk X.prog X.w X.K X.mg X.base CX k x ps sp) (hr : Room k X.A) (hg : Gl X x) (hx : Passes CX X E)
    (ha : PA X (e :: es) t) (hdb : (x == ("__debug__" : Str)) = false := by decide) (he : starEach (e :: es) X.env = (false, eval e X.env) :: starEach es X.env := by rfl) (hpl : (backTo pos (starEach es X.env)).any (·.1) = false := by rfl) :
    PE X (.Call (.Name x p) (e :: es) [] pos) (tCall sp [] E t) := by
  obtain ⟨⟨fd, a, b⟩, c, d⟩ := F
  exact pe_call a hr hg c d b .nil hx ha hdb he hpl
theorem pe_gstr {z : Str} (hm : ∃ t, X.mg x = some (.str z t)) (hg : Gl X x := by rfl) (hd : (x == ("__debug__" : Str)) = false := by decide) : PE X (.Name x pos) (tC (.str z)) := by
  obtain ⟨t, hm⟩ := hm
  exact pe_glob hg hm ⟨t, rfl⟩ hd
end
end Rd
namespace Rd
open PySem PySem.Spec PyProof.Rows L2
/-- an exception class over ValueError, as OexC wants it -/
def oexB (K : PySem.W.Frag) (x : Str) : Bool := (match K.lookup (He.ga K x) with
  | some ⟨.type c, _, .cls cd, sl⟩ => decide (c = "type") && (match cd.mro, sl.toList with
    | .ref C' :: bm, [_, _, _, _, some (.builtin n), _] => decide (C' = He.ga K x) && (decide (n = "ValueError.__new__") && (!cd.hasDel && (cd.hasDict && PySem.HandSPX.refsVE bm)))
    | _, _ => false)
  | _ => false) && (He.eqO (PySem.W.findIn K (.ref (He.ga K x)) "__setattr__") (some (some (.builtin "object.__setattr__"))) && (decide (PySem.W.subIn K (.ref (He.ga K x)) (.type "BaseException") = some true) && (decide (PySem.W.typeIn K (.ref (He.ga K x)) = some (.type "type")) && PySem.W.keepIn K (.ref (He.ga K x)))))
theorem oexB_ok {K : PySem.W.Frag} {x : Str} (h : oexB K x = true) : OexC K (He.ga K x) := by
  obtain ⟨h1, h⟩ := He.ba h
  obtain ⟨h2, h⟩ := He.ba h
  obtain ⟨h3, h⟩ := He.ba h
  obtain ⟨h4, h5⟩ := He.ba h
  refine ⟨?_, He.eqO_ok h2, of_decide_eq_true h3, of_decide_eq_true h4, h5⟩
  cases e : K.lookup (He.ga K x) with
  | none => rw [e] at h1; cases h1
  | some o =>
    rw [e] at h1
    obtain ⟨oc, od, dt, sl⟩ := o
    cases oc with
    | type c =>
      cases dt with
      | cls cd =>
        obtain ⟨h6, h7⟩ := He.ba (show (decide (c = "type") && (match cd.mro, sl.toList with
          | .ref C' :: bm, [_, _, _, _, some (.builtin n), _] => decide (C' = He.ga K x) && (decide (n = "ValueError.__new__") && (!cd.hasDel && (cd.hasDict && PySem.HandSPX.refsVE bm)))
          | _, _ => false)) = true from h1)
        have ec : c = "type" := of_decide_eq_true h6
        subst ec
        obtain ⟨nm, bs, mro, ns, qn, hd, sn, sb, ab, col, del⟩ := cd
        obtain ⟨sl⟩ := sl
        simp only at h7
        split at h7
        · obtain ⟨h8, h9⟩ := He.ba h7
          obtain ⟨h10, h11⟩ := He.ba h9
          obtain ⟨h12, h13⟩ := He.ba h11
          obtain ⟨h14, h15⟩ := He.ba h13
          rename_i C' bm k0 k1 k2 k3 n k5
          have e1 : C' = He.ga K x := of_decide_eq_true h8
          have e2 : n = "ValueError.__new__" := of_decide_eq_true h10
          have e3 : del = false := by simpa using h12
          subst e2 e3
          have e4 : hd = true := h14
          subst e4
          rw [e1]
          exact ⟨_, _, _, _, bm, _, _, _, _, _, _, _, _, _, _, rfl, h15⟩
        · cases h7
      | _ => cases h1
    | _ => cases dt <;> cases h1
end Rd
namespace Rd
open PySem L2
/-- [f(c) for c in text], f pure -/
theorem lcs {x : Str} {te : TE} {i : Nat} {σ : St} {H1 : Hp} {D : Addr} {Qd : Hp → Prop} (f : Nat → V) (hx : x.length ≤ sizeLine)
    (hte : ∀ c (H : Hp) (Q : VK), c ∈ x.cps.toList → Q (f c) H → te ((wipe σ [i]).set i (some (.str ⟨#[c]⟩))) H Q) (hq : Qd (upd H1 D (.lst (x.cps.toList.map f)))) :
    ∃ W : Nat → Nat → Hp → Prop, (∃ m, W 0 m (upd H1 D (.lst []))) ∧ ∀ j m H, W j m H →
      ((Its x).stop j H ∧ Qd H) ∨ ((Its x).go j H ∧ ∃ Nx : Hp → Prop, (∀ H', Nx H' → ∃ m', m' < m ∧ W (j + 1) m' H') ∧ ∀ v H', (Its x).yld j H v H' → gName i v (wipe σ [i]) H' fun σ2 H2 => wipe σ2 [i] = wipe σ [i] ∧ tYes σ2 H2 fun b H3 =>
        if b = true then te σ2 H3 fun y H4 => ∃ acc, H4 D = some (.lst acc) ∧ acc.length < sizeLine ∧ Nx (upd H4 D (.lst (acc ++ [y]))) else Nx H3) := by
  have hs : x.cps.toList.length = x.cps.size := by simp
  refine ⟨fun j m H => m = x.cps.size - j ∧ j ≤ x.cps.size ∧ H = upd H1 D (.lst ((x.cps.toList.take j).map f)), ⟨_, rfl, Nat.zero_le _, rfl⟩, ?_⟩
  rintro j m H ⟨rfl, hj, rfl⟩
  by_cases hlt : j < x.cps.size
  · refine .inr ⟨hlt, fun H' => H' = upd H1 D (.lst ((x.cps.toList.take (j + 1)).map f)), fun H' e => ⟨x.cps.size - (j + 1), by omega, rfl, hlt, e⟩, ?_⟩
    rintro v H' ⟨rfl, c, hc, rfl⟩
    have hc2 : x.cps.toList[j]? = some c := by simpa using hc
    refine ⟨by simp [wipe], hte c _ _ (List.mem_of_getElem? hc2) ⟨_, upd_same, ?_, ?_⟩⟩
    · rw [List.length_map, List.length_take, hs]
      have : x.cps.size ≤ sizeLine := hx
      omega
    · show upd (upd H1 D _) D _ = _
      rw [upd_upd, List.take_succ, hc2]
      simp
  · have e : j = x.cps.size := by omega
    subst e
    refine .inl ⟨Nat.le_refl _, ?_⟩
    rw [← hs, List.take_length]
    exact hq
theorem Same.upd {H : Hp} {p : Addr} {o : HO} (h : H p = none) : Same H (L2.upd H p o) := fun a u e => by rw [upd_ne (ne_of_none e h)]; exact e
theorem Same.upd' {H H1 : Hp} {p : Addr} {o : HO} (x : Same H H1) (h : H1 p = none) : Same H (L2.upd H1 p o) := x.trans (Rd.Same.upd h)
end Rd
namespace Rd
open PySem L2
theorem seqAsg {te : TE} {g : TG} {u : TS} {D : Ends} {σ : St} {H : Hp} (h : te σ H fun x H1 => g x σ H1 (u D)) : tSeq (tAsg te g) u D σ H := h
theorem gName_k {i : Nat} {v : V} {σ : St} {H : Hp} {R : St → Hp → Prop} (h : R (σ.set i (some v)) H) : gName i v σ H R := h
end Rd
namespace Rd
open PySem L2
/-- a test that answers b, the heap may grow -/
def TB (t : TT) (σ : St) (H : Hp) (b : Bool) : Prop := ∀ Q : Bool → Hp → Prop, (∀ H', Same H H' → Q b H') → t σ H Q
theorem tb_and {t u : TT} {σ : St} {H : Hp} {b c : Bool} (h1 : TB t σ H b) (h2 : ∀ H', Same H H' → b = true → TB u σ H' c) : TB (tAnd t u) σ H (b && c) := fun Q k => h1 _ fun H' s => by
  cases b with
  | true => exact h2 H' s rfl Q fun H2 s2 => k H2 (s.trans s2)
  | false => exact k H' s
theorem tb_or {t u : TT} {σ : St} {H : Hp} {b c : Bool} (h1 : TB t σ H b) (h2 : ∀ H', Same H H' → b = false → TB u σ H' c) : TB (tOr t u) σ H (b || c) := fun Q k => h1 _ fun H' s => by
  cases b with
  | true => exact k H' s
  | false => exact h2 H' s rfl Q fun H2 s2 => k H2 (s.trans s2)
theorem seqIf {c : TT} {t u v : TS} {D : Ends} {σ : St} {H : Hp} {b : Bool} (hc : TB c σ H b) (k : ∀ H', Same H H' → if b = true then t { D with nx := v D } σ H' else u { D with nx := v D } σ H') : tSeq (tIfS c t u) v D σ H := hc _ k
theorem oneIf {c : TT} {t u : TS} {D : Ends} {σ : St} {H : Hp} {b : Bool} (hc : TB c σ H b) (k : ∀ H', Same H H' → if b = true then t D σ H' else u D σ H') : tIfS c t u D σ H := hc _ k
end Rd
namespace Rd
open PySem L2
theorem nxt {D : Ends} {σ : St} {H : Hp} (h : D.nx σ H) : tNext D σ H := h
end Rd
namespace Rd
open PySem L2
/-- C0.__init__ read off the class C0 -/
structure REx (K : PySem.W.Frag) (C0 : Addr) : Prop where
  sga : PySem.W.specialIn K (.ref C0) "__getattribute__" = some (some (.builtin "type.__getattribute__"))
  ty : PySem.W.typeIn K (.ref C0) = some (.type "type")
  rd : PySem.W.readsIn K C0 (.type "type") = true
  fc : PySem.W.findCls K (.ref C0) (.type "type") "__init__" = some (.val (.builtin "ValueError.__init__"))
def rexB (K : PySem.W.Frag) (x : Str) : Bool := He.eqO (PySem.W.specialIn K (.ref (He.ga K x)) "__getattribute__") (some (some (.builtin "type.__getattribute__"))) && (decide (PySem.W.typeIn K (.ref (He.ga K x)) = some (.type "type")) && (PySem.W.readsIn K (He.ga K x) (.type "type") &&
  (match PySem.W.findCls K (.ref (He.ga K x)) (.type "type") "__init__" with
    | some (.val (.builtin n)) => decide (n = "ValueError.__init__")
    | _ => false)))
theorem rexB_ok {K : PySem.W.Frag} {x : Str} (h : rexB K x = true) : REx K (He.ga K x) := by
  obtain ⟨h1, h⟩ := He.ba h
  obtain ⟨h2, h⟩ := He.ba h
  obtain ⟨h3, h4⟩ := He.ba h
  refine ⟨He.eqO_ok h1, of_decide_eq_true h2, h3, ?_⟩
  split at h4
  · rename_i n e
    rw [e, of_decide_eq_true h4]
  · cases h4
section
variable {X : Cx} {e : Expr} {es : List Expr} {ta : TA} {p1 p2 pos : Pos}
theorem pe_reinit {pl : Sem Bool} {x : Str} {C0 : Addr} (hg : Gl X x) (hm : X.mg x = some (.ref C0)) (R0 : REx X.K C0) (ha : PA X (e :: es) ta) (hd : (x == ("__debug__" : Str)) = false := by decide)
    (hc : eval (.Call (.Attribute (.Name x p1) "__init__" p2) (e :: es) [] pos) X.env = (do
      let ov ← eval (.Name x p1) X.env
      standAt p2.atName
      let (f, first) ← holding [ov] (getMethod ov "__init__" pl)
      callWith pos f first (backTo pos (starEach (e :: es) X.env)) (backToKw pos (keywordEach [] X.env))) := by rfl)
    (he : starEach (e :: es) X.env = (false, eval e X.env) :: starEach es X.env := by rfl) (hpl : (backTo pos (starEach es X.env)).any (·.1) = false := by rfl) :
    PE X (.Call (.Attribute (.Name x p1) "__init__" p2) (e :: es) [] pos) (tVeI X.K ta) := by
  refine ⟨fun pins s σ H Q I h => ?_⟩
  refine PySem.W.methodCall_KW (ld_glob I hg hm ?_ hd) hc
  obtain ⟨m, fr⟩ := I.fr
  refine PySem.W.method_of_cls fr I.ok.mod.kin R0.sga (PySem.W.cls_val fr I.ok.mod.kin R0.ty R0.rd R0.fc (by decide +kernel) ?_)
  show wpAny _ _ (callWith pos (Value.builtin "ValueError.__init__") [] (backTo pos (starEach (e :: es) X.env)) []) _ _ _
  refine PyProof.Rows.callWith_method1 (thn (ha.run pos pins _ σ H _ (I.tok _) h) fun us s1 ⟨vs, H1, I1, r1, a, C, ws, ev, hl, T, ea, q⟩ => ?_) he hpl
  subst ev
  cases r1 with
  | @cons _ u0 _ ur ra rw' =>
    obtain rfl : u0 = Value.ref a := ra
    have hlen : ur.length ≤ sizeLine := by
      rw [← Paired.length rw', sizeLine_eq]
      omega
    exact oinit_ok T I1 ea hlen fun s' J => ⟨.non, H1, J, rfl, q⟩
end
/-- the __init__ of an exception with one field -/
def spX1 (K : PySem.W.Frag) (f : Str) : Sp := fun vs H Q _ => ∃ (a C : Addr) (v : V), vs = [.ref a, v] ∧ OexC K C ∧ PySem.W.findIn K (.ref C) f = some none ∧ H a = some (exo a C none) ∧
  ∀ dx, H dx = none → dx ≠ a → Q .non (upd (upd H dx (exd dx [(f, v)])) a (exo a C (some dx)))
/-- reading a raise of such an exception, behind its argument -/
theorem rd_raise1 {K : PySem.W.Frag} {C : Addr} {f : Str} {v : V} {H1 : Hp} {R : XK} (T : OexC K C) (no : PySem.W.findIn K (.ref C) f = some none)
    (k : ∀ d H', Same H1 H' → H1 d = none → H' d = some (.xd [(f, v)]) → R (.ref C) (some d) H') :
    ([v] : List V).length ≤ 1000 ∧ ∀ a, H1 a = none → spX1 K f (.ref a :: ([v] ++ [])) (upd H1 a (exo a C none)) (fun v' H2 => v' = .non ∧ ∃ (d : Addr) (fs : List (Str × V)), H2 a = some (exo a C (some d)) ∧ H2 d = some (exd d fs) ∧ H1 d = none ∧ R (.ref C) (some d) (upd (del H2 a) d (.xd fs))) (fun _ _ _ => False) := by
  refine ⟨by show 1 ≤ 1000; decide, fun a ha => ⟨a, C, v, rfl, T, no, upd_same, fun dx hdx ne => ⟨rfl, dx, [(f, v)], upd_same, ?_, ?_, ?_⟩⟩⟩
  · rw [upd_ne ne, upd_same]
  · rw [upd_ne ne] at hdx
    exact hdx
  · rw [upd_ne ne] at hdx
    refine k dx _ (fun b o e => ?_) hdx upd_same
    rw [upd_ne (ne_of_none e hdx), del_ne (ne_of_none e ha), upd_ne (ne_of_none e ha), upd_ne (ne_of_none e hdx), upd_ne (ne_of_none e ha)]
    exact e
structure Mh (K : PySem.W.Frag) (c m q : Str) (st : Stmt) : Prop where
  ex : ∃ fd, FunD K m q (defArgs st) (defBody st) (defScope st) [] [] (He.ma K (He.ga K c) m) fd
  me : Meth K (He.ga K c) m (He.ma K (He.ga K c) m)
structure Fm (P : Program) (w : World) (K : PySem.W.Frag) (mg : Str → Option Value) (base : Heap) (CX : CXT) (k : Nat) (c m : Str) (ps : List Str) (sp : Sp) : Prop where
  ex : ∃ fd, FnOk P w K mg base CX k (He.ma K (He.ga K c) m) fd ps sp ∧ Binds K fd ps []
  me : Meth K (He.ga K c) m (He.ma K (He.ga K c) m)
section
variable {P : Program} {w : World} {K : PySem.W.Frag} {mg : Str → Option Value} {base : Heap} {CX : CXT} {k : Nat} {c m q : Str} {ps N : List Str} {sp : Sp} {st : Stmt}
theorem Mh.ok (F : Mh K c m q st) (S : FnScope N ps (defScope st))
    (hb : ∀ (kV doc pm : Value) (an : Option Addr) (cdv ct : Value) (us : List Value), us.length = ps.length → bindArgs (PySem.W.fnOf m q (defArgs st) (defBody st) (defScope st) .none kV doc pm an cdv ct) ⟨us, []⟩ = pure (ps.zip us))
    (len : ∀ vs H Q E, sp vs H Q E → vs.length = ps.length)
    (hbody : ∀ (cdv : Value) (A : Around) (outer : List Env) (s : Shared) (H : Hp) (vs : List V) (Q : VK) (E : XK), Room k (A.deeper (PyProof.Rows.envOfC q (defScope st) s.heap.objs.size (He.ma K (He.ga K c) m) cdv)) → sp vs H Q E →
      ∃ t, PSs (cxOf CX P w K mg base N q (defScope st) (He.ma K (He.ga K c) m) cdv A outer s H E) (defBody st) t ∧ t { nx := fun _ H' => Q .non H', rt := Q } (start N vs) H) : Fm P w K mg base CX (k + 1) c m ps sp := by
  obtain ⟨fd, F'⟩ := F.ex
  exact ⟨⟨fd, F'.ok S len hbody, F'.bindsN hb⟩, F.me⟩
theorem Mh.ok0 (F : Mh K c m q st) (S : FnScope N ps (defScope st))
    (hb : ∀ (kV doc pm : Value) (an : Option Addr) (cdv ct : Value) (us : List Value), us.length = ps.length → bindArgs (PySem.W.fnOf m q (defArgs st) (defBody st) (defScope st) .none kV doc pm an cdv ct) ⟨us, []⟩ = pure (ps.zip us))
    (len : ∀ vs H Q E, sp vs H Q E → vs.length = ps.length)
    (hbody : ∀ (cdv : Value) (A : Around) (outer : List Env) (s : Shared) (H : Hp) (vs : List V) (Q : VK) (E : XK), Room k (A.deeper (PyProof.Rows.envOfC q (defScope st) s.heap.objs.size (He.ma K (He.ga K c) m) cdv)) → sp vs H Q E →
      ∃ t, PSs (cxOf CX0 P w K mg base N q (defScope st) (He.ma K (He.ga K c) m) cdv A outer s H E).nox (defBody st) t ∧ t { nx := fun _ H' => Q .non H', rt := Q } (start N vs) H) : Fm P w K mg base CX0 (k + 1) c m ps sp :=
  F.ok S hb len fun cdv A outer s H vs Q E hr h => by
    obtain ⟨t, h1, h2⟩ := hbody cdv A outer s H vs Q E hr h
    exact ⟨t, h1.nox, h2⟩
end
section
variable {X : Cx} {CX : CXT} {k : Nat} {ps : List Str} {sp : Sp} {E : XK} {x c m : Str} {p pos apos : Pos} {e o : Expr} {es : List Expr} {t : TA} {ta : TE}
theorem pe_fm {pl : Sem Bool} (he : PE X o ta) (cl : Cls X.K (He.ga X.K c)) (F : Fm X.prog X.w X.K X.mg X.base CX k c m ps sp) (hr : Room k X.A) (hx : Passes CX X E) (ha : PA X (e :: es) t)
    (hst : starEach (e :: es) X.env = (false, eval e X.env) :: starEach es X.env := by rfl) (hpl : (backTo pos (starEach es X.env)).any (·.1) = false := by rfl)
    (ht : eval (.Call (.Attribute o m apos) (e :: es) [] pos) X.env = (do
      let ov ← eval o X.env
      standAt apos.atName
      let (f, first) ← holding [ov] (getMethod ov m pl)
      callWith pos f first (backTo pos (starEach (e :: es) X.env)) (backToKw pos (keywordEach [] X.env))) := by rfl) :
    PE X (.Call (.Attribute o m apos) (e :: es) [] pos) (tMeth (He.ga X.K c) m sp [] E ta t) := by
  obtain ⟨⟨fd, a, b⟩, me⟩ := F
  exact pe_meth he cl me a hr b .nil hx ha hst hpl ht
theorem pe_fm0 {pl : Sem Bool} (he : PE X o ta) (cl : Cls X.K (He.ga X.K c)) (F : Fm X.prog X.w X.K X.mg X.base CX k c m ps sp) (hr : Room k X.A) (hx : Passes CX X E)
    (ht : eval (.Call (.Attribute o m apos) [] [] pos) X.env = (do
      let ov ← eval o X.env
      standAt apos.atName
      let (f, first) ← holding [ov] (getMethod ov m pl)
      callWith pos f first (backTo pos (starEach [] X.env)) (backToKw pos (keywordEach [] X.env))) := by rfl) :
    PE X (.Call (.Attribute o m apos) [] [] pos) (tMeth (He.ga X.K c) m sp [] E ta tNil) := by
  obtain ⟨⟨fd, a, b⟩, me⟩ := F
  exact pe_meth0 he cl me a hr b .nil hx ht
end
structure Xh (K : PySem.W.Frag) (mg : Str → Option Value) (x f q : Str) (st : Stmt) : Prop where
  g : mg x = some (.ref (He.ga K x))
  oex : OexC K (He.ga K x)
  no : PySem.W.findIn K (.ref (He.ga K x)) f = some none
  init : Mh K x "__init__" q st
  xf : XfC K (He.ga K x)
  em : PySem.W.exmOne K (.ref (He.ga K x)) (.ref (He.ga K x)) = some true
structure Ih (K : PySem.W.Frag) (mg : Str → Option Value) (c q : Str) (st : Stmt) (dvs : List V) : Prop where
  ex : ∃ fd, FunD K "__init__" q (defArgs st) (defBody st) (defScope st) dvs [] (He.ma K (He.ga K c) "__init__") fd
  mkr : Mk K (He.ga K c) (He.ma K (He.ga K c) "__init__")
  g : mg c = some (.ref (He.ga K c))
  cl : Cls K (He.ga K c)
structure Fi (P : Program) (w : World) (K : PySem.W.Frag) (mg : Str → Option Value) (base : Heap) (CX : CXT) (k : Nat) (c : Str) (ps : List Str) (sp : Sp) (v : V) : Prop where
  ex : ∃ fd, FnOk P w K mg base CX k (He.ma K (He.ga K c) "__init__") fd ps sp ∧ Binds K fd ps [] ∧ ∃ ds, Vals [v] ds ∧ Binds K fd ps ds
  mkr : Mk K (He.ga K c) (He.ma K (He.ga K c) "__init__")
  g : mg c = some (.ref (He.ga K c))
section
variable {P : Program} {w : World} {K : PySem.W.Frag} {mg : Str → Option Value} {base : Heap} {CX : CXT} {k : Nat} {c q : Str} {ps N : List Str} {sp : Sp} {st : Stmt} {v : V}
theorem Ih.ok {n : Nat} (F : Ih K mg c q st [v]) (S : FnScope N ps (defScope st)) (hn : ps.length = n + 1)
    (hb1 : ∀ (T : Addr) (kV doc pm : Value) (an : Option Addr) (cdv ct : Value) (us its : List Value), us.length = n → its.length = 1 →
      ∃ k, bindArgs (PySem.W.fnOf "__init__" q (defArgs st) (defBody st) (defScope st) (.ref T) kV doc pm an cdv ct) ⟨us, []⟩ = seqItems? (.ref T) >>= k ∧ k (some its.toArray) = pure (ps.zip (us ++ its.drop 0)))
    (hb2 : ∀ (T : Addr) (kV doc pm : Value) (an : Option Addr) (cdv ct : Value) (us its : List Value), us.length = n + 1 → its.length = 1 →
      ∃ k, bindArgs (PySem.W.fnOf "__init__" q (defArgs st) (defBody st) (defScope st) (.ref T) kV doc pm an cdv ct) ⟨us, []⟩ = seqItems? (.ref T) >>= k ∧ k (some its.toArray) = pure (ps.zip (us ++ its.drop 1)))
    (len : ∀ vs H Q E, sp vs H Q E → vs.length = ps.length)
    (hbody : ∀ (cdv : Value) (A : Around) (outer : List Env) (s : Shared) (H : Hp) (vs : List V) (Q : VK) (E : XK), Room k (A.deeper (PyProof.Rows.envOfC q (defScope st) s.heap.objs.size (He.ma K (He.ga K c) "__init__") cdv)) → sp vs H Q E →
      ∃ t, PSs (cxOf CX P w K mg base N q (defScope st) (He.ma K (He.ga K c) "__init__") cdv A outer s H E) (defBody st) t ∧ t { nx := fun _ H' => Q .non H', rt := Q } (start N vs) H) : Fi P w K mg base CX (k + 1) c ps sp v := by
  obtain ⟨fd, F'⟩ := F.ex
  have b1 := F'.binds1 (ps := ps) n 0 (List.cons_ne_nil _ _) (by rw [hn]; rfl) hb1
  obtain ⟨ds, e, b2⟩ := F'.binds1 (ps := ps) (n + 1) 1 (List.cons_ne_nil _ _) (by rw [hn]; rfl) hb2
  cases e
  exact ⟨⟨fd, F'.ok S len hbody, b2, b1⟩, F.mkr, F.g⟩
end
section
variable {X : Cx} {CX : CXT} {k : Nat} {ps : List Str} {sp : Sp} {E : XK} {c : Str} {p pos : Pos} {e : Expr} {es : List Expr} {t : TA} {v : V}
/-- C(.., ..), every argument written -/
theorem pe_mk2 (F : Fi X.prog X.w X.K X.mg X.base CX k c ps sp v) (hr : Room (k + 1) X.A) (hg : Gl X c) (hx : Passes CX X E)
    (ha : PA X (e :: es) t) (hdb : (c == ("__debug__" : Str)) = false := by decide) (he : starEach (e :: es) X.env = (false, eval e X.env) :: starEach es X.env := by rfl) (hpl : (backTo pos (starEach es X.env)).any (·.1) = false := by rfl) :
    PE X (.Call (.Name c p) (e :: es) [] pos) (tMake (He.ga X.K c) sp [] E t) := by
  obtain ⟨⟨fd, a, b, _⟩, M, g⟩ := F
  exact pe_make M a hr hg g b .nil hx ha hdb he hpl
/-- .. the last by its default -/
theorem pe_mk1 (F : Fi X.prog X.w X.K X.mg X.base CX k c ps sp v) (hr : Room (k + 1) X.A) (hg : Gl X c) (hx : Passes CX X E)
    (ha : PA X (e :: es) t) (hdb : (c == ("__debug__" : Str)) = false := by decide) (he : starEach (e :: es) X.env = (false, eval e X.env) :: starEach es X.env := by rfl) (hpl : (backTo pos (starEach es X.env)).any (·.1) = false := by rfl) :
    PE X (.Call (.Name c p) (e :: es) [] pos) (tMake (He.ga X.K c) sp [v] E t) := by
  obtain ⟨⟨fd, a, _, ds, e1, b⟩, M, g⟩ := F
  exact pe_make M a hr hg g b e1 hx ha hdb he hpl
end
end Rd
namespace Rd
open PySem L2
/-- what is reached from the module in n steps, each address once (what was seen: the bits of a number) -/
def seenB (st : List Addr × Nat) (a : Addr) : List Addr × Nat := bif Nat.beq (Nat.mod (Nat.shiftRight st.2 a) 2) 1 then st else (a :: st.1, Nat.lor st.2 (Nat.shiftLeft 1 a))
def stepB (g : Addr → Option Obj) (fr : List Addr) (m : Nat) : List Addr × Nat := (fr.flatMap fun a => match g a with
  | some o => He.refsD o
  | none => []).foldl seenB ([], m)
def goB (g : Addr → Option Obj) : Nat → List Addr → List Addr → Nat → List Addr
  | 0, all, _, _ => all
  | n + 1, all, fr, m => match stepB g fr m with
    | (xs, m') => goB g n (all ++ xs) xs m'
abbrev AlY : Type := He.AlT × Bool
structure SaysY (fa : List He.Fa) (fn : List He.DefD) (ts : List He.Tab) (ex : PySem.W.Frag → Bool) (w : World) (K : PySem.W.Frag) : Prop where
  t : He.SaysT fa fn ts w K
  more : ex K = true
def valY (fn : List He.DefD) (ts : List He.Tab) (w : World) : AlY := (He.valT fn ts w, true)
end Rd
namespace Rd
open PySem L2
structure Kd (w : World) (K : PySem.W.Frag) (mg : Str → Option Value) (x : Str) (kvs : List (Str × Int)) : Prop where
  g : mg x = some (.ref (He.ga K x))
  kd : ∃ es n, KDict K w (He.ga K x) es n
  no : ∀ z, z ∉ kvs.map (·.1) → PySem.W.nsIn K (He.ga K x) z = some none
  ys : ∀ p ∈ kvs, ∃ t, PySem.W.nsIn K (He.ga K x) p.1 = some (some (.int p.2 t))
def kdB (K : PySem.W.Frag) (a : Addr) (kvs : List (Str × Int)) : Bool := (match K.lookup a with
  | some ⟨_, _, .dict es _, _⟩ => es.toList.all fun e => (match e.key with
    | .str x _ => (kvs.map (·.1)).contains x
    | _ => false)
  | _ => false) && kvs.all fun p => (match PySem.W.nsIn K a p.1 with
    | some (some (.int i _)) => decide (i = p.2)
    | _ => false)
theorem kd_ok {w : World} {K : PySem.W.Frag} {mg : Str → Option Value} {x : Str} {kvs : List (Str × Int)} (g : mg x = some (.ref (He.ga K x))) (kd : ∃ es n, KDict K w (He.ga K x) es n) (h : kdB K (He.ga K x) kvs = true) : Kd w K mg x kvs := by
  obtain ⟨h1, h2⟩ := He.ba h
  refine ⟨g, kd, fun z hz => ?_, fun p hp => ?_⟩
  · obtain ⟨es, n, D⟩ := kd
    rw [D.at_] at h1
    have h3 : es.toList.all (fun e => (match e.key with
      | .str x _ => (kvs.map (·.1)).contains x
      | _ => false)) = true := h1
    have h4 := List.all_eq_true.mp h3
    unfold PySem.W.nsIn
    rw [D.at_]
    have e1 : es.toList.find? (·.key.isStr z) = none := by
      rw [List.find?_eq_none]
      intro e he q
      have h5 := h4 e he
      cases ek : e.key with
      | str y t =>
        rw [ek] at h5 q
        have e2 : y = z := eq_of_beq q
        subst e2
        exact hz (List.contains_iff_mem.mp h5)
      | _ =>
        rw [ek] at h5
        cases h5
    have e2 : es.toList.any (·.refKey) = false := by
      rw [List.any_eq_false]
      intro e he q
      have h5 := h4 e he
      unfold DictEntry.refKey at q
      cases ek : e.key with
      | str y t =>
        rw [ek] at q
        cases q
      | _ =>
        rw [ek] at h5
        cases h5
    show (match es.toList.find? (·.key.isStr z) with
      | some e => some (some e.val)
      | none => if es.toList.any (·.refKey) then none else some none) = some none
    rw [e1, e2]
    rfl
  · have h3 := List.all_eq_true.mp h2 p hp
    split at h3
    · rename_i i t e
      rw [e]
      exact ⟨t, by rw [of_decide_eq_true h3]⟩
    · cases h3
section
variable {X : Cx} {x : Str} {kvs : List (Str × Int)} {pos : Pos}
theorem pe_kd (D : Kd X.w X.K X.mg x kvs) (hg : Gl X x := by rfl) (hd : (x == ("__debug__" : Str)) = false := by decide) : PE X (.Name x pos) (tC (.ref (He.ga X.K x))) := pe_glob hg D.g rfl hd
def rInK (K : PySem.W.Frag) (x : Str) (kvs : List (Str × Int)) : R2 := fun a b H Q => ∃ z, a = .str z ∧ b = .ref (He.ga K x) ∧ Q (.bl (decide (z ∈ kvs.map (·.1)))) H
theorem Kd.look {w : World} {K : PySem.W.Frag} {mg : Str → Option Value} (D : Kd w K mg x kvs) (z : Str) : ∃ r, PySem.W.nsIn K (He.ga K x) z = some r ∧ r.isSome = decide (z ∈ kvs.map (·.1)) := by
  by_cases h : z ∈ kvs.map (·.1)
  · obtain ⟨p, hp, rfl⟩ := List.mem_map.mp h
    obtain ⟨t, e⟩ := D.ys p hp
    exact ⟨_, e, by rw [decide_eq_true h]; rfl⟩
  · exact ⟨_, D.no z h, by rw [decide_eq_false h]; rfl⟩
theorem op_inK (D : Kd X.w X.K X.mg x kvs) : OpR X (compareOp .In) (rInK X.K x kvs) := by
  intro pins s σ H a b v u Q I ra rb h
  obtain ⟨z, rfl, rfl, q⟩ := h
  obtain ⟨es, n, kd⟩ := D.kd
  obtain ⟨r, e1, e2⟩ := D.look z
  exact op_in_kd kd pins s σ H _ _ v u Q I ra rb ⟨z, r, rfl, rfl, e1, by rw [e2]; exact q⟩
end
end Rd
namespace Rd
open PySem L2
theorem at0 {X : Cx} {σ : St} : PassesAt CX0 X σ E0 := fun _ _ _ _ _ _ h => h.elim
theorem back_of {X : Cx} {pins : List (Addr × Obj)} {σ : St} {Q : VK} {v : Value} {s : Shared} (h : EP X pins σ Q v s) : PySem.W.CmpBack (EP X pins σ Q) v s := by
  obtain ⟨x, H', I', r, q⟩ := id h
  cases v with
  | notImplemented =>
    cases x with
    | non => cases r
    | bl b => cases r
    | int i => obtain ⟨t, e⟩ := r; cases e
    | str z => obtain ⟨t, e⟩ := r; cases e
    | byt b => obtain ⟨t, e⟩ := r; cases e
    | flt b => obtain ⟨t, e⟩ := r; cases e
    | ref a => cases r
    | ty n => cases r
  | _ => exact h
def tBo (C : Addr) (sp : Sp) (E : St → XK) (ta tb : TE) : TE := fun σ H Q => ta σ H fun x H1 => tb σ H1 fun y H2 => ∃ a b dx dy fs gs, x = .ref a ∧ y = .ref b ∧ H2 a = some (.ins C dx fs) ∧ H2 b = some (.ins C dy gs) ∧ sp [.ref a, .ref b] H2 Q (E σ)
def tUo (C : Addr) (sp : Sp) (E : St → XK) (ta : TE) : TE := fun σ H Q => ta σ H fun x H1 => ∃ a dx fs, x = .ref a ∧ H1 a = some (.ins C dx fs) ∧ sp [.ref a] H1 Q (E σ)
section
variable {X : Cx} {CX : CXT} {k : Nat} {ps : List Str} {sp : Sp} {E : St → XK} {c m : Str} {pos : Pos} {a b : Expr} {ta tb : TE}
theorem pe_bo {op : Operator} (ha : PE X a ta) (hb : PE X b tb) (sf : PySem.W.selfFirst X.K (He.ga X.K c) = true) (F : Fm X.prog X.w X.K X.mg X.base CX k c m ps sp) (hr : Room k X.A) (hx : ∀ σ, PassesAt CX X σ (E σ)) (hm : PySem.dunder op.info.2 = m := by decide +kernel) :
    PE X (.BinOp a op b pos) (tBo (He.ga X.K c) sp E ta tb) := by
  obtain ⟨⟨fd, f1, b1⟩, me⟩ := F
  refine ⟨fun pins s σ H Q I h => ?_⟩
  refine wpAny_BinOp (binT ha hb I h fun v u s2 x y H2 I2 rx ry q => ?_)
  obtain ⟨p, r, dx, dy, fs, gs, rfl, rfl, hp, hr2, q⟩ := q
  cases rx
  cases ry
  obtain ⟨mA, J, _⟩ := ins_get I2.hok hp
  obtain ⟨mB, J', _⟩ := ins_get I2.hok hr2
  obtain ⟨od, J, _⟩ := J.look
  obtain ⟨od', J', _⟩ := J'.look
  obtain ⟨mm, hF⟩ := I2.fr
  refine PySem.W.binop_K hF I2.ok.mod.kin J J'.type sf (by rw [hm]; exact me.at_) me.fn (thn (run_fnS (vs := [.ref p, .ref r]) (E := E) f1 hr b1 (hx σ) I2 (.cons rfl (.cons rfl .nil)) q) fun v s' hq => back_of hq)
theorem pe_uo {op : UnaryOp} (ha : PE X a ta) (F : Fm X.prog X.w X.K X.mg X.base CX k c m ps sp) (hr : Room k X.A) (hx : ∀ σ, PassesAt CX X σ (E σ))
    (hm : (op = .Invert ∧ m = "__invert__") ∨ (op = .UAdd ∧ m = "__pos__") ∨ (op = .USub ∧ m = "__neg__")) : PE X (.UnaryOp op a pos) (tUo (He.ga X.K c) sp E ta) := by
  obtain ⟨⟨fd, f1, b1⟩, me⟩ := F
  refine ⟨fun pins s σ H Q I h => ?_⟩
  refine PyProof.Rows.UnaryOp_ (thn (ha.run pins s σ H _ I h) fun v s1 ⟨x, H1, I1, r1, q1⟩ => ?_)
  obtain ⟨p, dx, fs, rfl, hp, q⟩ := q1
  cases r1
  obtain ⟨mA, J, _⟩ := ins_get I1.hok hp
  obtain ⟨od, J, _⟩ := J.look
  have go : wpAny (model X.prog X.w) X.A (callSpecial? (.ref p) m) (fun r s' => ∃ v, r = some v ∧ EP X pins σ Q v s') X.xe s1 :=
    PySem.W.special_fn I1.kIn J me.at_ (beq_iff_eq.mp me.fn) (thn (run_fnS (vs := [.ref p]) (E := E) f1 hr b1 (hx σ) I1 (.cons rfl .nil) q) fun v s' hq => ⟨v, rfl, hq⟩)
  unfold unaryOp
  refine wpAny_holding ?_
  rcases hm with ⟨rfl, rfl⟩ | ⟨rfl, rfl⟩ | ⟨rfl, rfl⟩
  · refine wpAny_bind (thn go fun r s' ⟨v, e, hq⟩ => ?_)
    subst e
    exact wpAny_pure hq
  · refine wpAny_bind (thn go fun r s' ⟨v, e, hq⟩ => ?_)
    subst e
    exact wpAny_pure hq
  · refine wpAny_bind (thn go fun r s' ⟨v, e, hq⟩ => ?_)
    subst e
    exact wpAny_pure hq
end
end Rd
namespace Rd
open PySem L2
theorem in_strs (z : Str) : ∀ l : List Str, inV (.str z) (l.map V.str) = decide (z ∈ l)
  | [] => by simp [inV]
  | a :: r => by
    have ih := in_strs z r
    unfold inV at ih ⊢
    rw [List.map_cons, List.any_cons, ih]
    show ((a == z) || _) = _
    by_cases h : a = z
    · subst h
      simp
    · have e : (a == z) = false := by simpa using h
      rw [e, Bool.false_or]
      have h' : z ≠ a := fun q => h q.symm
      simp [h']
theorem flat_strs : ∀ l : List Str, (l.map V.str).all flatV = true
  | [] => rfl
  | a :: r => by rw [List.map_cons, List.all_cons, flat_strs r]; rfl
section
variable {X : Cx}
def rInT (K : PySem.W.Frag) : R2 := fun x y H Q => ∃ (z : Str) (p : Addr) (l : List Str), x = .str z ∧ y = .ref p ∧ SqT K H p (l.map V.str) ∧ Q (.bl (decide (z ∈ l))) H
def rNotInT (K : PySem.W.Frag) : R2 := fun x y H Q => ∃ (z : Str) (p : Addr) (l : List Str), x = .str z ∧ y = .ref p ∧ SqT K H p (l.map V.str) ∧ Q (.bl (!decide (z ∈ l))) H
theorem op_inT : OpR X (compareOp .In) (rInT X.K) := by
  intro pins s σ H x y v u Q I rx ry h
  obtain ⟨z, p, l, rfl, rfl, hs, q⟩ := h
  exact op_in_seq pins s σ H _ _ v u Q I rx ry ⟨p, _, rfl, .inr hs, rfl, flat_strs l, by show Q (.bl (inV _ _)) H; rw [in_strs]; exact q⟩
theorem op_notInT : OpR X (compareOp .NotIn) (rNotInT X.K) := by
  intro pins s σ H x y v u Q I rx ry h
  obtain ⟨z, p, l, rfl, rfl, hs, q⟩ := h
  exact op_notIn_seq pins s σ H _ _ v u Q I rx ry ⟨p, _, rfl, .inr hs, rfl, flat_strs l, by show Q (.bl (!inV _ _)) H; rw [in_strs]; exact q⟩
end
end Rd
namespace Rd
open PySem L2
theorem passN {X : Cx} : Passes (L2N.CX X.prog X.w) X E0 := fun _ _ _ _ _ _ _ h => by
  obtain ⟨_, _, _, _, _, _, _, _, _, _, _, _, z⟩ := h
  exact z.elim
theorem atN {X : Cx} {σ : St} : PassesAt (L2N.CX X.prog X.w) X σ E0 := fun _ _ _ _ _ I h => passN _ _ _ _ _ _ I h
section
variable {X : Cx} {k : Nat} {x f c m : Str} {p pos apos : Pos} {e o : Expr} {te : TE} {ta : TA} {ps : List Str} {sp : Sp} {CX : CXT} {to : TE}
theorem pmk_xN {es : List Expr} {q : Str} {st : Stmt} (T : Xh X.K X.mg x f q st) (Fq : Fm X.prog X.w X.K X.mg X.base CX0 k x "__init__" ps sp) (hr : Room (k + 1) X.A) (hg : Gl X x) (ha : PA X (e :: es) ta)
    (hdb : (x == ("__debug__" : Str)) = false := by decide) (he : starEach (e :: es) X.env = (false, eval e X.env) :: starEach es X.env := by rfl) (hpl : (backTo pos (starEach es X.env)).any (·.1) = false := by rfl) :
    L2N.PMk X (.Call (.Name x p) (e :: es) [] pos) (tMkO (He.ga X.K x) sp [] ta) := by
  obtain ⟨⟨fd, F1, hb⟩, me⟩ := Fq
  intro pins s σ H Q I h
  obtain ⟨nm, q', N, bs, bm, sn, sub, ab, col, dd, k0, k1, k2, k3, k5, hC, hbm⟩ := T.oex.cls
  refine wpAny_Call_Name_kw (ld_glob I hg T.g ?_ hdb)
  refine PySem.W.callWith_K (h₀ := X.base) I.ok.mod.kin T.oex.kC (thn (ha.run pos pins s σ H _ I h) fun us s1 ⟨vs, H1, I1, r1, hz, q1⟩ => ⟨I1.kIn, ?_⟩) he hpl
  show wpAny _ _ (call (.ref (He.ga X.K x)) us) _ _ _
  obtain ⟨hp, g, dr, tk, os⟩ := s1
  have hsz : hp.objs.size ≤ hp.objs.size + 1 := Nat.le_succ _
  have hn : H1 (hp.objs.size + 1) = none := I1.hok.fresh hsz
  have hq := q1 (hp.objs.size + 1) hn
  rw [List.append_nil] at hq
  have kk : ∀ b o, hp.get? b = some o → ((hp.push (PySem.W.kdv_tup us)).push (PySem.HandSPX.excO (He.ga X.K x) hp.objs.size)).get? b = some o := fun b o e => Heap.get?_push_of_some _ (Heap.get?_push_of_some _ e)
  have hget : ((hp.push (PySem.W.kdv_tup us)).push (PySem.HandSPX.excO (He.ga X.K x) hp.objs.size)).get? (hp.objs.size + 1) = some (PySem.HandSPX.excO (He.ga X.K x) hp.objs.size) := by heap_get
  have I2 : Inv X pins σ (upd H1 (hp.objs.size + 1) (exo (hp.objs.size + 1) (He.ga X.K x) none)) ⟨(hp.push (PySem.W.kdv_tup us)).push (PySem.HandSPX.excO (He.ga X.K x) hp.objs.size), g, dr, tk, os⟩ :=
    I1.laid (t' := tk) (a := hp.objs.size + 1) (o := exo (hp.objs.size + 1) (He.ga X.K x) none) (h' := (hp.push (PySem.W.kdv_tup us)).push (PySem.HandSPX.excO (He.ga X.K x) hp.objs.size)) kk hsz (exo_ok hget)
  have r2 : Vals (V.ref (hp.objs.size + 1) :: vs) (Value.ref (hp.objs.size + 1) :: us) := .cons rfl r1
  have hl : (Value.ref (hp.objs.size + 1) :: us).length = ps.length := by
    have e := r2.length
    rw [F1.len _ _ _ _ hq] at e
    exact e.symm
  have hus : us.length ≤ sizeLine := by
    rw [← Paired.length r1, sizeLine_eq]
    omega
  have hbt := hb ⟨(hp.push (PySem.W.kdv_tup us)).push (PySem.HandSPX.excO (He.ga X.K x) hp.objs.size), g, dr, tk, os⟩ (Value.ref (hp.objs.size + 1) :: us) I2.kIn (by rw [List.append_nil]; exact hl)
  rw [List.append_nil] at hbt
  refine wpAny_call (PySem.HandSPX.call_own PySem.F.excBase_ValueError (fun Y => PySem.HandSPX.refsVE_contains Y bm hbm) (I1.kIn _ _ hC) (PySem.W.looks_findIn I1.kIn me.at_) (fun self => PySem.W.bind_fn I1.kIn self (beq_iff_eq.mp me.fn)) hus
    (codeAny_mono (F1.run _ X.stack _ _ ⟨Value.ref (hp.objs.size + 1) :: us, []⟩ (Value.ref (hp.objs.size + 1) :: us) _ _ (fun _ _ _ => False) (hr.make (He.ga X.K x) us []) (I2.env0.make (He.ga X.K x) us []) hbt r2 hq) fun r s' hq' => ?_))
  cases r with
  | error er => exact hq'.elim
  | ok fl =>
    cases fl with
    | ret u =>
      obtain ⟨v, H2, os2, bare2, un2, hok2, rv, ev, d, fs, ea, ed, hd1, q2⟩ := hq'
      subst ev
      obtain ⟨h2, g2, d2, t2, os'⟩ := s'
      obtain ⟨t0, G, J, kG, ge, hoe, na⟩ := mk_end0 (d2 := d2) (t2 := t2) I1 hsz kk un2 hok2 os2 bare2 ea ed hd1
      exact ⟨rv, _, _, _, ⟨G, g2, d2, t2, os'⟩, _, .ref (He.ga X.K x), some d, rfl, J, kG, ge, hoe, ⟨rfl, rfl, fun vs e => by cases e; rfl⟩, rfl, rfl, na, rfl, bare2, raises_own T.oex.exC T.oex.tyC, q2⟩
    | next => exact False.elim hq'
    | brk => exact False.elim hq'
    | cont => exact False.elim hq'
end
end Rd
namespace Rd
open PySem L2
structure IsiC (K : PySem.W.Frag) (C : Addr) : Prop where
  ha : PySem.W.findIn K (.ref C) "__class__" = some (some (.builtin "object.__class__"))
  hn : PySem.W.specialIn K (.builtin "object.__class__") "__get__" = some (some (.builtin "getset_descriptor.__get__"))
  htk : PySem.W.takesIn K (.builtin "object.__class__") = some true
  hm : PySem.W.mroIn K C (.type "object") = some true
  ne : PySem.W.findIn K (.ref C) "__ne__" = some (some (.builtin "object.__ne__"))
def isiB (K : PySem.W.Frag) (C : Addr) : Bool := He.eqO (PySem.W.findIn K (.ref C) "__class__") (some (some (.builtin "object.__class__"))) && (He.eqO (PySem.W.specialIn K (.builtin "object.__class__") "__get__") (some (some (.builtin "getset_descriptor.__get__"))) &&
  (decide (PySem.W.takesIn K (.builtin "object.__class__") = some true) && (decide (PySem.W.mroIn K C (.type "object") = some true) && He.eqO (PySem.W.findIn K (.ref C) "__ne__") (some (some (.builtin "object.__ne__"))))))
theorem isiB_ok {K : PySem.W.Frag} {C : Addr} (h : isiB K C = true) : IsiC K C := by
  obtain ⟨h1, h⟩ := He.ba h
  obtain ⟨h2, h⟩ := He.ba h
  obtain ⟨h3, h⟩ := He.ba h
  obtain ⟨h4, h5⟩ := He.ba h
  exact ⟨He.eqO_ok h1, He.eqO_ok h2, of_decide_eq_true h3, of_decide_eq_true h4, He.eqO_ok h5⟩
theorem IsiC.ty {K : PySem.W.Frag} {C : Addr} (h : IsiC K C) (cl : Cls K C) {H : Hp} {a dx : Addr} {fs : List (Str × V)} (e : H a = some (.ins C dx fs)) : TyX K H (.ref a) (.ref C) := .base (.ins e cl h.ha h.hn h.htk h.hm)
theorem kit_self {K : PySem.W.Frag} {C : Addr} : PySem.W.kitOne K (.ref C) (.ref C) = some true := by
  unfold PySem.W.kitOne
  rw [if_pos (by simp)]
theorem pe_gcls {X : Cx} {x : Str} {pos : Pos} (hg : Gl X x) (hm : X.mg x = some (.ref (He.ga X.K x))) (hd : (x == ("__debug__" : Str)) = false := by decide) : PE X (.Name x pos) (tC (.ref (He.ga X.K x))) := pe_glob hg hm rfl hd
end Rd
namespace Rd
open PySem L2
def sfn (K : PySem.W.Frag) (c m : Str) : Addr := He5.wf K (He.ga K c) "staticmethod" m
structure Sh (K : PySem.W.Frag) (mg : Str → Option Value) (c m q : Str) (st : Stmt) : Prop where
  ex : ∃ fd, FunD K m q (defArgs st) (defBody st) (defScope st) [] [] (sfn K c m) fd
  g : mg c = some (.ref (He.ga K c))
  at_ : PySem.W.findCls K (.ref (He.ga K c)) (.type "type") m = some (.get (.builtin "staticmethod.__get__") (.ref (He.ma K (He.ga K c) m)) .none (.ref (He.ga K c)))
  rc : ∃ rest, PySem.W.recIn K (He.ma K (He.ga K c) m) "staticmethod" = some (.ref (sfn K c m) :: rest)
  sga : PySem.W.specialIn K (.ref (He.ga K c)) "__getattribute__" = some (some (.builtin "type.__getattribute__"))
  ty : PySem.W.typeIn K (.ref (He.ga K c)) = some (.type "type")
  rd : PySem.W.readsIn K (He.ga K c) (.type "type") = true
structure Fs (P : Program) (w : World) (K : PySem.W.Frag) (mg : Str → Option Value) (base : Heap) (CX : CXT) (k : Nat) (c m q : Str) (st : Stmt) (ps : List Str) (sp : Sp) : Prop where
  ex : ∃ fd, FnOk P w K mg base CX k (sfn K c m) fd ps sp ∧ Binds K fd ps [] ∧ PySem.W.keepIn K (.ref (sfn K c m)) = true
  sh : Sh K mg c m q st
section
variable {P : Program} {w : World} {K : PySem.W.Frag} {mg : Str → Option Value} {base : Heap} {CX : CXT} {k : Nat} {c m q : Str} {ps N : List Str} {sp : Sp} {st : Stmt}
theorem Sh.ok (F : Sh K mg c m q st) (S : FnScope N ps (defScope st))
    (hb : ∀ (kV doc pm : Value) (an : Option Addr) (cdv ct : Value) (us : List Value), us.length = ps.length → bindArgs (PySem.W.fnOf m q (defArgs st) (defBody st) (defScope st) .none kV doc pm an cdv ct) ⟨us, []⟩ = pure (ps.zip us))
    (len : ∀ vs H Q E, sp vs H Q E → vs.length = ps.length)
    (hbody : ∀ (cdv : Value) (A : Around) (outer : List Env) (s : Shared) (H : Hp) (vs : List V) (Q : VK) (E : XK), Room k (A.deeper (PyProof.Rows.envOfC q (defScope st) s.heap.objs.size (sfn K c m) cdv)) → sp vs H Q E →
      ∃ t, PSs (cxOf CX P w K mg base N q (defScope st) (sfn K c m) cdv A outer s H E) (defBody st) t ∧ t { nx := fun _ H' => Q .non H', rt := Q } (start N vs) H) : Fs P w K mg base CX (k + 1) c m q st ps sp := by
  obtain ⟨fd, F'⟩ := F.ex
  exact ⟨⟨fd, F'.ok S len hbody, F'.bindsN hb, F'.kp⟩, F⟩
end
abbrev AlZ : Type := AlY × He.AlD
structure SaysZ (fa : List He.Fa) (fn : List He.DefD) (ts : List He.Tab) (ex : PySem.W.Frag → Bool) (fs : List He5.DefA) (w : World) (K : PySem.W.Frag) : Prop where
  y : SaysY fa fn ts ex w K
  s : He5.SaysA [] fs K
def valZ (fn : List He.DefD) (ts : List He.Tab) (fs : List He5.DefA) (w : World) : AlZ := (valY fn ts w, He5.valA fs)
end Rd
namespace Rd
open PySem PySem.SeqAt
open PySem.AutoSeq1 (wpAny_loadPart')
open PySem.MeetsSeq PySem.MeetsSeq2 PySem.MeetsSeq3
open Ob (RcOp lexAt lexAt_succ lexAt_zero)
/-- the pairs ahead of j are equal -/
def Ahead (e : Nat → Bool) (j : Nat) : Prop := ∀ i, i < j → e i = true
theorem Ahead.more {e : Nat → Bool} {j : Nat} (h : Ahead e j) (q : e j = true) : Ahead e (j + 1) := fun i hi => by
  rcases Nat.lt_succ_iff_lt_or_eq.mp hi with z | z
  · exact h i z
  · rw [z]; exact q
theorem first_lt (l b : Addr) (xs ys : Array Value) (n m : Nat) (d1 d2 : Option Addr) (sl1 sl2 : Array (Option Value)) (e r : Nat → Bool) :
    Meets (Builtin.«tuple.__lt__» ⟨[.ref l, .ref b], []⟩)
      (fun A R s => s.heap.get? l = some { cls := .type "tuple", dict := d1, data := .seq xs n, slots := sl1 } ∧ s.heap.get? b = some { cls := .type "tuple", dict := d2, data := .seq ys m, slots := sl2 } ∧
        (∀ j (h1 : j < xs.size) (h2 : j < ys.size), EqAt A.in1 s xs[j] ys[j] (e j)) ∧
        (∀ j (h1 : j < xs.size) (h2 : j < ys.size), Ahead e j → e j = false → RcOp .Lt A.in1 s xs[j] ys[j] (r j)) ∧
        R (.ok (.ret (.bool (lexAt e r (decide (xs.size < ys.size)) 0 (min xs.size ys.size))))) s) :=
  .of_wp fun prog w A R s h => by
    obtain ⟨hp, g, dr, tk, os⟩ := s; obtain ⟨hl, hb, he, hr, h⟩ := h
    have sub := AutoSeq1.sub_tuple_tuple
    have len : (xs.toList.zip ys.toList).length = min xs.size ys.size := by simp
    wp_walk using wpAny_loadPart' hl, wpAny_loadPart' hb, wpAny_forIn_list _ (fun rest b s' => b.1 = none ∧ s' = ⟨hp, g, dr, tk, os⟩ ∧ ∃ i, Ahead e i ∧ rest = (xs.toList.zip ys.toList).drop i ∧
      R (.ok (.ret (.bool (lexAt e r (decide (xs.size < ys.size)) i (min xs.size ys.size - i))))) ⟨hp, g, dr, tk, os⟩) _
    case turn =>
      rintro ⟨y, x⟩ rest b s' ⟨hb', rfl, i, ah, hz, hR⟩
      have lt : i < (xs.toList.zip ys.toList).length := by
        rcases Nat.lt_or_ge i (xs.toList.zip ys.toList).length with q | q
        · exact q
        · rw [List.drop_of_length_le q] at hz; cases hz
      have hm : i < min xs.size ys.size := len ▸ lt
      have h1 : i < xs.size := by omega
      have h2 : i < ys.size := by omega
      rw [List.drop_eq_getElem_cons lt] at hz
      injection hz with hyx hrest
      have hy : y = xs[i] := by have := congrArg Prod.fst hyx; simpa using this
      have hx : x = ys[i] := by have := congrArg Prod.snd hyx; simpa using this
      subst hy hx
      rw [show min xs.size ys.size - i = (min xs.size ys.size - (i + 1)) + 1 by omega, lexAt_succ] at hR
      refine wpAny_bind (he i h1 h2 prog w _ _ ?_)
      cases hei : e i with
      | true =>
        rw [hei, if_pos rfl] at hR
        wp_walk
        exact ⟨rfl, rfl, i + 1, ah.more hei, hrest, hR⟩
      | false =>
        rw [hei, if_neg Bool.false_ne_true] at hR
        have hri := hr i h1 h2 ah hei prog w
        wp_walk using hri
        exact ⟨_, rfl, by simpa using hR⟩
    case fin =>
      rintro ⟨b1, b2⟩ s' ⟨hb', rfl, i, ah, hz, hR⟩
      simp only at hb'
      subst hb'
      have ge : min xs.size ys.size ≤ i := by
        rcases Nat.lt_or_ge i (xs.toList.zip ys.toList).length with q | q
        · rw [List.drop_eq_getElem_cons q] at hz; cases hz
        · exact len ▸ q
      rw [Nat.sub_eq_zero_of_le ge, lexAt_zero] at hR
      wp_walk
      exact ⟨_, rfl, by simpa [Builtin.Tuple.tupleCompareSizes] using hR⟩
    case h =>
      exact ⟨rfl, rfl, 0, (fun i hi => absurd hi (Nat.not_lt_zero _)), rfl, by simpa using h⟩
theorem tup_lt {A : Around} {s : Shared} {l b : Addr} {xs ys : Array Value} {e r : Nat → Bool} (hl : s.heap.IsTuple l xs) (hb : s.heap.IsTuple b ys) (hu : A.units < cLine)
    (he : ∀ j (h1 : j < xs.size) (h2 : j < ys.size), EqAt A.in1 s xs[j] ys[j] (e j))
    (hr : ∀ j (h1 : j < xs.size) (h2 : j < ys.size), Ahead e j → e j = false → RcOp .Lt A.in1 s xs[j] ys[j] (r j)) :
    RcOp .Lt A s (.ref l) (.ref b) (lexAt e r (decide (xs.size < ys.size)) 0 (min xs.size ys.size)) := fun prog w E Q h => by
  obtain ⟨⟨c1, d1, dt1, sl1⟩, ho, hc, n, hd⟩ := id hl
  obtain ⟨⟨c2, d2, dt2, sl2⟩, ho2, hc2, m, hd2⟩ := id hb
  simp only at hc hd hc2 hd2
  subst hc hd hc2 hd2
  exact richCompare_meets_room (op := .Lt) ⟨_, ho, rfl⟩ ⟨_, ho2, rfl⟩ F.slot_tuple_lt F.entry_tuple_lt (F.args_tuple_lt_2 _ _) (first_lt l b xs ys n m d1 d2 sl1 sl2 e r)
    ⟨ho, ho2, he, hr, ⟨(fun x => nomatch x), h⟩⟩ hu
end Rd
namespace Rd
open PySem PySem.Spec PyProof.Rows L2
def kt (e : Int × Value) : Str := match e.2 with | .str x _ => x | _ => Str.empty
/-- a row of such a set -/
def GT (w : World) (e : Int × Value) : Prop := ∃ x t, e.2 = Value.str x t ∧ e.1 = hashStr w x
def addS (l : List Str) (x : Str) : List Str := if x ∈ l then l else x :: l
/-- what a table must be so that it can be walked -/
structure Tb (w : World) (n : Nat) (t : SetTable) : Prop where
  sm : n < scanBound
  ft : t.fits n = true
  ri : Ris t.place.toList
  ld : w.params.followText "set-order" = true ∨ t.led = true
/-- a set of the texts l (in any order) at a -/
structure SetS (w : World) (h : Heap) (a : Addr) (l : List Str) : Prop where
  nd : l.Nodup
  ex : ∃ o es ep t, h.get? a = some o ∧ o.ExactSet ∧ o.data = .set es ep t ∧ (∀ e ∈ es.toList, GT w e) ∧ (es.toList.map kt).Perm l ∧ Tb w es.size t
theorem SetS.at {w : World} {h h' : Heap} {a : Addr} {l : List Str} (R : SetS w h a l) (k : ∀ o, h.get? a = some o → h'.get? a = some o) : SetS w h' a l := by
  obtain ⟨nd, o, es, ep, t, ho, r⟩ := R
  exact ⟨nd, o, es, ep, t, k o ho, r⟩
section
variable {P : Program} {w : World}
theorem gt_is {e : Int × Value} (g : GT w e) (x : Str) : (PySem.strKind P w).is x e.2 = true ↔ kt e = x := by
  obtain ⟨y, t, h1, _⟩ := g
  unfold kt
  rw [h1]
  show ((y == x) = true) ↔ y = x
  exact beq_iff_eq
theorem gt_elems {l : List (Int × Value)} (g : ∀ e ∈ l, GT w e) : ElemsOf (PySem.strKind P w) l := fun e he => by
  obtain ⟨x, t, h1, h2⟩ := g e he
  exact ⟨⟨x, by rw [h1]; exact strKind_is P w x t, h2⟩, by rw [h1] <;> rfl⟩
theorem gt_mem {l : List (Int × Value)} (g : ∀ e ∈ l, GT w e) (x : Str) : x ∈ l.map kt ↔ ∃ e ∈ l, (PySem.strKind P w).is x e.2 = true := by
  constructor
  · intro h
    obtain ⟨e, he, q⟩ := List.mem_map.mp h
    exact ⟨e, he, (gt_is (g e he) x).2 q⟩
  · rintro ⟨e, he, q⟩
    exact List.mem_map.mpr ⟨e, he, (gt_is (g e he) x).1 q⟩
theorem SetS.setOf {h : Heap} {a : Addr} {l : List Str} (R : SetS w h a l) : h.SetOf (PySem.strKind P w) a (fun x => decide (x ∈ l)) l.length := by
  obtain ⟨nd, o, es, ep, t, ho, hx, hd, g, pm, T⟩ := R
  refine ⟨o, es, ep, t, ho, hx, hd, gt_elems g, fun x => ?_, T.sm, T.ft, ?_⟩
  · rw [decide_eq_true_eq, ← pm.mem_iff]
    exact gt_mem g x
  · rw [← pm.length_eq, List.length_map, Array.length_toList]
theorem setS_fresh {h : Heap} {a : Addr} (ho : h.get? a = some { cls := .type "set", dict := none, data := .set #[] 0 (.fresh 0 0 (!w.params.followText "set-order")) }) : SetS w h a [] := by
  refine ⟨List.nodup_nil, _, #[], 0, _, ho, ⟨rfl, rfl, rfl⟩, rfl, (fun e he => by simp at he), List.Perm.refl _, (by decide), (by rfl), List.Pairwise.nil, ?_⟩
  show _ ∨ (!w.params.followText "set-order") = true
  cases w.params.followText "set-order" with
  | false => exact .inr rfl
  | true => exact .inl rfl
end
section
variable {P : Program} {w : World} {A : Around} {E : Value → Shared → Prop} {s : Shared} {a : Addr} {l : List Str}
theorem setS_tail {g : Bool → Sem Unit} (hg : ∀ (b : Bool) (s₁ : Shared) (Q' : Unit → Shared → Prop), Q' () s₁ → wpAny (model P w) A (g b) Q' E s₁)
    {o : Obj} {es e1 : Array (Int × Value)} {ep : Nat} {t t2 : SetTable} {m : List Str} (ho : s.heap.get? a = some o) (hx : o.ExactSet) (hd : o.data = .set es ep t)
    (g1 : ∀ e ∈ e1.toList, GT w e) (p1 : (e1.toList.map kt).Perm m) (nm : m.Nodup) (T : Tb w e1.size t2) {old : Bool} {R : Option Bool → Shared → Prop} (hR : ∀ h', Heap.SameBut a s.heap h' → SetS w h' a m → R (some true) { s with heap := h' }) :
    wpAny (model P w) A (do
        storeSet a e1 t2
        if (!old && t2.tooFull) = true then do
            g (relayAll t2 e1 (SetTable.grown e1.size)).2.2
            storeSet a (relayAll t2 e1 (SetTable.grown e1.size)).1 (relayAll t2 e1 (SetTable.grown e1.size)).2.1
            pure (some true)
          else pure (some true)) R E s := by
  refine wpAny_bind (wpAny_storeSet_of ho hd ?_ (fits_of_scanBound T.sm))
  have o1 := store_at (es' := e1) (t' := t2) ho hd
  have b1 := Heap.SameBut.update s.heap a (Obj.putSet e1 t2)
  split
  · have pm := relayAll_perm t2 e1 (SetTable.grown e1.size)
    have f3 := relayAll_fits t2 e1 (SetTable.grown e1.size)
    have r3 := relayAll_ris t2 e1 (SetTable.grown e1.size)
    have l3 := relayAll_led t2 e1 (SetTable.grown e1.size)
    generalize relayAll t2 e1 (SetTable.grown e1.size) = Z at pm f3 r3 l3 ⊢
    obtain ⟨e2, t3, gave⟩ := Z
    dsimp only at pm f3 r3 l3 ⊢
    have z2 : e2.size = e1.size := by rw [← Array.length_toList, pm.length_eq, Array.length_toList]
    have T3 : Tb w e2.size t3 := ⟨by rw [z2]; exact T.sm, f3, r3, T.ld.imp id fun z => by rw [l3]; exact z⟩
    refine wpAny_bind (hg _ _ _ ?_)
    refine wpAny_bind (wpAny_storeSet_of o1 rfl ?_ (fits_of_scanBound T3.sm))
    exact wpAny_pure (hR _ (b1.trans (Heap.SameBut.update _ a _)) ⟨nm, _, e2, _, t3, store_at (es' := e2) (t' := t3) o1 rfl, hx, rfl, fun e he => g1 e (pm.mem_iff.mp he), (pm.map kt).trans p1, T3⟩)
  · exact wpAny_pure (hR _ b1 ⟨nm, _, e1, _, t2, o1, hx, rfl, g1, p1, T⟩)
theorem setS_addH {x : Str} {tk : Tok} {Q : Bool → Shared → Prop} (R : SetS w s.heap a l) (room : l.length + 1 < scanBound)
    (hQ : ∀ b h', Heap.SameBut a s.heap h' → SetS w h' a (addS l x) → Q b { s with heap := h' }) : wpAny (model P w) A (setAddHashed a (.str x tk) ((PySem.strKind P w).hash x)) Q E s := by
  obtain ⟨nd, o, es, ep, t, ho, hx, hd, g, pm, T⟩ := R
  have sc : (Value.str x tk).scannable = true := rfl
  have el : ElemsOf (PySem.strKind P w) es.toList := gt_elems g
  have zl : es.size = l.length := by rw [← pm.length_eq, List.length_map, Array.length_toList]
  unfold setAddHashed setAddHashedIn
  refine wpAny_holding (wpAny_bind (wpAny_setState_of ho hd T.ft ?_))
  dsimp only
  rw [byScan_of sc T.sm el]
  simp only [↓reduceIte]
  unfold setAddByScan
  refine wpAny_bind ?_
  refine wpAny_bind (wpAny_rule ?_)
  refine wpAny_bind (wpAny_setScan_of (strKind_is P w x tk) ho hd T.ft el ?_)
  cases fi : List.findIdx? (fun e => (PySem.strKind P w).is x e.2) es.toList with
  | some j =>
    dsimp only
    obtain ⟨hj, pj, _⟩ := List.findIdx?_eq_some_iff_getElem.mp fi
    have inl : x ∈ l := pm.mem_iff.mp ((gt_mem (P := P) g x).2 ⟨es.toList[j], List.getElem_mem hj, pj⟩)
    have e : addS l x = l := if_pos inl
    exact wpAny_pure (wpAny_pure (hQ _ s.heap (Heap.SameBut.refl a s.heap) (by rw [e]; exact ⟨nd, o, es, ep, t, ho, hx, hd, g, pm, T⟩)))
  | none =>
    dsimp only
    have nin : x ∉ l := fun z => by
      obtain ⟨e, he, q⟩ := (gt_mem (P := P) g x).1 (pm.mem_iff.mpr z)
      have c := List.findIdx?_eq_none_iff.mp fi e he
      rw [q] at c
      cases c
    have ea : addS l x = x :: l := if_neg nin
    rw [ea] at hQ
    have nm : (x :: l).Nodup := List.nodup_cons.mpr ⟨nin, nd⟩
    have gw : ∀ (b : Bool) {s₁ : Shared} {Q' : Unit → Shared → Prop}, Q' () s₁ → wpAny (model P w) A (match b with | true => rule "set.scan.the-table-gave-way" | false => pure ()) Q' E s₁ :=
      fun b s₁ Q' q => by cases b <;> first | exact wpAny_pure q | exact wpAny_rule q
    have pq := layNew_perm t es ((PySem.strKind P w).hash x) (.str x tk)
    have f1 := layNew_fits t es ((PySem.strKind P w).hash x) (.str x tk)
    have r1 := layNew_ris t es ((PySem.strKind P w).hash x) (.str x tk) T.ri
    have l1 := layNew_led t es ((PySem.strKind P w).hash x) (.str x tk)
    generalize layNew t es ((PySem.strKind P w).hash x) (.str x tk) = Z at pq f1 r1 l1 ⊢
    obtain ⟨e1, t1, old, gave⟩ := Z
    dsimp only at pq f1 r1 l1 ⊢
    rw [Array.toList_push] at pq
    have pc : e1.toList.Perm (((PySem.strKind P w).hash x, Value.str x tk) :: es.toList) := pq.trans (List.perm_append_singleton _ _)
    have p1 : (e1.toList.map kt).Perm (x :: l) := (pc.map kt).trans (pm.cons x)
    have g1 : ∀ e ∈ e1.toList, GT w e := fun e he => by
      rcases List.mem_cons.mp (pc.mem_iff.mp he) with z | z
      · rw [z]; exact ⟨x, tk, rfl, rfl⟩
      · exact g e z
    have z1 : e1.size = l.length + 1 := by rw [← Array.length_toList, pc.length_eq, List.length_cons, Array.length_toList, zl]
    have s1 : e1.size < scanBound := by rw [z1]; exact room
    have ld : w.params.followText "set-order" = true ∨ t1.led = true := T.ld.imp id fun z => by rw [l1]; exact z
    refine wpAny_bind (gw _ ?_)
    split
    · refine wpAny_bind ?_
      rw [hashByValue_scannable 8 sc]
      refine wpAny_pure ?_
      refine setS_tail ?_ ho hx hd g1 p1 nm ⟨s1, ?_, ?_, ?_⟩ ?_
      · intro b s₁ Q' q; cases b <;> first | exact wpAny_pure q | exact wpAny_rule q
      · first | (split <;> first | exact f1 | exact SetTable.fits_plain_off f1) | exact f1
      · first | (split <;> exact r1) | exact r1
      · first | (split <;> exact ld) | exact ld
      · intro h' sb r; dsimp only; exact wpAny_pure (hQ _ h' sb r)
    · refine wpAny_bind (wpAny_pure ?_)
      simp only [↓reduceIte]
      refine setS_tail ?_ ho hx hd g1 p1 nm ⟨s1, f1, r1, ld⟩ ?_
      · intro b s₁ Q' q; cases b <;> first | exact wpAny_pure q | exact wpAny_rule q
      · intro h' sb r; dsimp only; exact wpAny_pure (hQ _ h' sb r)
/-- found.add(x) -/
theorem setS_add {x : Str} {tk : Tok} {Q : Value → Shared → Prop} (R : SetS w s.heap a l) (room : l.length + 1 < scanBound)
    (hQ : ∀ h', Heap.SameBut a s.heap h' → SetS w h' a (addS l x) → Q .none { s with heap := h', toks := s.toks + 1 }) : wpAny (model P w) A (call (.builtin "set.add") [.ref a, .str x tk]) Q E s := by
  refine wpAny_call_entry F.slot_set_add (R.setOf (P := P)).typeIs F.entry_set_add ?_ (F.args_set_add_2 _ _)
  unfold Builtin.«set.add» Builtin.Frozenset.oneOther
  simp only [List.isEmpty_nil, bind_assoc]
  unfold Builtin.Frozenset.addrOf setAdd
  refine wpAny_bind (wpAny_pure ?_)
  try dsimp only
  refine wpAny_bind (wpAny_pure ?_)
  try dsimp only
  refine wpAny_bind (wpAny_holding (wpAny_bind ((PySem.strKind P w).pyHash (strKind_is P w x tk) ?_)))
  refine setS_addH (s := { s with toks := s.toks + 1 }) R room fun b h' sb r => ?_
  show wpAny _ _ (ret Value.none) _ _ _
  exact wpAny_pure ⟨_, rfl, hQ h' sb r⟩
end
def SetSO (w : World) (a : Addr) (l : List Str) : HO := .ext fun h => SetS w h a l
theorem setSO_new {w : World} {P : Program} {H : Hp} {h : Heap} {a : Addr} {l : List Str} (R : SetS w h a l) : ObjOk P w H h a (SetSO w a l) := by
  have ⟨_, o, _, _, _, ho, _⟩ := R
  exact ⟨R, ⟨o, ho⟩, fun h1 h2 p k => SetS.at p k⟩
section
variable {X : Cx}
theorem setSO_get {pins : List (Addr × Obj)} {σ : L2.St} {H : Hp} {s : Shared} {a : Addr} {l : List Str} (I : Inv X pins σ H s) (ha : H a = some (SetSO X.w a l)) : SetS X.w s.heap a l := (I.hok a _ ha).1
theorem addS_ok {pins : List (Addr × Obj)} {σ : L2.St} {H : Hp} {s : Shared} {E : Value → Shared → Prop} {D : Addr} {l : List Str} {x : Str} {tk : Tok} {Q : Value → Shared → Prop} (I : Inv X pins σ H s) (hD : H D = some (SetSO X.w D l)) (room : l.length + 1 < scanBound)
    (h : ∀ s', Inv X pins σ (upd H D (SetSO X.w D (addS l x))) s' → Q .none s') : wpAny (model X.prog X.w) X.A (call (.builtin "set.add") [.ref D, .str x tk]) Q E s := by
  refine setS_add (setSO_get I hD) room fun h' sb new => ?_
  have he : ∃ u, h'.get? D = some u := by
    have ⟨_, o, _, _, _, ho, _⟩ := new
    exact ⟨o, ho⟩
  exact h _ (I.write (e := D) (t' := s.toks + 1) (by rw [hD]; trivial) (.inl rfl) (fun b u hb hu => (sb.2 b hb).trans hu) he (setSO_new new))
end
end Rd
namespace Rd
open PySem PySem.Spec PyProof.Rows L2
def tScS (w : World) (wi : TI) (g : TG) (tt : TT) (te : TE) (vs : List Nat) : TE := fun σ H Q => wi σ H fun J H1 => ∀ D, H1 D = none → ∃ W : Nat → Nat → Hp → Prop, (∃ m, W 0 m (upd H1 D (SetSO w D []))) ∧ ∀ i m H, W i m H →
  (J.stop i H ∧ Q (.ref D) H) ∨ (J.go i H ∧ ∃ Nx : Hp → Prop, (∀ H', Nx H' → ∃ m', m' < m ∧ W (i + 1) m' H') ∧ ∀ x H', J.yld i H x H' → g x (wipe σ vs) H' fun σ2 H2 => wipe σ2 vs = wipe σ vs ∧ tt σ2 H2 fun b H3 =>
    if b = true then te σ2 H3 fun y H4 => ∃ (c : Str) (l : List Str), y = .str c ∧ H4 D = some (SetSO w D l) ∧ l.length + 1 < scanBound ∧ Nx (upd H4 D (SetSO w D (addS l c))) else Nx H3)
section
variable {X : Cx}
theorem pe_scS {elt tg iter : Expr} {ifs : List Expr} {scope : Scope} {own : List (PySem.Str × Nat)} {pos : Pos} {wi : TI} {g : TG} {tt : TT} {te : TE} (hc : X.calm = true) (hN : X.N.Nodup) (hi : PI X tg iter wi) (ok : BlkOk X.N X.env.scope scope own)
    (hg : ∀ (s : Shared) (H : Hp) (C : Addr) (cl : List (PySem.Str × Addr)) (fp : List Addr), PG (X.blk s H scope (compEnvC scope cl C X.env) fp) tg g) (ht : ∀ (s : Shared) (H : Hp) (C : Addr) (cl : List (PySem.Str × Addr)) (fp : List Addr), PTs (X.blk s H scope (compEnvC scope cl C X.env) fp) ifs tt)
    (he : ∀ (s : Shared) (H : Hp) (C : Addr) (cl : List (PySem.Str × Addr)) (fp : List Addr), PE (X.blk s H scope (compEnvC scope cl C X.env) fp) elt te) (hs : ∀ x, foldedSetIterable iter X.env x = pure x := by intro _; rfl) :
    PE X (.SetComp elt [⟨tg, iter, ifs, 0⟩] scope pos) (tScS X.w wi g tt te (own.map (·.2))) := by
  refine ⟨fun pins s σ H Q I h => ?_⟩
  rw [PpSet.eval_SetComp]
  have hfree : ∀ y ∈ scope.names, y.2 = .free → ∃ c, X.env.cells.lookup y.1 = some c := fun y hy e => (ok.free y hy e).elim (fun k => I.ok.has _ (.inl k)) fun k => I.ok.has _ (.inr k)
  refine wpAny_comprehension_free (use := none) rfl hs (closure_ok hfree) ok.kind (fun y hy e => by rw [ok.uniq y hy, e]) (thn (hi.run pins s σ H _ I h) fun xv s1 hx => thn hx fun itv s2 h2 => ?_)
  obtain ⟨it, fp, tn, J, H2, e, I2, T, st2, f2, q⟩ := h2
  subst e
  refine PpSet.newSet_ok (newEnv_comp ?_)
  generalize hD : s2.heap.objs.size = D
  have Dn : H2 D = none := I2.hok.fresh (Nat.le_of_eq hD)
  obtain ⟨W, ⟨m0, w0⟩, turn⟩ := q D Dn
  generalize hO : ({ cls := .type "set", dict := none, data := .set #[] 0 (.fresh 0 0 (!X.w.params.followText "set-order")) } : Obj) = ob
  generalize e3 : ({ s2 with heap := s2.heap.push ob } : Shared) = s3
  have h3 : s3.heap = s2.heap.push ob := by rw [← e3]
  have I3 : Inv X pins σ (upd H2 D (SetSO X.w D [])) s3 := by
    rw [← e3]
    refine I2.laid (t' := s2.toks) (fun b o e => Heap.get?_push_of_some _ e) (Nat.le_of_eq hD) (setSO_new (setS_fresh ?_))
    rw [← hD, ← hO]
    exact Heap.get?_push_size _ rfl
  have f3 : ∀ b ∈ fp, FpOk X pins (upd H2 D (SetSO X.w D [])) b ∧ b < s3.heap.objs.size := fun b hb => by
    obtain ⟨o, e, _⟩ := T.obj _ _ st2 b hb
    have lt := Heap.lt_size e
    refine ⟨⟨?_, (f2 b hb).2⟩, by rw [h3, Heap.size_push]; exact Nat.lt_succ_of_lt lt⟩
    rw [upd_ne (by rw [← hD]; exact Nat.ne_of_lt lt)]
    exact (f2 b hb).1
  have st3 : tn 0 s3.heap := T.keep _ _ _ st2 fun b _ o e => by rw [h3]; exact Heap.get?_push_of_some _ e
  have I4 := block_start I3 ok hN f3
  have pg := hg s3 (upd H2 D (SetSO X.w D [])) s3.heap.objs.size (cellsFrom (s3.heap.objs.size + 1) scope.names (cloFrom X.env.cells scope.names [])) fp
  have pt := ht s3 (upd H2 D (SetSO X.w D [])) s3.heap.objs.size (cellsFrom (s3.heap.objs.size + 1) scope.names (cloFrom X.env.cells scope.names [])) fp
  have pe := he s3 (upd H2 D (SetSO X.w D [])) s3.heap.objs.size (cellsFrom (s3.heap.objs.size + 1) scope.names (cloFrom X.env.cells scope.names [])) fp
  show codeAny _ _ (.compStart (.SetComp elt [⟨tg, iter, ifs, 0⟩] scope pos) 0 (.ref it) (.ref D) (compEnvC scope (cellsFrom (s3.heap.objs.size + 1) scope.names (cloFrom X.env.cells scope.names [])) s3.heap.objs.size X.env)) _ { s3 with heap := pushCells (s3.heap.push { cls := .type "dict", data := .dict #[] }) scope.names }
  have nfp : ∀ b ∈ fp, (upd H2 D (SetSO X.w D [])) b = none := fun b hb => (f3 b hb).1.1
  generalize hce : compEnvC scope (cellsFrom (s3.heap.objs.size + 1) scope.names (cloFrom X.env.cells scope.names [])) s3.heap.objs.size X.env = ce at I4 pg pt pe ⊢
  have cL : ce.locals = s3.heap.objs.size := by subst hce; rfl
  generalize hH3 : upd H2 D (SetSO X.w D []) = H3 at I3 I4 pg pt pe w0 nfp f3
  generalize hs4 : ({ s3 with heap := pushCells (s3.heap.push { cls := .type "dict", data := .dict #[] }) scope.names } : Shared) = s4 at I4 ⊢
  have st4 : tn 0 s4.heap := T.keep _ _ _ st3 fun b _ o e => by rw [← hs4]; exact pushCells_keeps _ _ _ _ (Heap.get?_push_of_some _ e)
  have stat : ∀ {σ' : L2.St} {H' : Hp} {s' : Shared}, Inv (X.blk s3 H3 scope ce fp) [] σ' H' s' → (∀ b ∈ fp, H' b = none) → ∀ b ∈ fp, FpOk (X.blk s3 H3 scope ce fp) [] H' b := fun {σ' H' s'} I' hn b hb =>
    ⟨hn b hb, (I'.ok.exf b hb).1, I'.ok.exfs b hb, .inl hb, fun x c e => (I'.ok.exf b hb).2 x c e, fun p hp => absurd (show p ∈ ([] : List (Addr × Obj)) ++ [] from hp) (by simp)⟩
  have loop : codeAny (model X.prog X.w) X.A (.compLoop (.SetComp elt [⟨tg, iter, ifs, 0⟩] scope pos) 0 (.ref it) (.ref D) ce) (compPost (model X.prog X.w) X.A X.xe none (EP X pins σ Q) (.ref D) s3.heap.objs.size) s4 := by
    refine PpSet.compLoopS_any (fun n s' => ∃ i H', Inv (X.blk s3 H3 scope ce fp) [] (wipe σ (own.map (·.2))) H' s' ∧ tn i s'.heap ∧ (∀ b ∈ fp, H' b = none) ∧ W i n H') ?_ m0 ⟨0, H3, I4, st4, nfp, w0⟩
    rintro n s5 ⟨i, H5, I5, st5, n5, w5⟩
    rcases turn i n H5 w5 with ⟨stop, qq⟩ | ⟨go, Nx, hNx, step⟩
    · refine thnF (T.done (X.blk s3 H3 scope ce fp) rfl rfl rfl hc i [] s5 _ H5 (fun _ _ => False) I5 (stat I5 n5) st5 stop) fun r s6 ⟨hr, I6⟩ => ?_
      subst hr
      have I7 : Inv X pins σ H5 s6 := I3.call' (ch := fp) I6.os I6.base I6.hok I6.bare fun b hb => ⟨(f3 b hb).1.2.2.2.1, (f3 b hb).1.2.1, (f3 b hb).1.2.2.2.2.1, (f3 b hb).1.2.2.2.2.2⟩
      have nC : H5 s3.heap.objs.size = none := by
        have z : H5 ce.locals = none := I6.free
        rw [cL] at z
        exact z
      obtain ⟨m, hn, _⟩ := I6.loc
      have hn : s6.heap.Ns ce.locals m := hn
      rw [cL] at hn
      refine ⟨m, hn, fun h'' sb => ?_⟩
      obtain ⟨g0, g1, g2, g3, g4, g5⟩ := I3.fpOk (Nat.le_refl _) nC
      exact ⟨.ref D, H5, I7.turned (t' := s6.toks) (fun b o hb e => (sb.2 b hb).trans e) g0 g1 g3 g4 g5, rfl, qq⟩
    · refine thnF (T.item (X.blk s3 H3 scope ce fp) rfl rfl rfl hc i [] s5 _ H5 (fun _ _ => False) I5 (stat I5 n5) st5 go) fun r s6 ⟨u, hr, h6⟩ => ?_
      subst hr
      refine thnF h6 fun _ s7 ⟨x, H7, I7, r7, y7, st7, n7⟩ => ?_
      refine thnF (pg.run _ s7 _ H7 x u _ (I7.pinned (stat I7 n7) (T.obj _ _ st7)) r7 (step x H7 y7)) fun _ s8 ⟨σ8, H8, I8, hw8, q8⟩ => ?_
      refine thnF (pt.run _ s8 σ8 H8 _ I8 q8) fun b s9 ⟨H9, I9, q9⟩ => ?_
      have fin : ∀ {s' : Shared} {H' : Hp}, Inv (X.blk s3 H3 scope ce fp) ([] ++ pinsAt fp s7.heap) σ8 H' s' → Nx H' → ∃ m, m < n ∧ ∃ i H', Inv (X.blk s3 H3 scope ce fp) [] (wipe σ (own.map (·.2))) H' s' ∧ tn i s'.heap ∧ (∀ b ∈ fp, H' b = none) ∧ W i m H' := fun {s' H'} I' nx => by
        obtain ⟨m', hm, w'⟩ := hNx H' nx
        have pin' : ∀ b ∈ fp, ∀ o, s7.heap.get? b = some o → s'.heap.get? b = some o ∧ H' b = none := fun b hb o e => by
          have z := I'.pin (b, o) (List.mem_append_right _ (List.mem_append_right _ (mem_pinsAt hb e)))
          exact ⟨z.1, z.2.1⟩
        refine ⟨m', hm, i + 1, H', (I'.unpinned (pins := [])).weak (by rw [← hw8, wipe_length]) (fun j v e => by rw [← hw8] at e; exact (wipe_some e).1), T.keep _ _ _ st7 fun b hb o e => (pin' b hb o e).1, fun b hb => ?_, w'⟩
        obtain ⟨o, e, _⟩ := T.obj _ _ st7 b hb
        exact (pin' b hb o e).2
      cases b with
      | false =>
        simp only [Bool.false_eq_true, if_false] at q9 ⊢
        exact fin I9 q9
      | true =>
        simp only [if_true] at q9 ⊢
        refine thnF (pe.run _ s9 σ8 H9 _ I9 q9) fun z s10 ⟨yv, H10, I10, r10, c, l, ey, hD10, hz10, nx⟩ => ?_
        subst ey
        obtain ⟨tk, rfl⟩ := r10
        exact addS_ok (X := X.blk s3 H3 scope ce fp) I10 hD10 hz10 fun s11 I11 => fin I11 nx
  exact PpSet.codeAny_compStart_set loop (T.self X.A 0 _ _ _ st4 loop)
end
section
variable {P : Program} {w : World} {A : Around} {E : Value → Shared → Prop} {s : Shared}
theorem strs_of : ∀ (l : List Value), (∀ v ∈ l, ∃ x t, v = Value.str x t) → ∃ xs, StrsAre l xs
  | [], _ => ⟨[], .nil⟩
  | v :: l, h => by
    obtain ⟨x, t, rfl⟩ := h v List.mem_cons_self
    obtain ⟨xs, g⟩ := strs_of l fun u hu => h u (List.mem_cons_of_mem _ hu)
    exact ⟨x :: xs, .cons x t g⟩
theorem strs_kt {es : List (Int × Value)} (g : ∀ e ∈ es, GT w e) : StrsAre (es.map (·.2)) (es.map kt) := by
  induction es with
  | nil => exact .nil
  | cons e r ih =>
    obtain ⟨x, t, h1, _⟩ := g e List.mem_cons_self
    have hk : kt e = x := by unfold kt; rw [h1]
    rw [List.map_cons, List.map_cons, h1, hk]
    exact .cons x t (ih fun e he => g e (List.mem_cons_of_mem _ he))
def rawS : Value → Str
  | .str x _ => x
  | _ => Str.empty
theorem strs_raw {l : List Value} {xs : List Str} (h : StrsAre l xs) : l.map rawS = xs := by
  induction h with
  | nil => rfl
  | cons x t _ ih => rw [List.map_cons, ih]; rfl
theorem sorted_setS {a : Addr} {l : List Str} {Q : Value → Shared → Prop} (R : SetS w s.heap a l) (hh : A.handled = none)
    (hQ : ∀ s' p (out : Array Value) (c : Nat) (ys : List Str), (∀ b o, s.heap.get? b = some o → s'.heap.get? b = some o) → s'.gens = s.gens → s'.os = s.os → s.heap.objs.size ≤ p →
      s'.heap.get? p = some (seqObj "list" out c) → StrsAre out.toList ys → ys.Perm l → sortedS ys = true → Q (.ref p) s') :
    wpAny (model P w) A (call (.builtin "sorted") [.ref a]) Q E s := by
  obtain ⟨nd, o, es, ep, t, ho, hx, hd, g, pm, T⟩ := R
  refine Calls.call_function_entry kind_sorted plain_sorted entry_sorted (args_sorted1 _) ?_
  unfold Builtin.«sorted»
  refine wpAny_bind (m := checkCount "sorted" 1 1 _) (wpAny_pure ?_)
  refine wpAny_bind (collect_set (A := A.in1) hh ⟨o, ho, hx.1, hd⟩ T.ft T.sm T.ri T.ld fun s1 vs k1 hz g1 o1 pv => ?_)
  have hvl : vs.length = es.size := by rw [pv.length_eq, List.length_map, Array.length_toList]
  obtain ⟨xs, hxs⟩ := strs_of vs fun v hv => by
    obtain ⟨e, he, q⟩ := List.mem_map.mp (pv.mem_iff.mp hv)
    obtain ⟨x, tk, h1, _⟩ := g e he
    exact ⟨x, tk, by rw [← q]; exact h1⟩
  have px : xs.Perm l := by
    rw [← strs_raw hxs]
    refine ((pv.map rawS).trans ?_).trans pm
    rw [strs_raw (strs_kt g)]
  have hvs : vs.length ≤ sizeLine := by rw [hvl]; exact fits_of_scanBound T.sm
  refine wpAny_bind (wpAny_newList ?_ hvs)
  have hoL : (s1.heap.push (seqObj "list" vs.toArray 0)).get? s1.heap.objs.size = some (seqObj "list" vs.toArray 0) := Heap.get?_push_size _ rfl
  refine wpAny_bind (wpAny_holding (wpAny_call_entry slot_list_sort ⟨_, hoL, rfl⟩ entry_list_sort (list_sort_treeKAny strKind_oneLt hoL hxs.keysOf (fun v₁ v₂ rest e => keyKind_strs (by rw [← e]; exact hxs)) hvs fun st' hp hs => ⟨_, rfl, ?_⟩) (args_list_sort _)))
  obtain ⟨ys, h1, h2, h3⟩ := sorted_out_str hxs hp hs
  obtain ⟨c, hc⟩ := sortedHeap_at (vs := vs) hoL
  refine wpAny_pure ⟨_, rfl, hQ _ s1.heap.objs.size _ c ys (fun b u e => ?_) g1 o1 hz hc h1 (h2.trans px) h3⟩
  have q := k1 b u e
  have hlt := Heap.lt_size q
  rw [sortedHeap_old (Nat.ne_of_lt hlt) (by rw [size_push']; exact Nat.lt_succ_of_lt hlt)]
  exact Heap.get?_push_of_some _ q
end
section
variable {X : Cx}
def rSortedSS (w : World) : List V → Hp → VK → Prop := fun vs H Q => ∃ (a : Addr) (l : List Str), vs = [V.ref a] ∧ H a = some (SetSO w a l) ∧
  ∀ (ys : List Str) (p : Addr), ys.Perm l → ys.Nodup → sortedS ys = true → H p = none → Q (.ref p) (upd H p (.lst (ys.map V.str)))
theorem cr_sortedSS (hc : X.calm = true) : CallR X (.builtin "sorted") (rSortedSS X.w) := by
  intro pins s σ H vs us Q I r h
  obtain ⟨a, l, rfl, ha, q⟩ := h
  have R := setSO_get I ha
  rw [Vals.ref1 r]
  have hl : l.length ≤ sizeLine := by
    have ⟨_, o, es, ep, t, _, _, _, _, pm, T⟩ := R
    rw [← pm.length_eq, List.length_map, Array.length_toList]
    exact fits_of_scanBound T.sm
  refine sorted_setS R (I.ok.hd hc) fun s' p out c ys k g o hp hgt hi pm hs => ?_
  have hlen : (ys.map V.str).length ≤ sizeLine := by rw [List.length_map, pm.length_eq]; exact hl
  have hn : H p = none := I.hok.fresh hp
  obtain ⟨h2, g2, d2, t2, o2⟩ := s'
  obtain rfl : o2 = s.os := o
  obtain rfl : g2 = s.gens := g
  have J : Inv X pins σ (upd H p (.lst (ys.map V.str))) ⟨h2, s.gens, d2, t2, s.os⟩ := I.call (d' := d2) (t' := t2) (g' := s.gens) (ch := []) (Un.laid k hp hn) (I.hok.laid k hp ⟨hlen, out.toList, c, vals_of_strs hi, hgt⟩) I.bare (fun _ z => nomatch z)
  exact ⟨.ref p, _, J, rfl, q ys p pm (pm.nodup_iff.mpr R.nd) hs hn⟩
end
end Rd
namespace Rd
open PySem PySem.Spec PyProof.Rows L2
/-- texts put into a set one behind another -/
def putS (l : List Str) : List Str → List Str
  | [] => l
  | x :: r => putS (addS l x) r
theorem addS_mem {l : List Str} {x y : Str} : y ∈ addS l x ↔ y ∈ l ∨ y = x := by
  unfold addS
  split
  · exact ⟨.inl, fun h => h.elim id fun e => by rw [e]; assumption⟩
  · rw [List.mem_cons]
    exact Or.comm
theorem addS_len {l : List Str} {x : Str} : (addS l x).length ≤ l.length + 1 := by
  unfold addS
  split
  · exact Nat.le_succ _
  · exact Nat.le_refl _
theorem putS_mem {y : Str} : ∀ {r l : List Str}, y ∈ putS l r ↔ y ∈ l ∨ y ∈ r
  | [], l => by simp [putS]
  | x :: r, l => by
    rw [putS, putS_mem, addS_mem, List.mem_cons, or_assoc]
theorem putS_len : ∀ {r l : List Str}, (putS l r).length ≤ l.length + r.length
  | [], l => Nat.le_refl _
  | x :: r, l => by
    have h := putS_len (r := r) (l := addS l x)
    have := addS_len (l := l) (x := x)
    rw [putS, List.length_cons]
    omega
theorem putS_app : ∀ {r q l : List Str}, putS l (r ++ q) = putS (putS l r) q
  | [], _, _ => rfl
  | x :: r, q, l => putS_app (r := r) (q := q) (l := addS l x)
section
variable {P : Program} {w : World} {A : Around} {E : Value → Shared → Prop} {s : Shared}
theorem fillS {I : Addr} {fp wr : List Addr} {G : Array GenState → Array GenState → Prop} {n : Nat} {Pv : Nat → Value → Prop} {St : Nat → Shared → Prop} {R : Result → Shared → Prop}
    (W : WalksS P w A.in1 I fp wr G n Pv St) (S : Addr) (nS : S ∉ fp) (xs : List Str) (hn : n = xs.length) (hb : xs.length + 1 < scanBound) (hv : ∀ i v, Pv i v → ∃ x t, xs[i]? = some x ∧ v = .str x t) :
    ∀ (k i : Nat) (s : Shared), n - i = k → i ≤ n → St i s → SetS w s.heap S (putS [] (xs.take i)) →
      (∀ s', Moved (S :: wr) G s s' → SetS w s'.heap S (putS [] xs) → R (.ok (.ret .none)) s') → codeAny (model P w) A (.builtin "set.update.loop" ⟨[.ref S, .ref I], []⟩) R s := by
  have nw : S ∉ wr := fun h => nS (W.sub _ h)
  have su : ∀ b ∈ wr, b ∈ S :: wr := fun b hb => List.mem_cons_of_mem _ hb
  intro k
  induction k with
  | zero =>
    intro i s hk hi hst hS hR
    obtain rfl : i = n := by omega
    refine codeAny_builtin F.entry_set_update_loop ?_
    rw [Around.under_plainId F.plain_set_update_loop _]
    show wpAny _ A.in1 (pyNext (.ref I) >>= _) _ _ s
    refine wpAny_bind (W.done s _ _ hst fun s' hm => ?_)
    show wpAny _ A.in1 (ret Value.none) _ _ s'
    rw [List.take_of_length_le (by omega)] at hS
    exact wpAny_pure (hR s' (hm.mono su) (hS.at fun o e => hm.heap S o nw e))
  | succ k ih =>
    intro i s hk hi hst hS hR
    have lt : i < n := by omega
    refine codeAny_builtin F.entry_set_update_loop ?_
    rw [Around.under_plainId F.plain_set_update_loop _]
    show wpAny _ A.in1 (pyNext (.ref I) >>= _) _ _ s
    refine wpAny_bind (W.item i s _ _ lt hst fun v s' hP hst' hm => ?_)
    obtain ⟨x, t, hx, rfl⟩ := hv i v hP
    show wpAny _ A.in1 (holding [Value.str x t] (setAdd S (.str x t)) >>= _) _ _ s'
    refine wpAny_bind (wpAny_holding ?_)
    unfold setAdd
    refine wpAny_holding (wpAny_bind ((PySem.strKind P w).pyHash (k := x) (strKind_is _ _ _ _) ?_))
    have len : (putS [] (xs.take i)).length + 1 < scanBound := by
      have := putS_len (r := xs.take i) (l := [])
      rw [List.length_take, List.length_nil] at this
      omega
    refine setS_addH (s := { s' with toks := s'.toks + 1 }) (hS.at fun o e => hm.heap S o nw e) len fun b h' sb hS2 => ?_
    have hS3 : SetS w h' S (putS [] (xs.take (i + 1))) := by
      rw [List.take_add_one, hx, putS_app]
      exact hS2
    refine wpAny_pure ⟨plainId_quiet F.plain_set_update_loop _, ih (i + 1) _ (by omega) lt (W.frame _ s' _ _ hst' (Nat.le_succ _) fun b hb o e => ?_) hS3 fun s'' hm2 hS4 => ?_⟩
    · rw [sb.2 b (fun h : b = S => nS (by rw [← h]; exact hb))]; exact e
    · refine hR s'' (Moved.trans W.gtrans ((hm.mono su).then_heap (Nat.le_succ _) fun b o hb e => ?_) hm2) hS4
      rw [sb.2 b (fun h : b = S => hb (by rw [h]; exact List.mem_cons_self))]; exact e
theorem strs_val : ∀ {us : List Value} {xs : List Str}, StrsAre us xs → ∀ (i : Nat) (v : Value), us[i]? = some v → ∃ x t, xs[i]? = some x ∧ v = .str x t
  | _, _, .nil, i, v, h => by simp at h
  | _, _, .cons n t hr, 0, v, h => by simp at h; exact ⟨n, t, rfl, h.symm⟩
  | _, _, .cons n t hr, i + 1, v, h => by
    rw [List.getElem?_cons_succ] at h ⊢
    exact strs_val hr i v h
/-- the new set -/
abbrev newO (w : World) : Obj := { cls := .type "set", dict := none, data := .set #[] 0 (.fresh 0 0 (!w.params.followText "set-order")) }
theorem set_of_list {l : Addr} {items : Array Value} (xs : List Str) {Q : Value → Shared → Prop} (hh : A.handled = none) (hl : s.heap.IsList l items) (hit : StrsAre items.toList xs) (hb : xs.length + 1 < scanBound)
    (h : ∀ (h' : Heap) (tk : Nat), SetS w h' s.heap.objs.size (putS [] xs) → (∀ b o, s.heap.get? b = some o → h'.get? b = some o) → Q (.ref s.heap.objs.size) { s with heap := h', toks := tk }) :
    wpAny (model P w) A (call (.type "set") [.ref l]) Q E s := by
  have isz : items.size = xs.length := by
    have q := StrsAre.length hit
    rw [Array.length_toList] at q
    exact q
  obtain ⟨c, tl, hmro⟩ := F.called_set.mro
  have hmade := F.called_set.made
  have hsub := F.called_set.sub
  refine wpAny_call (codeAny_of_tree ?_)
  show wpAny _ _ (callAny (.type "set") _) _ _ _
  refine wpAny_pure ⟨Code.quiet_builtin _ (by decide +kernel), codeAny_builtin F.entry_type_call ?_⟩
  rw [Around.under_plain (weight_type_call_type "set" [.ref l] []) rfl]
  have h1 := F.called_set.notType
  have h2 := F.called_set.canCreate
  have hct := F.typeCall_set_1 (.ref l)
  repeat (any_goals (first | assumption | wp_step))
  refine codeAny_mono (code_set_led1 (.ref l) (E := E) (Q₁ := fun obj s₁ => obj = .ref s.heap.objs.size ∧ s₁ = { s with heap := s.heap.push (newO w) }) ⟨rfl, rfl⟩) fun r s₁ hr => ?_
  cases r with
  | error e => exact hr
  | ok fl =>
    cases fl with
    | ret obj =>
      obtain ⟨rfl, rfl⟩ := hr
      have hS : (s.heap.push (newO w)).get? s.heap.objs.size = some (newO w) := Heap.get?_push_size _ rfl
      have hT : Shared.TypeIs { s with heap := s.heap.push (newO w) } (.ref s.heap.objs.size) "set" := ⟨_, hS, rfl⟩
      have hli := F.called_set.init.lookup
      have hbi := F.called_set.init.bind (.ref s.heap.objs.size)
      repeat (any_goals (first | assumption | wp_step))
      refine codeAny_mono (codeAny_call_builtin (R := wants (fun r s₂ => r = .none ∧ ∃ h' tk, s₂ = { s with heap := h', toks := tk } ∧ SetS w h' s.heap.objs.size (putS [] xs) ∧ (∀ b o, s.heap.get? b = some o → h'.get? b = some o)) E) F.called_set.init.plain F.entry_set_init (check_set_init_1 hT ?_)) fun r₂ s₂ hr₂ => ?_
      · obtain ⟨ol, hol, hcl, nl, hdl⟩ := hl
        obtain ⟨ocls, odict, odata, oslots⟩ := ol
        simp only at hcl hdl
        subst hcl; subst hdl
        have hol' : (s.heap.push (newO w)).get? l = some { cls := .type "list", dict := odict, data := .seq items nl, slots := oslots } := Heap.get?_push_of_some _ hol
        have hsls := F.sub_list_set
        have hslf := F.sub_list_frozenset
        have hne : (Value.type "list" == Value.type "dict") = false := by decide
        have hl1 : (s.heap.push (newO w)).IsList l items := ⟨_, hol', rfl, nl, rfl⟩
        unfold Builtin.«set.__init__» noKeywords Builtin.Frozenset.updateFrom
        generalize hPI : pyIter = PI
        wp_walk
        subst hPI
        refine wpAny_pyIter_list hl1 ?_
        refine wpAny_bind (wpAny_runValue ?_)
        have lS : l < s.heap.objs.size := Heap.lt_size hol
        have hh3 : A.in1.in1.in1.handled = none := by simp [hh]
        have nI : l ≠ (s.heap.push (newO w)).objs.size := by
          rw [Heap.size_push]; exact Nat.ne_of_lt (Nat.lt_succ_of_lt lS)
        have nSf : s.heap.objs.size ∉ [(s.heap.push (newO w)).objs.size, l] := by
          rw [Heap.size_push]
          simp only [List.mem_cons, List.mem_singleton, List.not_mem_nil, or_false, not_or]
          exact ⟨Nat.ne_of_lt (Nat.lt_succ_self _), Nat.ne_of_gt lS⟩
        refine fillS ((Walks.list hh3 _ l nI items).toS) s.heap.objs.size nSf xs isz hb (fun i v hv => strs_val hit i v (by rw [Array.getElem?_toList]; exact hv)) (items.size - 0) 0 _ (by omega) (Nat.zero_le _)
          ⟨⟨_, Heap.get?_push_size _ rfl, rfl, rfl⟩, (hl1.push _)⟩ (setS_fresh (Heap.get?_push_of_some _ hS)) ?_
        intro s' hm hS'
        obtain ⟨h', g2, d', tk', os'⟩ := s'
        have eg : g2 = s.gens := hm.gens
        have ed : d' = s.drawn := hm.drawn
        have eo : os' = s.os := hm.os
        subst eg; subst ed; subst eo
        show wpAny _ _ _ _ _ _
        refine wpAny_pure ?_
        show wpAny _ _ (ret Value.none) _ _ _
        refine wpAny_pure ⟨rfl, h', tk', rfl, hS', fun b o e => ?_⟩
        have hb0 : b < s.heap.objs.size := Heap.lt_size e
        have hb2 : b ≠ (s.heap.push (newO w)).objs.size := by
          rw [Heap.size_push]; exact Nat.ne_of_lt (Nat.lt_succ_of_lt hb0)
        exact hm.heap b o (by simp only [List.mem_cons, List.mem_singleton, List.not_mem_nil, or_false, not_or]; exact ⟨Nat.ne_of_lt hb0, hb2⟩) (Heap.get?_push_of_some _ (Heap.get?_push_of_some _ e))
      · cases r₂ with
        | error e => exact hr₂
        | ok fl₂ =>
          cases fl₂ with
          | ret r =>
            obtain ⟨rfl, h', tk, rfl, hS', hk'⟩ := hr₂
            repeat (any_goals (first | assumption | wp_step))
            exact h _ _ hS' hk'
          | _ => exact hr₂.elim
    | _ => exact hr.elim
end
section
variable {X : Cx}
def rSetOfS (K : PySem.W.Frag) (w : World) : List V → Hp → VK → Prop := fun vs H Q => ∃ (l : Addr) (xs : List Str), vs = [V.ref l] ∧ SqL K H l (xs.map V.str) ∧ xs.length + 1 < scanBound ∧ ∀ a, H a = none → Q (.ref a) (upd H a (SetSO w a (putS [] xs)))
theorem cr_setOfS (hc : X.calm = true) : CallR X (.type "set") (rSetOfS X.K X.w) := by
  intro pins s σ H vs us Q I r h
  obtain ⟨l, xs, rfl, hl, hb, q⟩ := h
  rw [Vals.ref1 r]
  obtain ⟨its, rv, pl, hz⟩ := I.list hl
  exact set_of_list xs (I.ok.hd hc) pl.isList (by simpa using rv.strs) hb fun h' tk R k =>
    ⟨.ref s.heap.objs.size, upd H s.heap.objs.size (SetSO X.w s.heap.objs.size (putS [] xs)), I.laid (t' := tk) k (Nat.le_refl _) (setSO_new R), rfl, q _ (I.hok.fresh (Nat.le_refl _))⟩
end
end Rd
namespace Rd
open PySem L2
theorem _root_.L2.Room.units65 {k : Nat} {A : Around} (r : Room k A) : A.units + 65 < cLine := by have := r.un; omega
end Rd
namespace Rd
open PySem L2
section
variable {X : Cx} {K : PySem.W.Frag}
theorem kIx {r : PySem.W.Frag → R2} (hK : X.K = K) (h : IxR X (r X.K)) : IxR X (r K) := hK ▸ h
theorem kOp {o : Value → Value → Sem Value} {r : PySem.W.Frag → R2} (hK : X.K = K) (h : OpR X o (r X.K)) : OpR X o (r K) := hK ▸ h
end
end Rd
namespace Rd
open PySem PySem.Spec L2
section
variable {X : Cx} {K : PySem.W.Frag}
theorem pg_tupk {es : List Expr} {k : Nat} {pos : Pos} {t : TGs} {n : Nat} (hK : X.K = K) (hc : X.calm = true) (h : PGs X es t)
    (hn : (assignEach es X.env).length = n := by rfl) (hst : (assignEach es X.env).findIdx? (·.1) = none := by rfl) : PG X (.Tuple es k pos) (gTup K n t) := by subst hK; exact pg_tup hc h hn hst
theorem pe_fldk {e : Expr} {f : Str} {pos : Pos} {ta : TE} (hK : X.K = K) (he : PE X e ta) (hb : attributeBase e f X.env (eval e X.env) = eval e X.env) : PE X (.Attribute e f pos) (tFld K ta f) := by subst hK; exact pe_fld he hb
end
section
variable {X : Cx}
theorem ps_setDc {i : Nat} {y : Str} {py : Pos} {kx vx tg iter : Expr} {ifs : List Expr} {scope : Scope} {own : List (Str × Nat)} {pos spos : Pos} {wi : TI} {g : TG} {tt : TT} {tk tv : TE} (hc : X.calm = true) (hN : X.N.Nodup) (hy : X.N[i]? = some y) (hyl : X.env.scope.names.lookup y = some .local)
    (hsw : swapsWith (.DictComp kx vx [⟨tg, iter, ifs, 0⟩] scope pos) (some (.Name y py)) spos.line X.env = pure true) (hi : PI X tg iter wi) (ok : BlkOk X.N X.env.scope scope own)
    (hg : ∀ (s : Shared) (H : Hp) (C : Addr) (cl : List (Str × Addr)) (fp : List Addr), PG (X.blk s H scope (compEnvC scope cl C X.env) fp) tg g) (ht : ∀ (s : Shared) (H : Hp) (C : Addr) (cl : List (Str × Addr)) (fp : List Addr), PTs (X.blk s H scope (compEnvC scope cl C X.env) fp) ifs tt)
    (hk : ∀ (s : Shared) (H : Hp) (C : Addr) (cl : List (Str × Addr)) (fp : List Addr), PE (X.blk s H scope (compEnvC scope cl C X.env) fp) kx tk)
    (he : ∀ (s : Shared) (H : Hp) (C : Addr) (cl : List (Str × Addr)) (fp : List Addr), PE (X.blk s H scope (compEnvC scope cl C X.env) fp) vx tv) (hs : ∀ x, foldedSetIterable iter X.env x = pure x := by intro _; rfl) :
    PS X (.Assign [.Name y py] (.DictComp kx vx [⟨tg, iter, ifs, 0⟩] scope pos) spos) (tAsg (tDc wi g tt tk tv (own.map (·.2))) (gName i)) := by
  refine ⟨fun pins s σ H D I h => ?_⟩
  rw [exec_Assign_Name_used _ _ _ _ hsw]
  refine wpAny_bind (wpAny_standAt (wpAny_bind ?_))
  show wpAny _ X.A (do let _ ← comprehension (.DictComp kx vx [⟨tg, iter, ifs, 0⟩] scope pos) scope X.env (firstIterPos [⟨tg, iter, ifs, 0⟩] pos) newDict false (eval iter X.env) (some (assign (.Name y py) X.env))) _ _ s
  have h : tDc wi g tt tk tv (own.map (·.2)) σ H (fun x H1 => gName i x σ H1 D.nx) := h
  refine wpAny_bind (thn (dc_core (Qf := fun _ s' => SP X pins D .next s') hc hN I hi ok hg ht hk he hs h fun L C s' m H' I' q hn f => ?_) fun _ s' hq => wpAny_pure (wpAny_pure hq))
  show wpAny _ _ (assign (.Name y py) X.env (.ref L)) _ _ _
  refine wpAny_assign_Name (store_ok2 (v := V.ref L) I' hN hy (.inl hyl) rfl (fun s2 I2 ⟨a, sb, ha⟩ => ?_) (.inr hyl))
  obtain ⟨f0, f1, f2, f3, f4, f5⟩ := f
  have haC : C ≠ a := by
    rcases ha with z | z
    · rw [z]; exact f1
    · exact fun e => f4 y a z e.symm
  refine ⟨m, hn.sameBut sb haC, fun h3 sb3 => ?_⟩
  exact ⟨_, H', I2.turned (t' := s2.toks) (fun b o hb e => (sb3.2 b hb).trans e) f0 f1 f3 f4 f5, q⟩
theorem sw_trueD {kx vx : Expr} {gs : List Comprehension} {scope : Scope} {pos py : Pos} {y : Str} {l : Nat} {env : Env} (hk : env.scope.kind = .function) (hy : env.scope.names.lookup y = some .local) (hl : (py.line == pos.line) = true)
    (ha : (scope.names.any fun (n, k) => n == y && (k == .local || k == .cell)) = false) : swapsWith (.DictComp kx vx gs scope pos) (some (.Name y py)) l env = pure true := by
  have ky : env.kindOf y = some .local := hy
  have hb : env.blockKind = .function := by unfold Env.blockKind; rw [hk]; rfl
  unfold swapsWith
  simp only [hb, ky, ha, Expr.pos, hl]
  rfl
end
end Rd
namespace Rd
open PySem L2
def strsB : List Value → List Str → Bool
  | [], [] => true
  | .str z _ :: r, x :: s => decide (z = x) && strsB r s
  | _, _ => false
def ktB (K : PySem.W.Frag) (a : Addr) (xs : List Str) : Bool := match K.lookup a with
  | some ⟨.type "tuple", _, .seq its _, _⟩ => strsB its.toList xs && decide (its.size ≤ sizeLine)
  | _ => false
theorem strsB_ok : ∀ {us : List Value} {xs : List Str}, strsB us xs = true → Vals (xs.map V.str) us
  | [], [], _ => .nil
  | .str z t :: r, x :: s, h => by
    obtain ⟨h1, h2⟩ := He.ba h
    cases of_decide_eq_true h1
    exact .cons ⟨t, rfl⟩ (strsB_ok h2)
structure Ktu (K : PySem.W.Frag) (mg : Str → Option Value) (x : Str) (xs : List Str) : Prop where
  g : mg x = some (.ref (He.ga K x))
  tp : ∀ H, SqT K H (He.ga K x) (xs.map V.str)
theorem ktB_ok {K : PySem.W.Frag} {mg : Str → Option Value} {x : Str} {xs : List Str} (g : mg x = some (.ref (He.ga K x))) (h : ktB K (He.ga K x) xs = true) : Ktu K mg x xs := by
  refine ⟨g, fun H => .inr ?_⟩
  unfold ktB at h
  split at h
  · rename_i d its n sl e
    obtain ⟨h1, h2⟩ := He.ba h
    exact ⟨_, its, n, e, rfl, rfl, of_decide_eq_true h2, strsB_ok h1⟩
  · cases h
theorem pe_ktk {X : Cx} {K : PySem.W.Frag} {x : Str} {xs : List Str} {pos : Pos} (hK : X.K = K) (D : Ktu X.K X.mg x xs) (hg : Gl X x := by rfl) (hd : (x == ("__debug__" : Str)) = false := by decide) : PE X (.Name x pos) (tC (.ref (He.ga K x))) := by subst hK; exact pe_glob hg D.g rfl hd
end Rd
namespace PySem
namespace AutoSeq1
theorem extend_list_tupleG (l : Addr) (items : Array Value) (n : Nat) (b : Addr) (dc : Option Addr) (sl : Array (Option Value)) (items2 : Array Value) (n2 : Nat) (hs0 : ¬(!items.isEmpty && Builtin.List.listTooLong (items.size + items2.size)) = true) (hs1 : items.size ≤ sizeLine) (hs2 : items.size + items2.size ≤ sizeLine + 1) :
    Meets (Builtin.«list.extend» ⟨[.ref l, .ref b], []⟩) (fun _ R s => s.heap.get? l = some { cls := .type "list", dict := none, data := .seq items n, slots := #[] } ∧ s.heap.get? b = some { cls := .type "tuple", dict := dc, data := .seq items2 n2, slots := sl } ∧ R (.ok (.ret Value.none)) { s with heap := s.heap.update l (Obj.mapSeq fun x => x ++ items2), toks := s.toks }) :=
  .of_wp fun prog w A R s h => by
    obtain ⟨hp, g, d, tk, os⟩ := s; obtain ⟨hl, hb, h⟩ := h; have f1 := idx_int; have f2 := sub_tuple_tuple; have f3 := sub_list_list; have f4 := sub_tuple_list; have f5 := sub_list_tuple;
    have hz' : (items ++ items2).size ≤ sizeLine + 1 := by rw [Array.size_append]; exact hs2
    wp_walk using (wpAny_updateSeq hl rfl (hz := hs1) (_hz' := hz')), wpAny_loadPart' hl, wpAny_loadPart' hb; exact ⟨_, rfl, h⟩
end AutoSeq1
end PySem
namespace Rd
open PySem PySem.Spec PyProof.Rows L2
section
variable {X : Cx}
def rExtT (K : PySem.W.Frag) : V → List V → Hp → VK → Prop := fun x vs H Q => ∃ l b xs zs, x = .ref l ∧ vs = [.ref b] ∧ H l = some (.lst xs) ∧ SqT K H b zs ∧ xs.length + zs.length ≤ sizeLine ∧ Q .non (L2.upd H l (.lst (xs ++ zs)))
theorem mt_extT : MtM X "list.extend" (rExtT X.K) := by
  intro pins s σ H x vs v us Q I rx rv h
  obtain ⟨l, b, xs, zs, rfl, rfl, hH, hB, hz, q⟩ := h
  cases rx
  obtain ⟨u, rfl, ru⟩ := rv.one
  cases ru
  obtain ⟨z, its, n, r, hl, e⟩ := I.lstM hH
  obtain ⟨its2, r2, ⟨⟨c2, d2, dt2, sl2⟩, e2, ec, n2, ed⟩, z2⟩ := I.tuple hB
  cases ec
  cases ed
  have hl2 := r2.length
  have hsz : its.toArray.size + its2.toArray.size ≤ sizeLine := by rw [List.size_toArray, List.size_toArray]; omega
  have hlong : ¬ (!its.toArray.isEmpty && Builtin.List.listTooLong (its.toArray.size + its2.toArray.size)) = true := by
    rw [notLongL hsz, Bool.and_false]
    exact Bool.false_ne_true
  refine call_meets F.slot_list_extend ⟨_, e, rfl⟩ F.entry_list_extend (F.args_list_extend_2 _ _)
    (AutoSeq1.extend_list_tupleG l its.toArray n b d2 sl2 its2.toArray n2 hlong (by rw [List.size_toArray]; omega) (by omega)) ⟨e, e2, ?_⟩
  refine ⟨.non, _, I.lset (its' := its ++ its2) hH e (by simp) (r.append r2) ?_, rfl, q⟩
  rw [List.length_append]
  omega
end
end Rd
namespace PySem.W
open Lean Elab Tactic Meta PySem PySem.Calls PyProof.Rows
end PySem.W
namespace Rd
open PySem L2
def pfn (K : PySem.W.Frag) (c m : Str) : Addr := He5.wf K (He.ga K c) "property" m
structure Ph (K : PySem.W.Frag) (c m q : Str) (st : Stmt) : Prop where
  ex : ∃ fd, FunD K m q (defArgs st) (defBody st) (defScope st) [] [] (pfn K c m) fd
  pr : PropOf K (He.ga K c) m (He.ma K (He.ga K c) m) (pfn K c m)
structure Fp (P : Program) (w : World) (K : PySem.W.Frag) (mg : Str → Option Value) (base : Heap) (CX : CXT) (k : Nat) (c m : Str) (ps : List Str) (sp : Sp) : Prop where
  ex : ∃ fd, FnOk P w K mg base CX k (pfn K c m) fd ps sp ∧ Binds K fd ps []
  pr : PropOf K (He.ga K c) m (He.ma K (He.ga K c) m) (pfn K c m)
section
variable {P : Program} {w : World} {K : PySem.W.Frag} {mg : Str → Option Value} {base : Heap} {k : Nat} {c m q : Str} {ps N : List Str} {sp : Sp} {st : Stmt}
theorem Ph.ok0 (F : Ph K c m q st) (S : FnScope N ps (defScope st))
    (hb : ∀ (kV doc pm : Value) (an : Option Addr) (cdv ct : Value) (us : List Value), us.length = ps.length → bindArgs (PySem.W.fnOf m q (defArgs st) (defBody st) (defScope st) .none kV doc pm an cdv ct) ⟨us, []⟩ = pure (ps.zip us))
    (len : ∀ vs H Q E, sp vs H Q E → vs.length = ps.length)
    (hbody : ∀ (cdv : Value) (A : Around) (outer : List Env) (s : Shared) (H : Hp) (vs : List V) (Q : VK) (E : XK), Room k (A.deeper (PyProof.Rows.envOfC q (defScope st) s.heap.objs.size (pfn K c m) cdv)) → sp vs H Q E →
      ∃ t, PSs (cxOf CX0 P w K mg base N q (defScope st) (pfn K c m) cdv A outer s H E).nox (defBody st) t ∧ t { nx := fun _ H' => Q .non H', rt := Q } (start N vs) H) : Fp P w K mg base CX0 (k + 1) c m ps sp := by
  obtain ⟨fd, F'⟩ := F.ex
  refine ⟨⟨fd, F'.ok S len fun cdv A outer s H vs Q E hr h => ?_, F'.bindsN hb⟩, F.pr⟩
  obtain ⟨t, h1, h2⟩ := hbody cdv A outer s H vs Q E hr h
  exact ⟨t, h1.nox, h2⟩
end
end Rd
namespace Rd
open PySem PySem.Spec PyProof.Rows L2
theorem pi_listk {X : Cx} {K : PySem.W.Frag} {tg l : Expr} {tl : TE} (hK : X.K = K) (hl : PE X l tl) : PI X tg l (iList K tl) := by subst hK; exact pi_list hl
end Rd
namespace GQ
open PySem PySem.SeqAt
open AutoSeq1 (wpAny_loadPart')
open MeetsSeq MeetsSeq2 MeetsSeq3 SeqRoads2
section
variable {prog : Program} {w : World} {A : Around} {R : Result → Shared → Prop}
/-- the turns from the i-th on end with False -/
theorem neo_loop {l b : Addr} {N : Nat} {J : Nat → Shared → Prop} (hl : ListI prog w A (fun e s' => R (.error e) s') l b N J) (fin : ∀ s, J N s → R (.ok (.ret (.bool false))) s) :
    ∀ (k i : Nat), N = i + k → ∀ s, J i s → wpAny (model prog w) A.in1 (Builtin.«list.__eq__.loop» ⟨[.ref l, .ref b, rawInt i, rawInt 3], []⟩) (FinOf prog w A R) (fun e s' => R (.error e) s') s
  | 0, i, e, s, h => by
    obtain ⟨us, vs, n, m, e1, e2, z1, z2, _⟩ := hl _ _ h
    have e : N = i := e
    have q := fin s (e.symm ▸ h)
    obtain ⟨hp, g, d, tk, os⟩ := s
    wp_walk using wpAny_loadPart' e1, wpAny_loadPart' e2
    rw [show us[((i : Nat) : Int).toNat]? = none by simp; omega, show vs[((i : Nat) : Int).toNat]? = none by simp; omega]
    wp_walk using wpAny_loadPart' e1, wpAny_loadPart' e2
    show R (.ok (.ret (.bool (us.size != vs.size)))) _
    rw [z1, z2]
    simpa using q
  | k + 1, i, e, s, h => by
    obtain ⟨us, vs, n, m, e1, e2, z1, z2, t⟩ := hl _ _ h
    have h1 : i < us.size := by omega
    have h2 : i < vs.size := by omega
    have t := t h1 h2
    obtain ⟨hp, g, d, tk, os⟩ := s
    wp_walk using wpAny_loadPart' e1, wpAny_loadPart' e2
    rw [show us[((i : Nat) : Int).toNat]? = some us[i] by simp [h1], show vs[((i : Nat) : Int).toNat]? = some vs[i] by simp [h2]]
    refine wpAny_bind (wpAny_mono t (fun r s2 q => ?_) fun _ _ x => x)
    obtain ⟨rfl, q⟩ := q
    have more := neo_loop hl fin k (i + 1) (by omega) s2 q
    obtain ⟨hp2, g2, d2, tk2, os2⟩ := s2
    wp_walk
    rw [show ((i : Int) + 1) = ((i + 1 : Nat) : Int) by omega]
    exact ⟨plainId_quiet plain_eq_loop _, codeAny_builtin entry_eq_loop (by
      rw [Around.under_plainId plain_eq_loop _]
      exact more)⟩
theorem neo_list {l b : Addr} {N : Nat} {J : Nat → Shared → Prop} (hl : ListI prog w A (fun e s' => R (.error e) s') l b N J) (fin : ∀ s, J N s → R (.ok (.ret (.bool false))) s) {s : Shared} (h : J 0 s) :
    wpAny (model prog w) A.in1 (Builtin.«list.__ne__» ⟨[.ref l, .ref b], []⟩) (FinOf prog w A R) (fun e s' => R (.error e) s') s := by
  obtain ⟨us, vs, n, m, e1, e2, z1, z2, _⟩ := hl _ _ h
  have go := neo_loop hl fin N 0 (Nat.zero_add N).symm s h
  obtain ⟨hp, g, d, tk, os⟩ := s
  have f3 := AutoSeq1.sub_list_list
  have hne : ¬ (us.size != vs.size) = true := by simp [z1, z2]
  wp_walk using wpAny_loadPart' e1, wpAny_loadPart' e2
  exact ⟨plainId_quiet plain_eq_loop _, codeAny_builtin entry_eq_loop (by
    rw [Around.under_plainId plain_eq_loop _]
    exact go)⟩
end
section
variable {prog : Program} {w : World} {A : Around} {E : Value → Shared → Prop} {s : Shared}
theorem neo_rc {l b : Addr} {N : Nat} {Q : Value → Shared → Prop} (hu : A.units < cLine) (J : Nat → Shared → Prop) (hl : ListI prog w A E l b N J) (fin : ∀ s, J N s → Q (.bool false) s) (h : J 0 s) :
    wpAny (model prog w) A (richCompare .NotEq (.ref l) (.ref b)) Q E s := by
  obtain ⟨us, vs, n, m, e1, e2, _, _, _⟩ := hl _ _ h
  refine wpAny_richCompare_same_room (op := .NotEq) ⟨_, e1, rfl⟩ ⟨_, e2, rfl⟩ PySem.F.slot_list_ne (call_here PySem.F.slot_list_ne ⟨_, e1, rfl⟩ PySem.F.entry_list_ne (PySem.F.args_list_ne_2 _ _) ?_) hu
  exact neo_list (R := wants (fun v s' => v ≠ .notImplemented ∧ Q v s') E) hl (fun s' q => ⟨(fun x => nomatch x), fin s' q⟩) h
end
end GQ
namespace L2
open PySem PySem.Spec PyProof.Rows
section
variable {X : Cx} {n : Nat} {D : Eqv}
/-- x != y: two lists, item by item equal -/
def rNeoL (D : Eqv) : R2 := fun x y H Q => DList D x y H ∧ ∀ H', Ext H H' → Q (.bl false) H'
theorem op_neoL (hD : Mon D) (h : EqG X n D) (hr : Room (n + 1) X.A) : OpR X (compareOp .NotEq) (rNeoL D) := by
  intro pins s σ H x y v u Q I rx ry hq
  obtain ⟨⟨a, b, xs, ys, rfl, rfl, ha, hb, p⟩, q⟩ := hq
  cases rx
  cases ry
  show wpAny (model X.prog X.w) X.A (richCompare .NotEq (.ref a) (.ref b)) (EP X pins σ Q) X.xe s
  refine GQ.neo_rc (N := xs.length) hr.units0 (fun _ s' => LoopI X pins σ H s') (fun i s' z => ?_) (fun s' z => ?_) ⟨H, I, Ext.rfl'⟩
  · obtain ⟨H1, I1, e1⟩ := id z
    obtain ⟨_, its, k, r, e⟩ := I1.hok a _ (e1 _ _ ha)
    obtain ⟨_, its2, k2, r2, e2⟩ := I1.hok b _ (e1 _ _ hb)
    exact ⟨its.toArray, its2.toArray, k, k2, e, e2, by rw [List.size_toArray, ← r.length], by rw [List.size_toArray, ← r2.length, ← p.1], fun h1 h2 => turnG hD h ⟨hr, rfl⟩ p r r2 i h1 h2 s' z⟩
  · obtain ⟨H1, I1, e1⟩ := z
    exact ⟨.bl false, H1, I1, rfl, q H1 e1⟩
end
end L2
namespace Rd
open PySem L2
def lstN (g : Addr → Option Obj) (n : Nat) (rs : List Addr) : List Addr := goB g n (mainGlobals :: rs) rs (rs.foldl (fun m a => Nat.lor m (Nat.shiftLeft 1 a)) (Nat.shiftLeft 1 mainGlobals))
def rootsN (g : Addr → Option Obj) (nms : List Str) : List Addr := nms.map fun x => He.ga (He.frG g [mainGlobals]) x
def frN (nms : List Str) (n : Nat) (g : Addr → Option Obj) : PySem.W.Frag := He.frG g (cStatics :: lstN g n (rootsN g nms))
def obsN (nms : List Str) (n : Nat) (fa : List He.Fa) (fn : List He.DefD) (ts : List He.Tab) (ex : PySem.W.Frag → Bool) (fs : List He5.DefA) (g : Addr → Option Obj) : AlZ := ((He.obsT fa fn ts (frN nms n g), ex (frN nms n g)), He5.obsA [] fs (frN nms n g))
def hookN (nms : List Str) (n : Nat) (fa : List He.Fa) (fn : List He.DefD) (ts : List He.Tab) (ex : PySem.W.Frag → Bool) (fs : List He5.DefA) : PySem.W.Hook where
  α := AlZ
  obs := fun s => obsN nms n fa fn ts ex fs s.heap.get?
  val := fun w => valZ fn ts fs w
  says := fun w h => ∃ K : PySem.W.Frag, K.In h ∧ SaysZ fa fn ts ex fs w K
  of := fun _ _ e => ⟨_, He.frG_in, ⟨⟨congrArg (fun z : AlZ => z.1.1) e, congrArg (fun z : AlZ => z.1.2) e⟩, congrArg (fun z : AlZ => z.2) e⟩⟩
  keeps := fun _ _ _ ⟨K, hK, c⟩ k => ⟨K, PySem.W.Frag.In.keeps hK k, c⟩
theorem obsN_eq {nms : List Str} {n : Nat} {fa : List He.Fa} {fn : List He.DefD} {ts : List He.Tab} {ex : PySem.W.Frag → Bool} {fs : List He5.DefA} {g : Addr → Option Obj} {s : Shared} (h : ∀ a, g a = s.heap.get? a) : obsN nms n fa fn ts ex fs g = (hookN nms n fa fn ts ex fs).obs s := by
  have e : g = s.heap.get? := funext h
  rw [e] <;> rfl
end Rd
namespace Rd
open PySem L2
def top (i : Nat) : Stmt := PySem.Challenge.pw_openroads_k18_wishes_granted.main.body.getD i (.Pass ⟨0, 0, 0, 0⟩)
structure Tx (w : World) (K : PySem.W.Frag) (mg : Str → Option Value) : Prop where
  z_len : mg "len" = none
  z_all : mg "all" = none
  z_abs : mg "abs" = none
  z_int : mg "int" = none
  z_list : mg "list" = none
  z_tuple : mg "tuple" = none
  z_range : mg "range" = none
  z_isinstance : mg "isinstance" = none
  z_sorted : mg "sorted" = none
  z_set : mg "set" = none
  z_dict : mg "dict" = none
  c_SMALL : ∃ t, mg "SMALL" = some (.str "abcdefghijklmnopqrstuvwxyz" t)
  c_GREAT : ∃ t, mg "GREAT" = some (.str "ABCDEFGHIJKLMNOPQRSTUVWXYZ" t)
  c_DIGITS : ∃ t, mg "DIGITS" = some (.str "0123456789" t)
  D_SIGNS : Kd w K mg "SIGNS" [("pair", 2), ("seal", 2), ("lock", 2), ("mark", 1), ("open", 1), ("own", 1)]
  U_MAKEABLE : Ktu K mg "MAKEABLE" ["pair", "seal", "lock", "mark", "open"]
  U_SHUT : Ktu K mg "SHUT" ["seal", "lock"]
  F_is_word : Fh K mg "is_word" (top 13)
  F_is_unknown : Fh K mg "is_unknown" (top 14)
  F_is_name : Fh K mg "is_name" (top 15)
  F_atom_tree : Fh K mg "atom_tree" (top 16)
  F_parts_of : Fh K mg "parts_of" (top 19)
  F_atoms_of : Fh K mg "atoms_of" (top 20)
  F_filled_tree : Fh K mg "filled_tree" (top 21)
  F_tree_text : Fh K mg "tree_text" (top 22)
  F_is_plain : Fh K mg "is_plain" (top 26)
  F_partner : Fh K mg "partner" (top 30)
  F_undoing_key : Fh K mg "undoing_key" (top 31)
  F_is_made : Fh K mg "is_made" (top 32)
  F_halves_of : Fh K mg "halves_of" (top 33)
  F_opened_parts : Fh K mg "opened_parts" (top 34)
  F_granted : Fh K mg "granted" (top 36)
  F__law_stream : Fh K mg "_law_stream" (top 38)
  F__law_draw : Fh K mg "_law_draw" (top 39)
  F__law_pick : Fh K mg "_law_pick" (top 40)
  F__law_letter : Fh K mg "_law_letter" (top 41)
  F__law_parts : Fh K mg "_law_parts" (top 42)
  F__law_atoms : Fh K mg "_law_atoms" (top 43)
  F__law_small : Fh K mg "_law_small" (top 44)
  F__law_wishes_drawn : Fh K mg "_law_wishes_drawn" (top 45)
  F__law_wishes : Fh K mg "_law_wishes" (top 46)
  F__law_unknowns : Fh K mg "_law_unknowns" (top 47)
  F__law_granted : Fh K mg "_law_granted" (top 48)
  F__law_filled : Fh K mg "_law_filled" (top 49)
  F__law_opened : Fh K mg "_law_opened" (top 50)
  F__law_undoing : Fh K mg "_law_undoing" (top 51)
  F__law_can : Fh K mg "_law_can" (top 52)
  F__law_filling_drawn : Fh K mg "_law_filling_drawn" (top 53)
  g_RoadError : mg "RoadError" = some (.ref (He.ga K "RoadError"))
  r_RoadError : REx K (He.ga K "RoadError")
  X_BadAtom : Xh K mg "BadAtom" "text" "BadAtom.__init__" (inClass (top 3) 0)
  X_BadKey : Xh K mg "BadKey" "key" "BadKey.__init__" (inClass (top 5) 0)
  f_Letter : PySem.W.selfFirst K (He.ga K "Letter") = true
  Y_Letter : IsiC K (He.ga K "Letter")
  k_Letter : Cls K (He.ga K "Letter")
  g_Letter : mg "Letter" = some (.ref (He.ga K "Letter"))
  n_Letter_tree : NoAttr K (He.ga K "Letter") "tree"
  I_Letter : Ih K mg "Letter" "Letter.__init__" (inClass (top 25) 0) [.non]
  M_Letter_unknowns : Mh K "Letter" "unknowns" "Letter.unknowns" (inClass (top 25) 5)
  M_Letter_filled : Mh K "Letter" "filled" "Letter.filled" (inClass (top 25) 7)
  M_Letter_add : Mh K "Letter" "__add__" "Letter.__add__" (inClass (top 25) 8)
  M_Letter_mul : Mh K "Letter" "__mul__" "Letter.__mul__" (inClass (top 25) 9)
  M_Letter_xor : Mh K "Letter" "__xor__" "Letter.__xor__" (inClass (top 25) 10)
  M_Letter_invert : Mh K "Letter" "__invert__" "Letter.__invert__" (inClass (top 25) 11)
  M_Letter_pos : Mh K "Letter" "__pos__" "Letter.__pos__" (inClass (top 25) 12)
  M_Letter_neg : Mh K "Letter" "__neg__" "Letter.__neg__" (inClass (top 25) 13)
  M_Letter_eq : Mh K "Letter" "__eq__" "Letter.__eq__" (inClass (top 25) 14)
section
set_option maxHeartbeats 0
def nms0 : List PySem.Str := ["SMALL", "GREAT", "DIGITS", "SIGNS", "MAKEABLE", "SHUT", "is_word", "is_unknown", "is_name", "atom_tree", "parts_of", "atoms_of", "filled_tree", "tree_text", "is_plain", "partner", "undoing_key", "is_made", "halves_of", "opened_parts", "granted", "_law_stream", "_law_draw", "_law_pick", "_law_letter", "_law_parts", "_law_atoms", "_law_small", "_law_wishes_drawn", "_law_wishes"]
def nms1 : List PySem.Str := ["_law_unknowns", "_law_granted", "_law_filled", "_law_opened", "_law_undoing", "_law_can", "_law_filling_drawn", "law", "RoadError", "BadAtom", "BadKey", "Letter"]
def nms : List PySem.Str := nms0 ++ nms1
def d0 : He.DefD := ⟨("is_word", none), "is_word", "is_word", defArgs (top 13), defBody (top 13), defScope (top 13), [], []⟩
def d1 : He.DefD := ⟨("is_unknown", none), "is_unknown", "is_unknown", defArgs (top 14), defBody (top 14), defScope (top 14), [], []⟩
def d2 : He.DefD := ⟨("is_name", none), "is_name", "is_name", defArgs (top 15), defBody (top 15), defScope (top 15), [], []⟩
def d3 : He.DefD := ⟨("atom_tree", none), "atom_tree", "atom_tree", defArgs (top 16), defBody (top 16), defScope (top 16), [], []⟩
def d4 : He.DefD := ⟨("parts_of", none), "parts_of", "parts_of", defArgs (top 19), defBody (top 19), defScope (top 19), [], []⟩
def d5 : He.DefD := ⟨("atoms_of", none), "atoms_of", "atoms_of", defArgs (top 20), defBody (top 20), defScope (top 20), [], []⟩
def d6 : He.DefD := ⟨("filled_tree", none), "filled_tree", "filled_tree", defArgs (top 21), defBody (top 21), defScope (top 21), [], []⟩
def d7 : He.DefD := ⟨("tree_text", none), "tree_text", "tree_text", defArgs (top 22), defBody (top 22), defScope (top 22), [], []⟩
def d8 : He.DefD := ⟨("is_plain", none), "is_plain", "is_plain", defArgs (top 26), defBody (top 26), defScope (top 26), [], []⟩
def d9 : He.DefD := ⟨("partner", none), "partner", "partner", defArgs (top 30), defBody (top 30), defScope (top 30), [], []⟩
def d10 : He.DefD := ⟨("undoing_key", none), "undoing_key", "undoing_key", defArgs (top 31), defBody (top 31), defScope (top 31), [], []⟩
def d11 : He.DefD := ⟨("is_made", none), "is_made", "is_made", defArgs (top 32), defBody (top 32), defScope (top 32), [], []⟩
def d12 : He.DefD := ⟨("halves_of", none), "halves_of", "halves_of", defArgs (top 33), defBody (top 33), defScope (top 33), [], []⟩
def d13 : He.DefD := ⟨("opened_parts", none), "opened_parts", "opened_parts", defArgs (top 34), defBody (top 34), defScope (top 34), [], []⟩
def d14 : He.DefD := ⟨("granted", none), "granted", "granted", defArgs (top 36), defBody (top 36), defScope (top 36), [], []⟩
def d15 : He.DefD := ⟨("_law_stream", none), "_law_stream", "_law_stream", defArgs (top 38), defBody (top 38), defScope (top 38), [], []⟩
def d16 : He.DefD := ⟨("_law_draw", none), "_law_draw", "_law_draw", defArgs (top 39), defBody (top 39), defScope (top 39), [], []⟩
def d17 : He.DefD := ⟨("_law_pick", none), "_law_pick", "_law_pick", defArgs (top 40), defBody (top 40), defScope (top 40), [], []⟩
def d18 : He.DefD := ⟨("_law_letter", none), "_law_letter", "_law_letter", defArgs (top 41), defBody (top 41), defScope (top 41), [], []⟩
def d19 : He.DefD := ⟨("_law_parts", none), "_law_parts", "_law_parts", defArgs (top 42), defBody (top 42), defScope (top 42), [], []⟩
def d20 : He.DefD := ⟨("_law_atoms", none), "_law_atoms", "_law_atoms", defArgs (top 43), defBody (top 43), defScope (top 43), [], []⟩
def d21 : He.DefD := ⟨("_law_small", none), "_law_small", "_law_small", defArgs (top 44), defBody (top 44), defScope (top 44), [], []⟩
def d22 : He.DefD := ⟨("_law_wishes_drawn", none), "_law_wishes_drawn", "_law_wishes_drawn", defArgs (top 45), defBody (top 45), defScope (top 45), [], []⟩
def d23 : He.DefD := ⟨("_law_wishes", none), "_law_wishes", "_law_wishes", defArgs (top 46), defBody (top 46), defScope (top 46), [], []⟩
def d24 : He.DefD := ⟨("_law_unknowns", none), "_law_unknowns", "_law_unknowns", defArgs (top 47), defBody (top 47), defScope (top 47), [], []⟩
def d25 : He.DefD := ⟨("_law_granted", none), "_law_granted", "_law_granted", defArgs (top 48), defBody (top 48), defScope (top 48), [], []⟩
def d26 : He.DefD := ⟨("_law_filled", none), "_law_filled", "_law_filled", defArgs (top 49), defBody (top 49), defScope (top 49), [], []⟩
def d27 : He.DefD := ⟨("_law_opened", none), "_law_opened", "_law_opened", defArgs (top 50), defBody (top 50), defScope (top 50), [], []⟩
def d28 : He.DefD := ⟨("_law_undoing", none), "_law_undoing", "_law_undoing", defArgs (top 51), defBody (top 51), defScope (top 51), [], []⟩
def d29 : He.DefD := ⟨("_law_can", none), "_law_can", "_law_can", defArgs (top 52), defBody (top 52), defScope (top 52), [], []⟩
def d30 : He.DefD := ⟨("_law_filling_drawn", none), "_law_filling_drawn", "_law_filling_drawn", defArgs (top 53), defBody (top 53), defScope (top 53), [], []⟩
def d31 : He.DefD := ⟨("law", none), "law", "law", defArgs (top 54), defBody (top 54), defScope (top 54), [], []⟩
def d32 : He.DefD := ⟨("BadAtom", some "__init__"), "__init__", "BadAtom.__init__", defArgs (inClass (top 3) 0), defBody (inClass (top 3) 0), defScope (inClass (top 3) 0), [], []⟩
def d33 : He.DefD := ⟨("BadKey", some "__init__"), "__init__", "BadKey.__init__", defArgs (inClass (top 5) 0), defBody (inClass (top 5) 0), defScope (inClass (top 5) 0), [], []⟩
def d34 : He.DefD := ⟨("Letter", some "__init__"), "__init__", "Letter.__init__", defArgs (inClass (top 25) 0), defBody (inClass (top 25) 0), defScope (inClass (top 25) 0), [.non], []⟩
def d35 : He.DefD := ⟨("Letter", some "unknowns"), "unknowns", "Letter.unknowns", defArgs (inClass (top 25) 5), defBody (inClass (top 25) 5), defScope (inClass (top 25) 5), [], []⟩
def d36 : He.DefD := ⟨("Letter", some "filled"), "filled", "Letter.filled", defArgs (inClass (top 25) 7), defBody (inClass (top 25) 7), defScope (inClass (top 25) 7), [], []⟩
def d37 : He.DefD := ⟨("Letter", some "__add__"), "__add__", "Letter.__add__", defArgs (inClass (top 25) 8), defBody (inClass (top 25) 8), defScope (inClass (top 25) 8), [], []⟩
def d38 : He.DefD := ⟨("Letter", some "__mul__"), "__mul__", "Letter.__mul__", defArgs (inClass (top 25) 9), defBody (inClass (top 25) 9), defScope (inClass (top 25) 9), [], []⟩
def d39 : He.DefD := ⟨("Letter", some "__xor__"), "__xor__", "Letter.__xor__", defArgs (inClass (top 25) 10), defBody (inClass (top 25) 10), defScope (inClass (top 25) 10), [], []⟩
def d40 : He.DefD := ⟨("Letter", some "__invert__"), "__invert__", "Letter.__invert__", defArgs (inClass (top 25) 11), defBody (inClass (top 25) 11), defScope (inClass (top 25) 11), [], []⟩
def d41 : He.DefD := ⟨("Letter", some "__pos__"), "__pos__", "Letter.__pos__", defArgs (inClass (top 25) 12), defBody (inClass (top 25) 12), defScope (inClass (top 25) 12), [], []⟩
def d42 : He.DefD := ⟨("Letter", some "__neg__"), "__neg__", "Letter.__neg__", defArgs (inClass (top 25) 13), defBody (inClass (top 25) 13), defScope (inClass (top 25) 13), [], []⟩
def d43 : He.DefD := ⟨("Letter", some "__eq__"), "__eq__", "Letter.__eq__", defArgs (inClass (top 25) 14), defBody (inClass (top 25) 14), defScope (inClass (top 25) 14), [], []⟩
def fa0 : List He.Fa := [.free "len", .free "all", .free "abs", .free "int", .free "list", .free "tuple", .free "range", .free "isinstance", .free "sorted", .free "set", .free "dict", .str "SMALL" "abcdefghijklmnopqrstuvwxyz", .str "GREAT" "ABCDEFGHIJKLMNOPQRSTUVWXYZ", .str "DIGITS" "0123456789", .glo "SIGNS", .glo "MAKEABLE", .glo "SHUT", .glo "is_word", .glo "is_unknown", .glo "is_name", .glo "atom_tree", .glo "parts_of", .glo "atoms_of", .glo "filled_tree", .glo "tree_text", .glo "is_plain", .glo "partner", .glo "undoing_key", .glo "is_made", .glo "halves_of"]
def fa1 : List He.Fa := [.glo "opened_parts", .glo "granted", .glo "_law_stream", .glo "_law_draw", .glo "_law_pick", .glo "_law_letter", .glo "_law_parts", .glo "_law_atoms", .glo "_law_small", .glo "_law_wishes_drawn", .glo "_law_wishes", .glo "_law_unknowns", .glo "_law_granted", .glo "_law_filled", .glo "_law_opened", .glo "_law_undoing", .glo "_law_can", .glo "_law_filling_drawn", .glo "law", .glo "RoadError", .glo "BadAtom", .exm "BadAtom" "BadAtom" true, .meth "BadAtom" "__init__", .noat "BadAtom" "text", .glo "BadKey", .exm "BadKey" "BadKey" true, .meth "BadKey" "__init__", .noat "BadKey" "key", .glo "Letter", .cls "Letter"]
def fa2 : List He.Fa := [.noat "Letter" "tree", .mkr "Letter", .meth "Letter" "unknowns", .meth "Letter" "filled", .meth "Letter" "__add__", .meth "Letter" "__mul__", .meth "Letter" "__xor__", .meth "Letter" "__invert__", .meth "Letter" "__pos__", .meth "Letter" "__neg__", .meth "Letter" "__eq__"]
def fa : List He.Fa := fa0 ++ fa1 ++ fa2
def fn0 : List He.DefD := [d0, d1, d2, d3, d4, d5, d6, d7, d8, d9, d10, d11, d12, d13, d14, d15, d16, d17, d18, d19, d20, d21, d22, d23, d24, d25, d26, d27, d28, d29]
def fn1 : List He.DefD := [d30, d31, d32, d33, d34, d35, d36, d37, d38, d39, d40, d41, d42, d43]
def fn : List He.DefD := fn0 ++ fn1
def loo0 : List PySem.Str := ["_wall", "RoadError", "BadAtom", "BadForm", "BadKey", "BadText", "BadFilling", "SMALL", "GREAT", "DIGITS", "SIGNS", "is_word", "is_unknown", "is_name", "atom_tree", "is_atom_form", "check_form", "parts_of", "atoms_of", "filled_tree", "tree_text", "made_tree", "Reader", "Letter", "is_plain", "MAKEABLE", "SHUT", "partner", "undoing_key", "is_made"]
def loo1 : List PySem.Str := ["halves_of", "opened_parts", "granted", "_law_stream", "_law_draw", "_law_pick", "_law_letter", "_law_parts", "_law_atoms", "_law_small", "_law_wishes_drawn", "_law_wishes", "_law_unknowns", "_law_granted", "_law_filled", "_law_opened", "_law_undoing", "_law_can", "_law_filling_drawn"]
def loo : List PySem.Str := loo0 ++ loo1
def fs : List He5.DefA := []
def ts : List He.Tab := [(fun K => He.ga K "SIGNS", ["pair", "seal", "lock", "mark", "open", "own"])]
def exl (K : PySem.W.Frag) : List Bool := [kdB K (He.ga K "SIGNS") [("pair", 2), ("seal", 2), ("lock", 2), ("mark", 1), ("open", 1), ("own", 1)], ktB K (He.ga K "MAKEABLE") ["pair", "seal", "lock", "mark", "open"], ktB K (He.ga K "SHUT") ["seal", "lock"], rexB K "RoadError", oexB K "BadAtom", xfB K (He.ga K "BadAtom"), oexB K "BadKey", xfB K (He.ga K "BadKey"), PySem.W.selfFirst K (He.ga K "Letter"), isiB K (He.ga K "Letter")]
def exq : PySem.W.Frag → Bool := fun K => (exl K).all id
theorem exl_ok {K : PySem.W.Frag} (h : exq K = true) (i : Nat) {b : Bool} (e : (exl K)[i]? = some b) : b = true := List.all_eq_true.mp h b (List.mem_of_getElem? e)
abbrev R : PySem.W.OpenRow := PySem.W.OpenLaw.row PySem.Challenge.rw_openroads_k18_wishes_granted
abbrev hk : PySem.W.Hook := hookN nms 5 fa fn ts exq fs
def ob (s : PySem.W.SharedT) : AlZ := obsN nms 5 fa fn ts exq fs (HandSHeadRun.getT s)
theorem ob_eq (s : PySem.W.SharedT) : ob s = hk.obs s.abs := obsN_eq (HandSHeadRun.getT_eq s)
abbrev qv : Program := PySem.W.view R.prog [54]
theorem join3 {α β γ δ : Type _} {o : Option α} {f : α → β} {g : α → γ} {h : α → δ} {a : β} {b : γ} {c : δ} (e1 : o.map f = some a) (e2 : o.map g = some b) (e3 : o.map h = some c) : o.map (fun s => (f s, g s, h s)) = some (a, b, c) := by
  cases o with
  | none => cases e1
  | some s =>
    cases e1
    cases e2
    cases e3
    rfl
open PySem PySem.W PySem.Calls PyProof.Rows HandSHeadRun in
theorem run0a (w : World) (os : OsState) : (HandSHeadRun.endF (HandSHeadRun.stepQ (HandSHeadRun.denQ HandSHeadRun.tabQ) R.prog (w.withFollow "special-get-raises" false)) 8000 R.prog (w.withFollow "special-get-raises" false) os).map (fun s => looksF R.prog (boot_heap (w.withFollow "special-get-raises" false).params) s.abs) = some true := by
  kernel_rfl
open PySem PySem.W PySem.Calls PyProof.Rows HandSHeadRun in
theorem run0b (w : World) (os : OsState) : (HandSHeadRun.endF (HandSHeadRun.stepQ (HandSHeadRun.denQ HandSHeadRun.tabQ) R.prog (w.withFollow "special-get-raises" false)) 8000 R.prog (w.withFollow "special-get-raises" false) os).map (fun s => seenQ qv loo (importedModules R.prog.main.body) (fun s => xlAt qv [] s && recOk R.toRowW.records s) s.abs) = some (openGood qv loo) := by
  kernel_rfl
open PySem PySem.W PySem.Calls PyProof.Rows HandSHeadRun in
theorem run0c (w : World) (os : OsState) : (HandSHeadRun.endF (HandSHeadRun.stepQ (HandSHeadRun.denQ HandSHeadRun.tabQ) R.prog (w.withFollow "special-get-raises" false)) 8000 R.prog (w.withFollow "special-get-raises" false) os).map ob = some (hk.val (w.withFollow "special-get-raises" false)) := by
  kernel_rfl
theorem run0 (w : World) : HandSHeadRun.RunEq R qv hk ob 8000 loo (w.withFollow "special-get-raises" false) := fun os => join3 (run0a w os) (run0b w os) (run0c w os)
open PySem PySem.W PySem.Calls PyProof.Rows HandSHeadRun in
theorem run1a (w : World) (os : OsState) : (HandSHeadRun.endF (HandSHeadRun.stepQ (HandSHeadRun.denQ HandSHeadRun.tabQ) R.prog (w.withFollow "special-get-raises" true)) 8000 R.prog (w.withFollow "special-get-raises" true) os).map (fun s => looksF R.prog (boot_heap (w.withFollow "special-get-raises" true).params) s.abs) = some true := by
  kernel_rfl
open PySem PySem.W PySem.Calls PyProof.Rows HandSHeadRun in
theorem run1b (w : World) (os : OsState) : (HandSHeadRun.endF (HandSHeadRun.stepQ (HandSHeadRun.denQ HandSHeadRun.tabQ) R.prog (w.withFollow "special-get-raises" true)) 8000 R.prog (w.withFollow "special-get-raises" true) os).map (fun s => seenQ qv loo (importedModules R.prog.main.body) (fun s => xlAt qv [] s && recOk R.toRowW.records s) s.abs) = some (openGood qv loo) := by
  kernel_rfl
open PySem PySem.W PySem.Calls PyProof.Rows HandSHeadRun in
theorem run1c (w : World) (os : OsState) : (HandSHeadRun.endF (HandSHeadRun.stepQ (HandSHeadRun.denQ HandSHeadRun.tabQ) R.prog (w.withFollow "special-get-raises" true)) 8000 R.prog (w.withFollow "special-get-raises" true) os).map ob = some (hk.val (w.withFollow "special-get-raises" true)) := by
  kernel_rfl
theorem run1 (w : World) : HandSHeadRun.RunEq R qv hk ob 8000 loo (w.withFollow "special-get-raises" true) := fun os => join3 (run1a w os) (run1b w os) (run1c w os)
theorem run (w : World) : HandSHeadRun.RunEq R qv hk ob 8000 loo w := PySem.W.byRow2 "special-get-raises" (P := fun w => HandSHeadRun.RunEq R qv hk ob 8000 loo w) run0 run1 w
end
end Rd
namespace Rd
open PySem L2
def SMALL : Str := "abcdefghijklmnopqrstuvwxyz"
def GREAT : Str := "ABCDEFGHIJKLMNOPQRSTUVWXYZ"
def DIGITS : Str := "0123456789"
def inS (s : Str) (c : Nat) : Bool := decide (c ∈ s.cps.toList)
def isWord (z : Str) : Bool := decide (1 ≤ z.length) && (decide (z.length ≤ 8) && z.cps.toList.all (inS SMALL))
def isUnk (z : Str) : Bool := isWord z && decide (z.length ≤ 7)
def isName (z : Str) : Bool := decide (1 ≤ (Txt.rstripChars z DIGITS).length) && (decide (z.length ≤ 8) && (Txt.rstripChars z DIGITS).cps.toList.all (inS GREAT))
theorem lineBig : 200000 ≤ sizeLine := by decide
theorem allId (l : List Nat) (p : Nat → Bool) : (l.map p).all id = l.all p := by simp [List.all_map]
theorem decNat {a b : Nat} : decide ((a : Int) ≤ (b : Int)) = decide (a ≤ b) := by
  by_cases h : a ≤ b
  · rw [decide_eq_true h, decide_eq_true (by omega)]
  · rw [decide_eq_false h, decide_eq_false (by omega)]
def spTB (f : Str → Bool) : Sp := fun vs H Q _ => ∃ z : Str, vs = [.str z] ∧ z.length ≤ 200000 ∧ ∀ H', Same H H' → Q (.bl (f z)) H'
section
variable {P : Program} {w : World} {K : PySem.W.Frag} {mg : Str → Option Value} {base : Heap}
abbrev s_is_word : Stmt := top 13
theorem sc_is_word : FnScope ["text", "sign"] ["text"] (defScope s_is_word) := ⟨rfl, rfl, rfl, by decide +kernel, rfl, by decide +kernel, by decide +kernel⟩
theorem ok_is_word (T : Tx w K mg) : Fk P w K mg base CX0 1 "is_word" ["text"] (spTB isWord) := by
  refine T.F_is_word.ok0 sc_is_word (fun _ _ _ _ _ _ us hl => match us, hl with | [_], _ => rfl)
    (fun vs H Q E h => ?_) (fun cdv A outer s H vs Q E hr h => ?_)
  · obtain ⟨z, rfl, _⟩ := h
    rfl
  · obtain ⟨z, rfl, hz, k⟩ := h
    have hl : z.length ≤ sizeLine := Nat.le_trans hz lineBig
    refine ⟨_, (pss_one (ps_ret (pe_and (pe_chain op_le op_le pe_int (pe_callB call_len_str (by rfl) T.z_len (by decide +kernel) (pa_cons (pv 0) pa_nil)) pe_int) (pe_one (pe_callB (cr_all rfl) (by rfl) T.z_all (by decide +kernel) (pa_cons (pe_lc (own := [("sign", 1)]) (g := gName 1) (tt := tYes) (by rfl) sc_is_word.nd (pi_str (pv 0)) (blkOk_by (own := [("sign", 1)]) (N := ["text", "sign"]) (sc := defScope s_is_word) (by decide +kernel)) (fun _ _ _ _ _ => (pg_name (i := 1) sc_is_word.nd rfl (Or.inl rfl))) (fun _ _ _ _ _ => pts_nil) (fun _ _ _ _ _ => (pe_cmpR op_in_sign (pv 1) (pe_gstr T.c_SMALL) (by rfl)))) pa_nil)))))), ?_⟩
    refine ⟨_, rfl, z, rfl, hl, _, _, rfl, rfl, _, rfl, ?_⟩
    refine ite2 (fun h1 => ?_) (fun h1 => ⟨false, rfl, ?_⟩)
    · refine ⟨_, _, rfl, rfl, _, rfl, ?_⟩
      refine ite2 (fun h2 => ?_) (fun h2 => ?_)
      · refine ⟨_, rfl, z, rfl, fun D hD => lcs (f := fun c => V.bl (inS SMALL c)) hl (fun c H Q hc q => ⟨_, rfl, _, _, rfl, rfl, q⟩) ?_⟩
        refine ⟨D, z.cps.toList.map (inS SMALL), rfl, SqL.of (by rw [upd_same, List.map_map]; rfl), ?_⟩
        have e : isWord z = (z.cps.toList.map (inS SMALL)).all id := by
          have a1 : decide (1 ≤ z.length) = true := decide_eq_true (by have := of_decide_eq_true h1; omega)
          have a2 : decide (z.length ≤ 8) = true := decide_eq_true (by have := of_decide_eq_true h2; omega)
          rw [isWord, a1, a2, allId] <;> rfl
        show Q (V.bl ((z.cps.toList.map (inS SMALL)).all id)) _
        rw [← e]
        exact k _ (Rd.Same.upd hD)
      · have e : isWord z = false := by
          have a2 : decide (z.length ≤ 8) = false := decide_eq_false (fun q => h2 (decide_eq_true (by omega)))
          rw [isWord, a2] <;> simp
        show Q (V.bl false) _
        rw [← e]
        exact k _ (Same.refl _)
    · have e : isWord z = false := by
        have a1 : decide (1 ≤ z.length) = false := decide_eq_false (fun q => h1 (decide_eq_true (by omega)))
        rw [isWord, a1] <;> rfl
      show Q (V.bl false) _
      rw [← e]
      exact k _ (Same.refl _)
abbrev s_is_unknown : Stmt := top 14
theorem sc_is_unknown : FnScope ["text"] ["text"] (defScope s_is_unknown) := ⟨rfl, rfl, rfl, by decide +kernel, rfl, by decide +kernel, by decide +kernel⟩
theorem ok_is_unknown (T : Tx w K mg) : Fk P w K mg base CX0 2 "is_unknown" ["text"] (spTB isUnk) := by
  refine T.F_is_unknown.ok0 sc_is_unknown (fun _ _ _ _ _ _ us hl => match us, hl with | [_], _ => rfl)
    (fun vs H Q E h => ?_) (fun cdv A outer s H vs Q E hr h => ?_)
  · obtain ⟨z, rfl, _⟩ := h
    rfl
  · obtain ⟨z, rfl, hz, k⟩ := h
    have hl : z.length ≤ sizeLine := Nat.le_trans hz lineBig
    refine ⟨_, (pss_one (ps_ret (pe_and (pe_fk (ok_is_word T) (hr.mono (by omega)) rfl pass0 (pa_cons (pv 0) pa_nil)) (pe_one (pe_cmpR op_le (pe_callB call_len_str (by rfl) T.z_len (by decide +kernel) (pa_cons (pv 0) pa_nil)) pe_int (nomark _)))))), ?_⟩
    refine ⟨_, rfl, z, rfl, hz, fun H1 s1 => ⟨_, rfl, ?_⟩⟩
    refine ite2 (fun h1 => ?_) (fun h1 => ?_)
    · refine ⟨_, rfl, z, rfl, hl, _, _, rfl, rfl, ?_⟩
      have e : isUnk z = decide ((z.length : Int) ≤ 7) := by
        rw [isUnk, h1]
        exact (decNat (b := 7)).symm
      show Q (V.bl (decide ((z.length : Int) ≤ 7))) _
      rw [← e]
      exact k _ s1
    · have e : isUnk z = false := by
        rw [isUnk, Bool.eq_false_iff.mpr h1] <;> rfl
      show Q (V.bl false) _
      rw [← e]
      exact k _ s1
abbrev s_is_name : Stmt := top 15
theorem sc_is_name : FnScope ["text", "letters", "sign"] ["text"] (defScope s_is_name) := ⟨rfl, rfl, rfl, by decide +kernel, rfl, by decide +kernel, by decide +kernel⟩
theorem ok_is_name (T : Tx w K mg) : Fk P w K mg base CX0 1 "is_name" ["text"] (spTB isName) := by
  refine T.F_is_name.ok0 sc_is_name (fun _ _ _ _ _ _ us hl => match us, hl with | [_], _ => rfl)
    (fun vs H Q E h => ?_) (fun cdv A outer s H vs Q E hr h => ?_)
  · obtain ⟨z, rfl, _⟩ := h
    rfl
  · obtain ⟨z, rfl, hz, k⟩ := h
    have hl : z.length ≤ sizeLine := Nat.le_trans hz lineBig
    refine ⟨_, (pss_cons (ps_set (i := 1) sc_is_name.nd rfl (Or.inl rfl) (pe_bm PySem.F.plainAttrs_str PySem.F.slot_str_rstrip PySem.F.type_str_rstrip mt_rstripChars (pv 0) (pa_cons (pe_gstr T.c_DIGITS) pa_nil)))
  (pss_one (ps_ret (pe_and (pe_cmpR op_le pe_int (pe_callB call_len_str (by rfl) T.z_len (by decide +kernel) (pa_cons (pv 1) pa_nil)) (nomark _)) (pe_and (pe_cmpR op_le (pe_callB call_len_str (by rfl) T.z_len (by decide +kernel) (pa_cons (pv 0) pa_nil)) pe_int (nomark _)) (pe_one (pe_callB (cr_all rfl) (by rfl) T.z_all (by decide +kernel) (pa_cons (pe_lc (own := [("sign", 2)]) (g := gName 2) (tt := tYes) (by rfl) sc_is_name.nd (pi_str (pv 1)) (blkOk_by (own := [("sign", 2)]) (N := ["text", "letters", "sign"]) (sc := defScope s_is_name) (by decide +kernel)) (fun _ _ _ _ _ => (pg_name (i := 2) sc_is_name.nd rfl (Or.inl rfl))) (fun _ _ _ _ _ => pts_nil) (fun _ _ _ _ _ => (pe_cmpR op_in_sign (pv 2) (pe_gstr T.c_GREAT) (by rfl)))) pa_nil)))))))), ?_⟩
    have hl2 : (Txt.rstripChars z DIGITS).length ≤ sizeLine := Nat.le_trans (PyProof.Rows.len_rstripChars z DIGITS) hl
    refine ⟨_, rfl, rfl, z, DIGITS, rfl, rfl, hl, ?_⟩
    refine ⟨_, rfl, _, rfl, hl2, _, _, rfl, rfl, _, rfl, ?_⟩
    refine ite2 (fun h1 => ?_) (fun h1 => ?_)
    · refine ⟨_, rfl, z, rfl, hl, _, _, rfl, rfl, _, rfl, ?_⟩
      refine ite2 (fun h2 => ?_) (fun h2 => ?_)
      · refine ⟨_, rfl, _, rfl, fun D hD => lcs (f := fun c => V.bl (inS GREAT c)) hl2 (fun c H Q hc q => ⟨_, rfl, _, _, rfl, rfl, q⟩) ?_⟩
        refine ⟨D, (Txt.rstripChars z DIGITS).cps.toList.map (inS GREAT), rfl, SqL.of (by rw [upd_same, List.map_map]; rfl), ?_⟩
        have e : isName z = ((Txt.rstripChars z DIGITS).cps.toList.map (inS GREAT)).all id := by
          have a1 : decide (1 ≤ (Txt.rstripChars z DIGITS).length) = true := decide_eq_true (by have := of_decide_eq_true h1; omega)
          have a2 : decide (z.length ≤ 8) = true := decide_eq_true (by have := of_decide_eq_true h2; omega)
          rw [isName, a1, a2, allId] <;> rfl
        show Q (V.bl (((Txt.rstripChars z DIGITS).cps.toList.map (inS GREAT)).all id)) _
        rw [← e]
        exact k _ (Rd.Same.upd hD)
      · have e : isName z = false := by
          have a2 : decide (z.length ≤ 8) = false := decide_eq_false (fun q => h2 (decide_eq_true (by omega)))
          rw [isName, a2] <;> simp
        show Q (V.bl false) _
        rw [← e]
        exact k _ (Same.refl _)
    · have e : isName z = false := by
        have a1 : decide (1 ≤ (Txt.rstripChars z DIGITS).length) = false := decide_eq_false (fun q => h1 (decide_eq_true (by omega)))
        rw [isName, a1] <;> rfl
      show Q (V.bl false) _
      rw [← e]
      exact k _ (Same.refl _)
/-- text[1:] -/
def tailS (z : Str) : Str := cutS z (some 1) none
theorem cutS_from (z : Str) (a : Nat) : (cutS z (some (a : Int)) none).cps.toList = z.cps.toList.drop a := by
  show ((z.cps.toList.drop (HT.sIx z.length 0 (some (a : Int)))).take (z.length - HT.sIx z.length 0 (some (a : Int)))) = _
  have hs : z.cps.toList.length = z.length := by rw [Array.length_toList]; rfl
  rw [HT.sIx_nat, List.take_of_length_le (by rw [List.length_drop, hs]; exact Nat.le_refl _)]
  rcases Nat.le_total a z.length with h | h
  · rw [Nat.min_eq_left h]
  · rw [Nat.min_eq_right h, List.drop_of_length_le (by omega), List.drop_of_length_le (by omega)]
theorem len_list (z : Str) : z.length = z.cps.toList.length := by rw [Array.length_toList]; rfl
theorem tailS_list (z : Str) : (tailS z).cps.toList = z.cps.toList.drop 1 := cutS_from z 1
theorem tailS_len (z : Str) : (tailS z).length ≤ z.length := by
  rw [len_list, len_list, tailS_list, List.length_drop]
  omega
def atomOf (z : Str) : Option (Str × Str) := if isWord z = true then some ("word", z) else if isName z = true then some ("name", z) else if (Txt.startswith z "?" && isUnk (tailS z)) = true then some ("unknown", tailS z) else none
def sp_atom_tree : Sp := fun vs H Q _ => ∃ z : Str, vs = [.str z] ∧ z.length ≤ 200000 ∧ (∀ H', Same H H' → atomOf z = none → Q .non H') ∧ ∀ k x p H', Same H H' → atomOf z = some (k, x) → H p = none → H' p = some (.tup [.str k, .str x]) → Q (.ref p) H'
abbrev s_atom_tree : Stmt := top 16
theorem sc_atom_tree : FnScope ["text"] ["text"] (defScope s_atom_tree) := ⟨rfl, rfl, rfl, by decide +kernel, rfl, by decide +kernel, by decide +kernel⟩
theorem ok_atom_tree (T : Tx w K mg) : Fk P w K mg base CX0 3 "atom_tree" ["text"] sp_atom_tree := by
  refine T.F_atom_tree.ok0 sc_atom_tree (fun _ _ _ _ _ _ us hl => match us, hl with | [_], _ => rfl)
    (fun vs H Q E h => ?_) (fun cdv A outer s H vs Q E hr h => ?_)
  · obtain ⟨z, rfl, _⟩ := h
    rfl
  · obtain ⟨z, rfl, hz, k0, k1⟩ := h
    have hl : z.length ≤ sizeLine := Nat.le_trans hz lineBig
    have hz2 : (tailS z).length ≤ 200000 := Nat.le_trans (tailS_len z) hz
    refine ⟨_, (pss_cons (ps_if (pt_val (pe_fk (ok_is_word T) (hr.mono (by omega)) rfl pass0 (pa_cons (pv 0) pa_nil)))
  (pss_one (ps_ret (pe_tup (pa_cons pe_str (pa_cons (pv 0) pa_nil)))))
  pss_nil)
  (pss_cons (ps_if (pt_val (pe_fk (ok_is_name T) (hr.mono (by omega)) rfl pass0 (pa_cons (pv 0) pa_nil)))
  (pss_one (ps_ret (pe_tup (pa_cons pe_str (pa_cons (pv 0) pa_nil)))))
  pss_nil)
  (pss_cons (ps_if (PW.pt (pw_and (pt_val (pe_bm PySem.F.plainAttrs_str PySem.F.slot_str_startswith PySem.F.type_str_startswith mt_startswith (pv 0) (pa_cons pe_str pa_nil))) (pw_and1 (pt_val (pe_fk (ok_is_unknown T) (hr.mono (by omega)) rfl pass0 (pa_cons (pe_slice sl_str (pv 0) (po_some pe_int) po_none) pa_nil))))))
  (pss_one (ps_ret (pe_tup (pa_cons pe_str (pa_cons (pe_slice sl_str (pv 0) (po_some pe_int) po_none) pa_nil)))))
  pss_nil)
  (pss_one (ps_ret pe_non))))), ?_⟩
    refine ⟨_, rfl, z, rfl, hz, fun H1 s1 => ⟨_, rfl, ite2 (fun h1 => ?_) (fun h1 => ?_)⟩⟩
    · refine ⟨_, rfl, (by show 2 ≤ sizeLine; decide), fun p hp => ?_⟩
      exact k1 _ _ p _ (Rd.Same.upd' s1 hp) (by rw [atomOf, if_pos h1]) (s1.free hp) upd_same
    · refine ⟨_, rfl, z, rfl, hz, fun H2 s2 => ⟨_, rfl, ite2 (fun h2 => ?_) (fun h2 => ?_)⟩⟩
      · refine ⟨_, rfl, (by show 2 ≤ sizeLine; decide), fun p hp => ?_⟩
        exact k1 _ _ p _ (Rd.Same.upd' (s1.trans s2) hp) (by rw [atomOf, if_neg h1, if_pos h2]) ((s1.trans s2).free hp) upd_same
      · refine ⟨_, rfl, rfl, z, "?", rfl, rfl, _, rfl, ite2 (fun h3 => ?_) (fun h3 => ?_)⟩
        · refine ⟨_, rfl, _, rfl, z, rfl, hl, tailS z, rfl, hz2, fun H3 s3 => ⟨_, rfl, ite2 (fun h4 => ?_) (fun h4 => ?_)⟩⟩
          · refine ⟨_, rfl, _, rfl, z, rfl, hl, (by show 2 ≤ sizeLine; decide), fun p hp => ?_⟩
            exact k1 _ _ p _ (Rd.Same.upd' ((s1.trans s2).trans s3) hp) (by rw [atomOf, if_neg h1, if_neg h2, if_pos (by rw [h3, h4]; rfl)]; rfl) (((s1.trans s2).trans s3).free hp) upd_same
          · exact k0 _ ((s1.trans s2).trans s3) (by rw [atomOf, if_neg h1, if_neg h2, if_neg (by rw [Bool.eq_false_iff.mpr h4]; simp)])
        · exact k0 _ (s1.trans s2) (by rw [atomOf, if_neg h1, if_neg h2, if_neg (by rw [Bool.eq_false_iff.mpr h3]; simp)])
end
end Rd
namespace Rd
open PySem L2
theorem str_ext {a b : Str} (h : a.cps.toList = b.cps.toList) : a = b := by
  obtain ⟨⟨a⟩⟩ := a
  obtain ⟨⟨b⟩⟩ := b
  have e : a = b := h
  rw [e]
theorem app_list (a b : Str) : (a ++ b).cps.toList = a.cps.toList ++ b.cps.toList := by
  show (a.cps ++ b.cps).toList = _
  rw [Array.toList_append]
theorem contains_in (s : Str) (c : Nat) : s.cps.contains c = inS s c := by
  unfold inS
  rw [Bool.eq_iff_iff, decide_eq_true_iff, Array.contains_iff_mem]
  exact Array.mem_def
theorem rstrip_list (z s : Str) : (Txt.rstripChars z s).cps.toList = (z.cps.toList.reverse.dropWhile (inS s)).reverse := by
  have e0 : s.cps.contains = inS s := funext (contains_in s)
  show (Txt.stripBy s.cps.contains false true z).cps.toList = _
  rw [PyProof.Rows.stripBy_eq, e0]
  show (z.cps.extract 0 (z.length - ((z.cps.toList.drop 0).reverse.takeWhile (inS s)).length)).toList = _
  rw [List.drop_zero, len_list]
  generalize z.cps = a
  obtain ⟨l⟩ := a
  rw [List.extract_toArray]
  show (l.extract 0 (l.length - (l.reverse.takeWhile (inS s)).length)) = (l.reverse.dropWhile (inS s)).reverse
  rw [List.extract_eq_drop_take, List.drop_zero, Nat.sub_zero]
  have e1 : l.reverse = l.reverse.takeWhile (inS s) ++ l.reverse.dropWhile (inS s) := (List.takeWhile_append_dropWhile).symm
  have e2 : l = (l.reverse.dropWhile (inS s)).reverse ++ (l.reverse.takeWhile (inS s)).reverse := by
    have := congrArg List.reverse e1
    rw [List.reverse_reverse, List.reverse_append] at this
    exact this
  have e3 : l.length = (l.reverse.dropWhile (inS s)).length + (l.reverse.takeWhile (inS s)).length := by
    have := congrArg List.length e2
    rw [List.length_append, List.length_reverse, List.length_reverse] at this
    exact this
  rw [e3, Nat.add_sub_cancel]
  have key : ∀ (A B : List Nat), l = A.reverse ++ B.reverse → l.take A.length = A.reverse := fun A B q => by
    rw [q, List.take_append_of_le_length (by rw [List.length_reverse]; exact Nat.le_refl _), List.take_of_length_le (by rw [List.length_reverse]; exact Nat.le_refl _)]
  exact key _ _ e2
theorem starts_q (z : Str) : Txt.startswith z "?" = true ↔ ∃ r, z.cps.toList = 63 :: r := by
  show (decide (0 + ("?" : Str).length ≤ z.length) && (z.cps.extract 0 (0 + ("?" : Str).length) == ("?" : Str).cps)) = true ↔ _
  have e1 : ("?" : Str).length = 1 := by decide
  have e2 : ("?" : Str).cps = #[63] := by decide +kernel
  rw [e1, e2, len_list]
  generalize z.cps = a
  obtain ⟨l⟩ := a
  cases l with
  | nil => simp
  | cons c r =>
    constructor
    · intro h
      obtain ⟨_, h2⟩ := He.ba h
      have h3 : (⟨c :: r⟩ : Array Nat).extract 0 1 = #[63] := eq_of_beq h2
      have h4 := congrArg Array.toList h3
      simp at h4
      exact ⟨r, by rw [h4]⟩
    · rintro ⟨r', e⟩
      have e' : c :: r = 63 :: r' := e
      injection e' with e3 e4
      subst e3
      simp
theorem disj {c : Nat} (h : inS GREAT c = true) : inS DIGITS c = false := by
  have h1 : c ∈ GREAT.cps.toList := of_decide_eq_true h
  have h2 : GREAT.cps.toList.all (fun c => !inS DIGITS c) = true := by decide +kernel
  have h3 := List.all_eq_true.mp h2 c h1
  simpa using h3
theorem disj2 {c : Nat} (h : inS DIGITS c = true) : inS GREAT c = false := by
  cases e : inS GREAT c with
  | false => rfl
  | true => rw [disj e] at h; cases h
theorem dropAll {p : Nat → Bool} : ∀ (l : List Nat), (∀ c ∈ l, p c = true) → l.dropWhile p = []
  | [], _ => rfl
  | a :: r, h => by
    rw [List.dropWhile_cons, if_pos (h a List.mem_cons_self)]
    exact dropAll r fun c hc => h c (List.mem_cons_of_mem _ hc)
theorem name_iff (l : List Nat) : (1 ≤ ((l.reverse.dropWhile (inS DIGITS)).reverse).length ∧ ((l.reverse.dropWhile (inS DIGITS)).reverse).all (inS GREAT) = true) ↔
    ((0 < (l.filter (inS GREAT)).length ∧ (l.take (l.filter (inS GREAT)).length).all (inS GREAT) = true) ∧ (l.drop (l.filter (inS GREAT)).length).all (inS DIGITS) = true) := by
  have e1 : l.reverse = l.reverse.takeWhile (inS DIGITS) ++ l.reverse.dropWhile (inS DIGITS) := (List.takeWhile_append_dropWhile).symm
  have e2 : l = (l.reverse.dropWhile (inS DIGITS)).reverse ++ (l.reverse.takeWhile (inS DIGITS)).reverse := by
    have := congrArg List.reverse e1
    rw [List.reverse_reverse, List.reverse_append] at this
    exact this
  have hD : ∀ c ∈ (l.reverse.takeWhile (inS DIGITS)).reverse, inS DIGITS c = true := fun c hc => by
    rw [List.mem_reverse] at hc
    have := List.all_takeWhile (p := inS DIGITS) (l := l.reverse)
    exact List.all_eq_true.mp this c hc
  constructor
  · rintro ⟨h1, h2⟩
    generalize (l.reverse.dropWhile (inS DIGITS)).reverse = A at e2 h1 h2
    generalize (l.reverse.takeWhile (inS DIGITS)).reverse = B at e2 hD
    subst e2
    have fA : A.filter (inS GREAT) = A := List.filter_eq_self.mpr fun c hc => List.all_eq_true.mp h2 c hc
    have fB : B.filter (inS GREAT) = [] := List.filter_eq_nil_iff.mpr fun c hc q => by rw [disj2 (hD c hc)] at q; cases q
    rw [List.filter_append, fA, fB, List.append_nil]
    refine ⟨⟨h1, ?_⟩, ?_⟩
    · rw [List.take_append_of_le_length (Nat.le_refl _), List.take_length]
      exact h2
    · rw [List.drop_append_of_le_length (Nat.le_refl _), List.drop_length, List.nil_append]
      exact List.all_eq_true.mpr hD
  · rintro ⟨⟨h1, h2⟩, h3⟩
    have hle := List.length_filter_le (inS GREAT) l
    generalize (l.filter (inS GREAT)).length = n at h1 h2 h3 hle
    have el : l = l.take n ++ l.drop n := (List.take_append_drop n l).symm
    have key : l.reverse.dropWhile (inS DIGITS) = (l.take n).reverse := by
      conv => lhs; rw [el]
      rw [List.reverse_append, List.dropWhile_append]
      have z1 : (l.drop n).reverse.dropWhile (inS DIGITS) = [] := by
        exact dropAll _ fun c hc => by
          rw [List.mem_reverse] at hc
          exact List.all_eq_true.mp h3 c hc
      rw [z1]
      simp only [List.isEmpty_nil, if_true]
      cases hr : (l.take n).reverse with
      | nil => rfl
      | cons c r =>
        have hc : c ∈ l.take n := by
          rw [← List.mem_reverse, hr]
          exact List.mem_cons_self
        rw [List.dropWhile_cons, if_neg]
        rw [disj (List.all_eq_true.mp h2 c hc)]
        decide
    rw [key, List.reverse_reverse, List.length_take]
    exact ⟨by omega, h2⟩
theorem isName_first {z : Str} (h : isName z = true) (q : Txt.startswith z "?" = true) : False := by
  obtain ⟨h1, h2⟩ := He.ba h
  obtain ⟨h3, h4⟩ := He.ba h2
  obtain ⟨r, e⟩ := (starts_q z).mp q
  have h1' := of_decide_eq_true h1
  rw [len_list, rstrip_list] at h1'
  rw [rstrip_list] at h4
  obtain ⟨⟨a1, a2⟩, a3⟩ := (name_iff z.cps.toList).mp ⟨h1', h4⟩
  rw [e] at a1 a2
  have hg : inS GREAT 63 = false := by decide +kernel
  generalize ((63 :: r).filter (inS GREAT)).length = n at a1 a2
  cases n with
  | zero => cases a1
  | succ n =>
    have := List.all_eq_true.mp a2 63 (by rw [List.take_succ_cons]; exact List.mem_cons_self)
    rw [hg] at this
    cases this
end Rd
namespace Rd
open PySem L2
/-- a stream's list, with n draws still in the bound -/
def StL (n : Nat) (xs : List V) : Prop := ∃ a b c : Int, xs = [.int a, .int b, .int c] ∧ 0 ≤ a ∧ 0 ≤ b ∧ b ≤ 1099511627776 ∧ 0 ≤ c ∧ c + n ≤ 1099511627776
theorem StL.mono {n m : Nat} {xs : List V} (h : StL n xs) (hm : m ≤ n) : StL m xs := by
  obtain ⟨a, b, c, e, h1, h2, h3, h4, h5⟩ := h
  exact ⟨a, b, c, e, h1, h2, h3, h4, by omega⟩
def sp_stream (K : PySem.W.Frag) : Sp := fun vs H Q _ => ∃ (a : Addr) (ns : List Int) (k : Int), vs = [.ref a, .int k] ∧ SqL K H a (ns.map V.int) ∧ ns.length ≤ 63 ∧ 0 ≤ k ∧ k ≤ 100 ∧
  ∀ p xs H', Same H H' → H p = none → H' p = some (.lst xs) → StL 1000000000 xs → Q (.ref p) H'
def sp_draw : Sp := fun vs H Q _ => ∃ (p : Addr) (xs : List V) (n : Nat) (m : Int), vs = [.ref p, .int m] ∧ H p = some (.lst xs) ∧ StL (n + 1) xs ∧ 0 < m ∧ m < 1073741824 ∧
  ∀ d ys, 0 ≤ d → d < m → StL n ys → Q (.int d) (upd H p (.lst ys))
def sp_pick (K : PySem.W.Frag) : Sp := fun vs H Q _ => ∃ (p a : Addr) (xs us : List V) (n : Nat), vs = [.ref p, .ref a] ∧ H p = some (.lst xs) ∧ StL (n + 1) xs ∧ SqL K H a us ∧ SqL K (upd H p (.lst [])) a us ∧ 0 < us.length ∧ us.length < 1073741824 ∧
  ∀ (j : Nat) v ys, us[j]? = some v → StL n ys → Q v (upd H p (.lst ys))
section
variable {P : Program} {w : World} {K : PySem.W.Frag} {mg : Str → Option Value} {base : Heap}
abbrev s__law_stream : Stmt := top 38
theorem sc__law_stream : FnScope ["_law_script", "_law_k", "_law_cell"] ["_law_script", "_law_k"] (defScope s__law_stream) := ⟨rfl, rfl, rfl, by decide +kernel, rfl, by decide +kernel, by decide +kernel⟩
theorem ok__law_stream (T : Tx w K mg) : Fk P w K mg base CX0 1 "_law_stream" ["_law_script", "_law_k"] (sp_stream K) := by
  refine T.F__law_stream.ok0 sc__law_stream (fun _ _ _ _ _ _ us hl => match us, hl with | [_, _], _ => rfl)
    (fun vs H Q E h => ?_) (fun cdv A outer s H vs Q E hr h => ?_)
  · obtain ⟨a, ns, k, rfl, _⟩ := h
    rfl
  · obtain ⟨a, ns, k, rfl, hS, hn, hk0, hk1, kk⟩ := h
    have fin : ∀ a0 cell : Int, 0 ≤ a0 → ∀ p, H p = none → Q (.ref p) (upd H p (.lst [.int a0, .int (cell % 2147483647 + 31 * k), .int 0])) := fun a0 cell hc p hp => by
      refine kk p _ _ (Rd.Same.upd hp) hp upd_same ⟨_, _, _, rfl, hc, ?_, ?_, by omega, by omega⟩
      · have := Int.emod_nonneg cell (show (2147483647 : Int) ≠ 0 by decide)
        omega
      · have := Int.emod_lt_of_pos cell (show (0 : Int) < 2147483647 by decide)
        omega
    refine ⟨_, (pss_cons (ps_set (i := 2) sc__law_stream.nd rfl (Or.inl rfl) (pe_ifExp (pt_cmpR op_lt (pv 1) (pe_callB call_len_seq (by rfl) T.z_len (by decide +kernel) (pa_cons (pv 0) pa_nil)) (nomark _)) (pe_callB call_abs (by rfl) T.z_abs (by decide +kernel) (pa_cons (pe_ix ix_list (pv 0) (pv 1) (fun _ _ => rfl)) pa_nil)) pe_int))
  (pss_one (ps_ret (pe_lst (pa_cons (pe_ifExp (pt_cmpR op_ge (pv 2) (pe_op op_pow pe_int pe_int) (nomark _)) (pv 2) pe_int) (pa_cons (pe_op op_add (pe_op op_mod (pe_callTy call_int1 (by rfl) T.z_int (by decide +kernel) (pa_cons (pv 2) pa_nil)) pe_int) (pe_op op_mul pe_int (pv 1))) (pa_cons pe_int pa_nil))))))), ?_⟩
    refine ⟨_, rfl, _, rfl, a, _, rfl, .inl hS, _, _, rfl, rfl, _, rfl, ite2 (fun h1 => ?_) (fun h1 => ?_)⟩
    · have hk : k.toNat < ns.length := by
        have := of_decide_eq_true h1
        rw [List.length_map] at this
        omega
      have ea : atI (ns.map V.int) k = some (V.int (ns[k.toNat]'hk)) := at_of (j := k.toNat) (by omega) (by rw [List.getElem?_map, List.getElem?_eq_getElem hk]; rfl)
      refine ⟨_, rfl, _, rfl, a, _, _, _, rfl, rfl, hS, ea, _, rfl, ?_⟩
      refine ⟨_, rfl, _, _, rfl, rfl, ⟨by decide, by decide, by decide⟩, _, _, rfl, rfl, _, rfl, ?_⟩
      refine ite2 (fun h2 => ?_) (fun h2 => ?_)
      · refine ⟨_, rfl, _, rfl, .inl ⟨_, rfl, _, _, rfl, rfl, (by show (0 : Int) < 2147483647; decide), _, rfl, _, _, rfl, rfl, .inl ⟨by decide, by decide⟩, _, _, rfl, rfl, (by show 3 ≤ sizeLine; decide), fun p hp => ?_⟩⟩
        exact fin _ _ (by split <;> omega) p hp
      · refine ⟨_, rfl, .inl ⟨_, rfl, _, _, rfl, rfl, (by show (0 : Int) < 2147483647; decide), _, rfl, _, _, rfl, rfl, .inl ⟨by decide, by decide⟩, _, _, rfl, rfl, (by show 3 ≤ sizeLine; decide), fun p hp => ?_⟩⟩
        exact fin _ _ (Int.le_refl 0) p hp
    · refine ⟨_, rfl, _, _, rfl, rfl, ⟨by decide, by decide, by decide⟩, _, _, rfl, rfl, _, rfl, ?_⟩
      refine ite2 (fun h2 => ?_) (fun h2 => ?_)
      · refine ⟨_, rfl, _, rfl, .inl ⟨_, rfl, _, _, rfl, rfl, (by show (0 : Int) < 2147483647; decide), _, rfl, _, _, rfl, rfl, .inl ⟨by decide, by decide⟩, _, _, rfl, rfl, (by show 3 ≤ sizeLine; decide), fun p hp => ?_⟩⟩
        exact fin _ _ (Int.le_refl 0) p hp
      · refine ⟨_, rfl, .inl ⟨_, rfl, _, _, rfl, rfl, (by show (0 : Int) < 2147483647; decide), _, rfl, _, _, rfl, rfl, .inl ⟨by decide, by decide⟩, _, _, rfl, rfl, (by show 3 ≤ sizeLine; decide), fun p hp => ?_⟩⟩
        exact fin _ _ (Int.le_refl 0) p hp
abbrev s__law_draw : Stmt := top 39
theorem sc__law_draw : FnScope ["_law_stream_here", "_law_many", "_law_digit", "_law_spread"] ["_law_stream_here", "_law_many"] (defScope s__law_draw) := ⟨rfl, rfl, rfl, by decide +kernel, rfl, by decide +kernel, by decide +kernel⟩
theorem ok__law_draw (T : Tx w K mg) : Fk P w K mg base CX0 1 "_law_draw" ["_law_stream_here", "_law_many"] sp_draw := by
  refine T.F__law_draw.ok0 sc__law_draw (fun _ _ _ _ _ _ us hl => match us, hl with | [_, _], _ => rfl)
    (fun vs H Q E h => ?_) (fun cdv A outer s H vs Q E hr h => ?_)
  · obtain ⟨p, xs, n, m, rfl, _⟩ := h
    rfl
  · obtain ⟨p, xs, n, m, rfl, hp, ⟨a, b, c, rfl, ha, hb0, hb1, hc0, hc1⟩, hm0, hm1, k⟩ := h
    refine ⟨_, (pss_cons (ps_if (pt_cmpR op_gt (pe_ix ix_list (pv 0) pe_int (fun _ _ => rfl)) pe_int (nomark _))
  (pss_cons (ps_set (i := 2) sc__law_draw.nd rfl (Or.inl rfl) (pe_op op_mod (pe_callTy call_int1 (by rfl) T.z_int (by decide +kernel) (pa_cons (pe_ix ix_list (pv 0) pe_int (fun _ _ => rfl)) pa_nil)) (pv 1)))
  (pss_cons (ps_asg (pe_op op_fdiv (pe_ix ix_list (pv 0) pe_int (fun _ _ => rfl)) (pv 1)) (pg_sub (pv 0) pe_int set_list))
  (pss_one (ps_ret (pv 2)))))
  pss_nil)
  (pss_cons (ps_asg (pe_op op_add (pe_ix ix_list (pv 0) pe_int (fun _ _ => rfl)) pe_int) (pg_sub (pv 0) pe_int set_list))
  (pss_cons (ps_set (i := 3) sc__law_draw.nd rfl (Or.inl rfl) (pe_op op_mod (pe_op op_pow (pe_callTy call_int1 (by rfl) T.z_int (by decide +kernel) (pa_cons (pe_op op_add (pe_op op_add (pe_ix ix_list (pv 0) pe_int (fun _ _ => rfl)) (pe_op op_mul pe_int (pe_ix ix_list (pv 0) pe_int (fun _ _ => rfl)))) pe_int) pa_nil)) pe_int) pe_int))
  (pss_one (ps_ret (pe_op op_mod (pe_op op_fdiv (pe_op op_mod (pe_callTy call_int1 (by rfl) T.z_int (by decide +kernel) (pa_cons (pe_op op_mul (pe_op op_add (pv 3) (pe_ix ix_list (pv 0) pe_int (fun _ _ => rfl))) pe_int) pa_nil)) pe_int) pe_int) (pv 1))))))), ?_⟩
    refine ⟨_, rfl, p, _, _, _, rfl, rfl, SqL.of hp, at_of (j := 0) rfl rfl, _, _, rfl, rfl, _, rfl, ?_⟩
    refine ite2 (fun h1 => ?_) (fun h1 => ?_)
    · refine ⟨_, rfl, p, _, _, _, rfl, rfl, SqL.of hp, at_of (j := 0) rfl rfl, .inl ⟨_, rfl, _, rfl, _, _, rfl, rfl, hm0, ?_⟩⟩
      refine ⟨_, rfl, p, _, _, _, rfl, rfl, SqL.of hp, at_of (j := 0) rfl rfl, _, rfl, _, _, rfl, rfl, ⟨hm0, hm1⟩, ?_⟩
      refine ⟨_, rfl, p, _, _, 0, rfl, rfl, hp, rfl, _, rfl, ?_⟩
      refine k _ _ (Int.emod_nonneg _ (by omega)) (Int.emod_lt_of_pos _ hm0) ⟨_, _, _, rfl, ?_, hb0, hb1, hc0, by omega⟩
      exact Int.ediv_nonneg ha (by omega)
    · refine ⟨_, rfl, p, _, _, _, rfl, rfl, SqL.of hp, at_of (j := 2) rfl rfl, _, _, rfl, rfl, _, rfl, p, _, _, 2, rfl, rfl, hp, rfl, ?_⟩
      have hp2 : upd H p (.lst [.int a, .int b, .int (c + 1)]) p = some (.lst [.int a, .int b, .int (c + 1)]) := upd_same
      refine ⟨_, rfl, p, _, _, _, rfl, rfl, SqL.of hp2, at_of (j := 1) rfl rfl, _, rfl, p, _, _, _, rfl, rfl, SqL.of hp2, at_of (j := 2) rfl rfl, _, _, rfl, rfl, .inl ⟨by decide, by decide⟩, _, _, rfl, rfl, _, _, rfl, rfl, .inl ⟨_, rfl, _, _, rfl, rfl, ⟨by decide, by decide, ?_⟩, _, _, rfl, rfl, (by show (0 : Int) < 2147483647; decide), ?_⟩⟩
      · show (b + 7919 * (c + 1) + 104729).natAbs < 18446744073709551616
        omega
      · have s0 : 0 ≤ (b + 7919 * (c + 1) + 104729) ^ Int.toNat 5 % 2147483647 := Int.emod_nonneg _ (by decide)
        have s1 : (b + 7919 * (c + 1) + 104729) ^ Int.toNat 5 % 2147483647 < 2147483647 := Int.emod_lt_of_pos _ (by decide)
        refine ⟨_, rfl, _, rfl, p, _, _, _, rfl, rfl, SqL.of hp2, at_of (j := 2) rfl rfl, _, _, rfl, rfl, _, _, rfl, rfl, .inl ⟨?_, ?_⟩, .inl ⟨_, rfl, _, _, rfl, rfl, (by show (0 : Int) < 2147483629; decide), _, _, rfl, rfl, ⟨by decide, by decide⟩, _, rfl, _, _, rfl, rfl, hm0, ?_⟩⟩
        · show -(18446744073709551616 : Int) < (b + 7919 * (c + 1) + 104729) ^ Int.toNat 5 % 2147483647 + (c + 1)
          generalize (b + 7919 * (c + 1) + 104729) ^ Int.toNat 5 % 2147483647 = sp at s0 s1 ⊢
          omega
        · show (b + 7919 * (c + 1) + 104729) ^ Int.toNat 5 % 2147483647 + (c + 1) < (18446744073709551616 : Int)
          generalize (b + 7919 * (c + 1) + 104729) ^ Int.toNat 5 % 2147483647 = sp at s0 s1 ⊢
          omega
        · exact k _ _ (Int.emod_nonneg _ (by omega)) (Int.emod_lt_of_pos _ hm0) ⟨_, _, _, rfl, ha, hb0, hb1, by omega, by omega⟩
abbrev s__law_pick : Stmt := top 40
theorem sc__law_pick : FnScope ["_law_stream_here", "_law_things"] ["_law_stream_here", "_law_things"] (defScope s__law_pick) := ⟨rfl, rfl, rfl, by decide +kernel, rfl, by decide +kernel, by decide +kernel⟩
theorem ok__law_pick (T : Tx w K mg) : Fk P w K mg base CX0 2 "_law_pick" ["_law_stream_here", "_law_things"] (sp_pick K) := by
  refine T.F__law_pick.ok0 sc__law_pick (fun _ _ _ _ _ _ us hl => match us, hl with | [_, _], _ => rfl)
    (fun vs H Q E h => ?_) (fun cdv A outer s H vs Q E hr h => ?_)
  · obtain ⟨p, a, xs, us, n, rfl, _⟩ := h
    rfl
  · obtain ⟨p, a, xs, us, n, rfl, hp, hx, hS, hS2, hu0, hu1, k⟩ := h
    refine ⟨_, (pss_one (ps_ret (pe_ix ix_list (pv 1) (pe_fk (ok__law_draw T) (hr.mono (by omega)) rfl pass0 (pa_cons (pv 0) (pa_cons (pe_callB call_len_seq (by rfl) T.z_len (by decide +kernel) (pa_cons (pv 1) pa_nil)) pa_nil))) (fun _ _ => rfl)))), ?_⟩
    refine ⟨_, rfl, _, rfl, _, rfl, a, us, rfl, .inl hS, p, xs, n, _, rfl, hp, hx, by omega, by omega, fun d ys hd0 hd1 hy => ?_⟩
    have hj : d.toNat < us.length := by omega
    have hS3 : SqL K (upd H p (.lst ys)) a us := by
      by_cases e : a = p
      · subst e
        rcases hS2 with (h | ⟨o, h⟩) | h
        · rw [upd_same] at h
          cases h
          exact absurd hu0 (by decide)
        · rw [upd_same] at h
          cases h
        · exact .inr h
      · rcases hS2 with (h | ⟨o, h⟩) | h
        · rw [upd_ne e] at h
          exact .inl (.inl (by rw [upd_ne e]; exact h))
        · rw [upd_ne e] at h
          exact .inl (.inr ⟨o, by rw [upd_ne e]; exact h⟩)
        · exact .inr h
    exact ⟨a, us, _, _, rfl, rfl, hS3, at_of (j := d.toNat) (by omega) (List.getElem?_eq_getElem hj), k _ _ ys (List.getElem?_eq_getElem hj) hy⟩
end
end Rd
namespace Rd
open PySem L2
/-- all but p stays -/
def But (p : Addr) (H H' : Hp) : Prop := ∀ b o, b ≠ p → H b = some o → H' b = some o
theorem But.refl {p : Addr} {H : Hp} : But p H H := fun _ _ _ e => e
theorem But.trans {p : Addr} {H H1 H2 : Hp} (a : But p H H1) (b : But p H1 H2) : But p H H2 := fun c o hc h => b c o hc (a c o hc h)
theorem But.of_same {p : Addr} {H H' : Hp} (s : Same H H') : But p H H' := fun b o _ e => s b o e
theorem But.upd {p : Addr} {H : Hp} {o : HO} : But p H (L2.upd H p o) := fun b u hb e => by rw [upd_ne hb]; exact e
theorem But.new {p q : Addr} {H : Hp} {o : HO} (h : H q = none) : But p H (L2.upd H q o) := fun b u hb e => by rw [upd_ne (ne_of_none e h)]; exact e
theorem But.free {p q : Addr} {H H' : Hp} {xs : List V} (s : But p H H') (hp : H' p = some (.lst xs)) (h : H' q = none) : H q = none := by
  cases e : H q with
  | none => rfl
  | some o =>
    have hq : q ≠ p := fun z => by rw [z, hp] at h; cases h
    rw [s q o hq e] at h
    cases h
def imm (C : Addr) : HO → Bool
  | .tup _ => true
  | .ins C' _ _ => C' == C
  | _ => false
/-- tuples and instances of C stay -/
def Kp (C : Addr) (H H' : Hp) : Prop := ∀ b o, imm C o = true → H b = some o → H' b = some o
theorem Kp.refl {C : Addr} {H : Hp} : Kp C H H := fun _ _ _ e => e
theorem Kp.trans {C : Addr} {H H1 H2 : Hp} (a : Kp C H H1) (b : Kp C H1 H2) : Kp C H H2 := fun c o hc h => b c o hc (a c o hc h)
theorem Kp.of_same {C : Addr} {H H' : Hp} (s : Same H H') : Kp C H H' := fun b o _ e => s b o e
theorem But.kp {C p : Addr} {H H' : Hp} {xs : List V} (s : But p H H') (hp : H p = some (.lst xs)) : Kp C H H' := fun b o hi e => s b o (fun z => by
  rw [z, hp] at e
  cases e
  cases hi) e
theorem Kp.upd_lst {C D : Addr} {H : Hp} {xs ys : List V} (h : H D = some (.lst xs)) : Kp C H (L2.upd H D (.lst ys)) := fun b o hi e => by
  have hb : b ≠ D := fun z => by
    rw [z, h] at e
    cases e
    cases hi
  rw [upd_ne hb]
  exact e
/-- [.. for _ in range(..)] with draws -/
theorem lcr_draw {C p D : Addr} {σ : St} {i0 m r n : Nat} {lo : Int} {te : TE} {H1 : Hp} {xs0 : List V} {Qd : Hp → Prop} (good : Hp → V → Prop) (gm : ∀ H H' v, Kp C H H' → good H v → good H' v)
    (hp : H1 p = some (.lst xs0)) (hx : StL (n + r * m) xs0) (hD : H1 D = none) (hm : m ≤ 100000)
    (hte : ∀ (i : Nat) (H : Hp) (xs : List V) (n' : Nat) (Q : VK), i < m → But p H1 H → H p = some (.lst xs) → StL (n' + r) xs → (∀ v H' ys, But p H H' → H' p = some (.lst ys) → StL n' ys → good H' v → Q v H') → te ((wipe σ [i0]).set i0 (some (.int (lo + i)))) H Q)
    (hq : ∀ vs H' ys, But p H1 H' → H' p = some (.lst ys) → StL n ys → H' D = some (.lst vs) → vs.length = m → (∀ v ∈ vs, good H' v) → Qd H') :
    ∃ W : Nat → Nat → Hp → Prop, (∃ k, W 0 k (L2.upd H1 D (.lst []))) ∧ ∀ i k H, W i k H →
      ((Itr lo m).stop i H ∧ Qd H) ∨ ((Itr lo m).go i H ∧ ∃ Nx : Hp → Prop, (∀ H', Nx H' → ∃ k', k' < k ∧ W (i + 1) k' H') ∧ ∀ x H', (Itr lo m).yld i H x H' → gName i0 x (wipe σ [i0]) H' fun σ2 H2 => wipe σ2 [i0] = wipe σ [i0] ∧ tYes σ2 H2 fun b H3 =>
        if b = true then te σ2 H3 fun y H4 => ∃ acc, H4 D = some (.lst acc) ∧ acc.length < sizeLine ∧ Nx (L2.upd H4 D (.lst (acc ++ [y]))) else Nx H3) := by
  have nDp : D ≠ p := fun z => by rw [z, hp] at hD; cases hD
  refine lc_range (fun i H => ∃ vs ys, But p H1 H ∧ H p = some (.lst ys) ∧ StL (n + r * (m - i)) ys ∧ H D = some (.lst vs) ∧ vs.length = i ∧ (∀ v ∈ vs, good H v)) ?_ ?_ ?_
  · refine ⟨[], xs0, But.new hD, by rw [upd_ne (Ne.symm nDp)]; exact hp, hx, upd_same, rfl, fun v hv => by cases hv⟩
  · rintro i H hi ⟨vs, ys, b, hpy, hy, hDv, hl, hg⟩
    have hr : n + r * (m - i) = (n + r * (m - (i + 1))) + r := by
      rw [show m - i = (m - (i + 1)) + 1 by omega, Nat.mul_succ, Nat.add_assoc]
    rw [hr] at hy
    refine ⟨by simp [wipe], hte i H ys _ _ hi b hpy hy fun v H' zs b' hpz hz hv => ⟨vs, b' D _ nDp hDv, ?_, ?_⟩⟩
    · have : 100000 < sizeLine := by decide
      omega
    · have hDv' := b' D _ nDp hDv
      refine ⟨vs ++ [v], zs, fun c o hc e => ?_, by rw [upd_ne (Ne.symm nDp)]; exact hpz, hz, upd_same, by rw [List.length_append, hl]; rfl, fun v' hv' => ?_⟩
      · rw [upd_ne (ne_of_none e hD)]
        exact b' c o hc (b c o hc e)
      · rcases List.mem_append.mp hv' with q | q
        · exact gm _ _ _ ((b'.kp hpy).trans (Kp.upd_lst hDv')) (hg v' q)
        · rw [List.mem_singleton.mp q]
          exact gm _ _ _ (Kp.upd_lst hDv') hv
  · rintro H ⟨vs, ys, b, hpy, hy, hDv, hl, hg⟩
    exact hq vs H ys b hpy (by simpa using hy) hDv hl hg
/-- signs as Python has them -/
def okS (z : Str) : Prop := ∀ c ∈ z.cps.toList, c < 1114112
theorem okS_by {z : Str} (h : z.cps.toList.all (fun c => decide (c < 1114112)) = true) : okS z := fun c hc => of_decide_eq_true (List.all_eq_true.mp h c hc)
theorem strOk_of {z : Str} (h : okS z) : PySem.PyData.strOk z = true := by
  show z.cps.all (fun c => decide (c < 0x110000)) = true
  rw [Array.all_eq_true']
  intro c hc
  exact decide_eq_true (h c (Array.mem_toList_iff.mpr hc))
/-- a text of these codes -/
def ofC (cs : List Nat) : Str := ⟨cs.toArray⟩
theorem ofC_list (cs : List Nat) : (ofC cs).cps.toList = cs := by show cs.toArray.toList = cs; rw [List.toList_toArray]
/-- draw(many) -/
theorem rd_draw {σ : St} {i m n : Nat} {p : Addr} {xs : List V} {H : Hp} {Q : VK} (hi : σ[i]? = some (some (.ref p))) (hp : H p = some (.lst xs)) (hx : StL (n + 1) xs) (h0 : 0 < m) (hb : m ≤ 1000)
    (k : ∀ (d : Nat) H' ys, d < m → But p H H' → H' p = some (.lst ys) → StL n ys → Q (.int d) H') : tCall sp_draw [] E0 (tCons (tVar i) (tCons (tC (V.int m)) tNil)) σ H Q := by
  refine ⟨_, hi, p, xs, n, (m : Int), rfl, hp, hx, by omega, by omega, fun d ys hd0 hd1 hy => ?_⟩
  obtain ⟨e, rfl⟩ := Int.eq_ofNat_of_zero_le hd0
  exact k e _ ys (by omega) But.upd upd_same hy
theorem word_noname {z : Str} (h : isName z = true) : isWord z = false := by
  cases e : isWord z with
  | false => rfl
  | true =>
    obtain ⟨h1, h2⟩ := He.ba h
    obtain ⟨h3, h4⟩ := He.ba h2
    have h1' := of_decide_eq_true h1
    rw [len_list, rstrip_list] at h1'
    rw [rstrip_list] at h4
    obtain ⟨⟨a1, a2⟩, a3⟩ := (name_iff z.cps.toList).mp ⟨h1', h4⟩
    obtain ⟨w1, w2⟩ := He.ba e
    obtain ⟨w3, w4⟩ := He.ba w2
    obtain ⟨c, hc⟩ := List.exists_mem_of_length_pos a1
    rw [List.mem_filter] at hc
    have s1 := List.all_eq_true.mp w4 c hc.1
    have dj : GREAT.cps.toList.all (fun c => !inS SMALL c) = true := by decide +kernel
    have s2 := List.all_eq_true.mp dj c (of_decide_eq_true hc.2)
    rw [s1] at s2
    cases s2
theorem word_len {z : Str} (h : isWord z = true) : 1 ≤ z.length ∧ z.length ≤ 8 ∧ okS z := by
  obtain ⟨h1, h2⟩ := He.ba h
  obtain ⟨h3, h4⟩ := He.ba h2
  have dj : SMALL.cps.toList.all (fun c => decide (c < 1114112)) = true := by decide +kernel
  exact ⟨of_decide_eq_true h1, of_decide_eq_true h3, fun c hc => of_decide_eq_true (List.all_eq_true.mp dj c (of_decide_eq_true (List.all_eq_true.mp h4 c hc)))⟩
theorem name_len {z : Str} (h : isName z = true) : z.length ≤ 8 ∧ okS z := by
  obtain ⟨h1, h2⟩ := He.ba h
  obtain ⟨h3, h4⟩ := He.ba h2
  have h1' := of_decide_eq_true h1
  rw [len_list, rstrip_list] at h1'
  rw [rstrip_list] at h4
  obtain ⟨⟨a1, a2⟩, a3⟩ := (name_iff z.cps.toList).mp ⟨h1', h4⟩
  have dj : GREAT.cps.toList.all (fun c => decide (c < 1114112)) = true := by decide +kernel
  have dk : DIGITS.cps.toList.all (fun c => decide (c < 1114112)) = true := by decide +kernel
  refine ⟨of_decide_eq_true h3, fun c hc => ?_⟩
  rw [← List.take_append_drop (z.cps.toList.filter (inS GREAT)).length z.cps.toList] at hc
  rcases List.mem_append.mp hc with q | q
  · exact of_decide_eq_true (List.all_eq_true.mp dj c (of_decide_eq_true (List.all_eq_true.mp a2 c q)))
  · exact of_decide_eq_true (List.all_eq_true.mp dk c (of_decide_eq_true (List.all_eq_true.mp a3 c q)))
end Rd
namespace Rd
open PySem L2
inductive Tr where
  | am (k x : Str)
  | un (s : Str) (a : Tr)
  | bi (s : Str) (a b : Tr)
  deriving DecidableEq
def Tr.dep : Tr → Nat
  | .am _ _ => 0
  | .un _ a => a.dep + 1
  | .bi _ a b => max a.dep b.dep + 1
def Tr.nod : Tr → Nat
  | .am _ _ => 0
  | .un _ a => a.nod + 1
  | .bi _ a b => a.nod + b.nod + 1
/-- how large a drawn form is -/
def Tr.unkIn (us : List V) : Tr → Prop
  | .am k x => k = "unknown" → V.str x ∈ us
  | .un _ a => a.unkIn us
  | .bi _ a b => a.unkIn us ∧ b.unkIn us
def dpN (d : Nat) (us : List V) (t : Tr) : Prop := t.dep ≤ 2 * d ∧ t.nod + 2 ≤ 2 ^ (d + 1) ∧ t.unkIn us
theorem dpN.am {d : Nat} {us : List V} {k x : Str} (h : k = "unknown" → V.str x ∈ us) : dpN d us (.am k x) := by
  refine ⟨Nat.zero_le _, ?_, h⟩
  show 0 + 2 ≤ 2 ^ (d + 1)
  rw [Nat.pow_succ]
  have := Nat.pow_pos (n := d) (show 0 < 2 by decide)
  omega
theorem dpN.un {d : Nat} {us : List V} {s : Str} {a : Tr} (h : dpN d us a) : dpN (d + 1) us (.un s a) := by
  obtain ⟨h1, h2, h3⟩ := h
  have e : 2 ^ (d + 1 + 1) = 2 * 2 ^ (d + 1) := by rw [Nat.pow_succ]; omega
  refine ⟨?_, ?_, h3⟩
  · show a.dep + 1 ≤ 2 * (d + 1)
    omega
  · show a.nod + 1 + 2 ≤ 2 ^ (d + 1 + 1)
    omega
theorem dpN.bi {d : Nat} {us : List V} {s : Str} {a b : Tr} (h : dpN d us a) (g : dpN d us b) : dpN (d + 1) us (.bi s a b) := by
  obtain ⟨h1, h2, h3⟩ := h
  obtain ⟨g1, g2, g3⟩ := g
  have e : 2 ^ (d + 1 + 1) = 2 * 2 ^ (d + 1) := by rw [Nat.pow_succ]; omega
  refine ⟨?_, ?_, h3, g3⟩
  · show max a.dep b.dep + 1 ≤ 2 * (d + 1)
    omega
  · show a.nod + b.nod + 1 + 2 ≤ 2 ^ (d + 1 + 1)
    omega
theorem dpN.lk {d : Nat} {us : List V} {s s' : Str} {a b : Tr} (h : dpN d us a) (g : dpN d us b) : dpN (d + 1) us (.bi s a (.un s' b)) := by
  obtain ⟨h1, h2, h3⟩ := h
  obtain ⟨g1, g2, g3⟩ := g
  have e : 2 ^ (d + 1 + 1) = 2 * 2 ^ (d + 1) := by rw [Nat.pow_succ]; omega
  refine ⟨?_, ?_, h3, g3⟩
  · show max a.dep (b.dep + 1) + 1 ≤ 2 * (d + 1)
    omega
  · show a.nod + (b.nod + 1) + 1 + 2 ≤ 2 ^ (d + 1 + 1)
    omega
def kindOk (k x : Str) : Prop := (k = "word" ∧ isWord x = true) ∨ (k = "name" ∧ isName x = true) ∨ (k = "unknown" ∧ isUnk x = true)
inductive Wf : Tr → Prop
  | am {k x : Str} : kindOk k x → Wf (.am k x)
  | un {s : Str} {a : Tr} : s ∈ (["mark", "open", "own"] : List Str) → Wf a → Wf (.un s a)
  | bi {s : Str} {a b : Tr} : s ∈ (["pair", "seal"] : List Str) → Wf a → Wf b → Wf (.bi s a b)
  | lk {s : Str} {a b : Tr} : s ∈ (["open", "own"] : List Str) → Wf a → Wf b → Wf (.bi "lock" a (.un s b))
def IsT (H : Hp) : Tr → V → Prop
  | .am k x, v => ∃ p, v = .ref p ∧ H p = some (.tup [.str k, .str x])
  | .un s a, v => ∃ p u, v = .ref p ∧ H p = some (.tup [.str s, u]) ∧ IsT H a u
  | .bi s a b, v => ∃ p u1 u2, v = .ref p ∧ H p = some (.tup [.str s, u1, u2]) ∧ IsT H a u1 ∧ IsT H b u2
theorem IsT.mono {C : Addr} {H H' : Hp} (k : Kp C H H') : ∀ {t : Tr} {v : V}, IsT H t v → IsT H' t v
  | .am _ _, _, ⟨p, e, h⟩ => ⟨p, e, k p _ rfl h⟩
  | .un _ _, _, ⟨p, u, e, h, h1⟩ => ⟨p, u, e, k p _ rfl h, IsT.mono k h1⟩
  | .bi _ _ _, _, ⟨p, u1, u2, e, h, h1, h2⟩ => ⟨p, u1, u2, e, k p _ rfl h, IsT.mono k h1, IsT.mono k h2⟩
theorem IsT.same {H H' : Hp} {t : Tr} {v : V} (s : Same H H') (h : IsT H t v) : IsT H' t v := h.mono (C := 0) (Kp.of_same s)
theorem IsT.but {p : Addr} {H H' : Hp} {xs : List V} {t : Tr} {v : V} (s : But p H H') (hp : H p = some (.lst xs)) (h : IsT H t v) : IsT H' t v := h.mono (C := 0) (s.kp hp)
theorem IsT.ref {H : Hp} {t : Tr} {v : V} (h : IsT H t v) : ∃ p, v = .ref p := by
  cases t with
  | am k x => obtain ⟨p, e, _⟩ := h; exact ⟨p, e⟩
  | un s a => obtain ⟨p, u, e, _⟩ := h; exact ⟨p, e⟩
  | bi s a b => obtain ⟨p, u, u2, e, _⟩ := h; exact ⟨p, e⟩
theorem unk_len {z : Str} (h : isUnk z = true) : z.length ≤ 7 ∧ 1 ≤ z.length ∧ okS z := by
  obtain ⟨h1, h2⟩ := He.ba h
  obtain ⟨a, b, c⟩ := word_len h1
  exact ⟨of_decide_eq_true h2, a, c⟩
def dr (d : Nat) : Nat := 40 * 3 ^ d
def strIn (l : List Str) : V → Bool
  | .str z => decide (z ∈ l)
  | _ => false
theorem str_of {us : List V} {v : V} {l : List Str} (h : v ∈ us) (ha : us.all (strIn l) = true) : ∃ z : Str, v = V.str z ∧ z ∈ l := by
  have h1 := List.all_eq_true.mp ha v h
  cases v with
  | str z => exact ⟨z, rfl, of_decide_eq_true h1⟩
  | _ => cases h1
end Rd
namespace Rd
open PySem L2
section
variable {P : Program} {w : World} {K : PySem.W.Frag} {mg : Str → Option Value} {base : Heap}
abbrev s_BadAtom_init : Stmt := inClass (top 3) 0
theorem sc_BadAtom_init : FnScope ["self", "text"] ["self", "text"] (defScope s_BadAtom_init) := ⟨rfl, rfl, rfl, by decide +kernel, rfl, by decide +kernel, by decide +kernel⟩
theorem ok_BadAtom (T : Tx w K mg) : Fm P w K mg base CX0 1 "BadAtom" "__init__" ["self", "text"] (spX1 K "text") := by
  refine T.X_BadAtom.init.ok0 sc_BadAtom_init (fun _ _ _ _ _ _ us hl => match us, hl with | [_, _], _ => rfl)
    (fun vs H Q E h => ?_) (fun cdv A outer s H vs Q E hr h => ?_)
  · obtain ⟨a, C, v, rfl, _⟩ := h
    rfl
  · obtain ⟨a, C, v, rfl, TC, no, ha, k⟩ := h
    refine ⟨_, (pss_cons (ps_expr (pe_reinit rfl T.g_RoadError T.r_RoadError (pa_cons (pv 0) (pa_cons pe_str pa_nil))))
  (pss_one (ps_ost (pv 0) (pv 1)))), ?_⟩
    refine ⟨_, rfl, a, C, [.str "no atom"], rfl, (by show 1 ≤ 1000; decide), TC, ha, _, rfl, _, rfl, a, C, rfl, TC, no, .inl ⟨ha, fun dx hdx ne => k dx hdx ne⟩⟩
/-- Letter(text), Letter("", tree) -/
def sp_Linit (K : PySem.W.Frag) : Sp := fun vs H Q E => ∃ (x dx : Addr) (z : Str) (v : V), vs = [.ref x, .str z, v] ∧ H x = some (.ins (He.ga K "Letter") dx []) ∧
  ((v ≠ .non ∧ Q .non (upd H x (.ins (He.ga K "Letter") dx [("tree", v)]))) ∨
   (v = .non ∧ z.length ≤ 200000 ∧ (∀ k y p H', But x H H' → atomOf z = some (k, y) → H p = none → H' p = some (.tup [.str k, .str y]) → H' x = some (.ins (He.ga K "Letter") dx [("tree", .ref p)]) → Q .non H') ∧
     ∀ d H', But x H H' → atomOf z = none → H d = none → H' d = some (.xd [("text", .str z)]) → E (.ref (He.ga K "BadAtom")) (some d) H'))
theorem look1 (v : V) : ([("tree", v)] : List (Str × V)).lookup ("tree" : Str) = some v := by simp [List.lookup]
theorem putTree (v u : V) : putF "tree" u ([("tree", v)] : List (Str × V)) = ([("tree", u)] : List (Str × V)) := by
  show (if ("tree" : Str) = "tree" then ([(("tree" : Str), u)] : List (Str × V)) else _) = _
  rw [if_pos rfl]
abbrev s_Letter_init : Stmt := inClass (top 25) 0
theorem sc_Letter_init : FnScope ["self", "atom", "tree"] ["self", "atom", "tree"] (defScope s_Letter_init) := ⟨rfl, rfl, rfl, by decide +kernel, rfl, by decide +kernel, by decide +kernel⟩
theorem ok_Letter (T : Tx w K mg) : Fi P w K mg base (L2N.CX P w) 4 "Letter" ["self", "atom", "tree"] (sp_Linit K) .non := by
  refine T.I_Letter.ok (n := 2) sc_Letter_init rfl (fun _ _ _ _ _ _ _ us its hu hi => match us, its, hu, hi with | [_, _], [_], _, _ => ⟨_, rfl, rfl⟩) (fun _ _ _ _ _ _ _ us its hu hi => match us, its, hu, hi with | [_, _, _], [_], _, _ => ⟨_, rfl, rfl⟩)
    (fun vs H Q E h => ?_) (fun cdv A outer s H vs Q E hr h => ?_)
  · obtain ⟨x, dx, z, v, rfl, _⟩ := h
    rfl
  · obtain ⟨x, dx, z, v, rfl, hx, hv⟩ := h
    refine ⟨_, (pss_cons (ps_fld (pv 0) (pv 2) rfl)
  (pss_one (ps_if (pt_cmpR op_isN (pv 2) pe_non (nomark _))
  (pss_cons (ps_fld (pv 0) (pe_fk (ok_atom_tree T) (hr.mono (by omega)) rfl pass0 (pa_cons (pv 1) pa_nil)) rfl)
  (pss_one (ps_if (pt_cmpR op_isN (pe_fld (pv 0) rfl) pe_non (nomark _))
  (pss_one (L2N.ps_raise rfl (L2N.takes_of rfl rfl rfl rfl) (pmk_xN T.X_BadAtom (ok_BadAtom T) (hr.mono (by omega)) rfl (pa_cons (pv 1) pa_nil))))
  pss_nil)))
  pss_nil))), ?_⟩
    refine ⟨_, rfl, _, rfl, x, _, dx, [], rfl, hx, T.k_Letter, T.n_Letter_tree, (by show 0 < 1000; decide), ?_⟩
    refine ⟨_, rfl, rfl, _, rfl, ?_⟩
    rcases hv with ⟨hne, q⟩ | ⟨rfl, hz, k1, k0⟩
    · exact ite2 (fun h => absurd (of_decide_eq_true h) hne) (fun _ => q)
    refine ite2 (fun _ => ?_) (fun h => absurd (decide_eq_true rfl) h)
    have b0 : But x H (upd H x (.ins (He.ga K "Letter") dx [("tree", .non)])) := But.upd
    refine ⟨_, rfl, z, rfl, hz, fun H1 s1 en => ?_, fun k y p H1 s1 es hp hp1 => ?_⟩
    · have hx1 : H1 x = some (.ins (He.ga K "Letter") dx [("tree", .non)]) := s1 x _ upd_same
      refine ⟨_, rfl, x, _, dx, _, rfl, hx1, T.k_Letter, T.n_Letter_tree, (by show 1 < 1000; decide), ?_⟩
      refine ⟨_, rfl, x, _, dx, _, .non, rfl, upd_same, T.k_Letter, T.n_Letter_tree, (by rw [putTree]; exact look1 _), rfl, _, rfl, ite2 (fun _ => ?_) (fun h => absurd (decide_eq_true rfl) h)⟩
      refine ⟨_, rfl, rd_raise1 T.X_BadAtom.oex T.X_BadAtom.no fun d H' s' nd hd => k0 d H' ?_ en ?_ hd⟩
      · exact ((b0.trans (But.of_same s1)).trans But.upd).trans (But.of_same s')
      · have nx : d ≠ x := fun e => by rw [e, upd_same] at nd; cases nd
        rw [upd_ne nx] at nd
        have n2 := s1.free nd
        rw [upd_ne nx] at n2
        exact n2
    · have hx1 : H1 x = some (.ins (He.ga K "Letter") dx [("tree", .non)]) := s1 x _ upd_same
      have npx : p ≠ x := fun e => by rw [e, hx1] at hp1; cases hp1
      refine ⟨_, rfl, x, _, dx, _, rfl, hx1, T.k_Letter, T.n_Letter_tree, (by show 1 < 1000; decide), ?_⟩
      refine ⟨_, rfl, x, _, dx, _, .ref p, rfl, upd_same, T.k_Letter, T.n_Letter_tree, (by rw [putTree]; exact look1 _), rfl, _, rfl, ite2 (fun h => absurd (of_decide_eq_true h) (fun e => by cases e)) (fun _ => ?_)⟩
      refine k1 k y p _ ((b0.trans (But.of_same s1)).trans But.upd) es ?_ (by rw [upd_ne npx]; exact hp1) (by rw [upd_same, putTree])
      rw [upd_ne npx] at hp
      exact hp
/-- a letter at a: its field -/
def IsL (K : PySem.W.Frag) (H : Hp) (a : Addr) (v : V) : Prop := ∃ dx, H a = some (.ins (He.ga K "Letter") dx [("tree", v)])
end
end Rd
namespace Rd
open PySem L2
theorem lookT {m : Str} {v : V} (h : (m == ("tree" : Str)) = false) : ([("tree", v)] : List (Str × V)).lookup m = none := by simp [List.lookup, h]
theorem IsL.mono {K : PySem.W.Frag} {H H' : Hp} {a : Addr} {v : V} (k : Kp (He.ga K "Letter") H H') (h : IsL K H a v) : IsL K H' a v := by
  obtain ⟨dx, e⟩ := h
  exact ⟨dx, k a _ (by show ((He.ga K "Letter") == (He.ga K "Letter")) = true; exact beq_self_eq_true _) e⟩
theorem IsL.same {K : PySem.W.Frag} {H H' : Hp} {a : Addr} {v : V} (k : Same H H') (h : IsL K H a v) : IsL K H' a v := h.mono (Kp.of_same k)
/-- a letter with a form -/
def IsLet (K : PySem.W.Frag) (H : Hp) (t : Tr) (v : V) : Prop := ∃ a u, v = .ref a ∧ IsL K H a u ∧ IsT H t u
theorem IsLet.mono {K : PySem.W.Frag} {H H' : Hp} {t : Tr} {v : V} (k : Kp (He.ga K "Letter") H H') (h : IsLet K H t v) : IsLet K H' t v := by
  obtain ⟨a, u, e, h1, h2⟩ := h
  exact ⟨a, u, e, h1.mono k, h2.mono k⟩
theorem IsLet.same {K : PySem.W.Frag} {H H' : Hp} {t : Tr} {v : V} (k : Same H H') (h : IsLet K H t v) : IsLet K H' t v := h.mono (Kp.of_same k)
def Tr.head : Tr → Str
  | .am k _ => k
  | .un s _ => s
  | .bi s _ _ => s
def isKey (t : Tr) : Bool := decide (t.head ∈ (["open", "own"] : List Str))
theorem IsT.hd {H : Hp} {t : Tr} {v : V} (h : IsT H t v) : ∃ p us, v = .ref p ∧ H p = some (.tup (.str t.head :: us)) := by
  cases t with
  | am k x => obtain ⟨p, e, h⟩ := h; exact ⟨p, _, e, h⟩
  | un s a => obtain ⟨p, u, e, h, _⟩ := h; exact ⟨p, _, e, h⟩
  | bi s a b => obtain ⟨p, u, u2, e, h, _⟩ := h; exact ⟨p, _, e, h⟩
/-- a sign of two letters, of one -/
def sp_bin (K : PySem.W.Frag) (s : Str) : Sp := fun vs H Q _ => ∃ (a b : Addr) (u1 u2 : V), vs = [.ref a, .ref b] ∧ IsL K H a u1 ∧ IsL K H b u2 ∧
  ∀ x q H', Same H H' → IsL K H' x (.ref q) → H' q = some (.tup [.str s, u1, u2]) → Q (.ref x) H'
def sp_one (K : PySem.W.Frag) (s : Str) : Sp := fun vs H Q _ => ∃ (a : Addr) (u1 : V), vs = [.ref a] ∧ IsL K H a u1 ∧
  ∀ x q H', Same H H' → IsL K H' x (.ref q) → H' q = some (.tup [.str s, u1]) → Q (.ref x) H'
def sp_xor (K : PySem.W.Frag) : Sp := fun vs H Q E => ∃ (a b : Addr) (u1 u2 : V) (t2 : Tr), vs = [.ref a, .ref b] ∧ IsL K H a u1 ∧ IsL K H b u2 ∧ IsT H t2 u2 ∧
  (isKey t2 = true → ∀ x q H', Same H H' → IsL K H' x (.ref q) → H' q = some (.tup [.str "lock", u1, u2]) → Q (.ref x) H') ∧
  (isKey t2 = false → ∀ d H', Same H H' → H' d = some (.xd [("key", .ref b)]) → E (.ref (He.ga K "BadKey")) (some d) H')
/-- Letter("", tree) behind its arguments -/
theorem rd_mkL {K : PySem.W.Frag} {H1 : Hp} {q : Addr} {Q : VK} {E : XK} {xs : List V} (hq : H1 q = some (.tup xs))
    (k : ∀ x H', Same H1 H' → IsL K H' x (.ref q) → Q (.ref x) H') :
    ∀ x dx, H1 x = none → H1 dx = none → dx ≠ x → sp_Linit K (.ref x :: ([.str "", .ref q] ++ [])) (upd (upd H1 dx (.own x)) x (.ins (He.ga K "Letter") dx [])) (fun v H2 => v = .non ∧ Q (.ref x) H2) E := fun x dx nx ndx ne => by
  refine ⟨x, dx, "", .ref q, rfl, upd_same, .inl ⟨(fun e => by cases e), rfl, k x _ (fun b o e => ?_) ⟨dx, upd_same⟩⟩⟩
  rw [upd_ne (ne_of_none e nx), upd_ne (ne_of_none e nx), upd_ne (ne_of_none e ndx)]
  exact e
section
variable {P : Program} {w : World} {K : PySem.W.Frag} {mg : Str → Option Value} {base : Heap}
abbrev s_Letter_add : Stmt := inClass (top 25) 8
theorem sc_Letter_add : FnScope ["self", "other"] ["self", "other"] (defScope s_Letter_add) := ⟨rfl, rfl, rfl, by decide +kernel, rfl, by decide +kernel, by decide +kernel⟩
theorem ok_Ladd (T : Tx w K mg) : Fm P w K mg base CX0 6 "Letter" "__add__" ["self", "other"] (sp_bin K "pair") := by
  refine T.M_Letter_add.ok0 sc_Letter_add (fun _ _ _ _ _ _ us hl => match us, hl with | [_, _], _ => rfl)
    (fun vs H Q E h => ?_) (fun cdv A outer s H vs Q E hr h => ?_)
  · obtain ⟨a, b, u1, u2, rfl, _⟩ := h
    rfl
  · obtain ⟨a, b, u1, u2, rfl, ⟨dx, ha⟩, ⟨dy, hb⟩, k⟩ := h
    refine ⟨_, (pss_one (ps_ret (pe_mk2 (ok_Letter T) (hr.mono (by omega)) (by rfl) passN (pa_cons pe_str (pa_cons (pe_tup (pa_cons pe_str (pa_cons (pe_fld (pv 0) rfl) (pa_cons (pe_fld (pv 1) rfl) pa_nil)))) pa_nil))))), ?_⟩
    refine ⟨_, rfl, a, _, dx, _, _, rfl, ha, T.k_Letter, T.n_Letter_tree, look1 _, _, rfl, b, _, dy, _, _, rfl, hb, T.k_Letter, T.n_Letter_tree, look1 _, (by show 3 ≤ sizeLine; decide), fun q hq => ?_⟩
    exact rd_mkL upd_same fun x H' s' hx => k x q H' ((Rd.Same.upd hq).trans s') hx (s' _ _ upd_same)
abbrev s_Letter_mul : Stmt := inClass (top 25) 9
theorem sc_Letter_mul : FnScope ["self", "key"] ["self", "key"] (defScope s_Letter_mul) := ⟨rfl, rfl, rfl, by decide +kernel, rfl, by decide +kernel, by decide +kernel⟩
theorem ok_Lmul (T : Tx w K mg) : Fm P w K mg base CX0 6 "Letter" "__mul__" ["self", "key"] (sp_bin K "seal") := by
  refine T.M_Letter_mul.ok0 sc_Letter_mul (fun _ _ _ _ _ _ us hl => match us, hl with | [_, _], _ => rfl)
    (fun vs H Q E h => ?_) (fun cdv A outer s H vs Q E hr h => ?_)
  · obtain ⟨a, b, u1, u2, rfl, _⟩ := h
    rfl
  · obtain ⟨a, b, u1, u2, rfl, ⟨dx, ha⟩, ⟨dy, hb⟩, k⟩ := h
    refine ⟨_, (pss_one (ps_ret (pe_mk2 (ok_Letter T) (hr.mono (by omega)) (by rfl) passN (pa_cons pe_str (pa_cons (pe_tup (pa_cons pe_str (pa_cons (pe_fld (pv 0) rfl) (pa_cons (pe_fld (pv 1) rfl) pa_nil)))) pa_nil))))), ?_⟩
    refine ⟨_, rfl, a, _, dx, _, _, rfl, ha, T.k_Letter, T.n_Letter_tree, look1 _, _, rfl, b, _, dy, _, _, rfl, hb, T.k_Letter, T.n_Letter_tree, look1 _, (by show 3 ≤ sizeLine; decide), fun q hq => ?_⟩
    exact rd_mkL upd_same fun x H' s' hx => k x q H' ((Rd.Same.upd hq).trans s') hx (s' _ _ upd_same)
abbrev s_Letter_invert : Stmt := inClass (top 25) 11
theorem sc_Letter_invert : FnScope ["self"] ["self"] (defScope s_Letter_invert) := ⟨rfl, rfl, rfl, by decide +kernel, rfl, by decide +kernel, by decide +kernel⟩
theorem ok_Linvert (T : Tx w K mg) : Fm P w K mg base CX0 6 "Letter" "__invert__" ["self"] (sp_one K "mark") := by
  refine T.M_Letter_invert.ok0 sc_Letter_invert (fun _ _ _ _ _ _ us hl => match us, hl with | [_], _ => rfl)
    (fun vs H Q E h => ?_) (fun cdv A outer s H vs Q E hr h => ?_)
  · obtain ⟨a, u1, rfl, _⟩ := h
    rfl
  · obtain ⟨a, u1, rfl, ⟨dx, ha⟩, k⟩ := h
    refine ⟨_, (pss_one (ps_ret (pe_mk2 (ok_Letter T) (hr.mono (by omega)) (by rfl) passN (pa_cons pe_str (pa_cons (pe_tup (pa_cons pe_str (pa_cons (pe_fld (pv 0) rfl) pa_nil))) pa_nil))))), ?_⟩
    refine ⟨_, rfl, a, _, dx, _, _, rfl, ha, T.k_Letter, T.n_Letter_tree, look1 _, (by show 2 ≤ sizeLine; decide), fun q hq => ?_⟩
    exact rd_mkL upd_same fun x H' s' hx => k x q H' ((Rd.Same.upd hq).trans s') hx (s' _ _ upd_same)
abbrev s_Letter_pos : Stmt := inClass (top 25) 12
theorem sc_Letter_pos : FnScope ["self"] ["self"] (defScope s_Letter_pos) := ⟨rfl, rfl, rfl, by decide +kernel, rfl, by decide +kernel, by decide +kernel⟩
theorem ok_Lpos (T : Tx w K mg) : Fm P w K mg base CX0 6 "Letter" "__pos__" ["self"] (sp_one K "open") := by
  refine T.M_Letter_pos.ok0 sc_Letter_pos (fun _ _ _ _ _ _ us hl => match us, hl with | [_], _ => rfl)
    (fun vs H Q E h => ?_) (fun cdv A outer s H vs Q E hr h => ?_)
  · obtain ⟨a, u1, rfl, _⟩ := h
    rfl
  · obtain ⟨a, u1, rfl, ⟨dx, ha⟩, k⟩ := h
    refine ⟨_, (pss_one (ps_ret (pe_mk2 (ok_Letter T) (hr.mono (by omega)) (by rfl) passN (pa_cons pe_str (pa_cons (pe_tup (pa_cons pe_str (pa_cons (pe_fld (pv 0) rfl) pa_nil))) pa_nil))))), ?_⟩
    refine ⟨_, rfl, a, _, dx, _, _, rfl, ha, T.k_Letter, T.n_Letter_tree, look1 _, (by show 2 ≤ sizeLine; decide), fun q hq => ?_⟩
    exact rd_mkL upd_same fun x H' s' hx => k x q H' ((Rd.Same.upd hq).trans s') hx (s' _ _ upd_same)
abbrev s_Letter_neg : Stmt := inClass (top 25) 13
theorem sc_Letter_neg : FnScope ["self"] ["self"] (defScope s_Letter_neg) := ⟨rfl, rfl, rfl, by decide +kernel, rfl, by decide +kernel, by decide +kernel⟩
theorem ok_Lneg (T : Tx w K mg) : Fm P w K mg base CX0 6 "Letter" "__neg__" ["self"] (sp_one K "own") := by
  refine T.M_Letter_neg.ok0 sc_Letter_neg (fun _ _ _ _ _ _ us hl => match us, hl with | [_], _ => rfl)
    (fun vs H Q E h => ?_) (fun cdv A outer s H vs Q E hr h => ?_)
  · obtain ⟨a, u1, rfl, _⟩ := h
    rfl
  · obtain ⟨a, u1, rfl, ⟨dx, ha⟩, k⟩ := h
    refine ⟨_, (pss_one (ps_ret (pe_mk2 (ok_Letter T) (hr.mono (by omega)) (by rfl) passN (pa_cons pe_str (pa_cons (pe_tup (pa_cons pe_str (pa_cons (pe_fld (pv 0) rfl) pa_nil))) pa_nil))))), ?_⟩
    refine ⟨_, rfl, a, _, dx, _, _, rfl, ha, T.k_Letter, T.n_Letter_tree, look1 _, (by show 2 ≤ sizeLine; decide), fun q hq => ?_⟩
    exact rd_mkL upd_same fun x H' s' hx => k x q H' ((Rd.Same.upd hq).trans s') hx (s' _ _ upd_same)
abbrev s_BadKey_init : Stmt := inClass (top 5) 0
theorem sc_BadKey_init : FnScope ["self", "key"] ["self", "key"] (defScope s_BadKey_init) := ⟨rfl, rfl, rfl, by decide +kernel, rfl, by decide +kernel, by decide +kernel⟩
theorem ok_BadKey (T : Tx w K mg) : Fm P w K mg base CX0 1 "BadKey" "__init__" ["self", "key"] (spX1 K "key") := by
  refine T.X_BadKey.init.ok0 sc_BadKey_init (fun _ _ _ _ _ _ us hl => match us, hl with | [_, _], _ => rfl)
    (fun vs H Q E h => ?_) (fun cdv A outer s H vs Q E hr h => ?_)
  · obtain ⟨a, C, v, rfl, _⟩ := h
    rfl
  · obtain ⟨a, C, v, rfl, TC, no, ha, k⟩ := h
    refine ⟨_, (pss_cons (ps_expr (pe_reinit rfl T.g_RoadError T.r_RoadError (pa_cons (pv 0) (pa_cons pe_str pa_nil))))
  (pss_one (ps_ost (pv 0) (pv 1)))), ?_⟩
    refine ⟨_, rfl, a, C, [.str "no key of a pair"], rfl, (by show 1 ≤ 1000; decide), TC, ha, _, rfl, _, rfl, a, C, rfl, TC, no, .inl ⟨ha, fun dx hdx ne => k dx hdx ne⟩⟩
abbrev s_Letter_xor : Stmt := inClass (top 25) 10
theorem sc_Letter_xor : FnScope ["self", "key"] ["self", "key"] (defScope s_Letter_xor) := ⟨rfl, rfl, rfl, by decide +kernel, rfl, by decide +kernel, by decide +kernel⟩
theorem ok_Lxor (T : Tx w K mg) : Fm P w K mg base (L2N.CX P w) 6 "Letter" "__xor__" ["self", "key"] (sp_xor K) := by
  refine T.M_Letter_xor.ok sc_Letter_xor (fun _ _ _ _ _ _ us hl => match us, hl with | [_, _], _ => rfl)
    (fun vs H Q E h => ?_) (fun cdv A outer s H vs Q E hr h => ?_)
  · obtain ⟨a, b, u1, u2, t2, rfl, _⟩ := h
    rfl
  · obtain ⟨a, b, u1, u2, t2, rfl, ⟨dx, ha⟩, ⟨dy, hb⟩, it, k1, k0⟩ := h
    obtain ⟨p2, us, rfl, hp2⟩ := it.hd
    refine ⟨_, (pss_cons (ps_if (pt_cmpR op_notInT (pe_ix ix_tup (pe_fld (pv 1) rfl) pe_int (fun _ _ => rfl)) (pe_tup (pa_cons pe_str (pa_cons pe_str pa_nil))) (by rfl))
  (pss_one (L2N.ps_raise rfl (L2N.takes_of rfl rfl rfl rfl) (pmk_xN T.X_BadKey (ok_BadKey T) (hr.mono (by omega)) rfl (pa_cons (pv 1) pa_nil))))
  pss_nil)
  (pss_one (ps_ret (pe_mk2 (ok_Letter T) (hr.mono (by omega)) (by rfl) passN (pa_cons pe_str (pa_cons (pe_tup (pa_cons pe_str (pa_cons (pe_fld (pv 0) rfl) (pa_cons (pe_fld (pv 1) rfl) pa_nil)))) pa_nil)))))), ?_⟩
    refine ⟨_, rfl, b, _, dy, _, _, rfl, hb, T.k_Letter, T.n_Letter_tree, look1 _, p2, _, _, _, rfl, rfl, SqT.of hp2, at_of (j := 0) rfl rfl, (by show 2 ≤ sizeLine; decide), fun q hq => ?_⟩
    have sq := Rd.Same.upd (o := .tup [.str "open", .str "own"]) hq
    refine ⟨_, q, ["open", "own"], rfl, rfl, SqT.of upd_same, _, rfl, ?_⟩
    show if (!isKey t2) = true then _ else _
    cases hk : isKey t2 with
    | false =>
      refine iteT ?_
      exact ⟨_, rfl, rd_raise1 T.X_BadKey.oex T.X_BadKey.no fun d H' s' nd hd => k0 hk d H' (sq.trans s') hd⟩
    | true =>
      refine iteF ?_
      refine ⟨_, rfl, a, _, dx, _, _, rfl, sq _ _ ha, T.k_Letter, T.n_Letter_tree, look1 _, _, rfl, b, _, dy, _, _, rfl, sq _ _ hb, T.k_Letter, T.n_Letter_tree, look1 _, (by show 3 ≤ sizeLine; decide), fun q2 hq2 => ?_⟩
      exact rd_mkL upd_same fun x H' s' hx => k1 hk x q2 H' ((sq.trans (Rd.Same.upd hq2)).trans s') hx (s' _ _ upd_same)
end
end Rd
namespace Rd
open PySem L2
theorem SqT.kept {K : PySem.W.Frag} {H H' : Hp} {a : Addr} {xs : List V} (h : SqT K H a xs) (s : Same H H') : SqT K H' a xs := by
  rcases h with (h | ⟨n, h⟩) | h
  · exact .inl (.inl (s _ _ h))
  · exact .inl (.inr ⟨n, s _ _ h⟩)
  · exact .inr h
theorem iteN {c A B : Prop} [Decidable c] (h : ¬ c) (b : B) : if c then A else B := ite2 (fun q => absurd q h) fun _ => b
theorem iteP {c A B : Prop} [Decidable c] (h : c) (a : A) : if c then A else B := ite2 (fun _ => a) fun q => absurd h q
def Tr.parts : Tr → List Tr
  | .am _ _ => []
  | .un _ a => [a]
  | .bi _ a b => [a, b]
theorem mem_to {l m : List Str} {z : Str} (h : l.all (fun y => decide (y ∈ m)) = true) (hz : z ∈ l) : z ∈ m := of_decide_eq_true (List.all_eq_true.mp h z hz)
theorem Wf.sign {t : Tr} (h : Wf t) (hn : t.parts ≠ []) : t.head ∈ (["mark", "open", "own", "pair", "seal", "lock"] : List Str) ∧ (∀ u ∈ t.parts, Wf u ∧ u.dep + 1 ≤ t.dep) := by
  cases h with
  | am => exact absurd rfl hn
  | @un s a hs w =>
    refine ⟨mem_to (by decide +kernel) hs, fun u hu => ?_⟩
    rw [List.mem_singleton.mp hu]
    exact ⟨w, Nat.le_refl _⟩
  | @bi s a b hs wa wb =>
    refine ⟨mem_to (by decide +kernel) hs, fun u hu => ?_⟩
    have e : (Tr.bi s a b).dep = max a.dep b.dep + 1 := rfl
    rcases List.mem_cons.mp hu with rfl | hu
    · exact ⟨wa, by omega⟩
    · rw [List.mem_singleton.mp hu]
      exact ⟨wb, by omega⟩
  | @lk s a b hs wa wb =>
    have hs' : s ∈ (["mark", "open", "own"] : List Str) := List.mem_cons_of_mem _ hs
    refine ⟨mem_to (l := ["lock"]) (by decide +kernel) List.mem_cons_self, fun u hu => ?_⟩
    have e : (Tr.bi "lock" a (.un s b)).dep = max a.dep (Tr.un s b).dep + 1 := rfl
    rcases List.mem_cons.mp hu with rfl | hu
    · exact ⟨wa, by omega⟩
    · rw [List.mem_singleton.mp hu]
      exact ⟨.un hs' wb, by omega⟩
theorem IsT.parts {H : Hp} {t : Tr} {v : V} (h : IsT H t v) (hn : t.parts ≠ []) : ∃ p us, v = .ref p ∧ H p = some (.tup (.str t.head :: us)) ∧ us.length = t.parts.length ∧ us.length ≤ 2 ∧ us ≠ [] ∧ ∀ (i : Nat) u, us[i]? = some u → ∃ r, t.parts[i]? = some r ∧ IsT H r u := by
  cases t with
  | am k x => exact absurd rfl hn
  | un s a =>
    obtain ⟨p, u, e, h, h1⟩ := h
    refine ⟨p, [u], e, h, rfl, (by show 1 ≤ 2; decide), (fun e => by cases e), fun i v hv => ?_⟩
    cases i with
    | zero => cases hv; exact ⟨a, rfl, h1⟩
    | succ i => cases i <;> cases hv
  | bi s a b =>
    obtain ⟨p, u, u2, e, h, h1, h2⟩ := h
    refine ⟨p, [u, u2], e, h, rfl, Nat.le_refl _, (fun e => by cases e), fun i v hv => ?_⟩
    cases i with
    | zero => cases hv; exact ⟨a, rfl, h1⟩
    | succ i =>
      cases i with
      | zero => cases hv; exact ⟨b, rfl, h2⟩
      | succ i => cases i <;> cases hv
theorem cut1 {x : V} {us : List V} : cutV (x :: us) (some 1) none = us := by
  unfold cutV
  have e : HT.sIx (x :: us).length 0 (some 1) = 1 := by
    rw [show (1 : Int) = ((1 : Nat) : Int) from rfl, HT.sIx_nat, List.length_cons]
    omega
  have e2 : HT.sIx (x :: us).length (x :: us).length none = us.length + 1 := rfl
  rw [e, e2]
  show us.take (us.length + 1 - 1) = us
  rw [Nat.add_sub_cancel, List.take_length]
/-- [e for x in a tuple], each item's value by R -/
theorem lct {K : PySem.W.Frag} {C a D : Addr} {xs : List V} {te : TE} {i0 : Nat} {σ : St} {H1 : Hp} {Qd : Hp → Prop} (R : Nat → Hp → V → Prop) (rm : ∀ i H H' v, Kp C H H' → R i H v → R i H' v) (hS : SqT K H1 a xs) (hl : xs.length ≤ 100000) (hD : H1 D = none)
    (hte : ∀ (i : Nat) (x : V) (H : Hp) (Q : VK), xs[i]? = some x → Same H1 H → (∀ v H', Same H H' → R i H' v → Q v H') → te ((wipe σ [i0]).set i0 (some x)) H Q)
    (hq : ∀ vs H', Same H1 H' → H' D = some (.lst vs) → vs.length = xs.length → (∀ (i : Nat) v, vs[i]? = some v → R i H' v) → Qd H') :
    ∃ W : Nat → Nat → Hp → Prop, (∃ m, W 0 m (L2.upd H1 D (.lst []))) ∧ ∀ i m H, W i m H →
      ((Itt K a).stop i H ∧ Qd H) ∨ ((Itt K a).go i H ∧ ∃ Nx : Hp → Prop, (∀ H', Nx H' → ∃ m', m' < m ∧ W (i + 1) m' H') ∧ ∀ x H', (Itt K a).yld i H x H' → gName i0 x (wipe σ [i0]) H' fun σ2 H2 => wipe σ2 [i0] = wipe σ [i0] ∧ tYes σ2 H2 fun b H3 =>
        if b = true then te σ2 H3 fun y H4 => ∃ acc, H4 D = some (.lst acc) ∧ acc.length < sizeLine ∧ Nx (L2.upd H4 D (.lst (acc ++ [y]))) else Nx H3) := by
  refine lc_tup (K := K) (a := a) (xs := xs) (fun i H => ∃ vs, Same H1 H ∧ H D = some (.lst vs) ∧ vs.length = i ∧ (∀ (j : Nat) v, vs[j]? = some v → R j H v)) ?_ ?_ ?_ ?_
  · exact ⟨[], Rd.Same.upd hD, upd_same, rfl, fun j v h => by simp at h⟩
  · rintro i H hi ⟨vs, s, _⟩
    exact SqT.kept hS s
  · rintro i x H hx ⟨vs, s, hDv, hlv, hg⟩
    refine ⟨by simp [wipe], hte i x H _ hx s fun v H' s' hv => ⟨vs, s' _ _ hDv, ?_, ?_⟩⟩
    · have : 100000 < sizeLine := by decide
      have := (List.getElem?_eq_some_iff.mp hx).1
      omega
    · have hDv' := s' _ _ hDv
      refine ⟨vs ++ [v], fun c o e => ?_, upd_same, by rw [List.length_append, hlv]; rfl, fun j v' hv' => ?_⟩
      · rw [upd_ne (ne_of_none e hD)]
        exact s' c o (s c o e)
      · have kp := Kp.upd_lst (C := C) (ys := vs ++ [v]) hDv'
        by_cases hj : j < vs.length
        · rw [List.getElem?_append_left hj] at hv'
          exact rm _ _ _ _ kp (rm _ _ _ _ (Kp.of_same s') (hg j v' hv'))
        · have e : j = vs.length := by
            have := (List.getElem?_eq_some_iff.mp hv').1
            rw [List.length_append, List.length_singleton] at this
            omega
          subst e
          rw [List.getElem?_append_right (Nat.le_refl _), Nat.sub_self] at hv'
          have e2 : v = v' := Option.some.inj hv'
          rw [← e2, hlv]
          exact rm _ _ _ _ kp hv
  · rintro H ⟨vs, s, hDv, hlv, hg⟩
    exact hq vs H s hDv hlv hg
theorem q_starts (x : Str) : Txt.startswith ("?" ++ x) "?" = true := by
  rw [starts_q, app_list]
  have e2 : ("?" : Str).cps.toList = [63] := by decide +kernel
  exact ⟨_, by rw [e2]; rfl⟩
theorem q_tail2 (x : Str) : tailS ("?" ++ x) = x := by
  refine str_ext ?_
  rw [tailS_list, app_list]
  have e2 : ("?" : Str).cps.toList = [63] := by decide +kernel
  rw [e2]
  rfl
theorem atomOf_word {x : Str} (h : isWord x = true) : atomOf x = some (("word" : Str), x) := by rw [atomOf, if_pos h]
theorem atomOf_name {x : Str} (h : isName x = true) : atomOf x = some (("name" : Str), x) := by rw [atomOf, if_neg (by rw [word_noname h]; decide), if_pos h]
theorem atomOf_unk {x : Str} (h : isUnk x = true) : atomOf ("?" ++ x) = some (("unknown" : Str), x) := by
  have hw : ¬ isWord ("?" ++ x) = true := fun q => by
    obtain ⟨_, h2⟩ := He.ba q
    obtain ⟨_, h4⟩ := He.ba h2
    have e2 : ("?" : Str).cps.toList = [63] := by decide +kernel
    have := List.all_eq_true.mp h4 63 (by rw [app_list, e2]; exact List.mem_cons_self)
    have e3 : inS SMALL 63 = false := by decide +kernel
    rw [e3] at this
    cases this
  rw [atomOf, if_neg hw, if_neg (fun q => isName_first q (q_starts x)), q_starts, q_tail2, h]
  rfl
/-- Letter(text) of an atom's text -/
theorem rd_mkA {K : PySem.W.Frag} {H1 : Hp} {z k y : Str} {Q : VK} {E : XK} (hz : z.length ≤ 200000) (ha : atomOf z = some (k, y)) (kk : ∀ x H', Same H1 H' → IsLet K H' (.am k y) (.ref x) → Q (.ref x) H') :
    ∀ x dx, H1 x = none → H1 dx = none → dx ≠ x → sp_Linit K (.ref x :: ([.str z] ++ [.non])) (upd (upd H1 dx (.own x)) x (.ins (He.ga K "Letter") dx [])) (fun v H2 => v = .non ∧ Q (.ref x) H2) E := fun x dx nx ndx ne => by
  refine ⟨x, dx, z, .non, rfl, upd_same, .inr ⟨rfl, hz, fun k' y' p H' b' es np hp hx => ⟨rfl, ?_⟩, fun d H' b' en _ _ => ?_⟩⟩
  · rw [ha] at es
    cases es
    refine kk x H' (fun b o e => b' b o (ne_of_none e nx) ?_) ⟨x, .ref p, rfl, ⟨dx, hx⟩, p, rfl, hp⟩
    rw [upd_ne (ne_of_none e nx), upd_ne (ne_of_none e ndx)]
    exact e
  · rw [ha] at en
    cases en
def sp_letter (K : PySem.W.Frag) (d : Nat) : Sp := fun vs H Q _ => ∃ (v : V) (t : Tr), vs = [v] ∧ IsT H t v ∧ Wf t ∧ t.dep ≤ d ∧ ∀ v' H', Same H H' → IsLet K H' t v' → Q v' H'
def spLR (K : PySem.W.Frag) : Nat → Sp
  | 0 => fun _ _ _ _ => False
  | d + 1 => sp_letter K d
section
variable {P : Program} {w : World} {K : PySem.W.Frag} {mg : Str → Option Value} {base : Heap}
abbrev s__law_letter : Stmt := top 41
theorem sc__law_letter : FnScope ["_law_form", "_law_inner", "_law_part"] ["_law_form"] (defScope s__law_letter) := ⟨rfl, rfl, rfl, by decide +kernel, rfl, by decide +kernel, by decide +kernel⟩
theorem letter_step (T : Tx w K mg) (d : Nat) (ih : Fk P w K mg base CX0 (d + 7) "_law_letter" ["_law_form"] (spLR K d)) : Fk P w K mg base CX0 (d + 8) "_law_letter" ["_law_form"] (sp_letter K d) := by
  refine T.F__law_letter.ok0 sc__law_letter (fun _ _ _ _ _ _ us hl => match us, hl with | [_], _ => rfl)
    (fun vs H Q E h => ?_) (fun cdv A outer s H vs Q E hr h => ?_)
  · obtain ⟨v, t, rfl, _⟩ := h
    rfl
  · obtain ⟨v, t, rfl, it, wf, dp, k⟩ := h
    skip
    refine ⟨_, (pss_cons (ps_if (pt_cmpR op_eq (pe_ix ix_tup (pv 0) pe_int (fun _ _ => rfl)) pe_str (nomark _))
  (pss_one (ps_ret (pe_mk1 (ok_Letter T) (hr.mono (by omega)) (by rfl) passN (pa_cons (pe_op op_add_str pe_str (pe_ix ix_tup (pv 0) pe_int (fun _ _ => rfl))) pa_nil))))
  pss_nil)
  (pss_cons (ps_if (pt_cmpR op_inT (pe_ix ix_tup (pv 0) pe_int (fun _ _ => rfl)) (pe_tup (pa_cons pe_str (pa_cons pe_str pa_nil))) (by rfl))
  (pss_one (ps_ret (pe_mk1 (ok_Letter T) (hr.mono (by omega)) (by rfl) passN (pa_cons (pe_ix ix_tup (pv 0) pe_int (fun _ _ => rfl)) pa_nil))))
  pss_nil)
  (pss_cons (ps_setLc (i := 1) (own := [("_law_part", 2)]) (g := gName 2) (tt := tYes) (by rfl) sc__law_letter.nd rfl rfl (sw_true rfl rfl rfl (by decide +kernel)) (pi_tup (pe_slice sl_tup (pv 0) (po_some pe_int) po_none)) (blkOk_by (own := [("_law_part", 2)]) (N := ["_law_form", "_law_inner", "_law_part"]) (sc := defScope s__law_letter) (by decide +kernel)) (fun _ _ _ _ _ => (pg_name (i := 2) sc__law_letter.nd rfl (Or.inl rfl))) (fun _ _ _ _ _ => pts_nil) (fun _ _ _ _ _ => (pe_fk ih (hr.mono (by omega)) rfl pass0 (pa_cons (pv 2) pa_nil))))
  (pss_cons (ps_if (pt_cmpR op_eq (pe_ix ix_tup (pv 0) pe_int (fun _ _ => rfl)) pe_str (nomark _))
  (pss_one (ps_ret (pe_bo (pe_ix ix_list (pv 1) pe_int (fun _ _ => rfl)) (pe_ix ix_list (pv 1) pe_int (fun _ _ => rfl)) T.f_Letter (ok_Ladd T) (hr.mono (by omega)) (fun _ => at0))))
  pss_nil)
  (pss_cons (ps_if (pt_cmpR op_eq (pe_ix ix_tup (pv 0) pe_int (fun _ _ => rfl)) pe_str (nomark _))
  (pss_one (ps_ret (pe_bo (pe_ix ix_list (pv 1) pe_int (fun _ _ => rfl)) (pe_ix ix_list (pv 1) pe_int (fun _ _ => rfl)) T.f_Letter (ok_Lmul T) (hr.mono (by omega)) (fun _ => at0))))
  pss_nil)
  (pss_cons (ps_if (pt_cmpR op_eq (pe_ix ix_tup (pv 0) pe_int (fun _ _ => rfl)) pe_str (nomark _))
  (pss_one (ps_ret (pe_bo (pe_ix ix_list (pv 1) pe_int (fun _ _ => rfl)) (pe_ix ix_list (pv 1) pe_int (fun _ _ => rfl)) T.f_Letter (ok_Lxor T) (hr.mono (by omega)) (fun _ => atN))))
  pss_nil)
  (pss_cons (ps_if (pt_cmpR op_eq (pe_ix ix_tup (pv 0) pe_int (fun _ _ => rfl)) pe_str (nomark _))
  (pss_one (ps_ret (pe_uo (pe_ix ix_list (pv 1) pe_int (fun _ _ => rfl)) (ok_Linvert T) (hr.mono (by omega)) (fun _ => at0) (.inl ⟨rfl, rfl⟩))))
  pss_nil)
  (pss_one (ps_ret (pe_ifExp (pt_cmpR op_eq (pe_ix ix_tup (pv 0) pe_int (fun _ _ => rfl)) pe_str (nomark _)) (pe_uo (pe_ix ix_list (pv 1) pe_int (fun _ _ => rfl)) (ok_Lpos T) (hr.mono (by omega)) (fun _ => at0) (.inr (.inl ⟨rfl, rfl⟩))) (pe_uo (pe_ix ix_list (pv 1) pe_int (fun _ _ => rfl)) (ok_Lneg T) (hr.mono (by omega)) (fun _ => at0) (.inr (.inr ⟨rfl, rfl⟩))))))))))))), ?_⟩
    by_cases hpt : t.parts ≠ []
    · obtain ⟨hsg, hws⟩ := wf.sign hpt
      obtain ⟨p, us, rfl, hp, hlu, hl2, hne, hus⟩ := it.parts hpt
      have h3 : ¬ decide (t.head ∈ (["word", "name"] : List Str)) = true := by
        have : ∀ z ∈ (["mark", "open", "own", "pair", "seal", "lock"] : List Str), ¬ decide (z ∈ (["word", "name"] : List Str)) = true := by decide +kernel
        exact this _ hsg
      have h4 : ¬ decide (V.str t.head = V.str "unknown") = true := by
        have : ∀ z ∈ (["mark", "open", "own", "pair", "seal", "lock"] : List Str), ¬ decide (V.str z = V.str "unknown") = true := by decide +kernel
        exact this _ hsg
      refine ⟨_, rfl, p, _, _, _, rfl, rfl, SqT.of hp, at_of (j := 0) rfl rfl, rfl, _, rfl, iteN h4 ?_⟩
      refine ⟨_, rfl, p, _, _, _, rfl, rfl, SqT.of hp, at_of (j := 0) rfl rfl, (by show 2 ≤ sizeLine; decide), fun q hq => ?_⟩
      have sq := Rd.Same.upd (o := .tup [.str "word", .str "name"]) hq
      refine ⟨_, q, ["word", "name"], rfl, rfl, SqT.of upd_same, _, rfl, iteN h3 ?_⟩
      refine ⟨_, rfl, _, rfl, p, _, rfl, SqT.of (sq _ _ hp), ?_, fun p2 hp2 => ?_⟩
      · rintro ⟨z, _⟩
        rw [show (1 : Int) = ((1 : Nat) : Int) from rfl, HT.sIx_nat, List.length_cons] at z
        omega
      rw [cut1]
      have sq2 := sq.trans (Rd.Same.upd (o := .tup us) hp2)
      refine ⟨p2, rfl, ⟨_, SqT.of upd_same⟩, fun D hD => ?_⟩
      refine lct (C := He.ga K "Letter") (fun i H v => ∃ r, t.parts[i]? = some r ∧ IsLet K H r v) (fun i H H' v kp ⟨r, h1, h2⟩ => ⟨r, h1, h2.mono kp⟩) (SqT.of upd_same) (by omega) hD (fun i x H1 Q1 hx s1 k1 => ?_) fun vs H1 s1 hD1 hlv hvs => ?_
      · obtain ⟨r, hr1, hr2⟩ := hus i x hx
        obtain ⟨w1, w2⟩ := hws r (List.mem_of_getElem? hr1)
        cases d with
        | zero => exact absurd dp (by omega)
        | succ d =>
          exact ⟨_, rfl, x, r, rfl, hr2.same (sq2.trans s1), w1, (by omega), fun v' H' s' h' => k1 v' H' s' ⟨r, hr1, h'⟩⟩
      · have s2 := sq2.trans s1
        have hp1 := s2 _ _ hp
        refine gName_k ?_
        try dsimp only
        cases wf with
        | am => exact absurd rfl hpt
        | @un s0 a0 hs wf0 =>
          obtain ⟨v1, rfl⟩ : ∃ v1, vs = [v1] := by
            match vs, hlv.trans hlu with
            | [v1], _ => exact ⟨v1, rfl⟩
          obtain ⟨r, hr1, x1, u1, rfl, ⟨dx1, hx1⟩, hT1⟩ := hvs 0 v1 rfl
          cases hr1
          rcases List.mem_cons.mp hs with rfl | hs
          · have hp1 : H1 p = some (.tup (.str "mark" :: us)) := hp1
            refine ⟨_, rfl, p, _, _, _, rfl, rfl, SqT.of hp1, at_of (j := 0) rfl rfl, rfl, _, rfl, iteN (by decide +kernel) ?_⟩
            refine ⟨_, rfl, p, _, _, _, rfl, rfl, SqT.of hp1, at_of (j := 0) rfl rfl, rfl, _, rfl, iteN (by decide +kernel) ?_⟩
            refine ⟨_, rfl, p, _, _, _, rfl, rfl, SqT.of hp1, at_of (j := 0) rfl rfl, rfl, _, rfl, iteN (by decide +kernel) ?_⟩
            refine ⟨_, rfl, p, _, _, _, rfl, rfl, SqT.of hp1, at_of (j := 0) rfl rfl, rfl, _, rfl, iteP (by decide +kernel) ?_⟩
            refine ⟨_, rfl, D, _, _, _, rfl, rfl, SqL.of hD1, at_of (j := 0) rfl rfl, x1, dx1, _, rfl, hx1, x1, u1, rfl, ⟨dx1, hx1⟩, fun x q H' s' hl hq' => ?_⟩
            exact k _ H' (s2.trans s') ⟨x, _, rfl, hl, q, u1, rfl, hq', hT1.same s'⟩
          rcases List.mem_cons.mp hs with rfl | hs
          · have hp1 : H1 p = some (.tup (.str "open" :: us)) := hp1
            refine ⟨_, rfl, p, _, _, _, rfl, rfl, SqT.of hp1, at_of (j := 0) rfl rfl, rfl, _, rfl, iteN (by decide +kernel) ?_⟩
            refine ⟨_, rfl, p, _, _, _, rfl, rfl, SqT.of hp1, at_of (j := 0) rfl rfl, rfl, _, rfl, iteN (by decide +kernel) ?_⟩
            refine ⟨_, rfl, p, _, _, _, rfl, rfl, SqT.of hp1, at_of (j := 0) rfl rfl, rfl, _, rfl, iteN (by decide +kernel) ?_⟩
            refine ⟨_, rfl, p, _, _, _, rfl, rfl, SqT.of hp1, at_of (j := 0) rfl rfl, rfl, _, rfl, iteN (by decide +kernel) ?_⟩
            refine ⟨_, rfl, p, _, _, _, rfl, rfl, SqT.of hp1, at_of (j := 0) rfl rfl, rfl, _, rfl, iteP (by decide +kernel) ?_⟩
            refine ⟨_, rfl, D, _, _, _, rfl, rfl, SqL.of hD1, at_of (j := 0) rfl rfl, x1, dx1, _, rfl, hx1, x1, u1, rfl, ⟨dx1, hx1⟩, fun x q H' s' hl hq' => ?_⟩
            exact k _ H' (s2.trans s') ⟨x, _, rfl, hl, q, u1, rfl, hq', hT1.same s'⟩
          cases List.mem_singleton.mp hs
          have hp1 : H1 p = some (.tup (.str "own" :: us)) := hp1
          refine ⟨_, rfl, p, _, _, _, rfl, rfl, SqT.of hp1, at_of (j := 0) rfl rfl, rfl, _, rfl, iteN (by decide +kernel) ?_⟩
          refine ⟨_, rfl, p, _, _, _, rfl, rfl, SqT.of hp1, at_of (j := 0) rfl rfl, rfl, _, rfl, iteN (by decide +kernel) ?_⟩
          refine ⟨_, rfl, p, _, _, _, rfl, rfl, SqT.of hp1, at_of (j := 0) rfl rfl, rfl, _, rfl, iteN (by decide +kernel) ?_⟩
          refine ⟨_, rfl, p, _, _, _, rfl, rfl, SqT.of hp1, at_of (j := 0) rfl rfl, rfl, _, rfl, iteN (by decide +kernel) ?_⟩
          refine ⟨_, rfl, p, _, _, _, rfl, rfl, SqT.of hp1, at_of (j := 0) rfl rfl, rfl, _, rfl, iteN (by decide +kernel) ?_⟩
          refine ⟨_, rfl, D, _, _, _, rfl, rfl, SqL.of hD1, at_of (j := 0) rfl rfl, x1, dx1, _, rfl, hx1, x1, u1, rfl, ⟨dx1, hx1⟩, fun x q H' s' hl hq' => ?_⟩
          exact k _ H' (s2.trans s') ⟨x, _, rfl, hl, q, u1, rfl, hq', hT1.same s'⟩
        | @bi s0 a0 b0 hs wfa wfb =>
          obtain ⟨v1, v2, rfl⟩ : ∃ v1 v2, vs = [v1, v2] := by
            match vs, hlv.trans hlu with
            | [v1, v2], _ => exact ⟨v1, v2, rfl⟩
          obtain ⟨r, hr1, x1, u1, rfl, ⟨dx1, hx1⟩, hT1⟩ := hvs 0 v1 rfl
          cases hr1
          obtain ⟨r, hr1, x2, u2, rfl, ⟨dx2, hx2⟩, hT2⟩ := hvs 1 v2 rfl
          cases hr1
          rcases List.mem_cons.mp hs with rfl | hs
          · have hp1 : H1 p = some (.tup (.str "pair" :: us)) := hp1
            refine ⟨_, rfl, p, _, _, _, rfl, rfl, SqT.of hp1, at_of (j := 0) rfl rfl, rfl, _, rfl, iteP (by decide +kernel) ?_⟩
            refine ⟨_, rfl, D, _, _, _, rfl, rfl, SqL.of hD1, at_of (j := 0) rfl rfl, _, rfl, D, _, _, _, rfl, rfl, SqL.of hD1, at_of (j := 1) rfl rfl, x1, x2, dx1, dx2, _, _, rfl, rfl, hx1, hx2, x1, x2, u1, u2, rfl, ⟨dx1, hx1⟩, ⟨dx2, hx2⟩, fun x q H' s' hl hq' => ?_⟩
            exact k _ H' (s2.trans s') ⟨x, _, rfl, hl, q, u1, u2, rfl, hq', hT1.same s', hT2.same s'⟩
          cases List.mem_singleton.mp hs
          have hp1 : H1 p = some (.tup (.str "seal" :: us)) := hp1
          refine ⟨_, rfl, p, _, _, _, rfl, rfl, SqT.of hp1, at_of (j := 0) rfl rfl, rfl, _, rfl, iteN (by decide +kernel) ?_⟩
          refine ⟨_, rfl, p, _, _, _, rfl, rfl, SqT.of hp1, at_of (j := 0) rfl rfl, rfl, _, rfl, iteP (by decide +kernel) ?_⟩
          refine ⟨_, rfl, D, _, _, _, rfl, rfl, SqL.of hD1, at_of (j := 0) rfl rfl, _, rfl, D, _, _, _, rfl, rfl, SqL.of hD1, at_of (j := 1) rfl rfl, x1, x2, dx1, dx2, _, _, rfl, rfl, hx1, hx2, x1, x2, u1, u2, rfl, ⟨dx1, hx1⟩, ⟨dx2, hx2⟩, fun x q H' s' hl hq' => ?_⟩
          exact k _ H' (s2.trans s') ⟨x, _, rfl, hl, q, u1, u2, rfl, hq', hT1.same s', hT2.same s'⟩
        | @lk s0 a0 b0 hs wfa wfb =>
          obtain ⟨v1, v2, rfl⟩ : ∃ v1 v2, vs = [v1, v2] := by
            match vs, hlv.trans hlu with
            | [v1, v2], _ => exact ⟨v1, v2, rfl⟩
          obtain ⟨r, hr1, x1, u1, rfl, ⟨dx1, hx1⟩, hT1⟩ := hvs 0 v1 rfl
          cases hr1
          obtain ⟨r, hr1, x2, u2, rfl, ⟨dx2, hx2⟩, hT2⟩ := hvs 1 v2 rfl
          cases hr1
          have hp1 : H1 p = some (.tup (.str "lock" :: us)) := hp1
          refine ⟨_, rfl, p, _, _, _, rfl, rfl, SqT.of hp1, at_of (j := 0) rfl rfl, rfl, _, rfl, iteN (by decide +kernel) ?_⟩
          refine ⟨_, rfl, p, _, _, _, rfl, rfl, SqT.of hp1, at_of (j := 0) rfl rfl, rfl, _, rfl, iteN (by decide +kernel) ?_⟩
          refine ⟨_, rfl, p, _, _, _, rfl, rfl, SqT.of hp1, at_of (j := 0) rfl rfl, rfl, _, rfl, iteP (by decide +kernel) ?_⟩
          refine ⟨_, rfl, D, _, _, _, rfl, rfl, SqL.of hD1, at_of (j := 0) rfl rfl, _, rfl, D, _, _, _, rfl, rfl, SqL.of hD1, at_of (j := 1) rfl rfl, x1, x2, dx1, dx2, _, _, rfl, rfl, hx1, hx2, x1, x2, u1, u2, _, rfl, ⟨dx1, hx1⟩, ⟨dx2, hx2⟩, hT2, fun _ x q H' s' hl hq' => ?_, fun hk => ?_⟩
          · exact k _ H' (s2.trans s') ⟨x, _, rfl, hl, q, u1, u2, rfl, hq', hT1.same s', hT2.same s'⟩
          · exact absurd (decide_eq_true hs) (by rw [isKey] at hk; rw [show decide (s0 ∈ (["open", "own"] : List Str)) = false from hk]; decide)
    cases wf with
    | @am k0 x0 ko =>
      obtain ⟨p, rfl, hp⟩ := it
      refine ⟨_, rfl, p, _, _, _, rfl, rfl, SqT.of hp, at_of (j := 0) rfl rfl, rfl, _, rfl, ?_⟩
      rcases ko with ⟨rfl, hx⟩ | ⟨rfl, hx⟩ | ⟨rfl, hx⟩
      · refine ite2 (fun h => absurd h (by decide +kernel)) (fun _ => ?_)
        refine ⟨_, rfl, p, _, _, _, rfl, rfl, SqT.of hp, at_of (j := 0) rfl rfl, (by show 2 ≤ sizeLine; decide), fun q hq => ?_⟩
        have sq := Rd.Same.upd (o := .tup [.str "word", .str "name"]) hq
        refine ⟨_, q, ["word", "name"], rfl, rfl, SqT.of upd_same, _, rfl, ite2 (fun _ => ?_) (fun h => absurd (by decide +kernel) h)⟩
        refine ⟨_, rfl, p, _, _, _, rfl, rfl, SqT.of (sq _ _ hp), at_of (j := 1) rfl rfl, ?_⟩
        exact rd_mkA (k := "word") (by have := (word_len hx); omega) (atomOf_word hx) fun x H' s' h' => k _ H' (sq.trans s') h'
      · refine ite2 (fun h => absurd h (by decide +kernel)) (fun _ => ?_)
        refine ⟨_, rfl, p, _, _, _, rfl, rfl, SqT.of hp, at_of (j := 0) rfl rfl, (by show 2 ≤ sizeLine; decide), fun q hq => ?_⟩
        have sq := Rd.Same.upd (o := .tup [.str "word", .str "name"]) hq
        refine ⟨_, q, ["word", "name"], rfl, rfl, SqT.of upd_same, _, rfl, ite2 (fun _ => ?_) (fun h => absurd (by decide +kernel) h)⟩
        refine ⟨_, rfl, p, _, _, _, rfl, rfl, SqT.of (sq _ _ hp), at_of (j := 1) rfl rfl, ?_⟩
        exact rd_mkA (k := "name") (by have := (name_len hx); omega) (atomOf_name hx) fun x H' s' h' => k _ H' (sq.trans s') h'
      · refine ite2 (fun _ => ?_) (fun h => absurd (by decide +kernel) h)
        have hl := unk_len hx
        have h1 : (("?" : Str) ++ x0).length ≤ 200000 := by
          have e : ("?" : Str).cps.toList.length = 1 := by decide +kernel
          have e2 := len_list x0
          rw [len_list, app_list, List.length_append]
          omega
        have h2 : ("?" : Str).length + x0.length ≤ sizeLine := by
          have e : ("?" : Str).length = 1 := by decide +kernel
          have : 200000 ≤ sizeLine := by decide
          omega
        refine ⟨_, rfl, p, _, _, _, rfl, rfl, SqT.of hp, at_of (j := 1) rfl rfl, _, _, rfl, rfl, h2, ?_⟩
        exact rd_mkA (k := "unknown") h1 (atomOf_unk hx) fun x H' s' h' => k _ H' s' h'
    | _ => exact absurd (fun e => by cases e) hpt
theorem letter_none (T : Tx w K mg) : Fk P w K mg base CX0 1 "_law_letter" ["_law_form"] (spLR K 0) := by
  refine T.F__law_letter.ok0 sc__law_letter (fun _ _ _ _ _ _ us hl => match us, hl with | [_], _ => rfl) (fun vs H Q E h => h.elim) (fun cdv A outer s H vs Q E hr h => h.elim)
theorem ok__law_letter (T : Tx w K mg) : ∀ d : Nat, Fk P w K mg base CX0 (d + 8) "_law_letter" ["_law_form"] (sp_letter K d)
  | 0 => letter_step T 0 ((letter_none T).mono (by decide))
  | d + 1 => letter_step T (d + 1) (ok__law_letter T d)
end
end Rd
namespace Rd
open PySem L2
def dat : Tr → PyData
  | .am k x => .tuple [.str k, .str x]
  | .un s a => .tuple [.str s, dat a]
  | .bi s a b => .tuple [.str s, dat a, dat b]
theorem IsT.dp {K : PySem.W.Frag} {H : Hp} : ∀ {t : Tr} {v : V}, IsT H t v → Dp K H v (dat t)
  | .am _ _, _, ⟨p, e, h⟩ => by subst e; exact .tup (SqT.of h) (.cons (.str _) (.cons (.str _) .nil))
  | .un _ _, _, ⟨p, u, e, h, h1⟩ => by subst e; exact .tup (SqT.of h) (.cons (.str _) (.cons (IsT.dp h1) .nil))
  | .bi _ _ _, _, ⟨p, u1, u2, e, h, h1, h2⟩ => by subst e; exact .tup (SqT.of h) (.cons (.str _) (.cons (IsT.dp h1) (.cons (IsT.dp h2) .nil)))
def Tr.fine : Tr → Prop
  | .am k x => okS k ∧ okS x
  | .un s a => okS s ∧ a.fine
  | .bi s a b => okS s ∧ a.fine ∧ b.fine
theorem okS_of {l : List Str} {z : Str} (h : l.all (fun y => y.cps.toList.all (fun c => decide (c < 1114112))) = true) (hz : z ∈ l) : okS z := by
  exact okS_by (List.all_eq_true.mp h z hz)
theorem dat_lay : ∀ {t : Tr}, t.fine → (dat t).canLay0 = true
  | .am k x, ⟨h1, h2⟩ => by
    show (PySem.PyData.strOk k && (PySem.PyData.strOk x && true)) = true
    rw [strOk_of h1, strOk_of h2]
    rfl
  | .un s a, ⟨h1, h2⟩ => by
    show (PySem.PyData.strOk s && ((dat a).canLay0 && true)) = true
    rw [strOk_of h1, dat_lay h2]
    rfl
  | .bi s a b, ⟨h1, h2, h3⟩ => by
    show (PySem.PyData.strOk s && ((dat a).canLay0 && ((dat b).canLay0 && true))) = true
    rw [strOk_of h1, dat_lay h2, dat_lay h3]
    rfl
theorem dat_dep : ∀ {t : Tr}, (dat t).depth ≤ t.dep + 1
  | .am k x => by show max 0 (max 0 0) + 1 ≤ 0 + 1; decide
  | .un s a => by
    show max 0 (max (dat a).depth 0) + 1 ≤ a.dep + 1 + 1
    have := dat_dep (t := a)
    omega
  | .bi s a b => by
    show max 0 (max (dat a).depth (max (dat b).depth 0)) + 1 ≤ max a.dep b.dep + 1 + 1
    have := dat_dep (t := a)
    have := dat_dep (t := b)
    omega
theorem dat_shaped {t : Tr} (h : t.fine) (hd : t.dep ≤ 60) : SeqAt.shaped (dat t) = true := by
  have := dat_dep (t := t)
  show ((dat t).canLay0 && decide ((dat t).depth ≤ 64)) = true
  rw [dat_lay h, decide_eq_true (by omega)]
  rfl
theorem kindOk.fine {k x : Str} (h : kindOk k x) : okS k ∧ okS x := by
  rcases h with ⟨rfl, h⟩ | ⟨rfl, h⟩ | ⟨rfl, h⟩
  · exact ⟨okS_of (l := ["word"]) (by decide +kernel) List.mem_cons_self, (word_len h).2.2⟩
  · exact ⟨okS_of (l := ["name"]) (by decide +kernel) List.mem_cons_self, (name_len h).2⟩
  · exact ⟨okS_of (l := ["unknown"]) (by decide +kernel) List.mem_cons_self, (unk_len h).2.2⟩
theorem Wf.fine {t : Tr} (h : Wf t) : t.fine := by
  induction h with
  | am h => exact h.fine
  | un hs _ ih => exact ⟨okS_of (by decide +kernel) hs, ih⟩
  | bi hs _ _ ih1 ih2 => exact ⟨okS_of (by decide +kernel) hs, ih1, ih2⟩
  | lk hs _ _ ih1 ih2 => exact ⟨okS_of (l := ["lock"]) (by decide +kernel) List.mem_cons_self, ih1, okS_of (by decide +kernel) hs, ih2⟩
theorem seqJoin {s1 rest : TS} {D : Ends} {σ : St} {H : Hp} (R : St → Hp → Prop) (h : ∀ K : St → Hp → Prop, (∀ σ' H', R σ' H' → K σ' H') → s1 { D with nx := K } σ H) (hR : ∀ σ' H', R σ' H' → rest D σ' H') : tSeq s1 rest D σ H := h _ hR
theorem But.fresh {p : Addr} {H0 H H' : Hp} (s : Same H0 H) (n : H0 p = none) (b : But p H H') : Same H0 H' := fun c o e => b c o (ne_of_none e n) (s c o e)
theorem SqL.kept {K : PySem.W.Frag} {H H' : Hp} {a : Addr} {xs : List V} (h : SqL K H a xs) (s : Same H H') : SqL K H' a xs := by
  rcases h with (h | ⟨n, h⟩) | h
  · exact .inl (.inl (s _ _ h))
  · exact .inl (.inr ⟨n, s _ _ h⟩)
  · exact .inr h
end Rd
namespace Rd
open PySem L2
theorem Wf.parts_wf {t : Tr} (h : Wf t) : ∀ u ∈ t.parts, Wf u := by
  by_cases hp : t.parts ≠ []
  · exact fun u hu => ((h.sign hp).2 u hu).1
  · intro u hu
    cases t with
    | am => cases hu
    | un => exact absurd (fun e => by cases e) hp
    | bi => exact absurd (fun e => by cases e) hp
def Tr.all : Tr → List Tr
  | .am k x => [.am k x]
  | .un s a => .un s a :: a.all
  | .bi s a b => .bi s a b :: (a.all ++ b.all)
theorem all_len : ∀ t : Tr, t.all.length + 1 ≤ 2 ^ (t.dep + 1)
  | .am k x => by show 1 + 1 ≤ 2 ^ 1; decide
  | .un s a => by
    have := all_len a
    show a.all.length + 1 + 1 ≤ 2 ^ (a.dep + 1 + 1)
    rw [Nat.pow_succ]
    have : 1 ≤ 2 ^ (a.dep + 1) := Nat.one_le_two_pow
    omega
  | .bi s a b => by
    have h1 := all_len a
    have h2 := all_len b
    show (a.all ++ b.all).length + 1 + 1 ≤ 2 ^ (max a.dep b.dep + 1 + 1)
    rw [List.length_append, Nat.pow_succ]
    have e1 : 2 ^ (a.dep + 1) ≤ 2 ^ (max a.dep b.dep + 1) := Nat.pow_le_pow_right (by decide) (by omega)
    have e2 : 2 ^ (b.dep + 1) ≤ 2 ^ (max a.dep b.dep + 1) := Nat.pow_le_pow_right (by decide) (by omega)
    omega
theorem all_parts (t : Tr) : t.all = t :: t.parts.flatMap Tr.all := by
  cases t with
  | am k x => rfl
  | un s a => show _ :: a.all = _ :: (a.all ++ []); rw [List.append_nil]
  | bi s a b => show _ :: (a.all ++ b.all) = _ :: (a.all ++ (b.all ++ [])); rw [List.append_nil]
theorem all_wf {t : Tr} (h : Wf t) : ∀ u ∈ t.all, Wf u ∧ u.dep ≤ t.dep := by
  induction t with
  | am k x => intro u hu; rw [List.mem_singleton.mp hu]; exact ⟨h, Nat.le_refl _⟩
  | un s a ih =>
    intro u hu
    rcases List.mem_cons.mp hu with rfl | hu
    · exact ⟨h, Nat.le_refl _⟩
    · have := ih (h.parts_wf a List.mem_cons_self) u hu
      exact ⟨this.1, by show _ ≤ a.dep + 1; omega⟩
  | bi s a b iha ihb =>
    intro u hu
    rcases List.mem_cons.mp hu with rfl | hu
    · exact ⟨h, Nat.le_refl _⟩
    · rcases List.mem_append.mp hu with hu | hu
      · have := iha (h.parts_wf a List.mem_cons_self) u hu
        exact ⟨this.1, by show _ ≤ max a.dep b.dep + 1; omega⟩
      · have := ihb (h.parts_wf b (List.mem_cons_of_mem _ List.mem_cons_self)) u hu
        exact ⟨this.1, by show _ ≤ max a.dep b.dep + 1; omega⟩
/-- values that are the forms ts, one behind another -/
structure TsAt (H : Hp) (ts : List Tr) (vs : List V) : Prop where
  len : vs.length = ts.length
  get : ∀ (i : Nat) t v, ts[i]? = some t → vs[i]? = some v → IsT H t v
theorem TsAt.mono {C : Addr} {H H' : Hp} {ts : List Tr} {vs : List V} (k : Kp C H H') (h : TsAt H ts vs) : TsAt H' ts vs := ⟨h.len, fun i t v h1 h2 => (h.get i t v h1 h2).mono k⟩
theorem TsAt.same {H H' : Hp} {ts : List Tr} {vs : List V} (s : Same H H') (h : TsAt H ts vs) : TsAt H' ts vs := h.mono (C := 0) (Kp.of_same s)
theorem TsAt.one {H : Hp} {t : Tr} {v : V} (h : IsT H t v) : TsAt H [t] [v] := ⟨rfl, fun i t' v' h1 h2 => by
  cases i with
  | zero => cases h1; cases h2; exact h
  | succ i => cases i <;> cases h1⟩
theorem TsAt.app {H : Hp} {ts us : List Tr} {vs ws : List V} (h : TsAt H ts vs) (g : TsAt H us ws) : TsAt H (ts ++ us) (vs ++ ws) := ⟨by rw [List.length_append, List.length_append, h.len, g.len], fun i t v h1 h2 => by
  by_cases hi : i < ts.length
  · rw [List.getElem?_append_left hi] at h1
    rw [List.getElem?_append_left (by rw [h.len]; exact hi)] at h2
    exact h.get i t v h1 h2
  · rw [List.getElem?_append_right (by omega)] at h1
    rw [List.getElem?_append_right (by rw [h.len]; omega), h.len] at h2
    exact g.get _ t v h1 h2⟩
theorem TsAt.mem {H : Hp} {ts : List Tr} {vs : List V} (h : TsAt H ts vs) {v : V} (hv : v ∈ vs) : ∃ t ∈ ts, IsT H t v := by
  obtain ⟨i, hi⟩ := List.mem_iff_getElem?.mp hv
  have hl := (List.getElem?_eq_some_iff.mp hi).1
  rw [h.len] at hl
  exact ⟨_, List.getElem_mem hl, h.get i _ v (List.getElem?_eq_getElem hl) hi⟩
theorem TsAt.at_ {H : Hp} {ts : List Tr} {vs : List V} (h : TsAt H ts vs) {i : Nat} {v : V} (hv : vs[i]? = some v) : ∃ t, ts[i]? = some t ∧ IsT H t v := by
  have hl := (List.getElem?_eq_some_iff.mp hv).1
  rw [h.len] at hl
  exact ⟨_, List.getElem?_eq_getElem hl, h.get i _ v (List.getElem?_eq_getElem hl) hv⟩
def sp_parts (d : Nat) : Sp := fun vs H Q _ => ∃ (v : V) (t : Tr), vs = [v] ∧ IsT H t v ∧ Wf t ∧ t.dep ≤ d ∧ d ≤ 12 ∧ ∀ p ws H', Same H H' → H p = none → H' p = some (.lst ws) → TsAt H' t.all ws → Q (.ref p) H'
def spPR : Nat → Sp
  | 0 => fun _ _ _ _ => False
  | d + 1 => sp_parts d
/-- the loop over a form's parts: p holds what is found, p2 the parts -/
structure PInv (H0 : Hp) (p p2 : Addr) (us : List V) (t : Tr) (i : Nat) (H : Hp) : Prop where
  same : Same H0 H
  free : H0 p = none
  tup : H p2 = some (.tup us)
  found : ∃ ws, H p = some (.lst ws) ∧ TsAt H (t :: (t.parts.take i).flatMap Tr.all) ws
theorem take_flat {l : List Tr} {i : Nat} {r : Tr} (h : l[i]? = some r) : (l.take (i + 1)).flatMap Tr.all = (l.take i).flatMap Tr.all ++ r.all := by
  rw [List.take_add_one, h, List.flatMap_append]
  simp
theorem flat_le {t : Tr} (i : Nat) : ((t.parts.take i).flatMap Tr.all).length + 1 ≤ t.all.length := by
  rw [all_parts t, List.length_cons]
  have e : t.parts.flatMap Tr.all = (t.parts.take i).flatMap Tr.all ++ (t.parts.drop i).flatMap Tr.all := by rw [← List.flatMap_append, List.take_append_drop]
  rw [e, List.length_append]
  omega
/-- [e for x in a list], each item's value by R -/
theorem lcl {K : PySem.W.Frag} {C a D : Addr} {xs : List V} {te : TE} {i0 : Nat} {σ : St} {H1 : Hp} {Qd : Hp → Prop} (R : Nat → Hp → V → Prop) (rm : ∀ i H H' v, Kp C H H' → R i H v → R i H' v) (hS : SqL K H1 a xs) (hl : xs.length ≤ 100000) (hD : H1 D = none)
    (hte : ∀ (i : Nat) (x : V) (H : Hp) (Q : VK), xs[i]? = some x → Same H1 H → (∀ v H', Same H H' → R i H' v → Q v H') → te ((wipe σ [i0]).set i0 (some x)) H Q)
    (hq : ∀ vs H', Same H1 H' → H' D = some (.lst vs) → vs.length = xs.length → (∀ (i : Nat) v, vs[i]? = some v → R i H' v) → Qd H') :
    ∃ W : Nat → Nat → Hp → Prop, (∃ m, W 0 m (L2.upd H1 D (.lst []))) ∧ ∀ i m H, W i m H →
      ((Itl K a).stop i H ∧ Qd H) ∨ ((Itl K a).go i H ∧ ∃ Nx : Hp → Prop, (∀ H', Nx H' → ∃ m', m' < m ∧ W (i + 1) m' H') ∧ ∀ x H', (Itl K a).yld i H x H' → gName i0 x (wipe σ [i0]) H' fun σ2 H2 => wipe σ2 [i0] = wipe σ [i0] ∧ tYes σ2 H2 fun b H3 =>
        if b = true then te σ2 H3 fun y H4 => ∃ acc, H4 D = some (.lst acc) ∧ acc.length < sizeLine ∧ Nx (L2.upd H4 D (.lst (acc ++ [y]))) else Nx H3) := by
  refine lc_list (K := K) (a := a) (xs := xs) (fun i H => ∃ vs, Same H1 H ∧ H D = some (.lst vs) ∧ vs.length = i ∧ (∀ (j : Nat) v, vs[j]? = some v → R j H v)) ?_ ?_ ?_ ?_
  · exact ⟨[], Rd.Same.upd hD, upd_same, rfl, fun j v h => by simp at h⟩
  · rintro i H hi ⟨vs, s, _⟩
    exact SqL.kept hS s
  · rintro i x H hx ⟨vs, s, hDv, hlv, hg⟩
    refine ⟨by simp [wipe], hte i x H _ hx s fun v H' s' hv => ⟨vs, s' _ _ hDv, ?_, ?_⟩⟩
    · have : 100000 < sizeLine := by decide
      have := (List.getElem?_eq_some_iff.mp hx).1
      omega
    · have hDv' := s' _ _ hDv
      refine ⟨vs ++ [v], fun c o e => ?_, upd_same, by rw [List.length_append, hlv]; rfl, fun j v' hv' => ?_⟩
      · rw [upd_ne (ne_of_none e hD)]
        exact s' c o (s c o e)
      · have kp := Kp.upd_lst (C := C) (ys := vs ++ [v]) hDv'
        by_cases hj : j < vs.length
        · rw [List.getElem?_append_left hj] at hv'
          exact rm _ _ _ _ kp (rm _ _ _ _ (Kp.of_same s') (hg j v' hv'))
        · have e : j = vs.length := by
            have := (List.getElem?_eq_some_iff.mp hv').1
            rw [List.length_append, List.length_singleton] at this
            omega
          subst e
          rw [List.getElem?_append_right (Nat.le_refl _), Nat.sub_self] at hv'
          have e2 : v = v' := Option.some.inj hv'
          rw [← e2, hlv]
          exact rm _ _ _ _ kp hv
  · rintro H ⟨vs, s, hDv, hlv, hg⟩
    exact hq vs H s hDv hlv hg
end Rd
namespace Rd
open PySem L2
theorem eqv_dat : ∀ t u : Tr, PyData.eqv (dat t) (dat u) = decide (t = u)
  | .am k x, .am k' x' => by
    show ((k == k') && ((x == x') && true)) = _
    by_cases h : k = k'
    · subst h
      by_cases h2 : x = x'
      · subst h2
        simp
      · simp [h2]
    · simp [h]
  | .am k x, .un s a => by
    have e : PyData.eqv (.str x) (dat a) = false := by cases a <;> rfl
    show ((k == s) && (PyData.eqv (.str x) (dat a) && true)) = _
    rw [e]
    simp
  | .am k x, .bi s a b => by
    show ((k == s) && (PyData.eqv (.str x) (dat a) && false)) = _
    simp
  | .un s a, .am k x => by
    have e : PyData.eqv (dat a) (.str x) = false := by cases a <;> rfl
    show ((s == k) && (PyData.eqv (dat a) (.str x) && true)) = _
    rw [e]
    simp
  | .un s a, .un s' a' => by
    show ((s == s') && (PyData.eqv (dat a) (dat a') && true)) = _
    rw [eqv_dat a a']
    by_cases h : s = s'
    · subst h
      by_cases h2 : a = a'
      · subst h2
        simp
      · simp [h2]
    · simp [h]
  | .un s a, .bi s' a' b' => by
    show ((s == s') && (PyData.eqv (dat a) (dat a') && false)) = _
    simp
  | .bi s a b, .am k x => by
    show ((s == k) && (PyData.eqv (dat a) (.str x) && false)) = _
    simp
  | .bi s a b, .un s' a' => by
    show ((s == s') && (PyData.eqv (dat a) (dat a') && false)) = _
    simp
  | .bi s a b, .bi s' a' b' => by
    show ((s == s') && (PyData.eqv (dat a) (dat a') && (PyData.eqv (dat b) (dat b') && true))) = _
    rw [eqv_dat a a', eqv_dat b b']
    by_cases h : s = s'
    · subst h
      by_cases h2 : a = a'
      · subst h2
        by_cases h3 : b = b'
        · subst h3
          simp
        · simp [h3]
      · simp [h2]
    · simp [h]
theorem dpAll_ts {K : PySem.W.Frag} {H : Hp} : ∀ {ts : List Tr} {vs : List V}, TsAt H ts vs → DpAll K H vs (ts.map dat)
  | [], [], _ => .nil
  | [], _ :: _, h => by cases h.len
  | _ :: _, [], h => by cases h.len
  | t :: ts, v :: vs, h => .cons (h.get 0 t v rfl rfl).dp (dpAll_ts (ts := ts) ⟨Nat.succ.inj h.len, fun i t' v' h1 h2 => h.get (i + 1) t' v' h1 h2⟩)
theorem dpAll_str {K : PySem.W.Frag} {H : Hp} : ∀ (xs : List Str), DpAll K H (xs.map V.str) (xs.map PyData.str)
  | [] => .nil
  | x :: xs => .cons (.str x) (dpAll_str xs)
theorem layAll_ts : ∀ {ts : List Tr}, (∀ t ∈ ts, t.fine) → PyData.canLayAll0 (ts.map dat) = true
  | [], _ => rfl
  | t :: ts, h => by
    show ((dat t).canLay0 && PyData.canLayAll0 (ts.map dat)) = true
    rw [dat_lay (h t List.mem_cons_self), layAll_ts fun u hu => h u (List.mem_cons_of_mem _ hu)]
    rfl
theorem depAll_ts {n : Nat} : ∀ {ts : List Tr}, (∀ t ∈ ts, t.dep ≤ n) → PyData.depthAll (ts.map dat) ≤ n + 1
  | [], _ => Nat.zero_le _
  | t :: ts, h => by
    show max (dat t).depth (PyData.depthAll (ts.map dat)) ≤ n + 1
    have h1 := dat_dep (t := t)
    have h2 := h t List.mem_cons_self
    have h3 := depAll_ts (n := n) fun u hu => h u (List.mem_cons_of_mem _ hu)
    omega
theorem ts_shaped {ts : List Tr} (h : ∀ t ∈ ts, t.fine ∧ t.dep ≤ 60) : SeqAt.shaped (.list (ts.map dat)) = true := by
  have h1 := layAll_ts fun t ht => (h t ht).1
  have h2 := depAll_ts fun t ht => (h t ht).2
  show (PyData.canLayAll0 (ts.map dat) && decide (PyData.depthAll (ts.map dat) + 1 ≤ 64)) = true
  rw [h1, decide_eq_true (by omega)]
  rfl
theorem str_shaped : ∀ {xs : List Str}, (∀ x ∈ xs, okS x) → SeqAt.shaped (.list (xs.map PyData.str)) = true := by
  intro xs h
  have h1 : ∀ {l : List Str}, (∀ x ∈ l, okS x) → PyData.canLayAll0 (l.map PyData.str) = true ∧ PyData.depthAll (l.map PyData.str) = 0 := by
    intro l
    induction l with
    | nil => exact fun _ => ⟨rfl, rfl⟩
    | cons x r ih =>
      intro h
      obtain ⟨a, b⟩ := ih fun y hy => h y (List.mem_cons_of_mem _ hy)
      refine ⟨?_, ?_⟩
      · show (PyData.strOk x && PyData.canLayAll0 (r.map PyData.str)) = true
        rw [strOk_of (h x List.mem_cons_self), a]
        rfl
      · show max 0 (PyData.depthAll (r.map PyData.str)) = 0
        rw [b]
        rfl
  obtain ⟨a, b⟩ := h1 h
  show (PyData.canLayAll0 (xs.map PyData.str) && decide (PyData.depthAll (xs.map PyData.str) + 1 ≤ 64)) = true
  rw [a, b]
  rfl
end Rd
namespace Rd
open PySem L2
def fill (m : Str → Option Tr) : Tr → Tr
  | .am k x => if k = "unknown" then (m x).getD (.am k x) else .am k x
  | .un s a => .un s (fill m a)
  | .bi s a b => .bi s (fill m a) (fill m b)
/-- the dict at a holds the forms m -/
def DTr (H : Hp) (a : Addr) (m : Str → Option Tr) : Prop := ∃ kvs, L2.Rd H a (.dK kvs) ∧ (∀ x t, m x = some t → ∃ v, valV kvs (.inr x) = some v ∧ IsT H t v) ∧ ∀ x, m x = none → valV kvs (.inr x) = none
theorem DTr.same {H H' : Hp} {a : Addr} {m : Str → Option Tr} (s : Same H H') (h : DTr H a m) : DTr H' a m := by
  obtain ⟨kvs, h1, h2, h3⟩ := h
  refine ⟨kvs, ?_, fun x t e => ?_, h3⟩
  · rcases h1 with h | ⟨o, h⟩
    · exact .inl (s _ _ h)
    · exact .inr ⟨o, s _ _ h⟩
  · obtain ⟨v, e1, e2⟩ := h2 x t e
    exact ⟨v, e1, e2.same s⟩
theorem DTr.get {H : Hp} {a : Addr} {m : Str → Option Tr} {x : Str} (h : DTr H a m) : ∃ o, DGet H a (.str x) o ∧ (∀ t, m x = some t → ∃ v, o = some v ∧ IsT H t v) ∧ (m x = none → o = none) := by
  obtain ⟨kvs, h1, h2, h3⟩ := h
  exact ⟨valV kvs (.inr x), .inl ⟨kvs, .inr x, h1, rfl, rfl⟩, fun t e => h2 x t e, h3 x⟩
theorem DTr.isD {H : Hp} {a : Addr} {m : Str → Option Tr} (h : DTr H a m) : IsD H a := by
  obtain ⟨kvs, h1, _⟩ := h
  exact .inl ⟨kvs, h1⟩
theorem fill_tup {H : Hp} {m : Str → Option Tr} {t : Tr} {q : Addr} {vs : List V} (hpt : t.parts ≠ []) (hq : H q = some (.tup (.str t.head :: vs))) (hl : vs.length = t.parts.length) (hv : ∀ (i : Nat) v, vs[i]? = some v → ∃ r, t.parts[i]? = some r ∧ IsT H (fill m r) v) : IsT H (fill m t) (.ref q) := by
  cases t with
  | am => exact absurd rfl hpt
  | un s a =>
    match vs, hl with
    | [v1], _ =>
      obtain ⟨r, e, h⟩ := hv 0 v1 rfl
      cases (show some a = some r from e)
      exact ⟨q, v1, rfl, hq, h⟩
  | bi s a b =>
    match vs, hl with
    | [v1, v2], _ =>
      obtain ⟨r, e, h⟩ := hv 0 v1 rfl
      cases (show some a = some r from e)
      obtain ⟨r2, e2, h2⟩ := hv 1 v2 rfl
      cases (show some b = some r2 from e2)
      exact ⟨q, v1, v2, rfl, hq, h, h2⟩
def sp_fill (d : Nat) : Sp := fun vs H Q _ => ∃ (v : V) (a : Addr) (t : Tr) (m : Str → Option Tr), vs = [v, .ref a] ∧ IsT H t v ∧ Wf t ∧ t.dep ≤ d ∧ DTr H a m ∧ ∀ u H', Same H H' → IsT H' (fill m t) u → Q u H'
def spFR : Nat → Sp
  | 0 => fun _ _ _ _ => False
  | d + 1 => sp_fill d
def Al (R : Hp → Tr → V → Prop) (H : Hp) : List (Str × Tr) → List (Key × V) → Prop
  | [], [] => True
  | (x, t) :: l, (k, v) :: kvs => k = .inr x ∧ R H t v ∧ Al R H l kvs
  | _, _ => False
def look (l : List (Str × Tr)) (x : Str) : Option Tr := (l.find? fun p => decide (p.1 = x)).map (·.2)
theorem Al.len {R : Hp → Tr → V → Prop} {H : Hp} : ∀ {l : List (Str × Tr)} {kvs : List (Key × V)}, Al R H l kvs → kvs.length = l.length
  | [], [], _ => rfl
  | (x, t) :: l, (k, v) :: kvs, h => congrArg (· + 1) (Al.len h.2.2)
theorem Al.mono {R S : Hp → Tr → V → Prop} {H H' : Hp} (m : ∀ t v, R H t v → S H' t v) : ∀ {l : List (Str × Tr)} {kvs : List (Key × V)}, Al R H l kvs → Al S H' l kvs
  | [], [], _ => trivial
  | (x, t) :: l, (k, v) :: kvs, h => ⟨h.1, m _ _ h.2.1, Al.mono m h.2.2⟩
theorem Al.get {R : Hp → Tr → V → Prop} {H : Hp} : ∀ {l : List (Str × Tr)} {kvs : List (Key × V)} {i : Nat} {k : Key} {v : V}, Al R H l kvs → kvs[i]? = some (k, v) → ∃ x t, l[i]? = some (x, t) ∧ k = .inr x ∧ R H t v
  | (x, t) :: l, (k, v) :: kvs, 0, _, _, h, e => by
    cases e
    exact ⟨x, t, rfl, h.1, h.2.1⟩
  | (x, t) :: l, (k, v) :: kvs, i + 1, _, _, h, e => by
    obtain ⟨y, u, e1, e2, e3⟩ := Al.get (l := l) (kvs := kvs) (i := i) h.2.2 (by simpa using e)
    exact ⟨y, u, by simpa using e1, e2, e3⟩
  | [], [], _, _, _, _, e => by simp at e
theorem Al.snoc {R : Hp → Tr → V → Prop} {H : Hp} {x : Str} {t : Tr} {v : V} (r : R H t v) : ∀ {l : List (Str × Tr)} {kvs : List (Key × V)}, Al R H l kvs → Al R H (l ++ [(x, t)]) (kvs ++ [(.inr x, v)])
  | [], [], _ => ⟨rfl, r, trivial⟩
  | (y, u) :: l, (k, z) :: kvs, h => ⟨h.1, h.2.1, Al.snoc r h.2.2⟩
theorem Al.look {R : Hp → Tr → V → Prop} {H : Hp} {x : Str} : ∀ {l : List (Str × Tr)} {kvs : List (Key × V)}, Al R H l kvs → (∀ t, look l x = some t → ∃ v, valV kvs (.inr x) = some v ∧ R H t v) ∧ (look l x = none → valV kvs (.inr x) = none)
  | [], [], _ => ⟨fun t e => (by cases e), fun _ => rfl⟩
  | (y, u) :: l, (k, z) :: kvs, h => by
    obtain ⟨rfl, h2, h3⟩ := h
    by_cases e : y = x
    · subst e
      refine ⟨fun t e => ?_, fun e => ?_⟩
      · rw [show Rd.look ((y, u) :: l) y = some u by simp [Rd.look]] at e
        cases e
        exact ⟨z, valV_pos rfl, h2⟩
      · rw [show Rd.look ((y, u) :: l) y = some u by simp [Rd.look]] at e
        cases e
    · have e1 : Rd.look ((y, u) :: l) x = Rd.look l x := by simp [Rd.look, e]
      rw [e1, valV_neg (fun q => e (by cases q; rfl))]
      exact Al.look h3
theorem look_none {l : List (Str × Tr)} {x : Str} (h : x ∉ l.map (·.1)) : look l x = none := by
  unfold look
  rw [List.find?_eq_none.mpr fun p hp => by
    intro e
    exact h (List.mem_map.mpr ⟨p, hp, of_decide_eq_true e⟩)]
  rfl
theorem Kp.upd_dK {C D : Addr} {H : Hp} {xs ys : List (Key × V)} (h : H D = some (.dK xs)) : Kp C H (L2.upd H D (.dK ys)) := fun b o hi e => by
  have hb : b ≠ D := fun z => by
    rw [z, h] at e
    cases e
    cases hi
  rw [upd_ne hb]
  exact e
/-- {x: f(v) for x, v in d.items()} -/
theorem dci {K : PySem.W.Frag} {C d D : Addr} {o : Obj} {kvs : List (Key × V)} {l : List (Str × Tr)} {R1 R2 : Hp → Tr → V → Prop} (f : Tr → Tr) {tv : TE} {i0 i1 : Nat} {σ : St} {H1 : Hp} {Qd : Hp → Prop}
    (m1 : ∀ H H' t v, Kp C H H' → R1 H t v → R1 H' t v) (m2 : ∀ H H' t v, Kp C H H' → R2 H t v → R2 H' t v) (hd : H1 d = some (.frz o (.dK kvs))) (al : Al R1 H1 l kvs) (nd : (l.map (·.1)).Nodup) (hl : l.length ≤ 1000) (hD : H1 D = none)
    (hsl : ∀ p q : V, (((wipe σ [i0, i1]).set i0 (some p)).set i1 (some q))[i0]? = some (some p)) (hw : ∀ p q : V, wipe (((wipe σ [i0, i1]).set i0 (some p)).set i1 (some q)) [i0, i1] = wipe σ [i0, i1])
    (hte : ∀ (i : Nat) (x : Str) (t : Tr) (v : V) (σ2 : St) (H : Hp) (Q : VK), l[i]? = some (x, t) → Same H1 H → R1 H t v → σ2 = (((wipe σ [i0, i1]).set i0 (some (.str x))).set i1 (some v)) → (∀ z H', Same H H' → R2 H' (f t) z → Q z H') → tv σ2 H Q)
    (hq : ∀ kvs' H', Same H1 H' → H' D = some (.dK kvs') → Al R2 H' (l.map fun p => (p.1, f p.2)) kvs' → Qd H') :
    ∃ W : Nat → Nat → Hp → Prop, (∃ m, W 0 m (L2.upd H1 D (.dK []))) ∧ ∀ i m H, W i m H →
      ((Iti d o kvs).stop i H ∧ Qd H) ∨ ((Iti d o kvs).go i H ∧ ∃ Nx : Hp → Prop, (∀ H', Nx H' → ∃ m', m' < m ∧ W (i + 1) m' H') ∧ ∀ x H', (Iti d o kvs).yld i H x H' → gTup K 2 (gCons (gName i0) (gCons (gName i1) gNil)) x (wipe σ [i0, i1]) H' fun σ2 H2 => wipe σ2 [i0, i1] = wipe σ [i0, i1] ∧ tYes σ2 H2 fun b H3 =>
        if b = true then tVar i0 σ2 H3 fun y H4 => tv σ2 H4 fun z H5 => ∃ kvs' k, y = kV k ∧ H5 D = some (.dK kvs') ∧ kvs'.length < sizeLine ∧ Nx (L2.upd H5 D (.dK (putK kvs' k z))) else Nx H3) := by
  have hlen := al.len
  have big : 100000 ≤ sizeLine := by decide
  refine ⟨fun i m H => m = kvs.length - i ∧ i ≤ kvs.length ∧ ∃ acc, Same H1 H ∧ H D = some (.dK acc) ∧ Al R2 H ((l.take i).map fun p => (p.1, f p.2)) acc, ⟨_, rfl, Nat.zero_le _, [], Rd.Same.upd hD, upd_same, trivial⟩, ?_⟩
  rintro i m H ⟨rfl, hi, acc, s, hDa, ala⟩
  by_cases hlt : i < kvs.length
  · refine .inr ⟨⟨s _ _ hd, hlt⟩, fun H' => ∃ acc, Same H1 H' ∧ H' D = some (.dK acc) ∧ Al R2 H' ((l.take (i + 1)).map fun p => (p.1, f p.2)) acc, fun H' h => ⟨kvs.length - (i + 1), by omega, rfl, hlt, h⟩, ?_⟩
    rintro _ _ ⟨Tq, k, v, hk, rfl, hT, rfl⟩
    obtain ⟨x, t, hx, rfl, r1⟩ := al.get hk
    have sT := Rd.Same.upd (o := .tup [kV (.inr x), v]) hT
    refine ⟨Tq, [kV (.inr x), v], rfl, SqT.of upd_same, rfl, _, _, rfl, _, _, rfl, rfl, hw _ _, ?_⟩
    unfold tYes
    refine iteT ⟨_, hsl _ _, hte i x t v _ _ _ hx (s.trans sT) (m1 _ _ _ _ (Kp.of_same (s.trans sT)) r1) rfl fun z H' s' hz => ?_⟩
    have hD' := s' _ _ (sT _ _ hDa)
    have hal := ala.len
    rw [List.length_map, List.length_take] at hal
    have etk : l.take (i + 1) = l.take i ++ [(x, t)] := by rw [List.take_succ, hx]; rfl
    have hno : look ((l.take i).map fun p => (p.1, f p.2)) x = none := by
      refine look_none ?_
      rw [List.map_map]
      have n2 : ((l.take (i + 1)).map (·.1)).Nodup := ((List.take_sublist _ _).map _).nodup nd
      rw [etk, List.map_append] at n2
      have := (List.nodup_append.mp n2).2.2
      intro hm
      exact this x hm x (List.mem_singleton.mpr rfl) rfl
    have hv0 := (ala.look (x := x)).2 hno
    refine ⟨acc, .inr x, rfl, hD', by omega, acc ++ [(.inr x, z)], fun c o e => ?_, ?_, ?_⟩
    · rw [upd_ne (ne_of_none e hD)]
      exact s' _ _ (sT _ _ (s _ _ e))
    · rw [upd_same, putK_new z hv0]
    · rw [putK_new z hv0, etk, List.map_append]
      have kp := Kp.upd_dK (C := C) (ys := acc ++ [(.inr x, z)]) hD'
      exact Al.snoc (m2 _ _ _ _ kp hz) (ala.mono fun t v h => m2 _ _ _ _ kp (m2 _ _ _ _ (Kp.of_same (sT.trans s')) h))
  · refine .inl ⟨⟨s _ _ hd, by omega⟩, hq acc H s hDa ?_⟩
    rw [List.take_of_length_le (by omega)] at ala
    exact ala
theorem mergeK_app : ∀ (more acc : List (Key × V)), ((acc ++ more).map (·.1)).Nodup → mergeK acc more = acc ++ more
  | [], acc, _ => (List.append_nil acc).symm
  | p :: r, acc, h => by
    show mergeK (putK acc p.1 p.2) r = _
    have e : valV acc p.1 = none := by
      have h2 := h
      rw [List.map_append, List.map_cons] at h2
      have h3 := (List.nodup_append.mp h2).2.2
      unfold valV
      rw [List.find?_eq_none.mpr fun q hq => by
        intro z
        exact h3 p.1 (List.mem_map.mpr ⟨q, hq, of_decide_eq_true z⟩) p.1 List.mem_cons_self rfl]
      rfl
    rw [putK_new p.2 e, mergeK_app r (acc ++ [(p.1, p.2)]) (by rw [List.append_assoc]; exact h), List.append_assoc]
    rfl
theorem Al.keys {R : Hp → Tr → V → Prop} {H : Hp} : ∀ {l : List (Str × Tr)} {kvs : List (Key × V)}, Al R H l kvs → kvs.map (·.1) = l.map fun p => Sum.inr p.1
  | [], [], _ => rfl
  | (x, t) :: l, (k, v) :: kvs, h => by
    rw [List.map_cons, List.map_cons, Al.keys h.2.2, h.1]
theorem Al.merge {R : Hp → Tr → V → Prop} {H : Hp} {l : List (Str × Tr)} {kvs : List (Key × V)} (al : Al R H l kvs) (nd : (l.map (·.1)).Nodup) : mergeK [] kvs = kvs := by
  refine mergeK_app kvs [] ?_
  rw [List.nil_append, al.keys]
  have : (l.map fun p => (Sum.inr p.1 : Key)) = (l.map (·.1)).map Sum.inr := by rw [List.map_map]; rfl
  rw [this]
  exact List.Pairwise.map _ (fun a b h e => h (by cases e; rfl)) nd
def Pq (H : Hp) : List Addr → List (Key × V) → Prop
  | [], [] => True
  | p :: ps, kv :: kq => H p = some (.tup [kV kv.1, kv.2]) ∧ Pq H ps kq
  | _, _ => False
theorem Pq.mono {C : Addr} {H H' : Hp} (k : Kp C H H') : ∀ {ps : List Addr} {kq : List (Key × V)}, Pq H ps kq → Pq H' ps kq
  | [], [], _ => trivial
  | _ :: _, _ :: _, h => ⟨k _ _ rfl h.1, Pq.mono k h.2⟩
theorem Pq.snoc {H : Hp} {p : Addr} {kv : Key × V} (e : H p = some (.tup [kV kv.1, kv.2])) : ∀ {ps : List Addr} {kq : List (Key × V)}, Pq H ps kq → Pq H (ps ++ [p]) (kq ++ [kv])
  | [], [], _ => ⟨e, trivial⟩
  | _ :: _, _ :: _, h => ⟨h.1, Pq.snoc e h.2⟩
theorem Pq.paired {K : PySem.W.Frag} {H : Hp} : ∀ {ps : List Addr} {kq : List (Key × V)}, Pq H ps kq → Paired (fun p kv => SqT K H p [kV kv.1, kv.2]) ps kq
  | [], [], _ => .nil
  | _ :: _, _ :: _, h => .cons (SqT.of h.1) (Pq.paired h.2)
theorem Pq.len {H : Hp} : ∀ {ps : List Addr} {kq : List (Key × V)}, Pq H ps kq → ps.length = kq.length
  | [], [], _ => rfl
  | _ :: _, _ :: _, h => congrArg (· + 1) (Pq.len h.2)
theorem look_get {x : Str} {t : Tr} : ∀ {l : List (Str × Tr)} {i : Nat}, (l.map (·.1)).Nodup → l[i]? = some (x, t) → look l x = some t
  | (y, u) :: l, 0, _, e => by
    cases e
    simp [look]
  | (y, u) :: l, i + 1, h, e => by
    have e : l[i]? = some (x, t) := by simpa using e
    have h : (y :: l.map (·.1)).Nodup := h
    have hne : ¬ y = x := fun z => (List.nodup_cons.mp h).1 (List.mem_map.mpr ⟨_, List.mem_of_getElem? e, z.symm⟩)
    have := look_get (List.nodup_cons.mp h).2 e
    simp only [look, List.find?_cons, hne, decide_false]
    exact this
/-- [(x, f(d[x])) for x in d] -/
theorem lck {C d D : Addr} {o : Obj} {kvs : List (Key × V)} {l : List (Str × Tr)} {R1 R2 : Hp → Tr → V → Prop} (f : Tr → Tr) {tv : TE} {i0 : Nat} {σ : St} {H1 : Hp} {Qd : Hp → Prop}
    (m1 : ∀ H H' t v, Kp C H H' → R1 H t v → R1 H' t v) (m2 : ∀ H H' t v, Kp C H H' → R2 H t v → R2 H' t v) (hd : H1 d = some (.frz o (.dK kvs))) (al : Al R1 H1 l kvs) (nd : (l.map (·.1)).Nodup) (hl : l.length ≤ 1000) (hD : H1 D = none)
    (hsl : ∀ p : V, ((wipe σ [i0]).set i0 (some p))[i0]? = some (some p)) (hw : ∀ p : V, wipe ((wipe σ [i0]).set i0 (some p)) [i0] = wipe σ [i0])
    (hte : ∀ (i : Nat) (x : Str) (t : Tr) (v : V) (σ2 : St) (H : Hp) (Q : VK), l[i]? = some (x, t) → Same H1 H → R1 H t v → DGet H d (.str x) (some v) → σ2 = (wipe σ [i0]).set i0 (some (.str x)) → (∀ z H', Same H H' → R2 H' (f t) z → Q z H') → tv σ2 H Q)
    (hq : ∀ ps kq H', Same H1 H' → H' D = some (.lst (ps.map V.ref)) → Pq H' ps kq → Al R2 H' (l.map fun p => (p.1, f p.2)) kq → Qd H') :
    ∃ W : Nat → Nat → Hp → Prop, (∃ m, W 0 m (L2.upd H1 D (.lst []))) ∧ ∀ i m H, W i m H →
      ((Itk d o kvs).stop i H ∧ Qd H) ∨ ((Itk d o kvs).go i H ∧ ∃ Nx : Hp → Prop, (∀ H', Nx H' → ∃ m', m' < m ∧ W (i + 1) m' H') ∧ ∀ x H', (Itk d o kvs).yld i H x H' → gName i0 x (wipe σ [i0]) H' fun σ2 H2 => wipe σ2 [i0] = wipe σ [i0] ∧ tYes σ2 H2 fun b H3 =>
        if b = true then tTup (tCons (tVar i0) (tCons tv tNil)) σ2 H3 fun y H4 => ∃ acc, H4 D = some (.lst acc) ∧ acc.length < sizeLine ∧ Nx (L2.upd H4 D (.lst (acc ++ [y]))) else Nx H3) := by
  have hlen := al.len
  have big : 100000 ≤ sizeLine := by decide
  refine ⟨fun i m H => m = kvs.length - i ∧ i ≤ kvs.length ∧ ∃ ps kq, Same H1 H ∧ H D = some (.lst (ps.map V.ref)) ∧ Pq H ps kq ∧ Al R2 H ((l.take i).map fun p => (p.1, f p.2)) kq, ⟨_, rfl, Nat.zero_le _, [], [], Rd.Same.upd hD, upd_same, trivial, trivial⟩, ?_⟩
  rintro i m H ⟨rfl, hi, ps, kq, s, hDa, pq, ala⟩
  by_cases hlt : i < kvs.length
  · refine .inr ⟨⟨s _ _ hd, hlt⟩, fun H' => ∃ ps kq, Same H1 H' ∧ H' D = some (.lst (ps.map V.ref)) ∧ Pq H' ps kq ∧ Al R2 H' ((l.take (i + 1)).map fun p => (p.1, f p.2)) kq, fun H' h => ⟨kvs.length - (i + 1), by omega, rfl, hlt, h⟩, ?_⟩
    rintro _ _ ⟨rfl, k, v0, hk, rfl⟩
    obtain ⟨x, t, hx, rfl, _⟩ := al.get hk
    obtain ⟨v, ev, r1⟩ := (al.look (x := x)).1 t (look_get nd hx)
    have etk : l.take (i + 1) = l.take i ++ [(x, t)] := by rw [List.take_succ, hx]; rfl
    refine ⟨hw _, ?_⟩
    unfold tYes
    have hal := ala.len
    have hpl := pq.len
    rw [List.length_map, List.length_take] at hal
    refine iteT ⟨_, hsl _, hte i x t v _ _ _ hx s (m1 _ _ _ _ (Kp.of_same s) r1) (.inl ⟨kvs, .inr x, .inr ⟨o, s _ _ hd⟩, rfl, ev.symm⟩) rfl fun z H' s' hz => ⟨(by show 2 ≤ sizeLine; decide), fun q hq' => ?_⟩⟩
    have sq := Rd.Same.upd (o := .tup [kV (.inr x), z]) hq'
    have hD' := sq _ _ (s' _ _ hDa)
    refine ⟨_, hD', by rw [List.length_map]; omega, ps ++ [q], kq ++ [(.inr x, z)], fun c o e => ?_, ?_, ?_, ?_⟩
    · rw [upd_ne (ne_of_none e hD)]
      exact sq _ _ (s' _ _ (s _ _ e))
    · rw [upd_same, List.map_append]
      rfl
    · have kp := Kp.upd_lst (C := C) (ys := ps.map V.ref ++ [V.ref q]) hD'
      exact Pq.snoc (kp _ _ rfl upd_same) ((pq.mono (C := C) (Kp.of_same (s'.trans sq))).mono kp)
    · have kp := Kp.upd_lst (C := C) (ys := ps.map V.ref ++ [V.ref q]) hD'
      rw [etk, List.map_append]
      exact Al.snoc (m2 _ _ _ _ kp (m2 _ _ _ _ (Kp.of_same sq) hz)) (ala.mono fun t v h => m2 _ _ _ _ kp (m2 _ _ _ _ (Kp.of_same (s'.trans sq)) h))
  · refine .inl ⟨⟨s _ _ hd, by omega⟩, hq ps kq H s hDa pq ?_⟩
    rw [List.take_of_length_le (by omega)] at ala
    exact ala
end Rd
namespace Rd
open PySem L2
def ltS (a b : Str) : Bool := PySem.Spec.ltCps a.cps.toList b.cps.toList
theorem ltC_irr : ∀ a : List Nat, PySem.Spec.ltCps a a = false
  | [] => rfl
  | a :: r => by
    show (decide (a < a) || (a == a && PySem.Spec.ltCps r r)) = false
    rw [ltC_irr r]
    simp
theorem ltC_trans : ∀ {a b c : List Nat}, PySem.Spec.ltCps a b = true → PySem.Spec.ltCps b c = true → PySem.Spec.ltCps a c = true
  | [], [], _, h, _ => by cases h
  | [], _ :: _, [], _, h => by cases h
  | [], _ :: _, _ :: _, _, _ => rfl
  | _ :: _, [], _, h, _ => by cases h
  | _ :: _, _ :: _, [], _, h => by cases h
  | a :: r, b :: s, c :: t, h1, h2 => by
    have g1 : (decide (a < b) || (a == b && PySem.Spec.ltCps r s)) = true := h1
    have g2 : (decide (b < c) || (b == c && PySem.Spec.ltCps s t)) = true := h2
    show (decide (a < c) || (a == c && PySem.Spec.ltCps r t)) = true
    rw [Bool.or_eq_true, Bool.and_eq_true, decide_eq_true_eq, beq_iff_eq] at g1 g2 ⊢
    rcases g1 with g1 | ⟨e1, g1⟩
    · rcases g2 with g2 | ⟨e2, g2⟩
      · exact .inl (Nat.lt_trans g1 g2)
      · exact .inl (by omega)
    · rcases g2 with g2 | ⟨e2, g2⟩
      · exact .inl (by omega)
      · exact .inr ⟨by omega, ltC_trans g1 g2⟩
theorem ltC_tot : ∀ {a b : List Nat}, PySem.Spec.ltCps a b = false → PySem.Spec.ltCps b a = false → a = b
  | [], [], _, _ => rfl
  | [], _ :: _, h, _ => by cases h
  | _ :: _, [], _, h => by cases h
  | a :: r, b :: s, h1, h2 => by
    have h1 : (decide (a < b) || (a == b && PySem.Spec.ltCps r s)) = false := h1
    have h2 : (decide (b < a) || (b == a && PySem.Spec.ltCps s r)) = false := h2
    rw [Bool.or_eq_false_iff, decide_eq_false_iff_not] at h1 h2
    have e : a = b := by omega
    subst e
    rw [beq_self_eq_true, Bool.true_and] at h1 h2
    rw [ltC_tot h1.2 h2.2]
theorem ltS_irr (a : Str) : ltS a a = false := ltC_irr _
theorem ltS_trans {a b c : Str} (h1 : ltS a b = true) (h2 : ltS b c = true) : ltS a c = true := ltC_trans h1 h2
theorem ltS_tot {a b : Str} (h1 : ltS a b = false) (h2 : ltS b a = false) : a = b := by
  have e := ltC_tot h1 h2
  cases a; cases b
  exact congrArg Str.mk (Array.toList_inj.mp e)
def asc (l : List Str) : Prop := l.Pairwise fun a b => ltS a b = true
theorem asc_of : ∀ {l : List Str}, PyProof.Rows.sortedS l = true → l.Nodup → asc l
  | [], _, _ => List.Pairwise.nil
  | [x], _, _ => List.pairwise_singleton _ _
  | x :: y :: r, h, n => by
    have h : (!ltS y x && PyProof.Rows.risingS y r) = true := h
    rw [Bool.and_eq_true, Bool.not_eq_true'] at h
    have ih : asc (y :: r) := asc_of (l := y :: r) h.2 (List.nodup_cons.mp n).2
    have ne : x ≠ y := fun e => (List.nodup_cons.mp n).1 (by rw [e]; exact List.mem_cons_self)
    have xy : ltS x y = true := by
      cases e : ltS x y with
      | true => rfl
      | false => exact absurd (ltS_tot e h.1) ne
    refine List.pairwise_cons.mpr ⟨fun z hz => ?_, ih⟩
    rcases List.mem_cons.mp hz with rfl | hz
    · exact xy
    · exact ltS_trans xy ((List.pairwise_cons.mp ih).1 z hz)
theorem asc_uniq : ∀ {l m : List Str}, asc l → asc m → (∀ x, x ∈ l ↔ x ∈ m) → l = m
  | [], [], _, _, _ => rfl
  | [], y :: m, _, _, h => by cases (h y).2 List.mem_cons_self
  | x :: l, [], _, _, h => by cases (h x).1 List.mem_cons_self
  | x :: l, y :: m, hl, hm, h => by
    obtain ⟨l1, l2⟩ := List.pairwise_cons.mp hl
    obtain ⟨m1, m2⟩ := List.pairwise_cons.mp hm
    have e : x = y := by
      rcases List.mem_cons.mp ((h x).1 List.mem_cons_self) with e | e
      · exact e
      · rcases List.mem_cons.mp ((h y).2 List.mem_cons_self) with e' | e'
        · exact e'.symm
        · have a := ltS_trans (m1 x e) (l1 y e')
          rw [ltS_irr] at a
          cases a
    subst e
    rw [asc_uniq l2 m2 fun z => ?_]
    constructor
    · intro hz
      rcases List.mem_cons.mp ((h z).1 (List.mem_cons_of_mem _ hz)) with e | e
      · have a := l1 z hz
        rw [e, ltS_irr] at a
        cases a
      · exact e
    · intro hz
      rcases List.mem_cons.mp ((h z).2 (List.mem_cons_of_mem _ hz)) with e | e
      · have a := m1 z hz
        rw [e, ltS_irr] at a
        cases a
      · exact e
def insS (x : Str) : List Str → List Str
  | [] => [x]
  | y :: r => if x = y then y :: r else if ltS x y = true then x :: y :: r else y :: insS x r
def uniS : List Str → List Str
  | [] => []
  | x :: r => insS x (uniS r)
theorem insS_mem {x z : Str} : ∀ {l : List Str}, z ∈ insS x l ↔ z = x ∨ z ∈ l
  | [] => by simp [insS]
  | y :: r => by
    unfold insS
    split
    · rename_i e
      subst e
      exact ⟨.inr, fun h => h.elim (fun e => by rw [e]; exact List.mem_cons_self) id⟩
    · split
      · exact List.mem_cons
      · rw [List.mem_cons, insS_mem, List.mem_cons]
        constructor
        · rintro (a | a | a)
          · exact .inr (.inl a)
          · exact .inl a
          · exact .inr (.inr a)
        · rintro (a | a | a)
          · exact .inr (.inl a)
          · exact .inl a
          · exact .inr (.inr a)
theorem insS_asc {x : Str} : ∀ {l : List Str}, asc l → asc (insS x l)
  | [], _ => List.pairwise_singleton _ _
  | y :: r, h => by
    obtain ⟨h1, h2⟩ := List.pairwise_cons.mp h
    unfold insS
    split
    · exact h
    · rename_i ne
      split
      · rename_i lt
        refine List.pairwise_cons.mpr ⟨fun z hz => ?_, h⟩
        rcases List.mem_cons.mp hz with rfl | hz
        · exact lt
        · exact ltS_trans lt (h1 z hz)
      · rename_i lt
        have yx : ltS y x = true := by
          cases e : ltS y x with
          | true => rfl
          | false => exact absurd (ltS_tot (by simpa using lt) e) ne
        refine List.pairwise_cons.mpr ⟨fun z hz => ?_, insS_asc h2⟩
        rcases insS_mem.mp hz with rfl | hz
        · exact yx
        · exact h1 z hz
theorem uniS_mem {z : Str} : ∀ {l : List Str}, z ∈ uniS l ↔ z ∈ l
  | [] => Iff.rfl
  | x :: r => by rw [uniS, insS_mem, uniS_mem, List.mem_cons]
theorem uniS_asc : ∀ {l : List Str}, asc (uniS l)
  | [] => List.Pairwise.nil
  | x :: r => insS_asc uniS_asc
theorem uniS_of {l ys : List Str} (h1 : ys.Nodup) (h2 : PyProof.Rows.sortedS ys = true) (h : ∀ x, x ∈ ys ↔ x ∈ l) : ys = uniS l :=
  asc_uniq (asc_of h2 h1) uniS_asc fun x => (h x).trans uniS_mem.symm
theorem insS_len {x : Str} : ∀ {l : List Str}, (insS x l).length ≤ l.length + 1
  | [] => Nat.le_refl _
  | y :: r => by
    unfold insS
    split
    · exact Nat.le_succ _
    · split
      · exact Nat.le_refl _
      · have := insS_len (x := x) (l := r)
        rw [List.length_cons, List.length_cons]
        omega
theorem uniS_len : ∀ {l : List Str}, (uniS l).length ≤ l.length
  | [] => Nat.le_refl _
  | x :: r => by
    have h1 := insS_len (x := x) (l := uniS r)
    have h2 := uniS_len (l := r)
    rw [uniS, List.length_cons]
    omega
/-- the texts of a form's atoms of one kind, as often as they stand -/
def Tr.txt (k : Str) : Tr → List Str
  | .am k' x => if k' = k then [x] else []
  | .un _ a => a.txt k
  | .bi _ a b => a.txt k ++ b.txt k
def txt1 (k : Str) : Tr → List Str
  | .am k' x => if k' = k then [x] else []
  | _ => []
theorem txt_all (k : Str) : ∀ t : Tr, t.all.flatMap (txt1 k) = t.txt k
  | .am k' x => by
    show txt1 k (.am k' x) ++ [] = _
    rw [List.append_nil]
    rfl
  | .un s a => by
    show txt1 k (.un s a) ++ a.all.flatMap (txt1 k) = a.txt k
    rw [txt_all k a]
    rfl
  | .bi s a b => by
    show txt1 k (.bi s a b) ++ (a.all ++ b.all).flatMap (txt1 k) = a.txt k ++ b.txt k
    rw [List.flatMap_append, txt_all k a, txt_all k b]
    rfl
theorem txts_len (k : Str) : ∀ t : Tr, (t.txt k).length ≤ t.all.length
  | .am k' x => by
    show (if k' = k then [x] else []).length ≤ 1
    split
    · exact Nat.le_refl _
    · exact Nat.zero_le _
  | .un s a => Nat.le_succ_of_le (txts_len k a)
  | .bi s a b => by
    show (a.txt k ++ b.txt k).length ≤ (a.all ++ b.all).length + 1
    rw [List.length_append, List.length_append]
    have := txts_len k a
    have := txts_len k b
    omega
end Rd
namespace Rd
open PySem L2
def txt : Tr → List Nat
  | .am k x => if k = "unknown" then 63 :: x.cps.toList else x.cps.toList
  | .un s a => s.cps.toList ++ 40 :: (txt a ++ [41])
  | .bi s a b => s.cps.toList ++ 40 :: (txt a ++ 44 :: 32 :: (txt b ++ [41]))
def textOf (t : Tr) : Str := ofC (txt t)
theorem sign_len {s : Str} (h : s ∈ (["mark", "open", "own", "pair", "seal", "lock"] : List Str)) : s.cps.toList.length ≤ 4 := by
  have : ∀ z ∈ (["mark", "open", "own", "pair", "seal", "lock"] : List Str), z.cps.toList.length ≤ 4 := by decide +kernel
  exact this s h
theorem txt_len {t : Tr} (h : Wf t) : (txt t).length ≤ 16 * t.all.length := by
  induction t with
  | am k x =>
    cases h with
    | am ko =>
      have hx : x.length ≤ 8 := by
        rcases ko with ⟨rfl, h⟩ | ⟨rfl, h⟩ | ⟨rfl, h⟩
        · exact (word_len h).2.1
        · exact (name_len h).1
        · have := (unk_len h).1; omega
      have e := len_list x
      show (if k = "unknown" then 63 :: x.cps.toList else x.cps.toList).length ≤ 16 * 1
      split
      · rw [List.length_cons]; omega
      · omega
  | un s a ih =>
    have hs := sign_len (h.sign (fun e => by cases e)).1
    have hs : s.cps.toList.length ≤ 4 := hs
    have := ih (h.parts_wf a List.mem_cons_self)
    show (s.cps.toList ++ 40 :: (txt a ++ [41])).length ≤ 16 * (a.all.length + 1)
    rw [List.length_append, List.length_cons, List.length_append, List.length_singleton]
    omega
  | bi s a b iha ihb =>
    have hs := sign_len (h.sign (fun e => by cases e)).1
    have hs : s.cps.toList.length ≤ 4 := hs
    have h1 := iha (h.parts_wf a List.mem_cons_self)
    have h2 := ihb (h.parts_wf b (List.mem_cons_of_mem _ List.mem_cons_self))
    show (s.cps.toList ++ 40 :: (txt a ++ 44 :: 32 :: (txt b ++ [41]))).length ≤ 16 * ((a.all ++ b.all).length + 1)
    rw [List.length_append, List.length_cons, List.length_append, List.length_cons, List.length_cons, List.length_append, List.length_singleton, List.length_append]
    omega
theorem txt_small {t : Tr} (h : Wf t) (hd : t.dep ≤ 12) : (txt t).length ≤ 131072 := by
  have h1 := txt_len h
  have h2 := all_len t
  have h3 : 2 ^ (t.dep + 1) ≤ 2 ^ 13 := Nat.pow_le_pow_right (by decide) (by omega)
  have h4 : 2 ^ 13 = 8192 := by decide
  omega
theorem text_len {t : Tr} : (textOf t).length = (txt t).length := by rw [len_list, textOf, ofC_list]
def sp_text (d : Nat) : Sp := fun vs H Q _ => ∃ (v : V) (t : Tr), vs = [v] ∧ IsT H t v ∧ Wf t ∧ t.dep ≤ d ∧ d ≤ 12 ∧ ∀ H', Same H H' → Q (.str (textOf t)) H'
def spTR : Nat → Sp
  | 0 => fun _ _ _ _ => False
  | d + 1 => sp_text d
theorem join1 (a : Str) : Txt.join ", " [a] = a := by
  show Builtin.Str.glued ", " [a] = a
  rw [PySem.StrLaws.glued_eq_join]
  rfl
theorem join2 (a b : Str) : Txt.join ", " [a, b] = a ++ ", " ++ b := by
  show Builtin.Str.glued ", " [a, b] = a ++ ", " ++ b
  rw [PySem.StrLaws.glued_eq_join]
  rfl
end Rd
namespace Rd
open PySem L2
theorem texts_eq {ts : List Tr} {vs : List V} (hl : vs.length = ts.length) (h : ∀ (i : Nat) v, vs[i]? = some v → ∃ r, ts[i]? = some r ∧ v = .str (textOf r)) : vs = (ts.map textOf).map V.str := by
  refine List.ext_getElem? fun i => ?_
  rw [List.getElem?_map, List.getElem?_map]
  cases e : vs[i]? with
  | none =>
    have := List.getElem?_eq_none_iff.mp e
    rw [List.getElem?_eq_none (by omega)]
    rfl
  | some v =>
    obtain ⟨r, h1, h2⟩ := h i v e
    rw [h1, h2]
    rfl
theorem parts_text {t : Tr} (hp : t.parts ≠ []) : (txt t) = t.head.cps.toList ++ 40 :: ((Txt.join ", " (t.parts.map textOf)).cps.toList ++ [41]) := by
  cases t with
  | am k x => exact absurd rfl hp
  | un s a =>
    show s.cps.toList ++ 40 :: (txt a ++ [41]) = s.cps.toList ++ 40 :: ((Txt.join ", " [textOf a]).cps.toList ++ [41])
    rw [join1, textOf, ofC_list]
  | bi s a b =>
    show s.cps.toList ++ 40 :: (txt a ++ 44 :: 32 :: (txt b ++ [41])) = s.cps.toList ++ 40 :: ((Txt.join ", " [textOf a, textOf b]).cps.toList ++ [41])
    have e : (", " : Str).cps.toList = [44, 32] := by decide +kernel
    rw [join2, app_list, app_list, textOf, textOf, ofC_list, ofC_list, e]
    simp
theorem join_sum {t : Tr} (wf : Wf t) (hd : t.dep ≤ 12) : ((t.parts.map textOf).map (·.length)).sum + (t.parts.map textOf).length * (", " : Str).length ≤ 16777216 := by
  have e : (", " : Str).length = 2 := by decide +kernel
  rw [e]
  cases t with
  | am k x => show 0 + 0 * 2 ≤ 16777216; decide
  | un s a =>
    have h1 := txt_small (wf.parts_wf a List.mem_cons_self) (by have : a.dep + 1 ≤ 12 := hd; omega)
    show (textOf a).length + 0 + 1 * 2 ≤ 16777216
    rw [text_len]
    omega
  | bi s a b =>
    have hd : max a.dep b.dep + 1 ≤ 12 := hd
    have h1 := txt_small (wf.parts_wf a List.mem_cons_self) (by omega)
    have h2 := txt_small (wf.parts_wf b (List.mem_cons_of_mem _ List.mem_cons_self)) (by omega)
    show (textOf a).length + ((textOf b).length + 0) + 2 * 2 ≤ 16777216
    rw [text_len, text_len]
    omega
theorem join_len {t : Tr} (hp : t.parts ≠ []) : (Txt.join ", " (t.parts.map textOf)).length + 2 + t.head.length = (txt t).length := by
  rw [parts_text hp, List.length_append, List.length_cons, List.length_append, List.length_singleton, len_list, len_list]
  omega
theorem text_parts {t : Tr} (hp : t.parts ≠ []) {a : Str} (h : a.cps.toList = t.head.cps.toList ++ 40 :: ((Txt.join ", " (t.parts.map textOf)).cps.toList ++ [41])) : a = textOf t := str_ext (by rw [h, ← parts_text hp, textOf, ofC_list])
theorem text_am {k x : Str} (h : k ≠ "unknown") : textOf (.am k x) = x := str_ext (by rw [textOf, ofC_list]; show (if k = "unknown" then _ else _) = _; rw [if_neg h])
theorem text_unk {x : Str} : textOf (.am "unknown" x) = "?" ++ x := by
  refine str_ext ?_
  have e : ("?" : Str).cps.toList = [63] := by decide +kernel
  rw [textOf, ofC_list, app_list, e]
  show (if ("unknown" : Str) = "unknown" then _ else _) = _
  rw [if_pos rfl]
  rfl
section
variable {P : Program} {w : World} {K : PySem.W.Frag} {mg : Str → Option Value} {base : Heap}
abbrev s_tree_text : Stmt := top 22
theorem sc_tree_text : FnScope ["tree", "inner", "part"] ["tree"] (defScope s_tree_text) := ⟨rfl, rfl, rfl, by decide +kernel, rfl, by decide +kernel, by decide +kernel⟩
theorem tt_step (T : Tx w K mg) (d : Nat) (ih : Fk P w K mg base CX0 (d + 1) "tree_text" ["tree"] (spTR d)) : Fk P w K mg base CX0 (d + 2) "tree_text" ["tree"] (sp_text d) := by
  refine T.F_tree_text.ok0 sc_tree_text (fun _ _ _ _ _ _ us hl => match us, hl with | [_], _ => rfl)
    (fun vs H Q E h => ?_) (fun cdv A outer s H vs Q E hr h => ?_)
  · obtain ⟨v, t, rfl, _⟩ := h
    rfl
  · obtain ⟨v, t, rfl, it, wf, dp, d12, k⟩ := h
    refine ⟨_, (pss_cons (ps_if (pt_cmpR op_eq (pe_ix ix_tup (pv 0) pe_int (fun _ _ => rfl)) pe_str (nomark _))
  (pss_one (ps_ret (pe_op op_add_str pe_str (pe_ix ix_tup (pv 0) pe_int (fun _ _ => rfl)))))
  pss_nil)
  (pss_cons (ps_if (pt_cmpR (op_inK T.D_SIGNS) (pe_ix ix_tup (pv 0) pe_int (fun _ _ => rfl)) (pe_kd T.D_SIGNS) (by rfl))
  (pss_cons (ps_set (i := 1) sc_tree_text.nd rfl (Or.inl rfl) (pe_join pe_str (pe_lc (own := [("part", 2)]) (g := gName 2) (tt := tYes) (by rfl) sc_tree_text.nd (pi_tup (pe_slice sl_tup (pv 0) (po_some pe_int) po_none)) (blkOk_by (own := [("part", 2)]) (N := ["tree", "inner", "part"]) (sc := defScope s_tree_text) (by decide +kernel)) (fun _ _ _ _ _ => (pg_name (i := 2) sc_tree_text.nd rfl (Or.inl rfl))) (fun _ _ _ _ _ => pts_nil) (fun _ _ _ _ _ => (pe_fk ih (hr.mono (by omega)) rfl pass0 (pa_cons (pv 2) pa_nil))))))
  (pss_one (ps_ret (pe_joined (.cons (pe_fmt (pe_ix ix_tup (pv 0) pe_int (fun _ _ => rfl))) (.cons pe_str (.cons (pe_fmt (pv 1)) (.cons pe_str .nil))))))))
  pss_nil)
  (pss_one (ps_ret (pe_ix ix_tup (pv 0) pe_int (fun _ _ => rfl)))))), ?_⟩
    have big : 16777216 ≤ sizeLine := by decide
    by_cases hpt : t.parts ≠ []
    · obtain ⟨hsg, hws⟩ := wf.sign hpt
      obtain ⟨pf, us, rfl, hp, hlu, hl2, hne, hus⟩ := it.parts hpt
      have h4 : ¬ decide (V.str t.head = V.str "unknown") = true := by
        have : ∀ z ∈ (["mark", "open", "own", "pair", "seal", "lock"] : List Str), ¬ decide (V.str z = V.str "unknown") = true := by decide +kernel
        exact this _ hsg
      refine ⟨_, rfl, pf, _, _, _, rfl, rfl, SqT.of hp, at_of (j := 0) rfl rfl, rfl, _, rfl, iteN h4 ?_⟩
      refine ⟨_, rfl, pf, _, _, _, rfl, rfl, SqT.of hp, at_of (j := 0) rfl rfl, _, rfl, rfl, _, rfl, iteP (decide_eq_true (mem_to (by decide +kernel) hsg)) ?_⟩
      refine ⟨⟨_, rfl⟩, _, rfl, _, rfl, pf, _, rfl, SqT.of hp, ?_, fun p2 hp2 => ?_⟩
      · rintro ⟨z, _⟩
        rw [show (1 : Int) = ((1 : Nat) : Int) from rfl, HT.sIx_nat, List.length_cons] at z
        omega
      rw [cut1]
      have s2 := Rd.Same.upd (o := .tup us) hp2
      refine ⟨p2, rfl, ⟨_, SqT.of upd_same⟩, fun D hD => ?_⟩
      refine lct (C := 0) (fun i H v => ∃ r, t.parts[i]? = some r ∧ v = .str (textOf r)) (fun i H H' v _ h => h) (SqT.of upd_same) (by omega) hD (fun i x H1 Q1 hx s1 k1 => ?_) fun vs H1 s1 hD1 hlv hvs => ?_
      · obtain ⟨r, hr1, hr2⟩ := hus i x hx
        obtain ⟨w1, w2⟩ := hws r (List.mem_of_getElem? hr1)
        cases d with
        | zero => exact absurd dp (by omega)
        | succ d => exact ⟨_, rfl, x, r, rfl, hr2.same (s2.trans s1), w1, (by omega), (by omega), fun H' s' => k1 _ H' s' ⟨r, hr1, rfl⟩⟩
      have ev := texts_eq (hlv.trans hlu) hvs
      have hj := join_len hpt
      have hts := txt_small wf (by omega)
      refine ⟨_, D, t.parts.map textOf, rfl, rfl, .inl (SqL.of (by rw [← ev]; exact hD1)), join_sum wf (by omega), ?_⟩
      refine gName_k ?_
      try dsimp only
      have hp1 := s1 _ _ (s2 _ _ hp)
      have e0 : Str.empty.cps.toList = [] := by decide +kernel
      have e1 : ("(" : Str).cps.toList = [40] := by decide +kernel
      have e2 : (")" : Str).cps.toList = [41] := by decide +kernel
      have l0 : ∀ z : Str, Str.empty ++ z = z := fun z => str_ext (by rw [app_list, e0]; rfl)
      have la : ∀ a b : Str, (a ++ b).length = a.length + b.length := fun a b => by rw [len_list, app_list, List.length_append, ← len_list, ← len_list]
      have l1 : ("(" : Str).length = 1 := by decide +kernel
      have l2 : (")" : Str).length = 1 := by decide +kernel
      refine ⟨_, rfl, pf, _, _, _, rfl, rfl, SqT.of hp1, at_of (j := 0) rfl rfl, .inl ⟨t.head, rfl, (by omega), _, rfl, ?_, ?_⟩⟩
      · rw [l0]; omega
      rw [l0]
      refine ⟨"(", rfl, (by rw [la, l1]; omega), ?_⟩
      refine ⟨_, rfl, .inl ⟨_, rfl, (by omega), _, rfl, (by rw [la, la, l1]; omega), ?_⟩⟩
      refine ⟨")", rfl, (by rw [la, la, la, l1, l2]; omega), ?_⟩
      have ez : t.head ++ "(" ++ Txt.join ", " (t.parts.map textOf) ++ ")" = textOf t := text_parts hpt (by rw [app_list, app_list, app_list, e1, e2]; simp)
      show Q (.str (t.head ++ "(" ++ Txt.join ", " (t.parts.map textOf) ++ ")")) H1
      rw [ez]
      exact k _ (s2.trans s1)
    · cases wf with
      | @am k0 x0 ko =>
        obtain ⟨pf, rfl, hp⟩ := it
        refine ⟨_, rfl, pf, _, _, _, rfl, rfl, SqT.of hp, at_of (j := 0) rfl rfl, rfl, _, rfl, ?_⟩
        rcases ko with ⟨rfl, hx⟩ | ⟨rfl, hx⟩ | ⟨rfl, hx⟩
        · refine iteN (by decide +kernel) ?_
          refine ⟨_, rfl, pf, _, _, _, rfl, rfl, SqT.of hp, at_of (j := 0) rfl rfl, _, rfl, rfl, _, rfl, iteN (by decide +kernel) ?_⟩
          refine ⟨_, rfl, pf, _, _, _, rfl, rfl, SqT.of hp, at_of (j := 1) rfl rfl, ?_⟩
          have := k H (Same.refl _)
          rw [text_am (by decide +kernel)] at this
          exact this
        · refine iteN (by decide +kernel) ?_
          refine ⟨_, rfl, pf, _, _, _, rfl, rfl, SqT.of hp, at_of (j := 0) rfl rfl, _, rfl, rfl, _, rfl, iteN (by decide +kernel) ?_⟩
          refine ⟨_, rfl, pf, _, _, _, rfl, rfl, SqT.of hp, at_of (j := 1) rfl rfl, ?_⟩
          have := k H (Same.refl _)
          rw [text_am (by decide +kernel)] at this
          exact this
        · refine iteP (by decide +kernel) ?_
          have hl := unk_len hx
          have hq : ("?" : Str).length = 1 := by decide +kernel
          refine ⟨_, rfl, pf, _, _, _, rfl, rfl, SqT.of hp, at_of (j := 1) rfl rfl, _, _, rfl, rfl, (by omega), ?_⟩
          have := k H (Same.refl _)
          rw [text_unk] at this
          exact this
      | _ => exact absurd (fun e => by cases e) hpt
theorem tt_none (T : Tx w K mg) : Fk P w K mg base CX0 1 "tree_text" ["tree"] (spTR 0) := by
  refine T.F_tree_text.ok0 sc_tree_text (fun _ _ _ _ _ _ us hl => match us, hl with | [_], _ => rfl) (fun vs H Q E h => h.elim) (fun cdv A outer s H vs Q E hr h => h.elim)
theorem ok_tree_text (T : Tx w K mg) : ∀ d : Nat, Fk P w K mg base CX0 (d + 2) "tree_text" ["tree"] (sp_text d)
  | 0 => tt_step T 0 (tt_none T)
  | d + 1 => tt_step T (d + 1) (ok_tree_text T d)
end
end Rd
namespace Rd
open PySem L2
def nb (c : Nat) : Bool := !decide (c ∈ (("(), " : Str).cps.toList))
def wd (cs : List Nat) : List Nat := cs.takeWhile nb
/-- the rest begins by a sign that ends a word -/
def Brk (rs : List Nat) : Prop := rs = [] ∨ ∃ c r, rs = c :: r ∧ nb c = false ∧ c ≠ 40
theorem wd_app {w rs : List Nat} (hw : w.all nb = true) (hr : rs = [] ∨ ∃ c r, rs = c :: r ∧ nb c = false) : wd (w ++ rs) = w := by
  unfold wd
  induction w with
  | nil =>
    rcases hr with rfl | ⟨c, r, rfl, hc⟩
    · rfl
    · show (c :: r).takeWhile nb = []
      simp [List.takeWhile, hc]
  | cons a w ih =>
    rw [List.all_cons, Bool.and_eq_true] at hw
    show (a :: (w ++ rs)).takeWhile nb = a :: w
    rw [List.takeWhile_cons, hw.1, if_pos rfl, ih hw.2]
theorem word_nb {z : Str} (h : isWord z = true) : z.cps.toList.all nb = true := by
  obtain ⟨h1, h2⟩ := He.ba h
  obtain ⟨h3, h4⟩ := He.ba h2
  have dj : SMALL.cps.toList.all nb = true := by decide +kernel
  exact List.all_eq_true.mpr fun c hc => List.all_eq_true.mp dj c (of_decide_eq_true (List.all_eq_true.mp h4 c hc))
theorem name_nb {z : Str} (h : isName z = true) : z.cps.toList.all nb = true := by
  obtain ⟨h1, h2⟩ := He.ba h
  obtain ⟨h3, h4⟩ := He.ba h2
  have h1' := of_decide_eq_true h1
  rw [len_list, rstrip_list] at h1'
  rw [rstrip_list] at h4
  obtain ⟨⟨a1, a2⟩, a3⟩ := (name_iff z.cps.toList).mp ⟨h1', h4⟩
  have dj : GREAT.cps.toList.all nb = true := by decide +kernel
  have dk : DIGITS.cps.toList.all nb = true := by decide +kernel
  refine List.all_eq_true.mpr fun c hc => ?_
  rw [← List.take_append_drop (z.cps.toList.filter (inS GREAT)).length z.cps.toList] at hc
  rcases List.mem_append.mp hc with q | q
  · exact List.all_eq_true.mp dj c (of_decide_eq_true (List.all_eq_true.mp a2 c q))
  · exact List.all_eq_true.mp dk c (of_decide_eq_true (List.all_eq_true.mp a3 c q))
theorem am_text {k x : Str} (h : kindOk k x) : (txt (.am k x)).all nb = true ∧ atomOf (ofC (txt (.am k x))) = some (k, x) := by
  have e : ofC (txt (.am k x)) = textOf (.am k x) := rfl
  rcases h with ⟨rfl, h⟩ | ⟨rfl, h⟩ | ⟨rfl, h⟩
  · rw [e, text_am (by decide +kernel), atomOf_word h]
    refine ⟨?_, rfl⟩
    have e2 : txt (.am "word" x) = x.cps.toList := if_neg (by decide +kernel)
    rw [e2]
    exact word_nb h
  · rw [e, text_am (by decide +kernel), atomOf_name h]
    refine ⟨?_, rfl⟩
    have e2 : txt (.am "name" x) = x.cps.toList := if_neg (by decide +kernel)
    rw [e2]
    exact name_nb h
  · rw [e, text_unk, atomOf_unk h]
    refine ⟨?_, rfl⟩
    have e2 : txt (.am "unknown" x) = 63 :: x.cps.toList := if_pos rfl
    rw [e2, List.all_cons, word_nb (He.ba h).1]
    decide +kernel
end Rd
namespace Rd
open PySem L2
theorem Wf.shp {t : Tr} (h : Wf t) : (∃ k x, t = .am k x ∧ kindOk k x) ∨ (∃ s a, t = .un s a ∧ s ∈ (["mark", "open", "own"] : List Str) ∧ Wf a) ∨ ∃ s a b, t = .bi s a b ∧ s ∈ (["pair", "seal", "lock"] : List Str) ∧ Wf a ∧ Wf b := by
  cases h with
  | am ko => exact .inl ⟨_, _, rfl, ko⟩
  | un hs w => exact .inr (.inl ⟨_, _, rfl, hs, w⟩)
  | bi hs w1 w2 => exact .inr (.inr ⟨_, _, _, rfl, mem_to (by decide +kernel) hs, w1, w2⟩)
  | lk hs w1 w2 => exact .inr (.inr ⟨_, _, _, rfl, by decide +kernel, w1, .un (mem_to (by decide +kernel) hs) w2⟩)
theorem sg_nb {s : Str} (h : s ∈ (["mark", "open", "own", "pair", "seal", "lock"] : List Str)) : s.cps.toList.all nb = true := by
  have : ∀ z ∈ (["mark", "open", "own", "pair", "seal", "lock"] : List Str), z.cps.toList.all nb = true := by decide +kernel
  exact this _ h
theorem wd_sg {s : Str} {r : List Nat} (h : s ∈ (["mark", "open", "own", "pair", "seal", "lock"] : List Str)) : wd (s.cps.toList ++ 40 :: r) = s.cps.toList := wd_app (sg_nb h) (.inr ⟨40, r, rfl, by decide +kernel⟩)
theorem Brk.or {r : List Nat} (h : Brk r) : r = [] ∨ ∃ c q, r = c :: q ∧ nb c = false := by
  rcases h with h | ⟨c, q, h1, h2, _⟩
  · exact .inl h
  · exact .inr ⟨c, q, h1, h2⟩
theorem Brk.no40 {r q : List Nat} (h : Brk (40 :: q)) : False := by
  rcases h with h | ⟨c, q, h1, _, h3⟩
  · cases h
  · injection h1 with h1 _
    exact h3 h1.symm
theorem Brk.c {c : Nat} {r : List Nat} (h : nb c = false) (h2 : c ≠ 40) : Brk (c :: r) := .inr ⟨c, r, rfl, h, h2⟩
theorem sgUB {s s' : Str} (h1 : s ∈ (["mark", "open", "own"] : List Str)) (h2 : s' ∈ (["pair", "seal", "lock"] : List Str)) : s ≠ s' := by
  have : ∀ a ∈ (["mark", "open", "own"] : List Str), ∀ b ∈ (["pair", "seal", "lock"] : List Str), a ≠ b := by decide +kernel
  exact this _ h1 _ h2
theorem uT {s : Str} (h : s ∈ (["mark", "open", "own"] : List Str)) : s ∈ (["mark", "open", "own", "pair", "seal", "lock"] : List Str) := mem_to (by decide +kernel) h
theorem bT {s : Str} (h : s ∈ (["pair", "seal", "lock"] : List Str)) : s ∈ (["mark", "open", "own", "pair", "seal", "lock"] : List Str) := mem_to (by decide +kernel) h
theorem txt_un (s : Str) (a : Tr) (r : List Nat) : txt (.un s a) ++ r = s.cps.toList ++ 40 :: (txt a ++ 41 :: r) := by
  show (s.cps.toList ++ 40 :: (txt a ++ [41])) ++ r = _
  simp
theorem txt_bi (s : Str) (a b : Tr) (r : List Nat) : txt (.bi s a b) ++ r = s.cps.toList ++ 40 :: (txt a ++ 44 :: 32 :: (txt b ++ 41 :: r)) := by
  show (s.cps.toList ++ 40 :: (txt a ++ 44 :: 32 :: (txt b ++ [41]))) ++ r = _
  simp
theorem am_no {k x s : Str} {r q : List Nat} (ko : kindOk k x) (hr : Brk r) (hs : s ∈ (["mark", "open", "own", "pair", "seal", "lock"] : List Str)) (e : txt (.am k x) ++ r = s.cps.toList ++ 40 :: q) : False := by
  have h1 : wd (txt (.am k x) ++ r) = txt (.am k x) := wd_app (am_text ko).1 hr.or
  rw [e, wd_sg hs] at h1
  rw [← h1] at e
  have := List.append_cancel_left e
  rw [this] at hr
  exact Brk.no40 (r := []) hr
theorem txt_inj : ∀ (t u : Tr), Wf t → Wf u → ∀ r r' : List Nat, Brk r → Brk r' → txt t ++ r = txt u ++ r' → t = u ∧ r = r' := by
  intro t
  induction t with
  | am k x =>
    intro u wt wu r r' hr hr' e
    rcases wt.shp with ⟨_, _, e0, ko⟩ | ⟨_, _, e0, _⟩ | ⟨_, _, _, e0, _⟩
    · cases e0
      rcases wu.shp with ⟨k', x', rfl, ko'⟩ | ⟨s, a, rfl, hs, _⟩ | ⟨s, a, b, rfl, hs, _⟩
      · have h1 : wd (txt (.am k x) ++ r) = txt (.am k x) := wd_app (am_text ko).1 hr.or
        rw [e, wd_app (am_text ko').1 hr'.or] at h1
        have h2 := (am_text ko).2
        rw [← h1, (am_text ko').2] at h2
        injection h2 with h2
        injection h2 with h3 h4
        subst h3 h4
        exact ⟨rfl, List.append_cancel_left e⟩
      · rw [txt_un] at e
        exact (am_no ko hr (uT hs) e).elim
      · rw [txt_bi] at e
        exact (am_no ko hr (bT hs) e).elim
    · cases e0
    · cases e0
  | un s a ih =>
    intro u wt wu r r' hr hr' e
    rcases wt.shp with ⟨_, _, e0, _⟩ | ⟨_, _, e0, hs, wa⟩ | ⟨_, _, _, e0, _⟩
    · cases e0
    · cases e0
      rw [txt_un] at e
      rcases wu.shp with ⟨k', x', rfl, ko'⟩ | ⟨s', b, rfl, hs', wb⟩ | ⟨s', a', b, rfl, hs', _⟩
      · exact (am_no ko' hr' (uT hs) e.symm).elim
      · rw [txt_un] at e
        have h1 := wd_sg (r := txt a ++ 41 :: r) (uT hs)
        rw [e, wd_sg (uT hs')] at h1
        have h2 : s' = s := str_ext h1
        subst h2
        have h3 := List.append_cancel_left e
        injection h3 with _ h3
        obtain ⟨h4, h5⟩ := ih b wa wb _ _ (Brk.c (by decide +kernel) (by decide)) (Brk.c (by decide +kernel) (by decide)) h3
        injection h5 with _ h5
        exact ⟨by rw [h4], h5⟩
      · rw [txt_bi] at e
        have h1 := wd_sg (r := txt a ++ 41 :: r) (uT hs)
        rw [e, wd_sg (bT hs')] at h1
        exact absurd (str_ext h1).symm (sgUB hs hs')
    · cases e0
  | bi s a b iha ihb =>
    intro u wt wu r r' hr hr' e
    rcases wt.shp with ⟨_, _, e0, _⟩ | ⟨_, _, e0, _⟩ | ⟨_, _, _, e0, hs, wa, wb⟩
    · cases e0
    · cases e0
    · cases e0
      rw [txt_bi] at e
      rcases wu.shp with ⟨k', x', rfl, ko'⟩ | ⟨s', c, rfl, hs', _⟩ | ⟨s', c, d, rfl, hs', wc, wd'⟩
      · exact (am_no ko' hr' (bT hs) e.symm).elim
      · rw [txt_un] at e
        have h1 := wd_sg (r := txt a ++ 44 :: 32 :: (txt b ++ 41 :: r)) (bT hs)
        rw [e, wd_sg (uT hs')] at h1
        exact absurd (str_ext h1) (sgUB hs' hs)
      · rw [txt_bi] at e
        have h1 := wd_sg (r := txt a ++ 44 :: 32 :: (txt b ++ 41 :: r)) (bT hs)
        rw [e, wd_sg (bT hs')] at h1
        have h2 : s' = s := str_ext h1
        subst h2
        have h3 := List.append_cancel_left e
        injection h3 with _ h3
        obtain ⟨h4, h5⟩ := iha c wa wc _ _ (Brk.c (by decide +kernel) (by decide)) (Brk.c (by decide +kernel) (by decide)) h3
        injection h5 with _ h5
        injection h5 with _ h5
        obtain ⟨h6, h7⟩ := ihb d wb wd' _ _ (Brk.c (by decide +kernel) (by decide)) (Brk.c (by decide +kernel) (by decide)) h5
        injection h7 with _ h7
        exact ⟨by rw [h4, h6], h7⟩
theorem text_inj {t u : Tr} (wt : Wf t) (wu : Wf u) (e : textOf t = textOf u) : t = u := by
  have e1 : txt t = txt u := by
    have := congrArg (fun z : Str => z.cps.toList) e
    simpa [textOf, ofC_list] using this
  refine (txt_inj t u wt wu [] [] (.inl rfl) (.inl rfl) (by rw [e1])).1
def mka (O : List Tr) : Tr → Bool
  | .am k x => decide (k = "word") || decide (Tr.am k x ∈ O)
  | .un s a => decide (Tr.un s a ∈ O) || (decide (s ∈ (["mark", "open"] : List Str)) && mka O a)
  | .bi s a b => decide (Tr.bi s a b ∈ O) || (mka O a && mka O b)
theorem mka_mono {O O' : List Tr} (h : ∀ t ∈ O, t ∈ O') : ∀ {t : Tr}, mka O t = true → mka O' t = true
  | .am k x, e => by
    simp only [mka, Bool.or_eq_true, decide_eq_true_eq] at e ⊢
    rcases e with e | e
    · exact .inl e
    · exact .inr (h _ e)
  | .un s a, e => by
    simp only [mka, Bool.or_eq_true, Bool.and_eq_true, decide_eq_true_eq] at e ⊢
    rcases e with e | ⟨e1, e2⟩
    · exact .inl (h _ e)
    · exact .inr ⟨e1, mka_mono h e2⟩
  | .bi s a b, e => by
    simp only [mka, Bool.or_eq_true, Bool.and_eq_true, decide_eq_true_eq] at e ⊢
    rcases e with e | ⟨e1, e2⟩
    · exact .inl (h _ e)
    · exact .inr ⟨mka_mono h e1, mka_mono h e2⟩
theorem mka_congr {O O' : List Tr} (h : ∀ t, t ∈ O ↔ t ∈ O') (t : Tr) : mka O t = mka O' t := by
  cases e : mka O' t with
  | true => exact mka_mono (fun t => (h t).mpr) e
  | false =>
    cases e2 : mka O t with
    | false => rfl
    | true =>
      rw [mka_mono (fun t => (h t).mp) e2] at e
      cases e
def prt (s : Str) : Str := if s = "open" then "own" else "open"
def lkey : Tr → Option Tr
  | .un s k => some (.un (prt s) k)
  | _ => none
def ukey : Tr → Option Tr
  | .bi s _ k => if s = "seal" then some k else if s = "lock" then lkey k else none
  | _ => none
def PCl (O : List Tr) : Prop := ∀ a b, Tr.bi "pair" a b ∈ O → a ∈ O ∧ b ∈ O
def SCl (O O' : List Tr) : Prop := ∀ s c k key, Tr.bi s c k ∈ O → ukey (.bi s c k) = some key → mka O key = true → c ∈ O'
structure IsOpen (ts os : List Tr) : Prop where
  base : ∀ t ∈ ts, t ∈ os
  pcl : PCl os
  scl : SCl os os
  least : ∀ O' : List Tr, (∀ t ∈ ts, t ∈ O') → PCl O' → SCl O' O' → ∀ t ∈ os, t ∈ O'
theorem all_self (t : Tr) : t ∈ t.all := by rw [all_parts]; exact List.mem_cons_self
theorem all_trans : ∀ {t u v : Tr}, u ∈ t.all → v ∈ u.all → v ∈ t.all := by
  intro t
  induction t with
  | am k x =>
    intro u v hu hv
    rw [show (Tr.am k x).all = [.am k x] from rfl, List.mem_singleton] at hu
    subst hu
    exact hv
  | un s a ih =>
    intro u v hu hv
    rw [show (Tr.un s a).all = .un s a :: a.all from rfl] at hu ⊢
    rcases List.mem_cons.mp hu with rfl | hu
    · exact hv
    · exact List.mem_cons_of_mem _ (ih hu hv)
  | bi s a b iha ihb =>
    intro u v hu hv
    rw [show (Tr.bi s a b).all = .bi s a b :: (a.all ++ b.all) from rfl] at hu ⊢
    rcases List.mem_cons.mp hu with rfl | hu
    · exact hv
    · refine List.mem_cons_of_mem _ (List.mem_append.mpr ?_)
      rcases List.mem_append.mp hu with h | h
      · exact .inl (iha h hv)
      · exact .inr (ihb h hv)
theorem all_l {s : Str} {a b : Tr} : a ∈ (Tr.bi s a b).all := List.mem_cons_of_mem _ (List.mem_append_left _ (all_self a))
theorem all_r {s : Str} {a b : Tr} : b ∈ (Tr.bi s a b).all := List.mem_cons_of_mem _ (List.mem_append_right _ (all_self b))
def allOf (ts : List Tr) : List Tr := ts.flatMap Tr.all
theorem allOf_pcl (ts : List Tr) : PCl (allOf ts) := fun a b h => by
  obtain ⟨t, ht, h⟩ := List.mem_flatMap.mp h
  exact ⟨List.mem_flatMap.mpr ⟨t, ht, all_trans h all_l⟩, List.mem_flatMap.mpr ⟨t, ht, all_trans h all_r⟩⟩
theorem allOf_scl (ts : List Tr) : SCl (allOf ts) (allOf ts) := fun s c k key h _ _ => by
  obtain ⟨t, ht, h⟩ := List.mem_flatMap.mp h
  exact List.mem_flatMap.mpr ⟨t, ht, all_trans h all_l⟩
theorem allOf_base (ts : List Tr) : ∀ t ∈ ts, t ∈ allOf ts := fun t h => List.mem_flatMap.mpr ⟨t, h, all_self t⟩
theorem IsOpen.inAll {ts os : List Tr} (h : IsOpen ts os) : ∀ t ∈ os, t ∈ allOf ts := h.least _ (allOf_base ts) (allOf_pcl ts) (allOf_scl ts)
theorem IsOpen.mono {ts us os ps : List Tr} (h : IsOpen ts os) (g : IsOpen us ps) (s : ∀ t ∈ ts, t ∈ us) : ∀ t ∈ os, t ∈ ps := h.least _ (fun t ht => g.base t (s t ht)) g.pcl g.scl
end Rd
namespace Rd
open PySem L2
/-- form in a list of forms -/
theorem rd_inTs {K : PySem.W.Frag} {H : Hp} {u : Tr} {ts : List Tr} {v : V} {p : Addr} {vs : List V} {Q : VK} (iu : IsT H u v) (fu : u.fine ∧ u.dep ≤ 60) (hp : H p = some (.lst vs)) (hts : TsAt H ts vs) (ft : ∀ t ∈ ts, t.fine ∧ t.dep ≤ 60) (q : Q (.bl (decide (u ∈ ts))) H) : rInD K v (.ref p) H Q := by
  refine ⟨dat u, ts.map dat, iu.dp, .lst (SqL.of hp) (dpAll_ts hts), dat_shaped fu.1 fu.2, ts_shaped ft, ?_⟩
  have e : (ts.map dat).any (fun z => PyData.eqv z (dat u)) = decide (u ∈ ts) := by
    clear q ft hts hp
    induction ts with
    | nil => simp
    | cons t ts ih =>
      rw [List.map_cons, List.any_cons, ih, eqv_dat]
      by_cases h : t = u
      · subst h
        simp
      · have h' : u ≠ t := fun z => h z.symm
        simp [h, h']
  rw [e]
  exact q
def sp_partner : Sp := fun vs H Q _ => ∃ (v : V) (s : Str) (a : Tr), vs = [v] ∧ IsT H (.un s a) v ∧ s ∈ (["open", "own"] : List Str) ∧ ∀ u H', Same H H' → IsT H' (.un (prt s) a) u → Q u H'
def sp_ukey : Sp := fun vs H Q _ => ∃ (v : V) (t key : Tr), vs = [v] ∧ IsT H t v ∧ Wf t ∧ ukey t = some key ∧ ∀ u H', Same H H' → IsT H' key u → Q u H'
def sp_isMade (d : Nat) : Sp := fun vs H Q _ => ∃ (v : V) (t : Tr) (a : Addr) (ws : List V) (ts : List Tr), vs = [v, .ref a] ∧ IsT H t v ∧ Wf t ∧ t.dep ≤ d ∧ d ≤ 60 ∧ H a = some (.lst ws) ∧ TsAt H ts ws ∧ (∀ t ∈ ts, t.fine ∧ t.dep ≤ 60) ∧ ∀ H', Same H H' → Q (.bl (mka ts t)) H'
def spIR : Nat → Sp
  | 0 => fun _ _ _ _ => False
  | d + 1 => sp_isMade d
theorem ukey_seal {c k key : Tr} (h : ukey (.bi "seal" c k) = some key) : key = k := by
  rw [ukey, if_pos rfl] at h
  cases h
  rfl
theorem ukey_inv {t key : Tr} (wf : Wf t) (h : ukey t = some key) : (∃ c, t = .bi "seal" c key) ∨ ∃ c s k, t = .bi "lock" c (.un s k) ∧ s ∈ (["open", "own"] : List Str) ∧ key = .un (prt s) k := by
  cases t with
  | am k x => cases h
  | un s a => cases h
  | bi s c k =>
    by_cases e : s = "seal"
    · subst e
      exact .inl ⟨c, by rw [ukey_seal h]⟩
    · rw [ukey, if_neg e] at h
      by_cases e2 : s = "lock"
      · subst e2
        rw [if_pos rfl] at h
        cases wf with
        | bi hs _ _ => exact absurd hs (by decide +kernel)
        | @lk s' _ k' hs _ _ =>
          cases h
          exact .inr ⟨c, s', k', rfl, hs, rfl⟩
      · rw [if_neg e2] at h
        cases h
theorem vals_eq {f : Tr → V} : ∀ {ts : List Tr} {vs : List V}, vs.length = ts.length → (∀ (i : Nat) v, vs[i]? = some v → ∃ r, ts[i]? = some r ∧ v = f r) → vs = ts.map f
  | [], [], _, _ => rfl
  | t :: ts, v :: vs, hl, h => by
    obtain ⟨r, e1, e2⟩ := h 0 v rfl
    cases e1
    rw [List.map_cons, e2, vals_eq (ts := ts) (vs := vs) (by simpa using hl) fun i v hv => h (i + 1) v hv]
def MKL : List Str := ["pair", "seal", "lock", "mark", "open"]
theorem mka_step {ts : List Tr} {t : Tr} (wf : Wf t) : mka ts t = ((decide (t.head = "word") || decide (t ∈ ts)) || (decide (t.head ∈ MKL) && t.parts.all (mka ts))) := by
  rcases wf.shp with ⟨k, x, rfl, ko⟩ | ⟨s, a, rfl, hs, _⟩ | ⟨s, a, b, rfl, hs, _⟩
  · have h : decide ((Tr.am k x).head ∈ MKL) = false := by
      rcases ko with ⟨rfl, _⟩ | ⟨rfl, _⟩ | ⟨rfl, _⟩
      · show decide (("word" : Str) ∈ MKL) = false
        decide +kernel
      · show decide (("name" : Str) ∈ MKL) = false
        decide +kernel
      · show decide (("unknown" : Str) ∈ MKL) = false
        decide +kernel
    rw [h, mka, Bool.false_and, Bool.or_false]
    rfl
  · have h1 : decide ((Tr.un s a).head = "word") = false := by
      have : ∀ z ∈ (["mark", "open", "own"] : List Str), decide (z = "word") = false := by decide +kernel
      exact this s hs
    have h2 : decide ((Tr.un s a).head ∈ MKL) = decide (s ∈ (["mark", "open"] : List Str)) := by
      have : ∀ z ∈ (["mark", "open", "own"] : List Str), decide (z ∈ MKL) = decide (z ∈ (["mark", "open"] : List Str)) := by decide +kernel
      exact this s hs
    rw [h1, h2, mka, Bool.false_or]
    show _ = (decide (Tr.un s a ∈ ts) || (_ && (mka ts a && true)))
    rw [Bool.and_true]
  · have h1 : decide ((Tr.bi s a b).head = "word") = false := by
      have : ∀ z ∈ (["pair", "seal", "lock"] : List Str), decide (z = "word") = false := by decide +kernel
      exact this s hs
    have h2 : decide ((Tr.bi s a b).head ∈ MKL) = true := by
      have : ∀ z ∈ (["pair", "seal", "lock"] : List Str), decide (z ∈ MKL) = true := by decide +kernel
      exact this s hs
    rw [h1, h2, mka, Bool.false_or, Bool.true_and]
    show _ = (decide (Tr.bi s a b ∈ ts) || (mka ts a && (mka ts b && true)))
    rw [Bool.and_true]
theorem decS (a b : Str) : decide (V.str a = V.str b) = decide (a = b) := decide_eq_decide.mpr ⟨V.str.inj, fun e => by rw [e]⟩
theorem mkl_parts {t : Tr} (wf : Wf t) (h : t.head ∈ MKL) : t.parts ≠ [] := by
  rcases wf.shp with ⟨k, x, rfl, ko⟩ | ⟨s, a, rfl, hs, _⟩ | ⟨s, a, b, rfl, hs, _⟩
  · rcases ko with ⟨rfl, _⟩ | ⟨rfl, _⟩ | ⟨rfl, _⟩
    · exact absurd (show ("word" : Str) ∈ MKL from h) (by decide +kernel)
    · exact absurd (show ("name" : Str) ∈ MKL from h) (by decide +kernel)
    · exact absurd (show ("unknown" : Str) ∈ MKL from h) (by decide +kernel)
  · exact fun e => by cases e
  · exact fun e => by cases e
section
variable {P : Program} {w : World} {K : PySem.W.Frag} {mg : Str → Option Value} {base : Heap}
abbrev s_partner : Stmt := top 30
theorem sc_partner : FnScope ["key"] ["key"] (defScope s_partner) := ⟨rfl, rfl, rfl, by decide +kernel, rfl, by decide +kernel, by decide +kernel⟩
theorem ok_partner (T : Tx w K mg) : Fk P w K mg base CX0 1 "partner" ["key"] sp_partner := by
  refine T.F_partner.ok0 sc_partner (fun _ _ _ _ _ _ us hl => match us, hl with | [_], _ => rfl)
    (fun vs H Q E h => ?_) (fun cdv A outer s H vs Q E hr h => ?_)
  · obtain ⟨v, s, a, rfl, _⟩ := h
    rfl
  · obtain ⟨v, s, a, rfl, it, hs, k⟩ := h
    refine ⟨_, (pss_cons (ps_if (pt_cmpR op_eq (pe_ix ix_tup (pv 0) pe_int (fun _ _ => rfl)) pe_str (nomark _))
  (pss_one (ps_ret (pe_tup (pa_cons pe_str (pa_cons (pe_ix ix_tup (pv 0) pe_int (fun _ _ => rfl)) pa_nil)))))
  pss_nil)
  (pss_one (ps_ret (pe_tup (pa_cons pe_str (pa_cons (pe_ix ix_tup (pv 0) pe_int (fun _ _ => rfl)) pa_nil)))))), ?_⟩
    obtain ⟨p, u, rfl, hp, iu⟩ := it
    refine ⟨_, rfl, p, _, _, _, rfl, rfl, SqT.of hp, at_of (j := 0) rfl rfl, rfl, _, rfl, ?_⟩
    by_cases e : s = "open"
    · subst e
      refine iteP (by decide +kernel) ⟨_, rfl, p, _, _, _, rfl, rfl, SqT.of hp, at_of (j := 1) rfl rfl, (by show 2 ≤ sizeLine; decide), fun q hq => ?_⟩
      exact k _ _ (Rd.Same.upd hq) ⟨q, u, rfl, upd_same, iu.same (Rd.Same.upd hq)⟩
    · refine iteN (by intro z; exact e (V.str.inj (of_decide_eq_true z))) (nxt ?_)
      try dsimp only
      refine ⟨_, rfl, p, _, _, _, rfl, rfl, SqT.of hp, at_of (j := 1) rfl rfl, (by show 2 ≤ sizeLine; decide), fun q hq => ?_⟩
      refine k _ _ (Rd.Same.upd hq) ⟨q, u, rfl, ?_, iu.same (Rd.Same.upd hq)⟩
      rw [upd_same, prt, if_neg e]
abbrev s_undoing_key : Stmt := top 31
theorem sc_undoing_key : FnScope ["tree"] ["tree"] (defScope s_undoing_key) := ⟨rfl, rfl, rfl, by decide +kernel, rfl, by decide +kernel, by decide +kernel⟩
theorem ok_undoing_key (T : Tx w K mg) : Fk P w K mg base CX0 2 "undoing_key" ["tree"] sp_ukey := by
  refine T.F_undoing_key.ok0 sc_undoing_key (fun _ _ _ _ _ _ us hl => match us, hl with | [_], _ => rfl)
    (fun vs H Q E h => ?_) (fun cdv A outer s H vs Q E hr h => ?_)
  · obtain ⟨v, t, key, rfl, _⟩ := h
    rfl
  · obtain ⟨v, t, key, rfl, it, wf, hk, k⟩ := h
    refine ⟨_, (pss_cons (ps_if (pt_cmpR op_eq (pe_ix ix_tup (pv 0) pe_int (fun _ _ => rfl)) pe_str (nomark _))
  (pss_one (ps_ret (pe_ix ix_tup (pv 0) pe_int (fun _ _ => rfl))))
  pss_nil)
  (pss_one (ps_ret (pe_fk (ok_partner T) (hr.mono (by omega)) rfl pass0 (pa_cons (pe_ix ix_tup (pv 0) pe_int (fun _ _ => rfl)) pa_nil))))), ?_⟩
    rcases ukey_inv wf hk with ⟨c, rfl⟩ | ⟨c, s, k0, rfl, hs, rfl⟩
    · obtain ⟨p, u1, u2, rfl, hp, i1, i2⟩ := it
      refine ⟨_, rfl, p, _, _, _, rfl, rfl, SqT.of hp, at_of (j := 0) rfl rfl, rfl, _, rfl, iteP (by decide +kernel) ?_⟩
      exact ⟨_, rfl, p, _, _, _, rfl, rfl, SqT.of hp, at_of (j := 2) rfl rfl, k _ _ (Same.refl _) i2⟩
    · obtain ⟨p, u1, u2, rfl, hp, i1, i2⟩ := it
      refine ⟨_, rfl, p, _, _, _, rfl, rfl, SqT.of hp, at_of (j := 0) rfl rfl, rfl, _, rfl, iteN (by decide +kernel) (nxt ?_)⟩
      try dsimp only
      exact ⟨_, rfl, p, _, _, _, rfl, rfl, SqT.of hp, at_of (j := 2) rfl rfl, u2, s, k0, rfl, i2, hs, fun u H' s' iu => k _ _ s' iu⟩
abbrev s_is_made : Stmt := top 32
theorem sc_is_made : FnScope ["tree", "opened", "part"] ["tree", "opened"] (defScope s_is_made) := ⟨rfl, rfl, rfl, by decide +kernel, rfl, by decide +kernel, by decide +kernel⟩
theorem im_step (T : Tx w K mg) (d : Nat) (ih : Fk P w K mg base CX0 (d + 1) "is_made" ["tree", "opened"] (spIR d)) : Fk P w K mg base CX0 (d + 2) "is_made" ["tree", "opened"] (sp_isMade d) := by
  refine T.F_is_made.ok0 sc_is_made (fun _ _ _ _ _ _ us hl => match us, hl with | [_, _], _ => rfl)
    (fun vs H Q E h => ?_) (fun cdv A outer s H vs Q E hr h => ?_)
  · obtain ⟨v, t, a, ws, ts, rfl, _⟩ := h
    rfl
  · obtain ⟨v, t, a, ws, ts, rfl, it, wf, dp, d60, ha, hts, ft, k⟩ := h
    refine ⟨_, (pss_cons (ps_if (PW.pt (pw_or (pt_cmpR op_eq (pe_ix ix_tup (pv 0) pe_int (fun _ _ => rfl)) pe_str (nomark _)) (pw_or1 (pt_cmpR (op_inD hr.units65) (pv 0) (pv 1) (by rfl)))))
  (pss_one (ps_ret pe_bl))
  pss_nil)
  (pss_cons (ps_if (pt_cmpR op_notInT (pe_ix ix_tup (pv 0) pe_int (fun _ _ => rfl)) (pe_ktk (K := K) rfl T.U_MAKEABLE) (by rfl))
  (pss_one (ps_ret pe_bl))
  pss_nil)
  (pss_one (ps_ret (pe_callB (cr_all rfl) (by rfl) T.z_all (by decide +kernel) (pa_cons (pe_lc (own := [("part", 2)]) (g := gName 2) (tt := tYes) (by rfl) sc_is_made.nd (pi_tup (pe_slice sl_tup (pv 0) (po_some pe_int) po_none)) (blkOk_by (own := [("part", 2)]) (N := ["tree", "opened", "part"]) (sc := defScope s_is_made) (by decide +kernel)) (fun _ _ _ _ _ => (pg_name (i := 2) sc_is_made.nd rfl (Or.inl rfl))) (fun _ _ _ _ _ => pts_nil) (fun _ _ _ _ _ => (pe_fk ih (hr.mono (by omega)) rfl pass0 (pa_cons (pv 2) (pa_cons (pv 1) pa_nil))))) pa_nil)))))), ?_⟩
    have big : 16777216 ≤ sizeLine := by decide
    obtain ⟨pf, us, rfl, hp⟩ := it.hd
    have fu : t.fine ∧ t.dep ≤ 60 := ⟨wf.fine, by omega⟩
    refine seqIf (tb_or (b := decide (t.head = "word")) (c := decide (t ∈ ts)) (fun Q2 kq => ⟨_, rfl, pf, _, _, _, rfl, rfl, SqT.of hp, at_of (j := 0) rfl rfl, rfl, _, rfl, ?_⟩) (fun H1 s1 _ Q2 kq => ⟨_, rfl, _, rfl, rd_inTs (it.same s1) fu (s1 _ _ ha) (hts.same s1) ft ⟨_, rfl, kq _ (Same.refl _)⟩⟩)) fun H1 s1 => ?_
    · rw [decS]
      exact kq _ (Same.refl _)
    have em := mka_step (ts := ts) wf
    refine ite2 (fun h1 => ?_) (fun h1 => ?_)
    · rw [h1, Bool.true_or] at em
      rw [em] at k
      exact k _ s1
    · have h1 : (decide (t.head = "word") || decide (t ∈ ts)) = false := by simpa using h1
      rw [h1, Bool.false_or] at em
      refine nxt ?_
      try dsimp only
      refine ⟨_, rfl, pf, _, _, _, rfl, rfl, SqT.of (s1 _ _ hp), at_of (j := 0) rfl rfl, _, He.ga K "MAKEABLE", MKL, rfl, rfl, T.U_MAKEABLE.tp _, _, rfl, ?_⟩
      by_cases hm : t.head ∈ MKL
      · rw [decide_eq_true hm, Bool.true_and] at em
        refine iteN (by rw [decide_eq_true hm]; decide) (nxt ?_)
        try dsimp only
        have hpt := mkl_parts wf hm
        obtain ⟨hsg, hws⟩ := wf.sign hpt
        obtain ⟨pf', us', e', hp', hlu, hl2, hne, hus⟩ := it.parts hpt
        cases e'
        rw [hp] at hp'
        cases hp'
        refine ⟨_, rfl, _, rfl, pf, _, rfl, SqT.of (s1 _ _ hp), ?_, fun p2 hp2 => ?_⟩
        · rintro ⟨z, _⟩
          rw [show (1 : Int) = ((1 : Nat) : Int) from rfl, HT.sIx_nat, List.length_cons] at z
          omega
        rw [cut1]
        have s2 := Rd.Same.upd (o := .tup us) hp2
        refine ⟨p2, rfl, ⟨_, SqT.of upd_same⟩, fun D hD => ?_⟩
        refine lct (C := 0) (fun i H v => ∃ r, t.parts[i]? = some r ∧ v = .bl (mka ts r)) (fun i H H' v kp h => h) (SqT.of upd_same) (by omega) hD (fun i x H1 Q1 hx s3 k1 => ?_) fun vs H3 s3 hD3 hlv hvs => ?_
        · obtain ⟨r, hr1, hr2⟩ := hus i x hx
          obtain ⟨w1, w2⟩ := hws r (List.mem_of_getElem? hr1)
          have s01 := (s1.trans s2).trans s3
          cases d with
          | zero => exact absurd dp (by omega)
          | succ d => exact ⟨_, rfl, _, rfl, x, r, a, ws, ts, rfl, hr2.same s01, w1, (by omega), (by omega), s01 _ _ ha, hts.same s01, ft, fun H' s' => k1 _ H' s' ⟨r, hr1, rfl⟩⟩
        have ev := vals_eq (hlv.trans hlu) hvs
        refine ⟨D, t.parts.map (mka ts), rfl, SqL.of (by rw [hD3, ev, List.map_map]; rfl), ?_⟩
        have e3 : (t.parts.map (mka ts)).all id = t.parts.all (mka ts) := by rw [List.all_map]; rfl
        rw [e3, ← em]
        exact k _ ((s1.trans s2).trans s3)
      · rw [decide_eq_false hm, Bool.false_and] at em
        refine iteP (by rw [decide_eq_false hm]; decide) ?_
        rw [em] at k
        exact k _ s1
theorem im_none (T : Tx w K mg) : Fk P w K mg base CX0 1 "is_made" ["tree", "opened"] (spIR 0) := by
  refine T.F_is_made.ok0 sc_is_made (fun _ _ _ _ _ _ us hl => match us, hl with | [_, _], _ => rfl) (fun vs H Q E h => h.elim) (fun cdv A outer s H vs Q E hr h => h.elim)
theorem ok_is_made (T : Tx w K mg) : ∀ d : Nat, Fk P w K mg base CX0 (d + 2) "is_made" ["tree", "opened"] (sp_isMade d)
  | 0 => im_step T 0 (im_none T)
  | d + 1 => im_step T (d + 1) (ok_is_made T d)
end
end Rd
namespace Rd
open PySem L2
theorem nodup_sub {α : Type} : ∀ {l m : List α}, l.Nodup → (∀ x ∈ l, x ∈ m) → l.length ≤ m.length
  | [], _, _, _ => Nat.zero_le _
  | a :: l, m, h, s => by
    obtain ⟨h1, h2⟩ := List.nodup_cons.mp h
    obtain ⟨p, q, rfl⟩ := List.append_of_mem (s a List.mem_cons_self)
    have := nodup_sub (l := l) (m := p ++ q) h2 fun x hx => by
      rcases List.mem_append.mp (s x (List.mem_cons_of_mem _ hx)) with h | h
      · exact List.mem_append_left _ h
      · rcases List.mem_cons.mp h with rfl | h
        · exact absurd hx h1
        · exact List.mem_append_right _ h
    rw [List.length_append] at this ⊢
    simp only [List.length_cons]
    omega
theorem TsAt.unsnoc {H : Hp} {ts : List Tr} {vs : List V} {v : V} (h : TsAt H ts (vs ++ [v])) : ∃ ts' t, ts = ts' ++ [t] ∧ TsAt H ts' vs ∧ IsT H t v := by
  have hl := h.len
  rw [List.length_append] at hl
  rcases List.eq_nil_or_concat ts with rfl | ⟨ts', t, e⟩
  · cases hl
  · rw [List.concat_eq_append] at e
    subst e
    have hl2 : vs.length = ts'.length := by rw [List.length_append] at hl; exact Nat.succ.inj hl
    refine ⟨ts', t, rfl, ⟨hl2, fun i t' v' h1 h2 => h.get i t' v' ?_ ?_⟩, h.get vs.length t v ?_ ?_⟩
    · rw [List.getElem?_append_left (List.getElem?_eq_some_iff.mp h1).1]; exact h1
    · rw [List.getElem?_append_left (List.getElem?_eq_some_iff.mp h2).1]; exact h2
    · rw [hl2, List.getElem?_append_right (Nat.le_refl _), Nat.sub_self]; rfl
    · rw [List.getElem?_append_right (Nat.le_refl _), Nat.sub_self]; rfl
/-- [d[x] for x in d] -/
theorem lcv {d D : Addr} {o : Obj} {kvs : List (Key × V)} {l : List (Str × Tr)} {te : TE} {i0 : Nat} {σ : St} {H1 : Hp} {Qd : Hp → Prop}
    (hd : H1 d = some (.frz o (.dK kvs))) (al : Al IsT H1 l kvs) (nd : (l.map (·.1)).Nodup) (hl : l.length ≤ 100000) (hD : H1 D = none)
    (hw : ∀ p : V, wipe ((wipe σ [i0]).set i0 (some p)) [i0] = wipe σ [i0])
    (hte : ∀ (x : Str) (v : V) (σ2 : St) (H : Hp) (Q : VK), Same H1 H → DGet H d (.str x) (some v) → σ2 = (wipe σ [i0]).set i0 (some (.str x)) → Q v H → te σ2 H Q)
    (hq : ∀ vs H', Same H1 H' → H' D = some (.lst vs) → TsAt H' (l.map (·.2)) vs → Qd H') :
    ∃ W : Nat → Nat → Hp → Prop, (∃ m, W 0 m (L2.upd H1 D (.lst []))) ∧ ∀ i m H, W i m H →
      ((Itk d o kvs).stop i H ∧ Qd H) ∨ ((Itk d o kvs).go i H ∧ ∃ Nx : Hp → Prop, (∀ H', Nx H' → ∃ m', m' < m ∧ W (i + 1) m' H') ∧ ∀ x H', (Itk d o kvs).yld i H x H' → gName i0 x (wipe σ [i0]) H' fun σ2 H2 => wipe σ2 [i0] = wipe σ [i0] ∧ tYes σ2 H2 fun b H3 =>
        if b = true then te σ2 H3 fun y H4 => ∃ acc, H4 D = some (.lst acc) ∧ acc.length < sizeLine ∧ Nx (L2.upd H4 D (.lst (acc ++ [y]))) else Nx H3) := by
  have hlen := al.len
  have big : 200000 ≤ sizeLine := by decide
  refine ⟨fun i m H => m = kvs.length - i ∧ i ≤ kvs.length ∧ ∃ vs, Same H1 H ∧ H D = some (.lst vs) ∧ TsAt H ((l.take i).map (·.2)) vs, ⟨_, rfl, Nat.zero_le _, [], Rd.Same.upd hD, upd_same, ⟨rfl, fun i t v h => by simp at h⟩⟩, ?_⟩
  rintro i m H ⟨rfl, hi, vs, s, hDa, hts⟩
  by_cases hlt : i < kvs.length
  · refine .inr ⟨⟨s _ _ hd, hlt⟩, fun H' => ∃ vs, Same H1 H' ∧ H' D = some (.lst vs) ∧ TsAt H' ((l.take (i + 1)).map (·.2)) vs, fun H' h => ⟨kvs.length - (i + 1), by omega, rfl, hlt, h⟩, ?_⟩
    rintro _ H ⟨rfl, k, v0, hk, rfl⟩
    obtain ⟨x, t, hx, rfl, _⟩ := al.get hk
    obtain ⟨v, ev, r1⟩ := (al.look (x := x)).1 t (look_get nd hx)
    have etk : l.take (i + 1) = l.take i ++ [(x, t)] := by rw [List.take_succ, hx]; rfl
    refine ⟨hw _, ?_⟩
    unfold tYes
    have hvl := hts.len
    rw [List.length_map, List.length_take] at hvl
    refine iteT (hte x v _ _ _ s (.inl ⟨kvs, .inr x, .inr ⟨o, s _ _ hd⟩, rfl, ev.symm⟩) rfl ⟨vs, hDa, by omega, vs ++ [v], fun c o e => ?_, upd_same, ?_⟩)
    · rw [upd_ne (ne_of_none e hD)]
      exact s _ _ e
    · have kp := Kp.upd_lst (C := 0) (ys := vs ++ [v]) hDa
      rw [etk, List.map_append]
      exact ((hts.mono kp).app (TsAt.one ((r1.same s).mono kp)))
  · refine .inl ⟨⟨s _ _ hd, by omega⟩, hq vs H s hDa ?_⟩
    rw [List.take_of_length_le (by omega)] at hts
    exact hts
theorem lookT_mem {l : List (Str × Tr)} {x : Str} {t : Tr} (h : look l x = some t) : (x, t) ∈ l := by
  unfold look at h
  cases e : l.find? (fun p => decide (p.1 = x)) with
  | none => rw [e] at h; cases h
  | some p =>
    rw [e] at h
    have h1 := List.mem_of_find?_eq_some e
    have h2 := List.find?_some e
    have h3 : p.1 = x := of_decide_eq_true h2
    cases h
    rw [← h3]
    exact h1
structure Halves (ts hs : List Tr) : Prop where
  nd : hs.Nodup
  base : ∀ t ∈ ts, t ∈ hs
  pcl : PCl hs
  least : ∀ O' : List Tr, (∀ t ∈ ts, t ∈ O') → PCl O' → ∀ t ∈ hs, t ∈ O'
/-- the state of halves_of: found (l), waiting (wt) -/
structure HI (d : Nat) (ts : List Tr) (l : List (Str × Tr)) (wt : List Tr) : Prop where
  key : ∀ p ∈ l, p.1 = textOf p.2
  wl : ∀ p ∈ l, Wf p.2 ∧ p.2.dep ≤ d
  ww : ∀ t ∈ wt, Wf t ∧ t.dep ≤ d
  nd : (l.map (·.1)).Nodup
  base : ∀ t ∈ ts, t ∈ l.map (·.2) ∨ t ∈ wt
  pcl : ∀ a b, Tr.bi "pair" a b ∈ l.map (·.2) → (a ∈ l.map (·.2) ∨ a ∈ wt) ∧ (b ∈ l.map (·.2) ∨ b ∈ wt)
  least : ∀ O' : List Tr, (∀ t ∈ ts, t ∈ O') → PCl O' → (∀ t ∈ l.map (·.2), t ∈ O') ∧ ∀ t ∈ wt, t ∈ O'
def szs (ts : List Tr) : Nat := (ts.map fun t => t.all.length).sum
theorem szs_app (a b : List Tr) : szs (a ++ b) = szs a + szs b := by simp [szs]
theorem szs_one (t : Tr) : szs [t] = t.all.length := by simp [szs]
theorem allOf_len : ∀ ts : List Tr, (allOf ts).length = szs ts
  | [] => rfl
  | t :: ts => by
    show (t.all ++ allOf ts).length = szs ([t] ++ ts)
    rw [List.length_append, allOf_len ts, szs_app, szs_one]
theorem all_pos (t : Tr) : 1 ≤ t.all.length := by cases t <;> simp [Tr.all]
theorem szs_len : ∀ ts : List Tr, ts.length ≤ szs ts
  | [] => Nat.le_refl _
  | t :: ts => by
    have := szs_len ts
    have := all_pos t
    show ts.length + 1 ≤ szs ([t] ++ ts)
    rw [szs_app, szs_one]
    omega
theorem snd_nodup : ∀ {l : List (Str × Tr)}, (∀ p ∈ l, p.1 = textOf p.2) → (l.map (·.1)).Nodup → (l.map (·.2)).Nodup
  | [], _, _ => List.nodup_nil
  | p :: l, hk, h => by
    obtain ⟨h1, h2⟩ := List.nodup_cons.mp h
    refine List.nodup_cons.mpr ⟨fun hm => ?_, snd_nodup (fun q hq => hk q (List.mem_cons_of_mem _ hq)) h2⟩
    obtain ⟨q, hq, e⟩ := List.mem_map.mp hm
    refine h1 (List.mem_map.mpr ⟨q, hq, ?_⟩)
    show q.1 = p.1
    have e : q.2 = p.2 := e
    rw [hk q (List.mem_cons_of_mem _ hq), hk p List.mem_cons_self, e]
theorem HI.len {d : Nat} {ts wt : List Tr} {l : List (Str × Tr)} (h : HI d ts l wt) : l.length ≤ (allOf ts).length := by
  have := nodup_sub (snd_nodup h.key h.nd) (h.least _ (allOf_base ts) (allOf_pcl ts)).1
  rwa [List.length_map] at this
theorem HI.init {d : Nat} {ts : List Tr} (h : ∀ t ∈ ts, Wf t ∧ t.dep ≤ d) : HI d ts [] ts := ⟨(fun p hp => by cases hp), (fun p hp => by cases hp), h, List.nodup_nil, fun t ht => .inr ht, (fun a b hp => by cases hp), fun O' h1 _ => ⟨fun t ht => (by cases ht), h1⟩⟩
theorem HI.fin {d : Nat} {ts : List Tr} {l : List (Str × Tr)} (h : HI d ts l []) : Halves ts (l.map (·.2)) :=
  ⟨snd_nodup h.key h.nd, fun t ht => (h.base t ht).elim id (fun z => by cases z), fun a b hp => ⟨(h.pcl a b hp).1.elim id (fun z => by cases z), (h.pcl a b hp).2.elim id (fun z => by cases z)⟩, fun O' h1 h2 => (h.least O' h1 h2).1⟩
theorem HI.known {d : Nat} {ts wt : List Tr} {t u : Tr} {l : List (Str × Tr)} (h : HI d ts l (wt ++ [t])) (hl : look l (textOf t) = some u) : HI d ts l wt := by
  have hm := lookT_mem hl
  have hu : u = t := (text_inj (h.ww t (by simp)).1 (h.wl _ hm).1 (h.key _ hm)).symm
  subst hu
  have ht : u ∈ l.map (·.2) := List.mem_map.mpr ⟨_, hm, rfl⟩
  have f : ∀ {v : Tr}, v ∈ l.map (·.2) ∨ v ∈ wt ++ [u] → v ∈ l.map (·.2) ∨ v ∈ wt := fun {v} q => by
    rcases q with q | q
    · exact .inl q
    · rcases List.mem_append.mp q with q | q
      · exact .inr q
      · rw [List.mem_singleton.mp q]; exact .inl ht
  exact ⟨h.key, h.wl, fun t ht => h.ww t (List.mem_append_left _ ht), h.nd, fun t ht => f (h.base t ht), fun a b hp => ⟨f (h.pcl a b hp).1, f (h.pcl a b hp).2⟩, fun O' h1 h2 => ⟨(h.least O' h1 h2).1, fun t ht => (h.least O' h1 h2).2 t (List.mem_append_left _ ht)⟩⟩
theorem HI.new {d : Nat} {ts wt ps : List Tr} {t : Tr} {l : List (Str × Tr)} (h : HI d ts l (wt ++ [t])) (hl : look l (textOf t) = none) (hps : ∀ a b, t = .bi "pair" a b → a ∈ ps ∧ b ∈ ps) (hp : ∀ r ∈ ps, (∃ a b, t = .bi "pair" a b ∧ (r = a ∨ r = b)) ∧ Wf r ∧ r.dep ≤ d) : HI d ts (l ++ [(textOf t, t)]) (wt ++ ps) := by
  have f : ∀ {v : Tr}, v ∈ l.map (·.2) ∨ v ∈ wt ++ [t] → v ∈ (l ++ [(textOf t, t)]).map (·.2) ∨ v ∈ wt ++ ps := fun {v} q => by
    rw [List.map_append]
    rcases q with q | q
    · exact .inl (List.mem_append_left _ q)
    · rcases List.mem_append.mp q with q | q
      · exact .inr (List.mem_append_left _ q)
      · rw [List.mem_singleton.mp q]; exact .inl (List.mem_append_right _ List.mem_cons_self)
  have ht := h.ww t (by simp)
  refine ⟨fun p hp => ?_, fun p hp => ?_, fun r hr => ?_, ?_, fun t ht => f (h.base t ht), fun a b hp => ?_, fun O' h1 h2 => ?_⟩
  · rcases List.mem_append.mp hp with q | q
    · exact h.key p q
    · rw [List.mem_singleton.mp q]
  · rcases List.mem_append.mp hp with q | q
    · exact h.wl p q
    · rw [List.mem_singleton.mp q]; exact ht
  · rcases List.mem_append.mp hr with q | q
    · exact h.ww r (List.mem_append_left _ q)
    · exact (hp r q).2
  · rw [List.map_append]
    refine List.nodup_append.mpr ⟨h.nd, by simp, fun a ha b hb e => ?_⟩
    have hb : b = textOf t := by simpa using hb
    obtain ⟨⟨y, u⟩, hq, ey⟩ := List.mem_map.mp ha
    obtain ⟨i, hi⟩ := List.getElem?_of_mem hq
    have : y = textOf t := by rw [← hb, ← e]; exact ey
    subst this
    rw [look_get h.nd hi] at hl
    cases hl
  · rw [List.map_append] at hp
    rcases List.mem_append.mp hp with q | q
    · exact ⟨f (h.pcl a b q).1, f (h.pcl a b q).2⟩
    · have e : t = .bi "pair" a b := (List.mem_singleton.mp q).symm
      obtain ⟨h1, h2⟩ := hps a b e
      exact ⟨.inr (List.mem_append_right _ h1), .inr (List.mem_append_right _ h2)⟩
  · obtain ⟨h3, h4⟩ := h.least O' h1 h2
    have h5 := h4 t (by simp)
    refine ⟨fun r hr => ?_, fun r hr => ?_⟩
    · rw [List.map_append] at hr
      rcases List.mem_append.mp hr with q | q
      · exact h3 r q
      · rw [List.mem_singleton.mp q]; exact h5
    · rcases List.mem_append.mp hr with q | q
      · exact h4 r (List.mem_append_left _ q)
      · obtain ⟨⟨a, b, rfl, e⟩, _⟩ := hp r q
        obtain ⟨h6, h7⟩ := h2 a b h5
        rcases e with rfl | rfl
        · exact h6
        · exact h7
def sp_halves (d : Nat) : Sp := fun vs H Q _ => ∃ (a : Addr) (ws : List V) (ts : List Tr), vs = [.ref a] ∧ H a = some (.lst ws) ∧ TsAt H ts ws ∧ (∀ t ∈ ts, Wf t ∧ t.dep ≤ d) ∧ d ≤ 12 ∧ (allOf ts).length ≤ 100000 ∧
  ∀ q us hs H', Same H H' → H q = none → H' q = some (.lst us) → TsAt H' hs us → Halves ts hs → Q (.ref q) H'
section
variable {P : Program} {w : World} {K : PySem.W.Frag} {mg : Str → Option Value} {base : Heap}
abbrev s_halves_of : Stmt := top 33
theorem sc_halves_of : FnScope ["trees", "found", "waiting", "tree", "text"] ["trees"] (defScope s_halves_of) := ⟨rfl, rfl, rfl, by decide +kernel, rfl, by decide +kernel, by decide +kernel⟩
theorem ok_halves_of (T : Tx w K mg) (d : Nat) : Fk P w K mg base CX0 (d + 4) "halves_of" ["trees"] (sp_halves d) := by
  refine T.F_halves_of.ok0 sc_halves_of (fun _ _ _ _ _ _ us hl => match us, hl with | [_], _ => rfl)
    (fun vs H Q E h => ?_) (fun cdv A outer s H vs Q E hr h => ?_)
  · obtain ⟨a, ws, ts, rfl, _⟩ := h
    rfl
  · obtain ⟨a, ws, ts, rfl, ha, hts, wf, d12, hbig, k⟩ := h
    refine ⟨_, (pss_cons (ps_set (i := 1) sc_halves_of.nd rfl (Or.inr rfl) pe_dnewK)
  (pss_cons (ps_set (i := 2) sc_halves_of.nd rfl (Or.inl rfl) (pe_callTy call_list_of (by rfl) T.z_list (by decide +kernel) (pa_cons (pv 0) pa_nil)))
  (pss_cons (ps_while PassesOwn.never (pt_truth (pv 2) (by intro _; rfl))
  (pss_cons (ps_set (i := 3) sc_halves_of.nd rfl (Or.inl rfl) (pe_bm0 PySem.F.plainAttrs_list PySem.F.slot_list_pop PySem.F.type_list_pop mt_pop (pv 2)))
  (pss_cons (ps_set (i := 4) sc_halves_of.nd rfl (Or.inl rfl) (pe_fk (ok_tree_text T d) (hr.mono (by omega)) rfl pass0 (pa_cons (pv 3) pa_nil)))
  (pss_one (ps_if (pt_cmp (pc_dnotin (hu_of hr) (pv 4) (pv 1)))
  (pss_cons (ps_dput (hu_of hr) (pv 1) (pv 4) (pv 3) (by rfl))
  (pss_one (ps_if (pt_cmpR op_eq (pe_ix ix_tup (pv 3) pe_int (fun _ _ => rfl)) pe_str (nomark _))
  (pss_one (ps_expr (pe_bm PySem.F.plainAttrs_list PySem.F.slot_list_extend PySem.F.type_list_extend mt_extT (pv 2) (pa_cons (pe_slice sl_tup (pv 3) (po_some pe_int) po_none) pa_nil))))
  pss_nil)))
  pss_nil)))))
  (pss_one (ps_ret (pe_lock (pe_lc (own := [("text", 4)]) (g := gName 4) (tt := tYes) (by rfl) sc_halves_of.nd (pi_keys (pv 1)) (blkOk_by (own := [("text", 4)]) (N := ["trees", "found", "waiting", "tree", "text"]) (sc := defScope s_halves_of) (by decide +kernel)) (fun _ _ _ _ _ => (pg_name (i := 4) sc_halves_of.nd rfl (Or.inl rfl))) (fun _ _ _ _ _ => pts_nil) (fun _ _ _ _ _ => (pe_dget (hu_of hr) (pv 1) (pv 4) (fun _ _ => rfl)))))))))), ?_⟩
    have big : 16777216 ≤ sizeLine := by decide
    refine fun F hF => ?_
    refine gName_k ?_
    try dsimp only
    have sF := Rd.Same.upd (o := .dK []) hF
    have hF1 : upd H F (.dK []) F = some (.dK []) := upd_same
    generalize upd H F (.dK []) = H1 at sF hF1 ⊢
    refine seqAsg ⟨_, rfl, a, ws, rfl, .inl (SqL.of (sF _ _ ha)), fun Wq hW => ?_⟩
    refine gName_k ?_
    try dsimp only
    have sW := Rd.Same.upd (o := .lst ws) hW
    have s2 := sF.trans sW
    have hF2 := sW _ _ hF1
    have hW2 : upd H1 Wq (.lst ws) Wq = some (.lst ws) := upd_same
    generalize upd H1 Wq (.lst ws) = H2 at s2 hF2 hW2 ⊢
    have nFW : F ≠ Wq := fun z => by rw [← z, hF1] at hW; cases hW
    have nWH : H Wq = none := sF.free hW
    have hsz := allOf_len ts
    refine ⟨fun m σ Hc => ∃ (t3 t4 : Option V) (kc : List (Key × V)) (l : List (Str × Tr)) (wv : List V) (wt : List Tr), σ = [some (.ref a), some (.ref F), some (.ref Wq), t3, t4] ∧ (∀ c o, c ≠ F → c ≠ Wq → H2 c = some o → Hc c = some o) ∧ Hc F = some (.dK kc) ∧ Al IsT Hc l kc ∧ Hc Wq = some (.lst wv) ∧ TsAt Hc wt wv ∧ m = szs wt ∧ m ≤ szs ts ∧ HI d ts l wt, ⟨_, _, _, [], [], ws, ts, rfl, fun _ _ _ _ e => e, hF2, trivial, hW2, hts.same s2, rfl, Nat.le_refl _, HI.init wf⟩, ?_⟩
    rintro m σ Hc ⟨t3, t4, kc, l, wv, wt, rfl, fr, hFc, alc, hWc, tsc, hm, hms, hi⟩
    have hll := hi.len
    have hkl := alc.len
    have hwl := tsc.len
    have hws := szs_len wt
    refine ⟨_, rfl, !wv.isEmpty, .inl ⟨_, SqL.of hWc, rfl⟩, ?_⟩
    rcases List.eq_nil_or_concat wv with rfl | ⟨wv', y, e⟩
    · refine iteN (by decide) ?_
      try dsimp only
      have ewt : wt = [] := List.length_eq_zero_iff.mp (by rw [← hwl]; rfl)
      subst ewt
      refine ⟨F, _, hFc, trivial, fun od => ?_⟩
      have kl : Kp 0 Hc (upd Hc F (.frz od (.dK kc))) := fun c o hi e => by
        rw [upd_ne (fun z => by rw [z, hFc] at e; cases e; cases hi)]
        exact e
      refine ⟨_, rfl, F, od, rfl, .inl ⟨kc, upd_same, fun D hD => ?_⟩⟩
      refine lcv upd_same (alc.mono fun t v h => h.mono kl) hi.nd (by omega) hD (fun _ => rfl) (fun x v σ2 H3 Q3 s3 dg e kk => by subst e; exact ⟨_, rfl, _, rfl, F, v, rfl, dg, kk⟩) fun vs H3 s3 hD3 hv3 => ?_
      have hF3 := s3 _ _ (upd_same (H := Hc) (a := F))
      refine ⟨hF3, ?_⟩
      have kx : Kp 0 H3 (upd H3 F (.dK kc)) := fun c o hi e => by
        rw [upd_ne (fun z => by rw [z, hF3] at e; cases e; cases hi)]
        exact e
      have neDF : D ≠ F := fun z => by rw [z, upd_same] at hD; cases hD
      refine k D vs _ _ (fun c o e => ?_) ?_ (by rw [upd_ne neDF]; exact hD3) (hv3.mono kx) hi.fin
      · have ncF := ne_of_none e hF
        rw [upd_ne ncF]
        exact s3 _ _ (by rw [upd_ne ncF]; exact fr c o ncF (ne_of_none e nWH) (s2 _ _ e))
      · cases e : H D with
        | none => rfl
        | some o =>
          have : upd Hc F (.frz od (.dK kc)) D = some o := by rw [upd_ne neDF]; exact fr D o neDF (ne_of_none e nWH) (s2 _ _ e)
          rw [this] at hD
          cases hD
    · rw [List.concat_eq_append] at e
      subst e
      obtain ⟨wt', t, rfl, tsc', it⟩ := tsc.unsnoc
      refine iteP (by simp) ⟨fun σ' H' => ∃ (t3 t4 : Option V) (kc : List (Key × V)) (l : List (Str × Tr)) (wv : List V) (wt : List Tr), σ' = [some (.ref a), some (.ref F), some (.ref Wq), t3, t4] ∧ (∀ c o, c ≠ F → c ≠ Wq → H2 c = some o → H' c = some o) ∧ H' F = some (.dK kc) ∧ Al IsT H' l kc ∧ H' Wq = some (.lst wv) ∧ TsAt H' wt wv ∧ szs wt < m ∧ HI d ts l wt, fun σ' H' ⟨t3, t4, kc, l, wv, wt, e1, e2, e3, e4, e5, e6, e7, e8⟩ => ⟨szs wt, e7, t3, t4, kc, l, wv, wt, e1, e2, e3, e4, e5, e6, rfl, by omega, e8⟩, ?_⟩
      have hm' : m = szs wt' + t.all.length := by rw [hm, szs_app, szs_one]
      have tp := all_pos t
      obtain ⟨wft, dpt⟩ := hi.ww t (by simp)
      refine seqAsg ⟨_, rfl, .inl ⟨rfl, _, SqL.of hWc⟩, Wq, _, y, rfl, rfl, hWc, (by rw [List.length_append]; simp), ?_⟩
      rw [List.dropLast_concat]
      refine gName_k ?_
      try dsimp only
      have kp := Kp.upd_lst (C := 0) (ys := wv') hWc
      have it4 := it.mono kp
      have ts4 := tsc'.mono kp
      have al4 : Al IsT (upd Hc Wq (.lst wv')) l kc := alc.mono fun t v h => h.mono kp
      have hF4 : upd Hc Wq (.lst wv') F = some (.dK kc) := by rw [upd_ne nFW]; exact hFc
      have hW4 : upd Hc Wq (.lst wv') Wq = some (.lst wv') := upd_same
      have fr4 : ∀ c o, c ≠ F → c ≠ Wq → H2 c = some o → upd Hc Wq (.lst wv') c = some o := fun c o h1 h2 e => by rw [upd_ne h2]; exact fr c o h1 h2 e
      generalize upd Hc Wq (.lst wv') = H4 at kp it4 ts4 al4 hF4 hW4 fr4 ⊢
      refine seqAsg ⟨_, rfl, y, t, rfl, it4, wft, dpt, d12, fun H5 s5 => ?_⟩
      refine gName_k ?_
      try dsimp only
      refine ⟨_, rfl, _, rfl, F, _, rfl, DGet.k (k := .inr (textOf t)) (s5 _ _ hF4), _, rfl, ?_⟩
      cases el : look l (textOf t) with
      | some u =>
        obtain ⟨v0, e0, _⟩ := (al4.look (x := textOf t)).1 u el
        rw [e0]
        refine iteN (by simp) ?_
        exact ⟨_, _, kc, l, wv', wt', rfl, fun c o h1 h2 e => s5 _ _ (fr4 c o h1 h2 e), s5 _ _ hF4, al4.mono (fun t v h => h.same s5), s5 _ _ hW4, ts4.same s5, by omega, hi.known el⟩
      | none =>
        have hv0 := (al4.look (x := textOf t)).2 el
        rw [hv0]
        refine iteP (by simp) ?_
        refine ⟨_, rfl, _, rfl, _, rfl, F, _, rfl, DPut.k (k := .inr (textOf t)) (s5 _ _ hF4) (by omega), ?_⟩
        rw [putK_new y hv0]
        have kp6 := Kp.upd_dK (C := 0) (ys := kc ++ [(.inr (textOf t), y)]) (s5 _ _ hF4)
        have al6 : Al IsT (upd H5 F (.dK (kc ++ [(.inr (textOf t), y)]))) (l ++ [(textOf t, t)]) (kc ++ [(.inr (textOf t), y)]) := Al.snoc ((it4.same s5).mono kp6) (al4.mono fun t v h => (h.same s5).mono kp6)
        have it6 := (it4.same s5).mono kp6
        have ts6 := (ts4.same s5).mono kp6
        have hF6 : upd H5 F (.dK (kc ++ [(.inr (textOf t), y)])) F = some (.dK (kc ++ [(.inr (textOf t), y)])) := upd_same
        have hW6 : upd H5 F (.dK (kc ++ [(.inr (textOf t), y)])) Wq = some (.lst wv') := by rw [upd_ne (Ne.symm nFW)]; exact s5 _ _ hW4
        have fr6 : ∀ c o, c ≠ F → c ≠ Wq → H2 c = some o → upd H5 F (.dK (kc ++ [(.inr (textOf t), y)])) c = some o := fun c o h1 h2 e => by rw [upd_ne h1]; exact s5 _ _ (fr4 c o h1 h2 e)
        generalize upd H5 F (.dK (kc ++ [(.inr (textOf t), y)])) = H6 at al6 it6 ts6 hF6 hW6 fr6 ⊢
        try dsimp only
        obtain ⟨pf, us, rfl, hpf⟩ := it6.hd
        refine ⟨_, rfl, pf, _, _, _, rfl, rfl, SqT.of hpf, at_of (j := 0) rfl rfl, rfl, _, rfl, ?_⟩
        rw [decS]
        by_cases hp : t.head = "pair"
        · obtain ⟨ta, tb, rfl, wa, wb, da, db⟩ : ∃ ta tb, t = .bi "pair" ta tb ∧ Wf ta ∧ Wf tb ∧ ta.dep ≤ d ∧ tb.dep ≤ d := by
            rcases wft.shp with ⟨k0, x0, rfl, ko⟩ | ⟨s0, a0, rfl, hs, _⟩ | ⟨s0, a0, b0, rfl, hs, wa, wb⟩
            · rcases ko with ⟨rfl, _⟩ | ⟨rfl, _⟩ | ⟨rfl, _⟩
              · exact absurd (show ("word" : Str) = "pair" from hp) (by decide +kernel)
              · exact absurd (show ("name" : Str) = "pair" from hp) (by decide +kernel)
              · exact absurd (show ("unknown" : Str) = "pair" from hp) (by decide +kernel)
            · have : ∀ z ∈ (["mark", "open", "own"] : List Str), z ≠ "pair" := by decide +kernel
              exact absurd hp (this s0 hs)
            · have hp : s0 = "pair" := hp
              subst hp
              have ed : (Tr.bi "pair" a0 b0).dep = max a0.dep b0.dep + 1 := rfl
              exact ⟨a0, b0, rfl, wa, wb, by omega, by omega⟩
          refine iteP (decide_eq_true hp) ?_
          obtain ⟨pf', u1, u2, e', hpf', i1, i2⟩ := it6
          cases e'
          refine ⟨_, rfl, .inl ⟨rfl, _, SqL.of hW6⟩, _, rfl, _, rfl, pf, _, rfl, SqT.of hpf', ?_, fun p2 hp2 => ?_⟩
          · rintro ⟨z, _⟩
            rw [show (1 : Int) = ((1 : Nat) : Int) from rfl, HT.sIx_nat, List.length_cons] at z
            simp at z
          rw [cut1]
          have sp2 := Rd.Same.upd (o := .tup [u1, u2]) hp2
          have h22 : upd H6 p2 (.tup [u1, u2]) p2 = some (.tup [u1, u2]) := upd_same
          generalize upd H6 p2 (.tup [u1, u2]) = H7 at sp2 h22 ⊢
          have ea : (Tr.bi "pair" ta tb).all.length = ta.all.length + tb.all.length + 1 := by simp [Tr.all]
          refine ⟨Wq, p2, wv', [u1, u2], rfl, rfl, sp2 _ _ hW6, SqT.of h22, ?_, ?_⟩
          · rw [List.length_append, List.length_cons] at hwl
            have e3 := ts6.len
            have := szs_len wt'
            simp only [List.length_cons, List.length_nil]
            omega
          have kp8 := Kp.upd_lst (C := 0) (ys := wv' ++ [u1, u2]) (sp2 _ _ hW6)
          refine ⟨_, _, _, _, _, wt' ++ [ta, tb], rfl, fun c o h1 h2 e => by rw [upd_ne h2]; exact sp2 _ _ (fr6 c o h1 h2 e), by rw [upd_ne nFW]; exact sp2 _ _ hF6, al6.mono (fun t v h => (h.same sp2).mono kp8), upd_same, ?_, ?_, hi.new el (fun a b e => by cases e; simp) fun r hr => ?_⟩
          · exact ((ts6.same sp2).mono kp8).app (TsAt.app (ts := [ta]) (vs := [u1]) (TsAt.one ((i1.same sp2).mono kp8)) (TsAt.one ((i2.same sp2).mono kp8)))
          · rw [szs_app, show [ta, tb] = [ta] ++ [tb] from rfl, szs_app, szs_one, szs_one]
            omega
          · have hr : r = ta ∨ r = tb := by simpa using hr
            rcases hr with rfl | rfl
            · exact ⟨⟨r, tb, rfl, .inl rfl⟩, wa, da⟩
            · exact ⟨⟨ta, r, rfl, .inr rfl⟩, wb, db⟩
        · refine iteN (by rw [decide_eq_false hp]; decide) ?_
          have hn := hi.new (ps := []) el (fun a b e => absurd (by rw [e]; rfl) hp) (fun r hr => by cases hr)
          rw [List.append_nil] at hn
          exact ⟨_, _, _, _, wv', wt', rfl, fr6, hF6, al6, hW6, ts6, by omega, hn⟩
end
end Rd
namespace Rd
open PySem L2
open Ob (RcOp lexAt lexAt_succ lexAt_zero)
structure OrdOp (op : CmpOp) (cs : Str → Str → Bool) (cn : Nat → Nat → Bool) : Prop where
  str : ∀ (A : Around) (s : Shared) (a b : Str) (t u : Tok), RcOp op A s (.str a t) (.str b u) (cs a b)
  tup : ∀ {A : Around} {s : Shared} {l b : Addr} {xs ys : Array Value} {e r : Nat → Bool} (_ : s.heap.IsTuple l xs) (_ : s.heap.IsTuple b ys) (_ : A.units < cLine)
    (_ : ∀ j (h1 : j < xs.size) (h2 : j < ys.size), SeqAt.EqAt A.in1 s xs[j] ys[j] (e j))
    (_ : ∀ j (h1 : j < xs.size) (h2 : j < ys.size), Ahead e j → e j = false → RcOp op A.in1 s xs[j] ys[j] (r j)),
    RcOp op A s (.ref l) (.ref b) (lexAt e r (cn xs.size ys.size) 0 (min xs.size ys.size))
def cLt (a b : Str) : Bool := decide (a.cps.toList < b.cps.toList)
theorem ord_lt : OrdOp .Lt cLt (fun n m => decide (n < m)) := ⟨fun _ _ _ _ _ _ _ _ _ _ h => PyProof.Rows.lt_str h, fun h1 h2 h3 h4 h5 => tup_lt h1 h2 h3 h4 h5⟩
def Tr.its : Tr → List PyData
  | .am k x => [.str k, .str x]
  | .un s a => [.str s, dat a]
  | .bi s a b => [.str s, dat a, dat b]
def lexT (cn : Nat → Nat → Bool) (t u : Tr) (r : Nat → Bool) : Bool := lexAt (SeqAt.pairEq t.its u.its) r (cn t.its.length u.its.length) 0 (min t.its.length u.its.length)
def cmpT (cs : Str → Str → Bool) (cn : Nat → Nat → Bool) : Tr → Tr → Bool
  | .am k x, .am k' x' => lexT cn (.am k x) (.am k' x') (fun j => match j with | 0 => cs k k' | _ => cs x x')
  | .un s a, .un s' a' => lexT cn (.un s a) (.un s' a') (fun j => match j with | 0 => cs s s' | _ => cmpT cs cn a a')
  | .bi s a b, .bi s' a' b' => lexT cn (.bi s a b) (.bi s' a' b') (fun j => match j with | 0 => cs s s' | 1 => cmpT cs cn a a' | _ => cmpT cs cn b b')
  | t, u => lexT cn t u (fun _ => cs t.head u.head)
def Tr.sort : Tr → Nat
  | .am _ _ => 0
  | .un _ _ => 1
  | .bi _ _ _ => 2
def sortOf (z : Str) : Nat := if z ∈ (["word", "name", "unknown"] : List Str) then 0 else if z ∈ (["mark", "open", "own"] : List Str) then 1 else 2
theorem Wf.sort {t : Tr} (h : Wf t) : t.sort = sortOf t.head := by
  cases h with
  | am h =>
    rcases h with ⟨rfl, h⟩ | ⟨rfl, h⟩ | ⟨rfl, h⟩
    · show 0 = sortOf "word"; decide +kernel
    · show 0 = sortOf "name"; decide +kernel
    · show 0 = sortOf "unknown"; decide +kernel
  | @un s a hs _ =>
    have : ∀ z ∈ (["mark", "open", "own"] : List Str), 1 = sortOf z := by decide +kernel
    exact this s hs
  | @bi s a b hs _ _ =>
    have : ∀ z ∈ (["pair", "seal"] : List Str), 2 = sortOf z := by decide +kernel
    exact this s hs
  | lk hs _ _ => show 2 = sortOf "lock"; decide +kernel
theorem IsT.all {K : PySem.W.Frag} {H : Hp} {t : Tr} {v : V} (h : IsT H t v) : ∃ p us, v = .ref p ∧ H p = some (.tup (.str t.head :: us)) ∧ DpAll K H (.str t.head :: us) t.its := by
  cases t with
  | am k x => obtain ⟨p, e, h⟩ := h; exact ⟨p, _, e, h, .cons (.str _) (.cons (.str _) .nil)⟩
  | un s a => obtain ⟨p, u, e, h, h1⟩ := h; exact ⟨p, _, e, h, .cons (.str _) (.cons h1.dp .nil)⟩
  | bi s a b => obtain ⟨p, u, u2, e, h, h1, h2⟩ := h; exact ⟨p, _, e, h, .cons (.str _) (.cons h1.dp (.cons h2.dp .nil))⟩
theorem its_lay {t : Tr} (h : t.fine) : PySem.PyData.canLayAll0 t.its = true := by
  have := dat_lay h
  cases t <;> exact this
theorem its_dep {t : Tr} : PySem.PyData.depthAll t.its ≤ t.dep := by
  have := dat_dep (t := t)
  cases t with
  | am k x => show max 0 (max 0 0) ≤ 0; decide
  | un s a => exact Nat.le_of_succ_le_succ this
  | bi s a b => exact Nat.le_of_succ_le_succ this
theorem head0 {t u : Tr} (h : SeqAt.pairEq t.its u.its 0 = true) : t.head = u.head := by
  have e : PyData.eqv (.str t.head) (.str u.head) = true := by
    cases t <;> cases u <;> exact h
  simpa [PyData.eqv] using e
theorem dpAll_len {K : PySem.W.Frag} {H : Hp} : ∀ {vs : List V} {ds : List PyData}, DpAll K H vs ds → vs.length = ds.length
  | [], _, h => by cases h; rfl
  | v :: r, _, h => by
    cases h with
    | cons _ h2 => rw [List.length_cons, List.length_cons, dpAll_len h2]
section
variable {X : Cx} {pins : List (Addr × Obj)} {σ : St} {H : Hp} {s : Shared} {op : CmpOp} {cs : Str → Str → Bool} {cn : Nat → Nat → Bool}
/-- two forms, the first pair of parts that differ being ruled by r -/
theorem rc_pair (O : OrdOp op cs cn) (I : Inv X pins σ H s) {t u : Tr} {v w : V} {A : Around} (ht : IsT H t v) (hu : IsT H u w) (ft : t.fine) (fu : u.fine) (hA : A.units + t.dep + 5 < cLine) {r : Nat → Bool} {a b : Value} (ra : RelV v a) (rb : RelV w b)
    (h0 : r 0 = cs t.head u.head)
    (hr : t.head = u.head → ∀ (us ws : List V) (vs ys : List Value), IsT H t v → IsT H u w → (∃ p q, v = .ref p ∧ w = .ref q ∧ H p = some (.tup (.str t.head :: us)) ∧ H q = some (.tup (.str u.head :: ws))) → Vals us vs → Vals ws ys → ∀ j (h1 : j < vs.length) (h2 : j < ys.length), RcOp op A.in1 s vs[j] ys[j] (r (j + 1))) :
    RcOp op A s a b (lexT cn t u r) := by
  obtain ⟨p, us, rfl, hp, dp⟩ := ht.all (K := X.K)
  obtain ⟨q, ws, rfl, hq, dq⟩ := hu.all (K := X.K)
  cases ra
  cases rb
  obtain ⟨its, r1, p1, _⟩ := I.tuple (SqT.of hp)
  obtain ⟨its2, r2, p2, _⟩ := I.tuple (SqT.of hq)
  obtain ⟨as, q1⟩ := Dp.readsAll I _ _ _ dp r1
  obtain ⟨bs, q2⟩ := Dp.readsAll I _ _ _ dq r2
  have l1 : its.length = t.its.length := r1.length.symm.trans (dpAll_len dp)
  have l2 : its2.length = u.its.length := r2.length.symm.trans (dpAll_len dq)
  have hd := its_dep (t := t)
  have hA1 : A.in1.units = A.units + 1 := rfl
  have R := O.tup (A := A) (s := s) (e := SeqAt.pairEq t.its u.its) (r := r) p1 p2 (by omega) (fun j h1 h2 => by
    have h1' : j < its.length := by simpa using h1
    have h2' : j < its2.length := by simpa using h2
    have := SeqAt.eqAt_readsAll t.its u.its A.in1 s its its2 as bs q1 q2 (its_lay ft) (its_lay fu) (by omega) j h1' h2'
    simpa using this) (fun j h1 h2 ah ne => by
    cases r1 with
    | @cons _ u1 _ vs ra1 rv1 =>
      cases r2 with
      | @cons _ u2 _ ys ra2 rv2 =>
        obtain ⟨k1, rfl⟩ := ra1
        obtain ⟨k2, rfl⟩ := ra2
        cases j with
        | zero =>
          rw [h0]
          exact O.str _ _ _ _ _ _
        | succ j =>
          have h1' : j < vs.length := by simpa using h1
          have h2' : j < ys.length := by simpa using h2
          have := hr (head0 (ah 0 (Nat.succ_pos _))) us ws vs ys ht hu ⟨p, q, rfl, rfl, hp, hq⟩ rv1 rv2 j h1' h2'
          simpa using this)
  have e1 : its.toArray.size = t.its.length := by rw [List.size_toArray]; exact l1
  have e2 : its2.toArray.size = u.its.length := by rw [List.size_toArray]; exact l2
  rw [e1, e2] at R
  exact R
theorem rc_T (O : OrdOp op cs cn) (I : Inv X pins σ H s) : ∀ (t u : Tr) {v w : V} {A : Around} {a b : Value}, IsT H t v → IsT H u w → Wf t → Wf u → A.units + t.dep + 5 < cLine → RelV v a → RelV w b → RcOp op A s a b (cmpT cs cn t u) := by
  intro t
  induction t with
  | am k x =>
    intro u v w A a b ht hu wt wu hA ra rb
    cases u with
    | am k' x' =>
      refine rc_pair O I ht hu wt.fine wu.fine hA ra rb rfl fun he us ws vs ys h1 h2 ⟨p, q, e1, e2, hp, hq⟩ r1 r2 j j1 j2 => ?_
      obtain ⟨p', e1', hp'⟩ := h1
      obtain ⟨q', e2', hq'⟩ := h2
      subst e1 e2
      cases e1'
      cases e2'
      rw [hp] at hp'
      rw [hq] at hq'
      cases hp'
      cases hq'
      cases r1 with
      | cons ra1 rn1 =>
        cases rn1
        cases r2 with
        | cons ra2 rn2 =>
          cases rn2
          obtain ⟨k1, rfl⟩ := ra1
          obtain ⟨k2, rfl⟩ := ra2
          cases j with
          | zero => exact O.str _ _ _ _ _ _
          | succ j => exact absurd j1 (by simp)
    | un s' a' => exact rc_pair O I ht hu wt.fine wu.fine hA ra rb rfl fun he => absurd (wt.sort.trans ((congrArg sortOf he).trans wu.sort.symm)) (by show ¬ 0 = 1; decide)
    | bi s' a' b' => exact rc_pair O I ht hu wt.fine wu.fine hA ra rb rfl fun he => absurd (wt.sort.trans ((congrArg sortOf he).trans wu.sort.symm)) (by show ¬ 0 = 2; decide)
  | un s0 a0 ih =>
    intro u v w A a b ht hu wt wu hA ra rb
    cases u with
    | am k' x' => exact rc_pair O I ht hu wt.fine wu.fine hA ra rb rfl fun he => absurd (wt.sort.trans ((congrArg sortOf he).trans wu.sort.symm)) (by show ¬ 1 = 0; decide)
    | bi s' a' b' => exact rc_pair O I ht hu wt.fine wu.fine hA ra rb rfl fun he => absurd (wt.sort.trans ((congrArg sortOf he).trans wu.sort.symm)) (by show ¬ 1 = 2; decide)
    | un s' a' =>
      refine rc_pair O I ht hu wt.fine wu.fine hA ra rb rfl fun he us ws vs ys h1 h2 ⟨p, q, e1, e2, hp, hq⟩ r1 r2 j j1 j2 => ?_
      obtain ⟨p', u1, e1', hp', i1⟩ := h1
      obtain ⟨q', u2, e2', hq', i2⟩ := h2
      subst e1 e2
      cases e1'
      cases e2'
      rw [hp] at hp'
      rw [hq] at hq'
      cases hp'
      cases hq'
      have d1 : (Tr.un s0 a0).dep = a0.dep + 1 := rfl
      have hA1 : A.in1.units = A.units + 1 := rfl
      cases r1 with
      | cons ra1 rn1 =>
        cases rn1
        cases r2 with
        | cons ra2 rn2 =>
          cases rn2
          cases j with
          | zero => exact ih a' i1 i2 (wt.parts_wf _ List.mem_cons_self) (wu.parts_wf _ List.mem_cons_self) (by omega) ra1 ra2
          | succ j => exact absurd j1 (by simp)
  | bi s0 a0 b0 iha ihb =>
    intro u v w A a b ht hu wt wu hA ra rb
    cases u with
    | am k' x' => exact rc_pair O I ht hu wt.fine wu.fine hA ra rb rfl fun he => absurd (wt.sort.trans ((congrArg sortOf he).trans wu.sort.symm)) (by show ¬ 2 = 0; decide)
    | un s' a' => exact rc_pair O I ht hu wt.fine wu.fine hA ra rb rfl fun he => absurd (wt.sort.trans ((congrArg sortOf he).trans wu.sort.symm)) (by show ¬ 2 = 1; decide)
    | bi s' a' b' =>
      refine rc_pair O I ht hu wt.fine wu.fine hA ra rb rfl fun he us ws vs ys h1 h2 ⟨p, q, e1, e2, hp, hq⟩ r1 r2 j j1 j2 => ?_
      obtain ⟨p', u1, v1, e1', hp', i1, i1'⟩ := h1
      obtain ⟨q', u2, v2, e2', hq', i2, i2'⟩ := h2
      subst e1 e2
      cases e1'
      cases e2'
      rw [hp] at hp'
      rw [hq] at hq'
      cases hp'
      cases hq'
      have d1 : (Tr.bi s0 a0 b0).dep = max a0.dep b0.dep + 1 := rfl
      have hA1 : A.in1.units = A.units + 1 := rfl
      cases r1 with
      | cons ra1 rn1 =>
        cases rn1 with
        | cons ra1' rn1 =>
        cases rn1
        cases r2 with
        | cons ra2 rn2 =>
          cases rn2 with
          | cons ra2' rn2 =>
          cases rn2
          match j, j1 with
          | 0, _ => exact iha a' i1 i2 (wt.parts_wf _ List.mem_cons_self) (wu.parts_wf _ List.mem_cons_self) (by omega) ra1 ra2
          | 1, _ => exact ihb b' i1' i2' (wt.parts_wf _ (List.mem_cons_of_mem _ List.mem_cons_self)) (wu.parts_wf _ (List.mem_cons_of_mem _ List.mem_cons_self)) (by omega) ra1' ra2'
          | j + 2, j1 => exact absurd j1 (by simp)
end
end Rd
namespace Rd
open PySem PySem.Spec PyProof.Rows L2
open Ob (RcOp)
theorem kat_tail {prog : Program} {w : World} {A : Around} {fin : Bool} {s : Shared} : ∀ (l : List (Value × Value)) (i : Nat), 0 < i → (∀ p ∈ l, ∃ e c, SeqAt.EqAt A s p.1 p.2 e ∧ RcOp .Lt A s p.1 p.2 c) → ∃ b, PySem.W.KatLex prog w A true fin (fun r s' => s' = s ∧ r = b) l i s
  | [], i, _, _ => ⟨fin, PySem.W.kat_nil ⟨rfl, rfl⟩⟩
  | (p, q) :: r, i, hi, h => by
    obtain ⟨e, c, he, hc⟩ := h (p, q) List.mem_cons_self
    cases e with
    | true =>
      obtain ⟨b, hb⟩ := kat_tail (prog := prog) (w := w) (fin := fin) r (i + 1) (Nat.succ_pos _) fun p hp => h p (List.mem_cons_of_mem _ hp)
      exact ⟨b, PySem.W.kat_cons (he prog w _ _ (PySem.W.kat_yes hb))⟩
    | false =>
      refine ⟨c, PySem.W.kat_cons (he prog w _ _ (PySem.W.kat_no ?_))⟩
      have e0 : (true && i == 0) = false := by
        cases i with
        | zero => exact absurd hi (by decide)
        | succ i => rfl
      rw [e0]
      exact PySem.W.kat_one _ _ (hc prog w _ _ ⟨rfl, rfl⟩)
section
variable {X : Cx} {pins : List (Addr × Obj)} {σ : L2.St} {H : Hp} {s : Shared}
theorem form_tot (I : Inv X pins σ H s) {t u : Tr} {v w : V} {a b : Value} {A : Around} (ht : IsT H t v) (hu : IsT H u w) (wt : Wf t) (wu : Wf u) (hA : A.units + t.dep + 6 < cLine) (ra : RelV v a) (rb : RelV w b) :
    ∃ c : Bool, wpAny (model X.prog X.w) A (keyLt' (tuples' true) a b) (fun r s' => s' = s ∧ r = c) (fun _ _ => False) s := by
  obtain ⟨p, us, rfl, hp, dp⟩ := ht.all (K := X.K)
  obtain ⟨q, ws, rfl, hq, dq⟩ := hu.all (K := X.K)
  cases ra
  cases rb
  obtain ⟨its, r1, ⟨o1, e1, _, n1, d1⟩, _⟩ := I.tuple (SqT.of hp)
  obtain ⟨its2, r2, ⟨o2, e2, _, n2, d2⟩, _⟩ := I.tuple (SqT.of hq)
  obtain ⟨as, q1⟩ := Dp.readsAll I _ _ _ dp r1
  obtain ⟨bs, q2⟩ := Dp.readsAll I _ _ _ dq r2
  have hd := its_dep (t := t)
  have hE : ∀ j (h1 : j < its.length) (h2 : j < its2.length), SeqAt.EqAt A s its[j] its2[j] (SeqAt.pairEq t.its u.its j) := fun j h1 h2 => SeqAt.eqAt_readsAll t.its u.its A s its its2 as bs q1 q2 (its_lay wt.fine) (its_lay wu.fine) (by omega) j h1 h2
  cases r1 with
  | @cons _ u1 _ vs ra1 rv1 =>
    cases r2 with
    | @cons _ u2 _ ys ra2 rv2 =>
      obtain ⟨k1, rfl⟩ := ra1
      obtain ⟨k2, rfl⟩ := ra2
      have hE0 := hE 0 (Nat.succ_pos _) (Nat.succ_pos _)
      have hEs : ∀ j (h1 : j < vs.length) (h2 : j < ys.length), ∃ e, SeqAt.EqAt A s vs[j] ys[j] e := fun j h1 h2 => ⟨_, by simpa using hE (j + 1) (Nat.succ_lt_succ h1) (Nat.succ_lt_succ h2)⟩
      suffices hs : ∃ c : Bool, PySem.W.KatLex X.prog X.w A true (decide ((Value.str t.head k1 :: vs).toArray.size < (Value.str u.head k2 :: ys).toArray.size)) (fun r s' => s' = s ∧ r = c) ((Value.str t.head k1, Value.str u.head k2) :: vs.zip ys) 0 s by
        obtain ⟨c, hc⟩ := hs
        exact ⟨c, PySem.W.kat_lt e1 d1 e2 d2 hc⟩
      cases h0 : SeqAt.pairEq t.its u.its 0 with
      | false =>
        rw [h0] at hE0
        exact ⟨_, PySem.W.kat_cons (hE0 X.prog X.w _ _ (PySem.W.kat_no (PyProof.Rows.oneLt_any_str ⟨rfl, rfl⟩)))⟩
      | true =>
        rw [h0] at hE0
        have hh := head0 h0
        have key : ∀ pr ∈ vs.zip ys, ∃ e c, SeqAt.EqAt A s pr.1 pr.2 e ∧ RcOp .Lt A s pr.1 pr.2 c := by
          have hsh : t.sort = u.sort := wt.sort.trans ((congrArg sortOf hh).trans wu.sort.symm)
          cases t with
          | am k x =>
            cases u with
            | am k' x' =>
              obtain ⟨p', e', hp'⟩ := ht
              cases e'
              rw [hp] at hp'
              cases hp'
              obtain ⟨q', e', hq'⟩ := hu
              cases e'
              rw [hq] at hq'
              cases hq'
              cases rv1 with
              | cons a1 rn1 =>
                cases rn1
                cases rv2 with
                | cons a2 rn2 =>
                  cases rn2
                  obtain ⟨k3, rfl⟩ := a1
                  obtain ⟨k4, rfl⟩ := a2
                  intro pr hpr
                  rw [List.mem_singleton.mp hpr]
                  obtain ⟨e, he⟩ := hEs 0 (Nat.succ_pos _) (Nat.succ_pos _)
                  exact ⟨e, _, he, ord_lt.str A s x x' k3 k4⟩
            | _ => cases hsh
          | un s0 a0 =>
            cases u with
            | un s1 a1 =>
              obtain ⟨p', w1, e', hp', i1⟩ := ht
              cases e'
              rw [hp] at hp'
              cases hp'
              obtain ⟨q', w2, e', hq', i2⟩ := hu
              cases e'
              rw [hq] at hq'
              cases hq'
              cases rv1 with
              | cons b1 rn1 =>
                cases rn1
                cases rv2 with
                | cons b2 rn2 =>
                  cases rn2
                  intro pr hpr
                  rw [List.mem_singleton.mp hpr]
                  obtain ⟨e, he⟩ := hEs 0 (Nat.succ_pos _) (Nat.succ_pos _)
                  have d3 : (Tr.un s0 a0).dep = a0.dep + 1 := rfl
                  exact ⟨e, _, he, rc_T ord_lt I a0 a1 i1 i2 (wt.parts_wf _ List.mem_cons_self) (wu.parts_wf _ List.mem_cons_self) (by omega) b1 b2⟩
            | _ => cases hsh
          | bi s0 a0 b0 =>
            cases u with
            | bi s1 a1 c1 =>
              obtain ⟨p', w1, w2, e', hp', i1, i1'⟩ := ht
              cases e'
              rw [hp] at hp'
              cases hp'
              obtain ⟨q', w3, w4, e', hq', i2, i2'⟩ := hu
              cases e'
              rw [hq] at hq'
              cases hq'
              cases rv1 with
              | cons b1 rn1 =>
                cases rn1 with
                | cons b1' rn1 =>
                cases rn1
                cases rv2 with
                | cons b2 rn2 =>
                  cases rn2 with
                  | cons b2' rn2 =>
                  cases rn2
                  have d3 : (Tr.bi s0 a0 b0).dep = max a0.dep b0.dep + 1 := rfl
                  intro pr hpr
                  rcases List.mem_cons.mp hpr with rfl | hpr
                  · obtain ⟨e, he⟩ := hEs 0 (Nat.succ_pos _) (Nat.succ_pos _)
                    exact ⟨e, _, he, rc_T ord_lt I a0 a1 i1 i2 (wt.parts_wf _ List.mem_cons_self) (wu.parts_wf _ List.mem_cons_self) (by omega) b1 b2⟩
                  · rw [List.mem_singleton.mp hpr]
                    obtain ⟨e, he⟩ := hEs 1 (by simp) (by simp)
                    exact ⟨e, _, he, rc_T ord_lt I b0 c1 i1' i2' (wt.parts_wf _ (List.mem_cons_of_mem _ List.mem_cons_self)) (wu.parts_wf _ (List.mem_cons_of_mem _ List.mem_cons_self)) (by omega) b1' b2'⟩
            | _ => cases hsh
        obtain ⟨c, hc⟩ := kat_tail (prog := X.prog) (w := X.w) (fin := decide ((Value.str t.head k1 :: vs).toArray.size < (Value.str u.head k2 :: ys).toArray.size)) (vs.zip ys) 1 Nat.one_pos key
        exact ⟨c, PySem.W.kat_cons (hE0 X.prog X.w _ _ (PySem.W.kat_yes hc))⟩
/-- the first items of forms -/
theorem form_firsts (I : Inv X pins σ H s) : ∀ {ts : List Tr} {ws : List V} {us : List Value}, TsAt H ts ws → Vals ws us → ∃ fs : List Value, PySem.W.KatTups s.heap us fs ∧ fs.length = us.length ∧ ∀ f ∈ fs, ∃ x t, f = Value.str x t
  | _, [], _, _, .nil => ⟨[], PySem.W.KatTups.nil, rfl, fun _ h => by cases h⟩
  | ts, v :: ws, u :: us, h, .cons r rr => by
    obtain ⟨t, ts', rfl⟩ : ∃ t ts', ts = t :: ts' := by
      cases ts with
      | nil => exact absurd h.len (by simp)
      | cons t ts' => exact ⟨t, ts', rfl⟩
    obtain ⟨fs, h1, h2, h3⟩ := form_firsts I (ts := ts') (ws := ws) (us := us) ⟨by simpa using h.len, fun i t v a b => h.get (i + 1) t v a b⟩ rr
    obtain ⟨p, zs, rfl, hp⟩ := (h.get 0 t v rfl rfl).hd
    cases r
    obtain ⟨its, r1, ⟨o1, e1, c1, n1, d1⟩, _⟩ := I.tuple (SqT.of hp)
    cases r1 with
    | cons ra1 rv1 =>
      obtain ⟨k1, rfl⟩ := ra1
      refine ⟨_, PySem.W.KatTups.cons e1 c1 d1 rfl h1, by rw [List.length_cons, List.length_cons, h2], fun f hf => ?_⟩
      rcases List.mem_cons.mp hf with rfl | hf
      · exact ⟨_, _, rfl⟩
      · exact h3 f hf
def rSortedF (K : PySem.W.Frag) : List V → Hp → VK → Prop := fun vs H Q => ∃ (a : Addr) (ws : List V) (ts : List Tr), vs = [V.ref a] ∧ SqL K H a ws ∧ TsAt H ts ws ∧ (∀ t ∈ ts, Wf t ∧ t.dep ≤ 40) ∧ ∀ ys p, ys.Perm ws → H p = none → Q (.ref p) (L2.upd H p (.lst ys))
theorem cr_sortedF (hu : X.A.units + 65 < cLine) : CallR X (.builtin "sorted") (rSortedF X.K) := by
  intro pins s σ H vs us Q I r h
  obtain ⟨a, xs, ts, rfl, hs, hts, wf, q⟩ := h
  obtain ⟨its, rv, hl, hz⟩ := I.list hs
  obtain ⟨u, rfl, ru⟩ := vals1 r
  obtain rfl : u = Value.ref a := ru
  obtain ⟨e1, e2⟩ := refs_back rv fun x m => by
    obtain ⟨t, _, it⟩ := hts.mem m
    obtain ⟨p, e⟩ := it.ref
    exact ⟨p, e⟩
  refine Srt.sorted_any hl.isList (by rw [← rv.length]; exact hz) (fun h2 h₁ a' ha' k => ?_) fun out ho => ?_
  · intro h' keep
    have I' : Inv X pins σ H { s with heap := h' } := I.kept (t' := s.toks) fun b o e => keep b o (k b o e).1 (k b o e).2
    obtain ⟨fs, f1, f2, f3⟩ := form_firsts I' hts rv
    refine ⟨tuples' true, fun Q E hq => ?_, fun p q hp hq => ?_⟩
    · refine PySem.W.kat_kind (T := .type "str") f1 (by omega) (fun f hm => ?_) (by rfl) ?_
      · obtain ⟨x, t, rfl⟩ := f3 f hm
        exact PySem.W.Looks.now
      · have e : (Value.type "str" != Value.type "tuple") = true := by first | decide +kernel | rfl | decide
        rw [e]
        exact hq
    · have at_ : ∀ z ∈ its, ∃ t v, IsT H t v ∧ Wf t ∧ t.dep ≤ 40 ∧ RelV v z := fun z hz => by
        obtain ⟨y, rfl⟩ := e2 z hz
        have hm : V.ref y ∈ xs := by rw [e1]; exact List.mem_map.mpr ⟨_, hz, rfl⟩
        obtain ⟨t, ht, it⟩ := hts.mem hm
        exact ⟨t, _, it, (wf t ht).1, (wf t ht).2, rfl⟩
      obtain ⟨t1, v1, i1, w1, d1, r1⟩ := at_ _ hp
      obtain ⟨t2, v2, i2, w2, d2, r2⟩ := at_ _ hq
      have hA : X.A.in1.in1.units = X.A.units + 2 := rfl
      exact form_tot I' i1 i2 w1 w2 (by omega) r1 r2
  · have h3 : ∀ u ∈ out, ∃ a, u = Value.ref a := fun u hu => e2 u (ho.mem_iff.mp hu)
    obtain ⟨n, hn⟩ := PyProof.Rows.sortedAll_at s.heap its out.toArray
    refine ⟨.ref (s.heap.objs.size + 1), L2.upd H (s.heap.objs.size + 1) (.lst (out.map backV)), I.laid (t' := s.toks) (fun b o e => PyProof.Rows.sortedAll_old e) (Nat.le_succ _) ⟨?_, out, n, vals_back h3, hn⟩, rfl, q _ _ ?_ (I.hok.fresh (Nat.le_succ _))⟩
    · rw [List.length_map, ho.length_eq, ← rv.length]; exact hz
    · rw [e1]; exact ho.map backV
end
end Rd
namespace Rd
open PySem L2
/-- [g(x) for x in a list of forms if p(x)], the test may lay new things -/
theorem lcft {K : PySem.W.Frag} {a D : Addr} {xs : List V} {ts : List Tr} {tt : TT} {te : TE} {i0 : Nat} {σ : St} {H1 : Hp} {Qd : Hp → Prop} (p : Tr → Bool) (g : Tr → Tr) (hS : SqL K H1 a xs) (hts : TsAt H1 ts xs) (hl : xs.length ≤ 100000) (hD : H1 D = none)
    (htt : ∀ (i : Nat) (x : V) (t : Tr) (H : Hp) (Q : Bool → Hp → Prop), xs[i]? = some x → ts[i]? = some t → Same H1 H → (∀ H', Same H H' → Q (p t) H') → tt ((wipe σ [i0]).set i0 (some x)) H Q)
    (hte : ∀ (i : Nat) (x : V) (t : Tr) (H : Hp) (Q : VK), xs[i]? = some x → ts[i]? = some t → p t = true → Same H1 H → (∀ v H', Same H H' → IsT H' (g t) v → Q v H') → te ((wipe σ [i0]).set i0 (some x)) H Q)
    (hq : ∀ vs H', Same H1 H' → H' D = some (.lst vs) → TsAt H' ((ts.filter p).map g) vs → Qd H') :
    ∃ W : Nat → Nat → Hp → Prop, (∃ m, W 0 m (L2.upd H1 D (.lst []))) ∧ ∀ i m H, W i m H →
      ((Itl K a).stop i H ∧ Qd H) ∨ ((Itl K a).go i H ∧ ∃ Nx : Hp → Prop, (∀ H', Nx H' → ∃ m', m' < m ∧ W (i + 1) m' H') ∧ ∀ x H', (Itl K a).yld i H x H' → gName i0 x (wipe σ [i0]) H' fun σ2 H2 => wipe σ2 [i0] = wipe σ [i0] ∧ tt σ2 H2 fun b H3 =>
        if b = true then te σ2 H3 fun y H4 => ∃ acc, H4 D = some (.lst acc) ∧ acc.length < sizeLine ∧ Nx (L2.upd H4 D (.lst (acc ++ [y]))) else Nx H3) := by
  have he := hts.len
  refine lc_list (K := K) (a := a) (xs := xs) (fun i H => ∃ vs, Same H1 H ∧ H D = some (.lst vs) ∧ TsAt H (((ts.take i).filter p).map g) vs) ⟨[], Rd.Same.upd hD, upd_same, ⟨rfl, fun i t v h => by simp at h⟩⟩ (fun i H _ ⟨_, s, _⟩ => SqL.kept hS s) ?_ ?_
  · rintro i x H hx ⟨vs, sm, hd, hv⟩
    have hlt := (List.getElem?_eq_some_iff.mp hx).1
    have ht : ts[i]? = some ts[i] := List.getElem?_eq_getElem (by omega)
    have etk : ts.take (i + 1) = ts.take i ++ [ts[i]] := by rw [List.take_succ, ht]; rfl
    refine gName_k ⟨by simp [wipe], ?_⟩
    refine htt i x _ H _ hx ht sm fun H2 s2 => ?_
    cases hp : p ts[i] with
    | false =>
      refine iteF ⟨vs, sm.trans s2, s2 _ _ hd, ?_⟩
      rw [etk, List.filter_append, show [ts[i]].filter p = [] by simp [hp], List.append_nil]
      exact hv.same s2
    | true =>
      refine iteT (hte i x _ H2 _ hx ht hp (sm.trans s2) fun v H3 s3 iv => ?_)
      have hD3 := s3 _ _ (s2 _ _ hd)
      have kp := Kp.upd_lst (C := 0) (ys := vs ++ [v]) hD3
      have h2 := hv.len
      have h3 := List.length_filter_le p (ts.take i)
      rw [List.length_map] at h2
      rw [List.length_take] at h3
      have : 100000 < sizeLine := by decide
      refine ⟨vs, hD3, by omega, vs ++ [v], fun b o e => ?_, upd_same, ?_⟩
      · rw [upd_ne (ne_of_none e hD)]
        exact s3 _ _ (s2 _ _ (sm _ _ e))
      · rw [etk, List.filter_append, show [ts[i]].filter p = [ts[i]] by simp [hp], List.map_append]
        exact (((hv.same s2).same s3).mono kp).app (TsAt.one (iv.mono kp))
  · rintro H ⟨vs, sm, hd, hv⟩
    rw [he, List.take_length] at hv
    exact hq vs H sm hd hv
theorem TsAt.cons_inv {H : Hp} {ts : List Tr} {v : V} {vs : List V} (h : TsAt H ts (v :: vs)) : ∃ t ts', ts = t :: ts' ∧ IsT H t v ∧ TsAt H ts' vs := by
  cases ts with
  | nil => exact absurd h.len (by simp)
  | cons t ts' => exact ⟨t, ts', rfl, h.get 0 t v rfl rfl, ⟨by simpa using h.len, fun i t v a b => h.get (i + 1) t v a b⟩⟩
theorem TsAt.cons {H : Hp} {ts : List Tr} {t : Tr} {v : V} {vs : List V} (h : IsT H t v) (g : TsAt H ts vs) : TsAt H (t :: ts) (v :: vs) := TsAt.app (ts := [t]) (vs := [v]) (TsAt.one h) g
theorem TsAt.perm {H : Hp} {ws ys : List V} (hp : ys.Perm ws) : ∀ {ts : List Tr}, TsAt H ts ws → ∃ ts', ts'.Perm ts ∧ TsAt H ts' ys := by
  induction hp with
  | nil => intro ts h; exact ⟨ts, .refl _, h⟩
  | cons x _ ih =>
    intro ts h
    obtain ⟨t, ts1, rfl, i, h1⟩ := h.cons_inv
    obtain ⟨ts2, p2, h2⟩ := ih h1
    exact ⟨t :: ts2, p2.cons t, TsAt.cons i h2⟩
  | swap x y l =>
    intro ts h
    obtain ⟨t, ts1, rfl, i, h1⟩ := h.cons_inv
    obtain ⟨u, ts2, rfl, j, h2⟩ := h1.cons_inv
    exact ⟨u :: t :: ts2, .swap t u ts2, TsAt.cons j (TsAt.cons i h2)⟩
  | trans _ _ ih1 ih2 =>
    intro ts h
    obtain ⟨ts1, p1, h1⟩ := ih2 h
    obtain ⟨ts2, p2, h2⟩ := ih1 h1
    exact ⟨ts2, p2.trans p1, h2⟩
def opn (O : List Tr) (t : Tr) : Bool := match ukey t with
  | some key => mka O key
  | none => false
def cnt1 : Tr → Tr
  | .bi _ c _ => c
  | t => t
def inn (O : List Tr) : List Tr := (O.filter (opn O)).map cnt1
structure OI (ts o : List Tr) : Prop where
  nd : o.Nodup
  base : ∀ t ∈ ts, t ∈ o
  pcl : PCl o
  least : ∀ O' : List Tr, (∀ t ∈ ts, t ∈ O') → PCl O' → SCl O' O' → ∀ t ∈ o, t ∈ O'
theorem OI.inAll {ts os : List Tr} (h : OI ts os) : ∀ t ∈ os, t ∈ allOf ts := h.least _ (allOf_base ts) (allOf_pcl ts) (allOf_scl ts)
theorem OI.len {ts os : List Tr} (h : OI ts os) : os.length ≤ (allOf ts).length := nodup_sub h.nd h.inAll
theorem OI.first {ts o : List Tr} (h : Halves ts o) : OI ts o := ⟨h.nd, h.base, h.pcl, fun O' a b _ => h.least O' a b⟩
theorem inn_sub {O O' : List Tr} (h : ∀ t ∈ O, t ∈ O') (sc : SCl O' O') : ∀ t ∈ inn O, t ∈ O' := fun t ht => by
  obtain ⟨r, hr, rfl⟩ := List.mem_map.mp ht
  obtain ⟨hr1, hr2⟩ := List.mem_filter.mp hr
  unfold opn at hr2
  cases e : ukey r with
  | none => rw [e] at hr2; cases hr2
  | some key =>
    rw [e] at hr2
    cases r with
    | am k x => cases e
    | un s a => cases e
    | bi s c k => exact sc s c k key (h _ hr1) e (mka_mono h hr2)
theorem OI.next {ts o o' : List Tr} (h : OI ts o) (g : Halves (o ++ inn o) o') : OI ts o' ∧ ∀ t ∈ o, t ∈ o' :=
  ⟨⟨g.nd, fun t ht => g.base t (List.mem_append_left _ (h.base t ht)), g.pcl, fun O' a b c => g.least O' (fun t ht => by
    rcases List.mem_append.mp ht with q | q
    · exact h.least O' a b c t q
    · exact inn_sub (h.least O' a b c) c t q) b⟩, fun t ht => g.base t (List.mem_append_left _ ht)⟩
theorem nodup_full {α : Type} [DecidableEq α] : ∀ {l m : List α}, l.Nodup → (∀ x ∈ l, x ∈ m) → m.length ≤ l.length → ∀ x ∈ m, x ∈ l
  | [], m, _, _, h3, x, hx => by
    rw [List.length_eq_zero_iff.mp (Nat.le_zero.mp h3)] at hx
    exact hx
  | a :: l, m, h1, h2, h3, x, hx => by
    obtain ⟨n1, n2⟩ := List.nodup_cons.mp h1
    obtain ⟨p, q, rfl⟩ := List.append_of_mem (h2 a List.mem_cons_self)
    by_cases e : x = a
    · rw [e]; exact List.mem_cons_self
    · refine List.mem_cons_of_mem _ (nodup_full (l := l) (m := p ++ q) n2 (fun y hy => ?_) ?_ x ?_)
      · rcases List.mem_append.mp (h2 y (List.mem_cons_of_mem _ hy)) with z | z
        · exact List.mem_append_left _ z
        · rcases List.mem_cons.mp z with rfl | z
          · exact absurd hy n1
          · exact List.mem_append_right _ z
      · rw [List.length_append, List.length_cons] at h3
        rw [List.length_append]
        simp only [List.length_cons] at h3
        omega
      · rcases List.mem_append.mp hx with z | z
        · exact List.mem_append_left _ z
        · rcases List.mem_cons.mp z with rfl | z
          · exact absurd rfl e
          · exact List.mem_append_right _ z
theorem OI.done {ts o o' : List Tr} (h : OI ts o) (g : Halves (o ++ inn o) o') (e : o'.length ≤ o.length) : IsOpen ts o' := by
  obtain ⟨h1, h2⟩ := h.next g
  have h3 := nodup_full h.nd h2 e
  refine ⟨h1.base, h1.pcl, fun s c k key a b c' => ?_, h1.least⟩
  have a' := h3 _ a
  have m' : mka o key = true := by rw [mka_congr (fun t => ⟨h2 t, h3 t⟩)]; exact c'
  refine g.base _ (List.mem_append_right _ (List.mem_map.mpr ⟨_, List.mem_filter.mpr ⟨a', ?_⟩, rfl⟩))
  unfold opn
  rw [b]
  exact m'
theorem szs_le {S : Nat} : ∀ {l : List Tr}, (∀ t ∈ l, t.all.length ≤ S) → szs l ≤ l.length * S
  | [], _ => Nat.zero_le _
  | t :: l, h => by
    have h1 := szs_le (l := l) fun t ht => h t (List.mem_cons_of_mem _ ht)
    have h2 := h t List.mem_cons_self
    show szs ([t] ++ l) ≤ (l.length + 1) * S
    rw [szs_app, szs_one, Nat.add_mul, Nat.one_mul]
    omega
theorem all_le : ∀ {t u : Tr}, u ∈ t.all → u.all.length ≤ t.all.length := by
  intro t
  induction t with
  | am k x =>
    intro u hu
    rw [show (Tr.am k x).all = [.am k x] from rfl, List.mem_singleton] at hu
    rw [hu]
    exact Nat.le_refl _
  | un s a ih =>
    intro u hu
    have e : (Tr.un s a).all = .un s a :: a.all := rfl
    rw [e] at hu
    rcases List.mem_cons.mp hu with rfl | hu
    · exact Nat.le_refl _
    · have := ih hu
      rw [e, List.length_cons]
      omega
  | bi s a b iha ihb =>
    intro u hu
    have e : (Tr.bi s a b).all = .bi s a b :: (a.all ++ b.all) := rfl
    rw [e] at hu
    rcases List.mem_cons.mp hu with rfl | hu
    · exact Nat.le_refl _
    · rw [e, List.length_cons, List.length_append]
      rcases List.mem_append.mp hu with z | z
      · have := iha z; omega
      · have := ihb z; omega
theorem inAll_ok {ts : List Tr} {d S : Nat} (h : ∀ t ∈ ts, Wf t ∧ t.dep ≤ d ∧ t.all.length ≤ S) {u : Tr} (hu : u ∈ allOf ts) : Wf u ∧ u.dep ≤ d ∧ u.all.length ≤ S := by
  obtain ⟨t, ht, h1⟩ := List.mem_flatMap.mp hu
  obtain ⟨a, b, c⟩ := h t ht
  obtain ⟨a1, a2⟩ := all_wf a u h1
  exact ⟨a1, by omega, Nat.le_trans (all_le h1) c⟩
theorem shut_iff {t : Tr} (wf : Wf t) : decide (t.head ∈ (["seal", "lock"] : List Str)) = (ukey t).isSome := by
  rcases wf.shp with ⟨k, x, rfl, ko⟩ | ⟨s, a, rfl, hs, _⟩ | ⟨s, a, b, rfl, hs, _⟩
  · rcases ko with ⟨rfl, _⟩ | ⟨rfl, _⟩ | ⟨rfl, _⟩
    · show decide (("word" : Str) ∈ (["seal", "lock"] : List Str)) = false
      decide +kernel
    · show decide (("name" : Str) ∈ (["seal", "lock"] : List Str)) = false
      decide +kernel
    · show decide (("unknown" : Str) ∈ (["seal", "lock"] : List Str)) = false
      decide +kernel
  · have : ∀ z ∈ (["mark", "open", "own"] : List Str), decide (z ∈ (["seal", "lock"] : List Str)) = false := by decide +kernel
    exact this s hs
  · cases wf with
    | bi hs' _ _ =>
      have : ∀ z ∈ (["pair", "seal"] : List Str), decide (z ∈ (["seal", "lock"] : List Str)) = decide (z = "seal") ∧ z ≠ "lock" := by decide +kernel
      obtain ⟨h1, h2⟩ := this s hs'
      show decide (s ∈ (["seal", "lock"] : List Str)) = _
      rw [h1]
      show _ = (if s = "seal" then some b else if s = "lock" then lkey b else none).isSome
      by_cases e : s = "seal"
      · rw [if_pos e, decide_eq_true e]; rfl
      · rw [if_neg e, if_neg h2, decide_eq_false e]; rfl
    | lk hs' _ _ =>
      show decide (("lock" : Str) ∈ (["seal", "lock"] : List Str)) = true
      decide +kernel
theorem ukey_wf {t key : Tr} (wf : Wf t) (h : ukey t = some key) : Wf key ∧ key.dep ≤ t.dep := by
  rcases ukey_inv wf h with ⟨c, rfl⟩ | ⟨c, s, k, rfl, hs, rfl⟩
  · rcases wf.shp with ⟨_, _, e, _⟩ | ⟨_, _, e, _⟩ | ⟨_, _, _, e, _, _, w⟩
    · cases e
    · cases e
    · cases e
      exact ⟨w, by show key.dep ≤ max c.dep key.dep + 1; omega⟩
  · have hp : prt s ∈ (["open", "own"] : List Str) := by
      have : ∀ z ∈ (["open", "own"] : List Str), prt z ∈ (["open", "own"] : List Str) := by decide +kernel
      exact this s hs
    cases wf with
    | bi hs' _ _ => exact absurd hs' (by decide +kernel)
    | lk hs' _ w => exact ⟨.un (mem_to (by decide +kernel) hp) w, by show k.dep + 1 ≤ max c.dep (k.dep + 1) + 1; omega⟩
def sp_opened (d : Nat) : Sp := fun vs H Q _ => ∃ (a : Addr) (ws : List V) (ts : List Tr) (S : Nat), vs = [.ref a] ∧ H a = some (.lst ws) ∧ TsAt H ts ws ∧ (∀ t ∈ ts, Wf t ∧ t.dep ≤ d ∧ t.all.length ≤ S) ∧ d ≤ 12 ∧ 2 * ((allOf ts).length * S) ≤ 100000 ∧ (allOf ts).length ≤ 50000 ∧
  ∀ q us os H', Same H H' → H q = none → H' q = some (.lst us) → TsAt H' os us → IsOpen ts os → os.Nodup → Q (.ref q) H'
section
variable {P : Program} {w : World} {K : PySem.W.Frag} {mg : Str → Option Value} {base : Heap}
abbrev s_opened_parts : Stmt := top 34
theorem sc_opened_parts : FnScope ["trees", "opened", "many", "inner", "tree"] ["trees"] (defScope s_opened_parts) := ⟨rfl, rfl, rfl, by decide +kernel, rfl, by decide +kernel, by decide +kernel⟩
theorem ok_opened_parts (T : Tx w K mg) (d : Nat) : Fk P w K mg base CX0 (d + 5) "opened_parts" ["trees"] (sp_opened d) := by
  refine T.F_opened_parts.ok0 sc_opened_parts (fun _ _ _ _ _ _ us hl => match us, hl with | [_], _ => rfl)
    (fun vs H Q E h => ?_) (fun cdv A outer s H vs Q E hr h => ?_)
  · obtain ⟨a, ws, ts, S, rfl, _⟩ := h
    rfl
  · obtain ⟨a, ws, ts, S, rfl, ha, hts, wf, d12, hbig, hM, k⟩ := h
    refine ⟨_, (pss_cons (ps_set (i := 1) sc_opened_parts.nd rfl (Or.inr rfl) (pe_fk (ok_halves_of T d) (hr.mono (by omega)) rfl pass0 (pa_cons (pv 0) pa_nil)))
  (pss_cons (ps_set (i := 2) sc_opened_parts.nd rfl (Or.inl rfl) (pe_un un_neg pe_int))
  (pss_cons (ps_while PassesOwn.never (pt_cmpR op_ne (pv 2) (pe_callB call_len_seq (by rfl) T.z_len (by decide +kernel) (pa_cons (pv 1) pa_nil)) (nomark _))
  (pss_cons (ps_set (i := 2) sc_opened_parts.nd rfl (Or.inl rfl) (pe_callB call_len_seq (by rfl) T.z_len (by decide +kernel) (pa_cons (pv 1) pa_nil)))
  (pss_cons (ps_setLc (i := 3) (own := [("tree", 4)]) (g := gName 4)  (by rfl) sc_opened_parts.nd rfl rfl (sw_true rfl rfl rfl (by decide +kernel)) (pi_list (pv 1)) (blkOk_by (own := [("tree", 4)]) (N := ["trees", "opened", "many", "inner", "tree"]) (sc := defScope s_opened_parts) (by decide +kernel)) (fun _ _ _ _ _ => (pg_name (i := 4) sc_opened_parts.nd rfl (Or.inl rfl))) (fun _ _ _ _ _ => (pts_one (PW.pt (pw_and (pt_cmpR (kOp (r := rInT) (K := K) rfl op_inT) (pe_ix (kIx (r := rIxT) (K := K) rfl ix_tup) (pv 4) pe_int (fun _ _ => rfl)) (pe_ktk (K := K) rfl T.U_SHUT) (by rfl)) (pw_and1 (pt_val (pe_fk (ok_is_made T d) (hr.mono (by omega)) rfl pass0 (pa_cons (pe_fk (ok_undoing_key T) (hr.mono (by omega)) rfl pass0 (pa_cons (pv 4) pa_nil)) (pa_cons (pv 1) pa_nil))))))))) (fun _ _ _ _ _ => (pe_ix (kIx (r := rIxT) (K := K) rfl ix_tup) (pv 4) pe_int (fun _ _ => rfl))))
  (pss_one (ps_set (i := 1) sc_opened_parts.nd rfl (Or.inr rfl) (pe_fk (ok_halves_of T d) (hr.mono (by omega)) rfl pass0 (pa_cons (pe_op op_cat (pv 1) (pv 3)) pa_nil)))))))
  (pss_one (ps_ret (pe_callB (cr_sortedF hr.units65) (by rfl) T.z_sorted (by decide +kernel) (pa_cons (pv 1) pa_nil))))))), ?_⟩
    have big : 16777216 ≤ sizeLine := by decide
    refine seqAsg ⟨_, rfl, a, ws, ts, rfl, ha, hts, (fun t ht => ⟨(wf t ht).1, (wf t ht).2.1⟩), d12, (by omega), fun q1 us1 o1 H1 s1 nq1 hq1 ht1 hv1 => ?_⟩
    refine gName_k ?_
    try dsimp only
    refine seqAsg ⟨_, rfl, ?_⟩
    refine gName_k ?_
    try dsimp only
    refine ⟨fun m σ Hc => ∃ (n : Nat) (qo : Addr) (us : List V) (o : List Tr) (t3 t4 : Option V), σ = [some (.ref a), some (.ref qo), some (.int ((n : Int) - 1)), t3, t4] ∧ Same H Hc ∧ Hc qo = some (.lst us) ∧ TsAt Hc o us ∧ OI ts o ∧ (n ≤ o.length ∨ (n = o.length + 1 ∧ IsOpen ts o)) ∧ m = (allOf ts).length + 1 - n, ⟨_, 0, q1, us1, o1, _, _, rfl, s1, hq1, ht1, OI.first hv1, .inl (Nat.zero_le _), rfl⟩, ?_⟩
    rintro m σ Hc ⟨n, qo, us, o, t3, t4, rfl, sc, hqo, hto, oi, hn, rfl⟩
    have hol := oi.len
    have hul := hto.len
    have wfo : ∀ t ∈ o, Wf t ∧ t.dep ≤ d ∧ t.all.length ≤ S := fun t ht => inAll_ok wf (oi.inAll t ht)
    refine ⟨_, rfl, _, rfl, qo, us, rfl, .inl (SqL.of hqo), rfl, _, rfl, ?_⟩
    refine ite2 (fun hne => ?_) (fun hne => ?_)
    · have hne : ¬ (V.int ((n : Int) - 1) = V.int us.length) := by
        intro e
        rw [decide_eq_true e] at hne
        cases hne
      have hn1 : n ≤ o.length := by
        rcases hn with h | ⟨h, _⟩
        · exact h
        · exact absurd (by rw [h, hul]; congr 1; omega) hne
      refine ⟨fun σ' H' => ∃ (qo' : Addr) (us' : List V) (o' : List Tr) (t3 t4 : Option V), σ' = [some (.ref a), some (.ref qo'), some (.int (((o.length + 1 : Nat) : Int) - 1)), t3, t4] ∧ Same H H' ∧ H' qo' = some (.lst us') ∧ TsAt H' o' us' ∧ OI ts o' ∧ (o.length + 1 ≤ o'.length ∨ (o.length + 1 = o'.length + 1 ∧ IsOpen ts o')), fun σ' H' ⟨qo', us', o', t3, t4, e1, e2, e3, e4, e5, e6⟩ => ⟨(allOf ts).length + 1 - (o.length + 1), by omega, o.length + 1, qo', us', o', t3, t4, e1, e2, e3, e4, e5, e6, rfl⟩, ?_⟩
      refine seqAsg ⟨_, rfl, qo, us, rfl, .inl (SqL.of hqo), ?_⟩
      refine gName_k ?_
      try dsimp only
      refine ⟨_, rfl, qo, rfl, ⟨_, SqL.of hqo⟩, fun D hD => ?_⟩
      refine lcft (opn o) cnt1 (SqL.of hqo) hto (by omega) hD (fun i x t H2 Q2 hx ht s2 kq => ?_) (fun i x t H2 Q2 hx ht hp s2 kq => ?_) fun vs H2 s2 hD2 hv2 => ?_
      · obtain ⟨w1, w2, _⟩ := wfo t (List.mem_of_getElem? ht)
        have it := (hto.get i t x ht hx).same s2
        obtain ⟨pf, zs, rfl, hpf⟩ := it.hd
        refine ⟨_, rfl, pf, _, _, _, rfl, rfl, SqT.of hpf, at_of (j := 0) rfl rfl, _, He.ga K "SHUT", ["seal", "lock"], rfl, rfl, T.U_SHUT.tp _, _, rfl, ?_⟩
        rw [shut_iff w1]
        unfold opn at kq
        cases e : ukey t with
        | none =>
          rw [e] at kq
          exact iteN (by simp) (kq _ (Same.refl _))
        | some key =>
          rw [e] at kq
          obtain ⟨w3, w4⟩ := ukey_wf w1 e
          refine iteP rfl ⟨_, rfl, _, t, key, rfl, it, w1, e, fun u H3 s3 ik => ⟨_, rfl, u, key, qo, us, o, rfl, ik, w3, (by omega), (by omega), s3 _ _ (s2 _ _ hqo), (hto.same s2).same s3, (fun t ht => ⟨(wfo t ht).1.fine, by have := (wfo t ht).2.1; omega⟩), fun H4 s4 => ⟨_, rfl, kq _ (s3.trans s4)⟩⟩⟩
      · obtain ⟨w1, w2, _⟩ := wfo t (List.mem_of_getElem? ht)
        have it := (hto.get i t x ht hx).same s2
        unfold opn at hp
        cases e : ukey t with
        | none => rw [e] at hp; cases hp
        | some key =>
          rcases ukey_inv w1 e with ⟨c, rfl⟩ | ⟨c, s0, k0, rfl, _, rfl⟩
          · obtain ⟨pf, u1, u2, rfl, hpf, i1, i2⟩ := it
            exact ⟨_, rfl, pf, _, _, _, rfl, rfl, SqT.of hpf, at_of (j := 1) rfl rfl, kq _ _ (Same.refl _) i1⟩
          · obtain ⟨pf, u1, u2, rfl, hpf, i1, i2⟩ := it
            exact ⟨_, rfl, pf, _, _, _, rfl, rfl, SqT.of hpf, at_of (j := 1) rfl rfl, kq _ _ (Same.refl _) i1⟩
      refine gName_k ?_
      try dsimp only
      have hv2l := hv2.len
      have hil : (inn o).length ≤ o.length := by
        rw [inn, List.length_map]
        exact List.length_filter_le _ _
      have hv2l : vs.length = (inn o).length := hv2l
      refine ⟨_, rfl, _, rfl, qo, D, us, vs, rfl, rfl, s2 _ _ hqo, hD2, (by omega), fun q3 hq3 => ?_⟩
      have s3 := Rd.Same.upd (o := .lst (us ++ vs)) hq3
      have h33 : upd H2 q3 (.lst (us ++ vs)) q3 = some (.lst (us ++ vs)) := upd_same
      generalize upd H2 q3 (.lst (us ++ vs)) = H3 at s3 h33 ⊢
      have wfi : ∀ t ∈ o ++ inn o, Wf t ∧ t.dep ≤ d ∧ t.all.length ≤ S := fun t ht => by
        rcases List.mem_append.mp ht with q | q
        · exact wfo t q
        · exact inAll_ok wf (inn_sub oi.inAll (allOf_scl ts) t q)
      have hsz : (allOf (o ++ inn o)).length ≤ 100000 := by
        rw [allOf_len]
        have h1 := szs_le fun t ht => (wfi t ht).2.2
        rw [List.length_append] at h1
        have h2 : (o.length + (inn o).length) * S ≤ (2 * (allOf ts).length) * S := Nat.mul_le_mul_right _ (by omega)
        rw [Nat.mul_assoc] at h2
        omega
      refine ⟨q3, us ++ vs, o ++ inn o, rfl, h33, (((hto.same s2).app hv2).same s3), (fun t ht => ⟨(wfi t ht).1, (wfi t ht).2.1⟩), d12, hsz, fun q4 us4 o4 H4 s4 nq4 hq4 ht4 hv4 => ?_⟩
      refine gName_k ?_
      obtain ⟨oi4, sub4⟩ := oi.next hv4
      have hlen4 := nodup_sub oi.nd sub4
      have e9 : (V.int us.length) = V.int (((o.length + 1 : Nat) : Int) - 1) := by rw [hul]; congr 1; omega
      refine ⟨q4, us4, o4, _, _, by rw [← e9]; rfl, ((sc.trans s2).trans s3).trans s4, hq4, ht4, oi4, ?_⟩
      by_cases hlt : o.length + 1 ≤ o4.length
      · exact .inl hlt
      · have h8 : o4.length = o.length := by omega
        exact .inr ⟨by rw [h8], oi.done hv4 (by omega)⟩
    · have he : V.int ((n : Int) - 1) = V.int us.length := by
        cases hd : decide (V.int ((n : Int) - 1) = V.int us.length) with
        | true => exact of_decide_eq_true hd
        | false => rw [hd] at hne; exact absurd rfl hne
      have he := V.int.inj he
      have hopen : IsOpen ts o := by
        rcases hn with h | ⟨_, h⟩
        · omega
        · exact h
      try dsimp only
      refine ⟨_, rfl, qo, us, o, rfl, SqL.of hqo, hto, (fun t ht => ⟨(wfo t ht).1, by have := (wfo t ht).2.1; omega⟩), fun ys q hpm hq => ?_⟩
      obtain ⟨o', hpo, hto'⟩ := hto.perm hpm
      have sq := Rd.Same.upd (o := .lst ys) hq
      refine k q ys o' _ (sc.trans sq) (sc.free hq) upd_same (hto'.same sq) ?_ (hpo.nodup_iff.mpr oi.nd)
      have hm : ∀ t, t ∈ o' ↔ t ∈ o := fun t => hpo.mem_iff
      exact ⟨fun t ht => (hm t).mpr (hopen.base t ht), fun a b h => ⟨(hm _).mpr (hopen.pcl a b ((hm _).mp h)).1, (hm _).mpr (hopen.pcl a b ((hm _).mp h)).2⟩, fun s c k key h1 h2 h3 => (hm _).mpr (hopen.scl s c k key ((hm _).mp h1) h2 (by rw [← mka_congr hm]; exact h3)), fun O' a b c t ht => hopen.least O' a b c t ((hm t).mp ht)⟩
end
end Rd
namespace Rd
open PySem L2
theorem take_flat1 {τ α : Type} {f : τ → List α} {l : List τ} {i : Nat} {r : τ} (h : l[i]? = some r) : (l.take (i + 1)).flatMap f = (l.take i).flatMap f ++ f r := by
  rw [List.take_add_one, h, List.flatMap_append]
  simp
theorem flat1_le {τ α : Type} {f : τ → List α} (hf : ∀ t, (f t).length ≤ 1) : ∀ l : List τ, (l.flatMap f).length ≤ l.length
  | [] => Nat.le_refl _
  | t :: l => by
    rw [List.flatMap_cons, List.length_append, List.length_cons]
    have := hf t
    have := flat1_le hf l
    omega
/-- {text for x in a list if ..}: f tells of each item no text or one -/
theorem scl {w : World} {K : PySem.W.Frag} {a D : Addr} {xs : List V} {τ : Type} {ts : List τ} {tt : TT} {te : TE} {i0 : Nat} {σ : St} {H1 : Hp} {Qd : Hp → Prop} (f : τ → List Str) (hf : ∀ t, (f t).length ≤ 1) (hS : SqL K H1 a xs) (he : xs.length = ts.length) (hl : xs.length + 1 < scanBound) (hD : H1 D = none)
    (hte : ∀ (i : Nat) (x : V) (t : τ) (H : Hp) (Q : VK), xs[i]? = some x → ts[i]? = some t → Same H1 H → (f t = [] → tt ((wipe σ [i0]).set i0 (some x)) H fun b H' => b = false ∧ H' = H) ∧ ∀ c, f t = [c] → (tt ((wipe σ [i0]).set i0 (some x)) H fun b H' => b = true ∧ H' = H) ∧ (Q (.str c) H → te ((wipe σ [i0]).set i0 (some x)) H Q))
    (tm : ∀ (σ : St) (H : Hp) (P Q : Bool → Hp → Prop), (∀ b H', P b H' → Q b H') → tt σ H P → tt σ H Q)
    (hq : ∀ H', Same H1 H' → H' D = some (SetSO w D (putS [] (ts.flatMap f))) → Qd H') :
    ∃ W : Nat → Nat → Hp → Prop, (∃ m, W 0 m (L2.upd H1 D (SetSO w D []))) ∧ ∀ i m H, W i m H →
      ((Itl K a).stop i H ∧ Qd H) ∨ ((Itl K a).go i H ∧ ∃ Nx : Hp → Prop, (∀ H', Nx H' → ∃ m', m' < m ∧ W (i + 1) m' H') ∧ ∀ x H', (Itl K a).yld i H x H' → gName i0 x (wipe σ [i0]) H' fun σ2 H2 => wipe σ2 [i0] = wipe σ [i0] ∧ tt σ2 H2 fun b H3 =>
        if b = true then te σ2 H3 fun y H4 => ∃ (c : Str) (l : List Str), y = .str c ∧ H4 D = some (SetSO w D l) ∧ l.length + 1 < scanBound ∧ Nx (L2.upd H4 D (SetSO w D (addS l c))) else Nx H3) := by
  refine ⟨fun i m H => m = xs.length - i ∧ i ≤ xs.length ∧ Same H1 H ∧ H D = some (SetSO w D (putS [] ((ts.take i).flatMap f))), ⟨xs.length, by simp, Nat.zero_le _, Rd.Same.upd hD, upd_same⟩, ?_⟩
  rintro i m H ⟨rfl, hi, sm, hd⟩
  have q := SqL.kept hS sm
  by_cases hlt : i < xs.length
  · refine .inr ⟨⟨xs, xs[i], q, by simp [hlt]⟩, fun H' => Same H1 H' ∧ H' D = some (SetSO w D (putS [] ((ts.take (i + 1)).flatMap f))), fun H' p' => ⟨xs.length - (i + 1), by omega, rfl, hlt, p'⟩, fun x H' y => ?_⟩
    obtain ⟨e, y⟩ := y
    subst e
    have hx := y xs q
    have ht : ts[i]? = some ts[i] := List.getElem?_eq_getElem (by omega)
    refine gName_k ⟨by simp [wipe], ?_⟩
    cases hft : f ts[i] with
    | nil =>
      refine tm _ _ _ _ (fun b H2 z => ?_) ((hte i x ts[i] H' (fun _ _ => True) hx ht sm).1 hft)
      obtain ⟨rfl, rfl⟩ := z
      refine iteF ⟨sm, ?_⟩
      rw [take_flat1 ht, hft, List.append_nil]
      exact hd
    | cons c r =>
      have hr : r = [] := by
        have := hf ts[i]
        rw [hft, List.length_cons] at this
        exact List.eq_nil_of_length_eq_zero (by omega)
      subst hr
      refine tm _ _ _ _ (fun b H2 z => ?_) ((hte i x ts[i] H' (fun _ _ => True) hx ht sm).2 c hft).1
      obtain ⟨rfl, rfl⟩ := z
      refine iteT (((hte i x ts[i] _ _ hx ht sm).2 c hft).2 ⟨c, _, rfl, hd, ?_, fun b o e => ?_, ?_⟩)
      · have h1 := putS_len (l := []) (r := (ts.take i).flatMap f)
        have h2 := flat1_le hf (ts.take i)
        rw [List.length_take] at h2
        rw [List.length_nil] at h1
        omega
      · rw [upd_ne (ne_of_none e hD)]
        exact sm _ _ e
      · rw [upd_same, take_flat1 ht, hft, putS_app]
        rfl
  · have e : i = xs.length := by omega
    subst e
    refine .inl ⟨⟨xs, q, Nat.le_refl _⟩, hq H sm ?_⟩
    rw [he, List.take_length] at hd
    exact hd
/-- [text for x in a list if ..] -/
theorem lclF {K : PySem.W.Frag} {a D : Addr} {xs : List V} {τ : Type} {ts : List τ} {tt : TT} {te : TE} {i0 : Nat} {σ : St} {H1 : Hp} {Qd : Hp → Prop} (f : τ → List V) (hf : ∀ t, (f t).length ≤ 1) (hS : SqL K H1 a xs) (he : xs.length = ts.length) (hl : xs.length ≤ 100000) (hD : H1 D = none)
    (hte : ∀ (i : Nat) (x : V) (t : τ) (H : Hp) (Q : VK), xs[i]? = some x → ts[i]? = some t → Same H1 H → (f t = [] → tt ((wipe σ [i0]).set i0 (some x)) H fun b H' => b = false ∧ H' = H) ∧ ∀ c, f t = [c] → (tt ((wipe σ [i0]).set i0 (some x)) H fun b H' => b = true ∧ H' = H) ∧ (Q c H → te ((wipe σ [i0]).set i0 (some x)) H Q))
    (tm : ∀ (σ : St) (H : Hp) (P Q : Bool → Hp → Prop), (∀ b H', P b H' → Q b H') → tt σ H P → tt σ H Q)
    (hq : ∀ H', Same H1 H' → H' D = some (.lst (ts.flatMap f)) → Qd H') :
    ∃ W : Nat → Nat → Hp → Prop, (∃ m, W 0 m (L2.upd H1 D (.lst []))) ∧ ∀ i m H, W i m H →
      ((Itl K a).stop i H ∧ Qd H) ∨ ((Itl K a).go i H ∧ ∃ Nx : Hp → Prop, (∀ H', Nx H' → ∃ m', m' < m ∧ W (i + 1) m' H') ∧ ∀ x H', (Itl K a).yld i H x H' → gName i0 x (wipe σ [i0]) H' fun σ2 H2 => wipe σ2 [i0] = wipe σ [i0] ∧ tt σ2 H2 fun b H3 =>
        if b = true then te σ2 H3 fun y H4 => ∃ acc, H4 D = some (.lst acc) ∧ acc.length < sizeLine ∧ Nx (L2.upd H4 D (.lst (acc ++ [y]))) else Nx H3) := by
  refine lc_list (K := K) (a := a) (xs := xs) (fun i H => Same H1 H ∧ H D = some (.lst ((ts.take i).flatMap f))) ⟨Rd.Same.upd hD, upd_same⟩ (fun i H _ p => SqL.kept hS p.1) ?_ ?_
  · rintro i x H hx ⟨sm, hd⟩
    have hlt := (List.getElem?_eq_some_iff.mp hx).1
    have ht : ts[i]? = some ts[i] := List.getElem?_eq_getElem (by omega)
    refine gName_k ⟨by simp [wipe], ?_⟩
    cases hft : f ts[i] with
    | nil =>
      refine tm _ _ _ _ (fun b H2 z => ?_) ((hte i x ts[i] H (fun _ _ => True) hx ht sm).1 hft)
      obtain ⟨rfl, rfl⟩ := z
      refine iteF ⟨sm, ?_⟩
      rw [take_flat1 ht, hft, List.append_nil]
      exact hd
    | cons c r =>
      have hr : r = [] := by
        have := hf ts[i]
        rw [hft, List.length_cons] at this
        exact List.eq_nil_of_length_eq_zero (by omega)
      subst hr
      refine tm _ _ _ _ (fun b H2 z => ?_) ((hte i x ts[i] H (fun _ _ => True) hx ht sm).2 c hft).1
      obtain ⟨rfl, rfl⟩ := z
      refine iteT (((hte i x ts[i] _ _ hx ht sm).2 c hft).2 ⟨_, hd, ?_, fun b o e => ?_, ?_⟩)
      · have h2 := flat1_le hf (ts.take i)
        rw [List.length_take] at h2
        have : 100000 < sizeLine := by decide
        omega
      · rw [upd_ne (ne_of_none e hD)]
        exact sm _ _ e
      · rw [upd_same, take_flat1 ht, hft]
  · rintro H ⟨sm, hd⟩
    rw [he, List.take_length] at hd
    exact hq H sm hd
theorem txt1_le (k : Str) : ∀ t : Tr, (txt1 k t).length ≤ 1
  | .am k' x => by
    show (if k' = k then [x] else []).length ≤ 1
    split
    · exact Nat.le_refl _
    · exact Nat.zero_le _
  | .un _ _ => Nat.zero_le _
  | .bi _ _ _ => Nat.zero_le _
end Rd
namespace Rd
open PySem L2
def sgns : List Str := ([("pair", 2), ("seal", 2), ("lock", 2), ("mark", 1), ("open", 1), ("own", 1)] : List (Str × Int)).map (·.1)
theorem sgn_yes {t : Tr} (wf : Wf t) (h : t.parts ≠ []) : decide (t.head ∈ sgns) = true := by
  have : ∀ z ∈ (["mark", "open", "own", "pair", "seal", "lock"] : List Str), decide (z ∈ sgns) = true := by decide +kernel
  exact this _ (wf.sign h).1
theorem sgn_no {k x : Str} (ko : kindOk k x) : decide ((Tr.am k x).head ∈ sgns) = false := by
  rcases ko with ⟨rfl, _⟩ | ⟨rfl, _⟩ | ⟨rfl, _⟩
  · show decide (("word" : Str) ∈ sgns) = false; decide +kernel
  · show decide (("name" : Str) ∈ sgns) = false; decide +kernel
  · show decide (("unknown" : Str) ∈ sgns) = false; decide +kernel
section
variable {P : Program} {w : World} {K : PySem.W.Frag} {mg : Str → Option Value} {base : Heap}
abbrev s_parts_of : Stmt := top 19
theorem sc_parts_of : FnScope ["tree", "found", "part"] ["tree"] (defScope s_parts_of) := ⟨rfl, rfl, rfl, by decide +kernel, rfl, by decide +kernel, by decide +kernel⟩
theorem partsOf_step (T : Tx w K mg) (d : Nat) (ih : Fk P w K mg base CX0 (d + 1) "parts_of" ["tree"] (spPR d)) : Fk P w K mg base CX0 (d + 2) "parts_of" ["tree"] (sp_parts d) := by
  refine T.F_parts_of.ok0 sc_parts_of (fun _ _ _ _ _ _ us hl => match us, hl with | [_], _ => rfl)
    (fun vs H Q E h => ?_) (fun cdv A outer s H vs Q E hr h => ?_)
  · obtain ⟨v, t, rfl, _⟩ := h
    rfl
  · obtain ⟨v, t, rfl, it, wf, dp, d12, k⟩ := h
    obtain ⟨pf, vs0, rfl, hpv⟩ := it.hd
    refine ⟨_, (pss_cons (ps_set (i := 1) sc_parts_of.nd rfl (Or.inl rfl) (pe_lst (pa_cons (pv 0) pa_nil)))
  (pss_cons (ps_if (pt_cmpR (op_inK T.D_SIGNS) (pe_ix ix_tup (pv 0) pe_int (fun _ _ => rfl)) (pe_kd T.D_SIGNS) (by rfl))
  (pss_one (ps_for PassesOwn.never rfl (pi_tup (pe_slice sl_tup (pv 0) (po_some pe_int) po_none)) (pg_name (i := 2) sc_parts_of.nd rfl (Or.inl rfl))
  (pss_one (ps_expr (pe_bm PySem.F.plainAttrs_list PySem.F.slot_list_extend PySem.F.type_list_extend mt_extend (pv 1) (pa_cons (pe_fk ih (hr.mono (by omega)) rfl pass0 (pa_cons (pv 2) pa_nil)) pa_nil))))))
  pss_nil)
  (pss_one (ps_ret (pv 1))))), ?_⟩
    refine ⟨_, rfl, (by show 1 ≤ sizeLine; decide), fun p np => ?_⟩
    refine gName_k ?_
    try dsimp only
    have s1 := Rd.Same.upd (o := .lst [.ref pf]) np
    refine ⟨_, rfl, pf, _, _, _, rfl, rfl, SqT.of (s1 _ _ hpv), at_of (j := 0) rfl rfl, _, rfl, rfl, _, rfl, ?_⟩
    show if decide (t.head ∈ sgns) = true then _ else _
    by_cases hpt : t.parts ≠ []
    · obtain ⟨hsg, hws⟩ := wf.sign hpt
      obtain ⟨p', us, e, hpu, hlu, hl2, hne, hus⟩ := it.parts hpt
      cases e
      refine iteP (sgn_yes wf hpt) ?_
      refine ⟨_, rfl, _, rfl, pf, _, rfl, SqT.of (s1 _ _ hpu), ?_, fun p2 hp2 => ?_⟩
      · rintro ⟨z, _⟩
        rw [show (1 : Int) = ((1 : Nat) : Int) from rfl, HT.sIx_nat, List.length_cons] at z
        omega
      rw [cut1]
      have s2 := Rd.Same.upd (o := .tup us) hp2
      refine ⟨p2, rfl, ⟨_, SqT.of upd_same⟩, ?_⟩
      refine for_tup (xs := us) (fun i σ H' => PInv H p p2 us t i H' ∧ ∃ t2, σ = [some (.ref pf), some (.ref p), t2]) ⟨⟨s1.trans s2, np, upd_same, [.ref pf], s2 _ _ upd_same, TsAt.one (it.same (s1.trans s2))⟩, _, rfl⟩ ?_ ?_ ?_
      · rintro i σ H' hi ⟨hI, _⟩
        exact SqT.of hI.tup
      · rintro i x σ H1 hx ⟨⟨sm, _, htu, ws, hws1, hts⟩, t2, rfl⟩
        refine gName_k ?_
        try dsimp only
        obtain ⟨r, hr1, hr2⟩ := hus i x hx
        obtain ⟨w1, w2⟩ := hws r (List.mem_of_getElem? hr1)
        cases d with
        | zero => exact absurd dp (by omega)
        | succ d =>
          refine ⟨_, rfl, .inl ⟨rfl, _, SqL.of hws1⟩, _, rfl, x, r, rfl, hr2.same sm, w1, (by omega), (by omega), fun b zs H2 sm2 nb hb htz => ?_⟩
          have hl1 := all_len t
          have hf := flat_le (t := t) (i + 1)
          rw [take_flat hr1, List.length_append] at hf
          have hpw : 2 ^ (t.dep + 1) ≤ 2 ^ 13 := Nat.pow_le_pow_right (by decide) (by omega)
          have h13 : 2 ^ 13 ≤ sizeLine := by decide
          have e1 := hts.len
          have e2 := htz.len
          rw [List.length_cons] at e1
          refine ⟨p, b, ws, zs, rfl, rfl, sm2 _ _ hws1, hb, (by omega), ?_⟩
          have kp := Kp.upd_lst (C := 0) (ys := ws ++ zs) (sm2 _ _ hws1)
          have nbp : b ≠ p := fun z => by rw [z, hws1] at nb; cases nb
          refine ⟨⟨fun c o e => ?_, np, ?_, ws ++ zs, upd_same, ?_⟩, _, rfl⟩
          · rw [upd_ne (ne_of_none e np)]
            exact sm2 _ _ (sm _ _ e)
          · rw [upd_ne (fun z => by rw [z, hws1] at htu; cases htu)]
            exact sm2 _ _ htu
          · rw [take_flat hr1, ← List.cons_append]
            exact ((hts.same sm2).mono kp).app (htz.mono kp)
      · rintro σ H1 ⟨⟨sm, _, htu, ws, hws1, hts⟩, t2, rfl⟩
        refine ⟨_, rfl, k p ws H1 sm np hws1 ?_⟩
        rw [all_parts]
        rw [hlu, List.take_length] at hts
        exact hts
    · cases wf with
      | @am k0 x0 ko =>
        rw [sgn_no ko]
        exact iteF ⟨_, rfl, k p _ _ s1 np upd_same (TsAt.one (it.same s1))⟩
      | _ => exact absurd (fun e => by cases e) hpt
theorem partsOf_none (T : Tx w K mg) : Fk P w K mg base CX0 1 "parts_of" ["tree"] (spPR 0) := by
  refine T.F_parts_of.ok0 sc_parts_of (fun _ _ _ _ _ _ us hl => match us, hl with | [_], _ => rfl) (fun vs H Q E h => h.elim) (fun cdv A outer s H vs Q E hr h => h.elim)
theorem ok_parts_of (T : Tx w K mg) : ∀ d : Nat, Fk P w K mg base CX0 (d + 2) "parts_of" ["tree"] (sp_parts d)
  | 0 => partsOf_step T 0 (partsOf_none T)
  | d + 1 => partsOf_step T (d + 1) (ok_parts_of T d)
/-- the texts of the atoms of one kind, ascending, each once, in a new list -/
def sp_atoms (d : Nat) : Sp := fun vs H Q _ => ∃ (v : V) (t : Tr) (kd : Str), vs = [v, .str kd] ∧ IsT H t v ∧ Wf t ∧ t.dep ≤ d ∧ d ≤ 10 ∧ ∀ p H', Same H H' → H p = none → H' p = some (.lst ((uniS (t.txt kd)).map V.str)) → Q (.ref p) H'
/-- part[0] == kind, part[1] of a form's part -/
theorem txt_at {H : Hp} {t : Tr} {v : V} {kd : Str} (it : IsT H t v) (wf : Wf t) : ∃ p us, v = .ref p ∧ H p = some (.tup (.str t.head :: us)) ∧ (txt1 kd t = [] → t.head ≠ kd ∨ ∃ u, us[0]? = some u ∧ ¬ ∃ z, u = .str z) ∧ ∀ c, txt1 kd t = [c] → t.head = kd ∧ us = [.str c] := by
  cases t with
  | am k x =>
    obtain ⟨p, rfl, h⟩ := it
    refine ⟨p, [.str x], rfl, h, fun e => .inl fun z => ?_, fun c e => ?_⟩
    · have e : (if k = kd then [x] else []) = [] := e
      rw [if_pos (show k = kd from z)] at e
      cases e
    · have e : (if k = kd then [x] else []) = [c] := e
      by_cases z : k = kd
      · rw [if_pos z] at e
        cases e
        exact ⟨z, rfl⟩
      · rw [if_neg z] at e
        cases e
  | un s a =>
    obtain ⟨p, u, rfl, h, i1⟩ := it
    refine ⟨p, [u], rfl, h, fun _ => .inr ⟨u, rfl, fun ⟨z, e⟩ => ?_⟩, fun c e => by cases e⟩
    obtain ⟨q, e'⟩ := i1.ref
    rw [e'] at e
    cases e
  | bi s a b =>
    obtain ⟨p, u, u2, rfl, h, i1, i2⟩ := it
    refine ⟨p, [u, u2], rfl, h, fun _ => .inr ⟨u, rfl, fun ⟨z, e⟩ => ?_⟩, fun c e => by cases e⟩
    obtain ⟨q, e'⟩ := i1.ref
    rw [e'] at e
    cases e
def kinds : List Str := ["word", "name", "unknown"]
theorem head_kd {t : Tr} {kd : Str} (wf : Wf t) (hk : kd ∈ kinds) (h : txt1 kd t = []) : t.head ≠ kd := fun e => by
  by_cases hp : t.parts ≠ []
  · have a := (wf.sign hp).1
    have : ∀ z ∈ (["mark", "open", "own", "pair", "seal", "lock"] : List Str), z ∉ kinds := by decide +kernel
    exact this _ a (by rw [e]; exact hk)
  · cases t with
    | am k x =>
      have h : (if k = kd then [x] else []) = [] := h
      rw [if_pos (show k = kd from e)] at h
      cases h
    | un s a => exact hp (fun e => by cases e)
    | bi s a b => exact hp (fun e => by cases e)
abbrev s_atoms_of : Stmt := top 20
theorem sc_atoms_of : FnScope ["tree", "kind", "part"] ["tree", "kind"] (defScope s_atoms_of) := ⟨rfl, rfl, rfl, by decide +kernel, rfl, by decide +kernel, by decide +kernel⟩
theorem ok_atoms_of (T : Tx w K mg) (d : Nat) : Fk P w K mg base CX0 (d + 3) "atoms_of" ["tree", "kind"] (fun vs H Q E => sp_atoms d vs H Q E ∧ ∃ kd ∈ kinds, vs[1]? = some (.str kd)) := by
  refine T.F_atoms_of.ok0 sc_atoms_of (fun _ _ _ _ _ _ us hl => match us, hl with | [_, _], _ => rfl)
    (fun vs H Q E h => ?_) (fun cdv A outer s H vs Q E hr h => ?_)
  · obtain ⟨⟨v, t, kd, rfl, _⟩, _⟩ := h
    rfl
  · obtain ⟨⟨v, t, kd, rfl, it, wf, dp, d10, k⟩, kd', hk, e⟩ := h
    obtain rfl : kd = kd' := by cases e; rfl
    refine ⟨_, (pss_one (ps_ret (pe_callB (cr_sortedSS rfl) (by rfl) T.z_sorted (by decide +kernel) (pa_cons (pe_scS (own := [("part", 2)]) (g := gName 2)  (by rfl) sc_atoms_of.nd (pi_list (pe_fk (ok_parts_of T d) (hr.mono (by omega)) rfl pass0 (pa_cons (pv 0) pa_nil))) (blkOk_by (own := [("part", 2)]) (N := ["tree", "kind", "part"]) (sc := defScope s_atoms_of) (by decide +kernel)) (fun _ _ _ _ _ => (pg_name (i := 2) sc_atoms_of.nd rfl (Or.inl rfl))) (fun _ _ _ _ _ => (pts_one (pt_cmpR op_eq (pe_ix (kIx (r := rIxT) (K := K) rfl ix_tup) (pv 2) pe_int (fun _ _ => rfl)) (pv 1) (nomark _)))) (fun _ _ _ _ _ => (pe_ix (kIx (r := rIxT) (K := K) rfl ix_tup) (pv 2) pe_int (fun _ _ => rfl)))) pa_nil)))), ?_⟩
    refine ⟨_, rfl, v, t, rfl, it, wf, dp, (by omega), fun p ws H1 s1 np hp htz => ?_⟩
    refine ⟨p, rfl, ⟨_, SqL.of hp⟩, fun D hD => ?_⟩
    have hl1 := all_len t
    have hpw : 2 ^ (t.dep + 1) ≤ 2 ^ 11 := Nat.pow_le_pow_right (by decide) (by omega)
    have h13 : 2 ^ 11 + 1 < scanBound := by decide
    refine scl (txt1 kd) (txt1_le kd) (SqL.of hp) htz.len (by rw [htz.len]; omega) hD (fun i x t1 H2 Q2 hx ht s2 => ?_) (fun σ H P Q h z => ?_) fun H2 s2 hD2 => ?_
    · have i1 := (htz.get i t1 x ht hx).same s2
      have w1 := (all_wf wf t1 (List.mem_of_getElem? ht)).1
      obtain ⟨q, us, rfl, hq, _, h1⟩ := txt_at (kd := kd) i1 w1
      refine ⟨fun e => ?_, fun c e => ⟨?_, fun z => ?_⟩⟩
      · exact ⟨_, rfl, q, _, _, _, rfl, rfl, SqT.of hq, at_of (j := 0) rfl rfl, _, rfl, rfl, _, rfl, decide_eq_false (fun z => head_kd w1 hk e (by cases z; rfl)), rfl⟩
      · exact ⟨_, rfl, q, _, _, _, rfl, rfl, SqT.of hq, at_of (j := 0) rfl rfl, _, rfl, rfl, _, rfl, decide_eq_true (by rw [(h1 c e).1]), rfl⟩
      · rw [(h1 c e).2] at hq
        exact ⟨_, rfl, q, _, _, _, rfl, rfl, SqT.of hq, at_of (j := 1) rfl rfl, z⟩
    · obtain ⟨_, h1, q, a, b, c, h2, h3, h4, h5, d, h6, h7, e, h8, h9⟩ := z
      exact ⟨_, h1, q, a, b, c, h2, h3, h4, h5, d, h6, h7, e, h8, h _ _ h9⟩
    · refine ⟨D, _, rfl, hD2, fun ys q pm nd so hq => ?_⟩
      have e : ys = uniS (t.txt kd) := uniS_of nd so fun z => by rw [pm.mem_iff, putS_mem, txt_all]; simp
      rw [e]
      exact k q _ ((s1.trans s2).trans (Rd.Same.upd hq)) ((s1.trans s2).free hq) upd_same
def sp_txts (K : PySem.W.Frag) (d : Nat) (kd : Str) : Sp := fun vs H Q _ => ∃ (a : Addr) (v : V) (t : Tr), vs = [.ref a] ∧ IsL K H a v ∧ IsT H t v ∧ Wf t ∧ t.dep ≤ d ∧ d ≤ 10 ∧ ∀ p H', Same H H' → H p = none → H' p = some (.lst ((uniS (t.txt kd)).map V.str)) → Q (.ref p) H'
abbrev s_Letter_unknowns : Stmt := inClass (top 25) 5
theorem sc_Letter_unknowns : FnScope ["self"] ["self"] (defScope s_Letter_unknowns) := ⟨rfl, rfl, rfl, by decide +kernel, rfl, by decide +kernel, by decide +kernel⟩
theorem ok_unknowns (T : Tx w K mg) (d : Nat) : Fm P w K mg base CX0 (d + 4) "Letter" "unknowns" ["self"] (sp_txts K d "unknown") := by
  refine T.M_Letter_unknowns.ok0 sc_Letter_unknowns (fun _ _ _ _ _ _ us hl => match us, hl with | [_], _ => rfl)
    (fun vs H Q E h => ?_) (fun cdv A outer s H vs Q E hr h => ?_)
  · obtain ⟨a, v, t, rfl, _⟩ := h
    rfl
  · obtain ⟨a, v, t, rfl, ⟨dx, ha⟩, it, wf, dp, d10, k⟩ := h
    refine ⟨_, (pss_one (ps_ret (pe_fk (ok_atoms_of T d) (hr.mono (by omega)) rfl pass0 (pa_cons (pe_fld (pv 0) rfl) (pa_cons pe_str pa_nil))))), ?_⟩
    exact ⟨_, rfl, a, _, dx, _, v, rfl, ha, T.k_Letter, T.n_Letter_tree, look1 _, ⟨v, t, "unknown", rfl, it, wf, dp, d10, k⟩, "unknown", (by decide +kernel), rfl⟩
end
end Rd
namespace Rd
open PySem L2
section
variable {P : Program} {w : World} {K : PySem.W.Frag} {mg : Str → Option Value} {base : Heap}
abbrev s__law_parts : Stmt := top 42
theorem sc__law_parts : FnScope ["_law_form", "_law_found", "_law_part"] ["_law_form"] (defScope s__law_parts) := ⟨rfl, rfl, rfl, by decide +kernel, rfl, by decide +kernel, by decide +kernel⟩
theorem parts_step (T : Tx w K mg) (d : Nat) (ih : Fk P w K mg base CX0 (d + 1) "_law_parts" ["_law_form"] (spPR d)) : Fk P w K mg base CX0 (d + 2) "_law_parts" ["_law_form"] (sp_parts d) := by
  refine T.F__law_parts.ok0 sc__law_parts (fun _ _ _ _ _ _ us hl => match us, hl with | [_], _ => rfl)
    (fun vs H Q E h => ?_) (fun cdv A outer s H vs Q E hr h => ?_)
  · obtain ⟨v, t, rfl, _⟩ := h
    rfl
  · obtain ⟨v, t, rfl, it, wf, dp, d12, k⟩ := h
    obtain ⟨pf, vs0, rfl, hpv⟩ := it.hd
    refine ⟨_, (pss_cons (ps_set (i := 1) sc__law_parts.nd rfl (Or.inl rfl) (pe_lst (pa_cons (pv 0) pa_nil)))
  (pss_cons (ps_if (pt_cmpR op_notInT (pe_ix ix_tup (pv 0) pe_int (fun _ _ => rfl)) (pe_tup (pa_cons pe_str (pa_cons pe_str (pa_cons pe_str pa_nil)))) (by rfl))
  (pss_one (ps_for PassesOwn.never rfl (pi_tup (pe_slice sl_tup (pv 0) (po_some pe_int) po_none)) (pg_name (i := 2) sc__law_parts.nd rfl (Or.inl rfl))
  (pss_one (ps_expr (pe_bm PySem.F.plainAttrs_list PySem.F.slot_list_extend PySem.F.type_list_extend mt_extend (pv 1) (pa_cons (pe_fk ih (hr.mono (by omega)) rfl pass0 (pa_cons (pv 2) pa_nil)) pa_nil))))))
  pss_nil)
  (pss_one (ps_ret (pv 1))))), ?_⟩
    refine ⟨_, rfl, (by show 1 ≤ sizeLine; decide), fun p np => ?_⟩
    refine gName_k ?_
    try dsimp only
    have sp := Rd.Same.upd (o := .lst [.ref pf]) np
    refine ⟨_, rfl, pf, _, _, _, rfl, rfl, SqT.of (sp _ _ hpv), at_of (j := 0) rfl rfl, (by show 3 ≤ sizeLine; decide), fun q hq => ?_⟩
    have sq := Rd.Same.upd (o := .tup [.str "word", .str "name", .str "unknown"]) hq
    refine ⟨_, q, ["word", "name", "unknown"], rfl, rfl, SqT.of upd_same, _, rfl, ?_⟩
    have s1 := sp.trans sq
    have hp1 : upd (upd H p (.lst [.ref pf])) q (.tup [.str "word", .str "name", .str "unknown"]) p = some (.lst [.ref pf]) := sq _ _ upd_same
    by_cases hpt : t.parts ≠ []
    · obtain ⟨hsg, hws⟩ := wf.sign hpt
      obtain ⟨p', us, e, hpu, hlu, hl2, hne, hus⟩ := it.parts hpt
      cases e
      have h3 : (!decide (t.head ∈ (["word", "name", "unknown"] : List Str))) = true := by
        have : ∀ z ∈ (["mark", "open", "own", "pair", "seal", "lock"] : List Str), (!decide (z ∈ (["word", "name", "unknown"] : List Str))) = true := by decide +kernel
        exact this _ hsg
      refine iteP h3 ?_
      refine ⟨_, rfl, _, rfl, pf, _, rfl, SqT.of (s1 _ _ hpu), ?_, fun p2 hp2 => ?_⟩
      · rintro ⟨z, _⟩
        rw [show (1 : Int) = ((1 : Nat) : Int) from rfl, HT.sIx_nat, List.length_cons] at z
        omega
      rw [cut1]
      have s2 := Rd.Same.upd (o := .tup us) hp2
      refine ⟨p2, rfl, ⟨_, SqT.of upd_same⟩, ?_⟩
      refine for_tup (xs := us) (fun i σ H' => PInv H p p2 us t i H' ∧ ∃ t2, σ = [some (.ref pf), some (.ref p), t2]) ⟨⟨s1.trans s2, np, upd_same, [.ref pf], s2 _ _ hp1, TsAt.one (it.same (s1.trans s2))⟩, _, rfl⟩ ?_ ?_ ?_
      · rintro i σ H' hi ⟨hI, _⟩
        exact SqT.of hI.tup
      · rintro i x σ H1 hx ⟨⟨sm, _, htu, ws, hws1, hts⟩, t2, rfl⟩
        refine gName_k ?_
        try dsimp only
        obtain ⟨r, hr1, hr2⟩ := hus i x hx
        obtain ⟨w1, w2⟩ := hws r (List.mem_of_getElem? hr1)
        cases d with
        | zero => exact absurd dp (by omega)
        | succ d =>
          refine ⟨_, rfl, .inl ⟨rfl, _, SqL.of hws1⟩, _, rfl, x, r, rfl, hr2.same sm, w1, (by omega), (by omega), fun b zs H2 sm2 nb hb htz => ?_⟩
          have hl1 := all_len t
          have hf := flat_le (t := t) (i + 1)
          rw [take_flat hr1, List.length_append] at hf
          have hpw : 2 ^ (t.dep + 1) ≤ 2 ^ 13 := Nat.pow_le_pow_right (by decide) (by omega)
          have h13 : 2 ^ 13 ≤ sizeLine := by decide
          have e1 := hts.len
          have e2 := htz.len
          rw [List.length_cons] at e1
          refine ⟨p, b, ws, zs, rfl, rfl, sm2 _ _ hws1, hb, (by omega), ?_⟩
          have kp := Kp.upd_lst (C := 0) (ys := ws ++ zs) (sm2 _ _ hws1)
          have nbp : b ≠ p := fun z => by rw [z, hws1] at nb; cases nb
          refine ⟨⟨fun c o e => ?_, np, ?_, ws ++ zs, upd_same, ?_⟩, _, rfl⟩
          · rw [upd_ne (ne_of_none e np)]
            exact sm2 _ _ (sm _ _ e)
          · rw [upd_ne (fun z => by rw [z, hws1] at htu; cases htu)]
            exact sm2 _ _ htu
          · rw [take_flat hr1, ← List.cons_append]
            exact ((hts.same sm2).mono kp).app (htz.mono kp)
      · rintro σ H1 ⟨⟨sm, _, htu, ws, hws1, hts⟩, t2, rfl⟩
        refine ⟨_, rfl, k p ws H1 sm np hws1 ?_⟩
        rw [all_parts]
        rw [hlu, List.take_length] at hts
        exact hts
    · cases wf with
      | @am k0 x0 ko =>
        have h3 : ¬ (!decide ((Tr.am k0 x0).head ∈ (["word", "name", "unknown"] : List Str))) = true := by
          rcases ko with ⟨rfl, _⟩ | ⟨rfl, _⟩ | ⟨rfl, _⟩
          · show ¬ (!decide (("word" : Str) ∈ (["word", "name", "unknown"] : List Str))) = true; decide +kernel
          · show ¬ (!decide (("name" : Str) ∈ (["word", "name", "unknown"] : List Str))) = true; decide +kernel
          · show ¬ (!decide (("unknown" : Str) ∈ (["word", "name", "unknown"] : List Str))) = true; decide +kernel
        exact iteN h3 ⟨_, rfl, k p _ _ s1 np hp1 (TsAt.one (it.same s1))⟩
      | _ => exact absurd (fun e => by cases e) hpt
theorem parts_none (T : Tx w K mg) : Fk P w K mg base CX0 1 "_law_parts" ["_law_form"] (spPR 0) := by
  refine T.F__law_parts.ok0 sc__law_parts (fun _ _ _ _ _ _ us hl => match us, hl with | [_], _ => rfl) (fun vs H Q E h => h.elim) (fun cdv A outer s H vs Q E hr h => h.elim)
theorem ok__law_parts (T : Tx w K mg) : ∀ d : Nat, Fk P w K mg base CX0 (d + 2) "_law_parts" ["_law_form"] (sp_parts d)
  | 0 => parts_step T 0 (parts_none T)
  | d + 1 => parts_step T (d + 1) (ok__law_parts T d)
end
end Rd
namespace Rd
open PySem L2
/-- a list of letters -/
structure LsAt (K : PySem.W.Frag) (H : Hp) (ts : List Tr) (vs : List V) : Prop where
  len : vs.length = ts.length
  get : ∀ (i : Nat) t v, ts[i]? = some t → vs[i]? = some v → IsLet K H t v
theorem LsAt.mono {K : PySem.W.Frag} {H H' : Hp} {ts : List Tr} {vs : List V} (k : Kp (He.ga K "Letter") H H') (h : LsAt K H ts vs) : LsAt K H' ts vs := ⟨h.len, fun i t v h1 h2 => (h.get i t v h1 h2).mono k⟩
theorem LsAt.same {K : PySem.W.Frag} {H H' : Hp} {ts : List Tr} {vs : List V} (s : Same H H') (h : LsAt K H ts vs) : LsAt K H' ts vs := h.mono (Kp.of_same s)
theorem LsAt.one {K : PySem.W.Frag} {H : Hp} {t : Tr} {v : V} (h : IsLet K H t v) : LsAt K H [t] [v] := ⟨rfl, fun i t' v' h1 h2 => by
  cases i with
  | zero => cases h1; cases h2; exact h
  | succ i => cases i <;> cases h1⟩
theorem LsAt.app {K : PySem.W.Frag} {H : Hp} {ts us : List Tr} {vs ws : List V} (h : LsAt K H ts vs) (g : LsAt K H us ws) : LsAt K H (ts ++ us) (vs ++ ws) := ⟨by rw [List.length_append, List.length_append, h.len, g.len], fun i t v h1 h2 => by
  by_cases hi : i < ts.length
  · rw [List.getElem?_append_left hi] at h1
    rw [List.getElem?_append_left (by rw [h.len]; exact hi)] at h2
    exact h.get i t v h1 h2
  · rw [List.getElem?_append_right (by omega)] at h1
    rw [List.getElem?_append_right (by rw [h.len]; omega), h.len] at h2
    exact g.get _ t v h1 h2⟩
theorem LsAt.of {K : PySem.W.Frag} {H : Hp} {ts : List Tr} {vs : List V} (hl : vs.length = ts.length) (h : ∀ (i : Nat) v, vs[i]? = some v → ∃ t, ts[i]? = some t ∧ IsLet K H t v) : LsAt K H ts vs := ⟨hl, fun i t v h1 h2 => by
  obtain ⟨t', e, q⟩ := h i v h2
  rw [h1] at e
  cases e
  exact q⟩
theorem TsAt.of {H : Hp} {ts : List Tr} {vs : List V} (hl : vs.length = ts.length) (h : ∀ (i : Nat) v, vs[i]? = some v → ∃ t, ts[i]? = some t ∧ IsT H t v) : TsAt H ts vs := ⟨hl, fun i t v h1 h2 => by
  obtain ⟨t', e, q⟩ := h i v h2
  rw [h1] at e
  cases e
  exact q⟩
end Rd
namespace Rd
open PySem L2
/-- any walk over a list -/
theorem walkL {K : PySem.W.Frag} {a : Addr} {xs : List V} {GG : V → Hp → (Hp → Prop) → Prop} {H0 : Hp} {Qd : Hp → Prop} (Pv : Nat → Hp → Prop) (h0 : Pv 0 H0) (hl : ∀ i H, i ≤ xs.length → Pv i H → SqL K H a xs) (hs : ∀ i x H, xs[i]? = some x → Pv i H → GG x H (Pv (i + 1))) (hd : ∀ H, Pv xs.length H → Qd H) :
    ∃ W : Nat → Nat → Hp → Prop, (∃ m, W 0 m H0) ∧ ∀ i m H, W i m H →
      ((Itl K a).stop i H ∧ Qd H) ∨ ((Itl K a).go i H ∧ ∃ Nx : Hp → Prop, (∀ H', Nx H' → ∃ m', m' < m ∧ W (i + 1) m' H') ∧ ∀ x H', (Itl K a).yld i H x H' → GG x H' Nx) := by
  refine ⟨fun i m H => m = xs.length - i ∧ i ≤ xs.length ∧ Pv i H, ⟨xs.length, by simp, Nat.zero_le _, h0⟩, ?_⟩
  rintro i m H ⟨rfl, hi, p⟩
  have q := hl i H hi p
  by_cases hlt : i < xs.length
  · refine .inr ⟨⟨xs, xs[i], q, by simp [hlt]⟩, Pv (i + 1), fun H' p' => ⟨xs.length - (i + 1), by omega, rfl, hlt, p'⟩, fun x H' y => ?_⟩
    obtain ⟨e, y⟩ := y
    subst e
    exact hs i x _ (y xs q) p
  · have e : i = xs.length := by omega
    subst e
    exact .inl ⟨⟨xs, q, Nat.le_refl _⟩, hd H p⟩
theorem inV_strsX (t : Str) : ∀ nm : List Str, inV (V.str t) (nm.map V.str) = decide (t ∈ nm)
  | [] => by simp [inV]
  | z :: r => by
    have ih := inV_strsX t r
    unfold inV at ih ⊢
    rw [List.map_cons, List.any_cons, ih]
    show ((z == t) || _) = _
    by_cases e : z = t
    · subst e; simp
    · have e' : t ≠ z := fun q => e q.symm
      simp [e, e']
abbrev Row := List Str × Tr
def IsRow (K : PySem.W.Frag) (H : Hp) (r : Row) (v : V) : Prop := ∃ (a : Addr) (u : V), v = .ref a ∧ H a = some (.tup (r.1.map V.str ++ [u])) ∧ IsLet K H r.2 u
def IsRowF (H : Hp) (r : Row) (v : V) : Prop := ∃ (a : Addr) (u : V), v = .ref a ∧ H a = some (.tup (r.1.map V.str ++ [u])) ∧ IsT H r.2 u
theorem IsRow.mono {K : PySem.W.Frag} {H H' : Hp} {r : Row} {v : V} (k : Kp (He.ga K "Letter") H H') (h : IsRow K H r v) : IsRow K H' r v := by
  obtain ⟨a, u, e, h1, h2⟩ := h
  exact ⟨a, u, e, k _ _ rfl h1, h2.mono k⟩
theorem IsRow.same {K : PySem.W.Frag} {H H' : Hp} {r : Row} {v : V} (s : Same H H') (h : IsRow K H r v) : IsRow K H' r v := h.mono (Kp.of_same s)
theorem IsRowF.mono {C : Addr} {H H' : Hp} {r : Row} {v : V} (k : Kp C H H') (h : IsRowF H r v) : IsRowF H' r v := by
  obtain ⟨a, u, e, h1, h2⟩ := h
  exact ⟨a, u, e, k _ _ rfl h1, h2.mono k⟩
theorem IsRowF.same {H H' : Hp} {r : Row} {v : V} (s : Same H H') (h : IsRowF H r v) : IsRowF H' r v := h.mono (C := 0) (Kp.of_same s)
structure RsAt (R : Hp → Row → V → Prop) (H : Hp) (rs : List Row) (vs : List V) : Prop where
  len : vs.length = rs.length
  get : ∀ (i : Nat) r v, rs[i]? = some r → vs[i]? = some v → R H r v
theorem RsAt.mp {R R' : Hp → Row → V → Prop} {H H' : Hp} {rs : List Row} {vs : List V} (h : RsAt R H rs vs) (f : ∀ r v, R H r v → R' H' r v) : RsAt R' H' rs vs := ⟨h.len, fun i r v a b => f r v (h.get i r v a b)⟩
theorem RsAt.at_ {R : Hp → Row → V → Prop} {H : Hp} {rs : List Row} {vs : List V} (h : RsAt R H rs vs) {i : Nat} {v : V} (hv : vs[i]? = some v) : ∃ r, rs[i]? = some r ∧ R H r v := by
  have hlt := (List.getElem?_eq_some_iff.mp hv).1
  have hl := h.len
  have hw : rs[i]? = some rs[i] := List.getElem?_eq_getElem (by omega)
  exact ⟨_, hw, h.get i _ _ hw hv⟩
theorem RsAt.nil {R : Hp → Row → V → Prop} {H : Hp} : RsAt R H [] [] := ⟨rfl, fun i r v h => by simp at h⟩
theorem RsAt.snoc {R : Hp → Row → V → Prop} {H : Hp} {rs : List Row} {vs : List V} {r : Row} {v : V} (h : RsAt R H rs vs) (g : R H r v) : RsAt R H (rs ++ [r]) (vs ++ [v]) := by
  have hl := h.len
  refine ⟨by rw [List.length_append, List.length_append, hl]; rfl, fun i p u a b => ?_⟩
  by_cases hi : i < rs.length
  · rw [List.getElem?_append_left hi] at a
    rw [List.getElem?_append_left (by omega)] at b
    exact h.get i p u a b
  · rw [List.getElem?_append_right (by omega)] at a
    rw [List.getElem?_append_right (by omega)] at b
    rw [hl] at b
    cases e : i - rs.length with
    | zero =>
      rw [e] at a b
      cases a
      cases b
      exact g
    | succ j =>
      rw [e] at a
      simp at a
/-- a row's shape: await, send, or claim with a text -/
def rowOk (r : Row) : Prop := (r.1 = (["await"] : List Str) ∨ r.1 = (["send"] : List Str) ∨ ∃ x : Str, r.1 = ([("claim" : Str), x] : List Str) ∧ x.length ≤ 200000) ∧ Wf r.2
end Rd
namespace Rd
open PySem L2
structure AtL {β : Type} (R : Hp → β → V → Prop) (H : Hp) (bs : List β) (vs : List V) : Prop where
  len : vs.length = bs.length
  get : ∀ (i : Nat) b v, bs[i]? = some b → vs[i]? = some v → R H b v
theorem AtL.ts {H : Hp} {bs : List Tr} {vs : List V} (h : AtL IsT H bs vs) : TsAt H bs vs := ⟨h.len, h.get⟩
theorem AtL.nil {β : Type} {R : Hp → β → V → Prop} {H : Hp} : AtL R H [] [] := ⟨rfl, fun i r v h => by simp at h⟩
theorem AtL.snoc {β : Type} {R : Hp → β → V → Prop} {H : Hp} {rs : List β} {vs : List V} {r : β} {v : V} (h : AtL R H rs vs) (g : R H r v) : AtL R H (rs ++ [r]) (vs ++ [v]) := by
  have hl := h.len
  refine ⟨by rw [List.length_append, List.length_append, hl]; rfl, fun i p u a b => ?_⟩
  by_cases hi : i < rs.length
  · rw [List.getElem?_append_left hi] at a
    rw [List.getElem?_append_left (by omega)] at b
    exact h.get i p u a b
  · rw [List.getElem?_append_right (by omega)] at a
    rw [List.getElem?_append_right (by omega)] at b
    rw [hl] at b
    cases e : i - rs.length with
    | zero =>
      rw [e] at a b
      cases a
      cases b
      exact g
    | succ j =>
      rw [e] at a
      simp at a
theorem AtL.mp {β : Type} {R R' : Hp → β → V → Prop} {H H' : Hp} {rs : List β} {vs : List V} (h : AtL R H rs vs) (f : ∀ r v, R H r v → R' H' r v) : AtL R' H' rs vs := ⟨h.len, fun i r v a b => f r v (h.get i r v a b)⟩
/-- [te for x in xs if tt] -/
theorem lcg {α β : Type} {K : PySem.W.Frag} {C a D : Addr} {xs : List V} {ds : List α} {R : Hp → β → V → Prop} {tt : TT} {te : TE} {i0 : Nat} {σ : St} {H1 : Hp} {Qd : Hp → Prop} (p : α → Bool) (g : α → β) (rm : ∀ H H' b v, Kp C H H' → R H b v → R H' b v) (hS : SqL K H1 a xs) (he : xs.length = ds.length) (hl : xs.length ≤ 100000) (hD : H1 D = none)
    (htt : ∀ (i : Nat) (x : V) (d : α) (H : Hp) (Q : Bool → Hp → Prop), xs[i]? = some x → ds[i]? = some d → Same H1 H → (∀ H', Same H H' → Q (p d) H') → tt ((wipe σ [i0]).set i0 (some x)) H Q)
    (hte : ∀ (i : Nat) (x : V) (d : α) (H : Hp) (Q : VK), xs[i]? = some x → ds[i]? = some d → p d = true → Same H1 H → (∀ v H', Same H H' → R H' (g d) v → Q v H') → te ((wipe σ [i0]).set i0 (some x)) H Q)
    (hq : ∀ vs H', Same H1 H' → H' D = some (.lst vs) → AtL R H' ((ds.filter p).map g) vs → Qd H') :
    ∃ W : Nat → Nat → Hp → Prop, (∃ m, W 0 m (L2.upd H1 D (.lst []))) ∧ ∀ i m H, W i m H →
      ((Itl K a).stop i H ∧ Qd H) ∨ ((Itl K a).go i H ∧ ∃ Nx : Hp → Prop, (∀ H', Nx H' → ∃ m', m' < m ∧ W (i + 1) m' H') ∧ ∀ x H', (Itl K a).yld i H x H' → gName i0 x (wipe σ [i0]) H' fun σ2 H2 => wipe σ2 [i0] = wipe σ [i0] ∧ tt σ2 H2 fun b H3 =>
        if b = true then te σ2 H3 fun y H4 => ∃ acc, H4 D = some (.lst acc) ∧ acc.length < sizeLine ∧ Nx (L2.upd H4 D (.lst (acc ++ [y]))) else Nx H3) := by
  refine walkL (K := K) (a := a) (xs := xs) (fun i H => ∃ vs, Same H1 H ∧ H D = some (.lst vs) ∧ AtL R H (((ds.take i).filter p).map g) vs) ⟨[], Rd.Same.upd hD, upd_same, AtL.nil⟩ (fun i H _ ⟨_, s, _⟩ => SqL.kept hS s) ?_ ?_
  · rintro i x H hx ⟨vs, sm, hd, hv⟩
    have hlt := (List.getElem?_eq_some_iff.mp hx).1
    have ht : ds[i]? = some ds[i] := List.getElem?_eq_getElem (by omega)
    have etk : ds.take (i + 1) = ds.take i ++ [ds[i]] := by rw [List.take_succ, ht]; rfl
    refine gName_k ⟨by simp [wipe], ?_⟩
    refine htt i x _ H _ hx ht sm fun H2 s2 => ?_
    cases ep : p ds[i] with
    | false =>
      refine iteF ⟨vs, sm.trans s2, s2 _ _ hd, ?_⟩
      rw [etk, List.filter_append, List.filter_cons_of_neg (by rw [ep]; decide), List.filter_nil, List.append_nil]
      exact hv.mp fun r v h => rm _ _ _ _ (Kp.of_same s2) h
    | true =>
      refine iteT (hte i x _ H2 _ hx ht ep (sm.trans s2) fun v H3 s3 h3 => ?_)
      have hD3 := s3 _ _ (s2 _ _ hd)
      have kp := Kp.upd_lst (C := C) (ys := vs ++ [v]) hD3
      have hvl := hv.len
      have hfl : (((ds.take i).filter p).map g).length ≤ i := by
        rw [List.length_map]
        refine Nat.le_trans (List.length_filter_le _ _) ?_
        rw [List.length_take]
        omega
      have big : 16777216 ≤ sizeLine := by decide
      refine ⟨vs, hD3, by omega, vs ++ [v], fun c o e => ?_, upd_same, ?_⟩
      · rw [upd_ne (ne_of_none e hD)]
        exact s3 _ _ (s2 _ _ (sm _ _ e))
      · rw [etk, List.filter_append, List.filter_cons_of_pos ep, List.filter_nil, List.map_append]
        exact (hv.mp fun r v h => rm _ _ _ _ ((Kp.of_same (s2.trans s3)).trans kp) h).snoc (rm _ _ _ _ kp h3)
  · rintro H ⟨vs, sm, hd, hv⟩
    rw [he, List.take_length] at hv
    exact hq vs H sm hd hv
theorem IsOpen.same {ts o1 o2 : List Tr} (h : IsOpen ts o1) (g : IsOpen ts o2) (t : Tr) : t ∈ o1 ↔ t ∈ o2 := ⟨h.least _ g.base g.pcl g.scl t, g.least _ h.base h.pcl h.scl t⟩
def AW : List Str := ["await"]
theorem txt_isUnkX {t : Tr} (wf : Wf t) : ∀ x ∈ t.txt "unknown", isUnk x = true := by
  induction t with
  | am k y =>
    intro x hx
    rcases wf.shp with ⟨_, _, e, ko⟩ | ⟨_, _, e, _⟩ | ⟨_, _, _, e, _⟩
    · cases e
      have hx : x ∈ (if k = "unknown" then [y] else []) := hx
      by_cases e : k = "unknown"
      · rw [if_pos e] at hx
        subst e
        rw [List.mem_singleton.mp hx]
        rcases ko with ⟨e, _⟩ | ⟨e, _⟩ | ⟨_, h⟩
        · exact absurd e (by decide +kernel)
        · exact absurd e (by decide +kernel)
        · exact h
      · rw [if_neg e] at hx
        cases hx
    · cases e
    · cases e
  | un s a ih =>
    rcases wf.shp with ⟨_, _, e, _⟩ | ⟨_, _, e, _, wa⟩ | ⟨_, _, _, e, _⟩
    · cases e
    · cases e; exact ih wa
    · cases e
  | bi s a b iha ihb =>
    rcases wf.shp with ⟨_, _, e, _⟩ | ⟨_, _, e, _⟩ | ⟨_, _, _, e, _, wa, wb⟩
    · cases e
    · cases e
    · cases e
      intro x hx
      rcases List.mem_append.mp hx with h | h
      · exact iha wa x h
      · exact ihb wb x h
end Rd
namespace Rd
open PySem L2
theorem rowOk.head {r : Row} (h : rowOk r) : ∃ k0 kr, r.1 = k0 :: kr ∧ (k0 = "await" ↔ r.1 = AW) := by
  rcases h.1 with e | e | ⟨x, e, _⟩
  · exact ⟨_, _, e, by rw [e]; exact ⟨fun _ => rfl, fun _ => rfl⟩⟩
  · exact ⟨_, _, e, by rw [e]; exact ⟨fun z => absurd z (by decide +kernel), fun z => absurd z (by decide +kernel)⟩⟩
  · refine ⟨_, _, e, ?_⟩
    rw [e]
    refine ⟨fun z => absurd z (by decide +kernel), fun z => ?_⟩
    have := congrArg List.length z
    cases this
end Rd
namespace Rd
open PySem L2
/-- what a role is made of -/
structure RoleD where
  ti : Str
  ps : List Str
  ks : List Tr
  fr : List Str
  rs : List Row
/-- the role at x -/
def IsRole (K : PySem.W.Frag) (H : Hp) (x : Addr) (r : RoleD) : Prop := ∃ (dx q tp tk tf tr : Addr) (uk ur : List V), H x = some (.ins (He.ga K "Role") dx [("title", .str r.ti), ("kept", .ref q)]) ∧ H q = some (.tup [.ref tp, .ref tk, .ref tf, .ref tr]) ∧
  H tp = some (.tup (r.ps.map V.str)) ∧ H tk = some (.tup uk) ∧ LsAt K H r.ks uk ∧ H tf = some (.tup (r.fr.map V.str)) ∧ H tr = some (.tup ur) ∧ RsAt (IsRow K) H r.rs ur
theorem IsRole.same {K : PySem.W.Frag} {H H' : Hp} {x : Addr} {r : RoleD} (s : Same H H') (h : IsRole K H x r) : IsRole K H' x r := by
  obtain ⟨dx, q, tp, tk, tf, tr, uk, ur, h1, h2, h3, h4, h5, h6, h7, h8⟩ := h
  exact ⟨dx, q, tp, tk, tf, tr, uk, ur, s _ _ h1, s _ _ h2, s _ _ h3, s _ _ h4, h5.same s, s _ _ h6, s _ _ h7, h8.mp fun r v h => h.same s⟩
end Rd
namespace Rd
open PySem L2
def Shp (n : Nat) (d : PyData) : Prop := d.canLay0 = true ∧ d.depth ≤ n
theorem Shp.all {n : Nat} : ∀ {ds : List PyData}, (∀ d ∈ ds, Shp n d) → PyData.canLayAll0 ds = true ∧ PyData.depthAll ds ≤ n
  | [], _ => ⟨rfl, Nat.zero_le _⟩
  | d :: ds, h => by
    obtain ⟨a, b⟩ := Shp.all fun y hy => h y (List.mem_cons_of_mem _ hy)
    obtain ⟨c, e⟩ := h d List.mem_cons_self
    refine ⟨?_, ?_⟩
    · show (d.canLay0 && PyData.canLayAll0 ds) = true
      rw [a, c]
      rfl
    · show max d.depth (PyData.depthAll ds) ≤ n
      omega
theorem Shp.list {n : Nat} {ds : List PyData} (h : ∀ d ∈ ds, Shp n d) : Shp (n + 1) (.list ds) := ⟨(Shp.all h).1, Nat.succ_le_succ (Shp.all h).2⟩
theorem Shp.tup {n : Nat} {ds : List PyData} (h : ∀ d ∈ ds, Shp n d) : Shp (n + 1) (.tuple ds) := ⟨(Shp.all h).1, Nat.succ_le_succ (Shp.all h).2⟩
theorem Shp.str {n : Nat} {x : Str} (h : okS x) : Shp n (.str x) := ⟨strOk_of h, Nat.zero_le _⟩
theorem Shp.mono {n m : Nat} {d : PyData} (h : Shp n d) (e : n ≤ m) : Shp m d := ⟨h.1, Nat.le_trans h.2 e⟩
theorem Shp.shaped {n : Nat} {d : PyData} (h : Shp n d) (e : n ≤ 64) : SeqAt.shaped d = true := by
  show (d.canLay0 && decide (d.depth ≤ 64)) = true
  rw [h.1, decide_eq_true (Nat.le_trans h.2 e)]
  rfl
theorem AtL.rs {R : Hp → Row → V → Prop} {H : Hp} {rs : List Row} {vs : List V} (h : AtL R H rs vs) : RsAt R H rs vs := ⟨h.len, h.get⟩
/-- nothing but lists changes -/
def KN (H H' : Hp) : Prop := ∀ c o, (∀ l, o ≠ .lst l) → H c = some o → H' c = some o
theorem KN.trans {H H1 H2 : Hp} (a : KN H H1) (b : KN H1 H2) : KN H H2 := fun c o hc h => b c o hc (a c o hc h)
theorem KN.upd {H : Hp} {a : Addr} {xs ys : List V} (h : H a = some (.lst xs)) : KN H (L2.upd H a (.lst ys)) := fun c o hc e => by
  rw [upd_ne (fun z => by rw [z, h] at e; cases e; exact hc _ rfl)]
  exact e
theorem KN.kp {C : Addr} {H H' : Hp} (k : KN H H') : Kp C H H' := fun c o hi e => k c o (fun l z => by rw [z] at hi; cases hi) e
end Rd
namespace Rd
open PySem L2
def hasUnk (t : Tr) : Bool := !(t.txt "unknown").isEmpty
def sp_plainB (K : PySem.W.Frag) (d : Nat) : Sp := fun vs H Q _ => ∃ (a : Addr) (v : V) (t : Tr), vs = [.ref a] ∧ IsL K H a v ∧ IsT H t v ∧ Wf t ∧ t.dep ≤ d ∧ d ≤ 10 ∧ ∀ H', Same H H' → Q (.bl (!hasUnk t)) H'
structure BookD where
  roles : List RoleD
  known : List Tr
def IsRoleV (K : PySem.W.Frag) (H : Hp) (r : RoleD) (v : V) : Prop := ∃ x, v = .ref x ∧ IsRole K H x r
theorem IsRoleV.same {K : PySem.W.Frag} {H H' : Hp} {r : RoleD} {v : V} (s : Same H H') (h : IsRoleV K H r v) : IsRoleV K H' r v := by
  obtain ⟨x, e, h⟩ := h
  exact ⟨x, e, h.same s⟩
def IsBook (K : PySem.W.Frag) (H : Hp) (x : Addr) (b : BookD) : Prop := ∃ (dx q tr tk : Addr) (vr vk : List V), H x = some (.ins (He.ga K "Book") dx [("kept", .ref q)]) ∧ H q = some (.tup [.ref tr, .ref tk]) ∧ H tr = some (.tup vr) ∧ AtL (IsRoleV K) H b.roles vr ∧ H tk = some (.tup vk) ∧ LsAt K H b.known vk
theorem IsBook.same {K : PySem.W.Frag} {H H' : Hp} {x : Addr} {b : BookD} (s : Same H H') (h : IsBook K H x b) : IsBook K H' x b := by
  obtain ⟨dx, q, tr, tk, vr, vk, h1, h2, h3, h4, h5, h6⟩ := h
  exact ⟨dx, q, tr, tk, vr, vk, s _ _ h1, s _ _ h2, s _ _ h3, h4.mp fun r v h => h.same s, s _ _ h5, h6.same s⟩
section
variable {P : Program} {w : World} {K : PySem.W.Frag} {mg : Str → Option Value} {base : Heap}
abbrev s_is_plain : Stmt := top 26
theorem sc_is_plain : FnScope ["letter"] ["letter"] (defScope s_is_plain) := ⟨rfl, rfl, rfl, by decide +kernel, rfl, by decide +kernel, by decide +kernel⟩
theorem ok_is_plainB (T : Tx w K mg) (d : Nat) : Fk P w K mg base CX0 (d + 5) "is_plain" ["letter"] (sp_plainB K d) := by
  refine T.F_is_plain.ok0 sc_is_plain (fun _ _ _ _ _ _ us hl => match us, hl with | [_], _ => rfl)
    (fun vs H Q E h => ?_) (fun cdv A outer s H vs Q E hr h => ?_)
  · obtain ⟨a, v, t, rfl, _⟩ := h
    rfl
  · obtain ⟨a, v, t, rfl, ⟨dx, ha⟩, it, wf, dp, d10, k⟩ := h
    refine ⟨_, (pss_one (ps_ret (pe_cmpR (op_eqD hr.units) (pe_fm0 (pv 0) T.k_Letter (ok_unknowns T d) (hr.mono (by omega)) pass0) (pe_lst pa_nil) (nomark _)))), ?_⟩
    refine ⟨_, rfl, a, dx, _, rfl, ha, lookT (by decide +kernel), a, v, t, rfl, ⟨dx, ha⟩, it, wf, dp, d10, fun p H1 s1 np hp1 => ?_⟩
    refine ⟨Nat.zero_le _, fun q hq => ?_⟩
    have sq := Rd.Same.upd (o := .lst []) hq
    have hsh : SeqAt.shaped (.list ((uniS (t.txt "unknown")).map PyData.str)) = true := str_shaped fun x hx => (unk_len (txt_isUnkX wf x (uniS_mem.mp hx))).2.2
    refine ⟨.list ((uniS (t.txt "unknown")).map PyData.str), .list [], .lst (SqL.of (sq _ _ hp1)) (dpAll_str _), .lst (SqL.of upd_same) .nil, hsh, rfl, ?_⟩
    have e : PyData.eqv (.list ((uniS (t.txt "unknown")).map PyData.str)) (.list []) = !hasUnk t := by
      unfold hasUnk
      cases e1 : t.txt "unknown" with
      | nil => rfl
      | cons x l =>
        cases e2 : uniS (x :: l) with
        | nil =>
          have : x ∈ uniS (x :: l) := uniS_mem.mpr List.mem_cons_self
          rw [e2] at this
          cases this
        | cons y m => rfl
    rw [e]
    exact k _ (s1.trans sq)
end
end Rd
namespace Rd
open PySem L2
section
variable {P : Program} {w : World} {K : PySem.W.Frag} {mg : Str → Option Value} {base : Heap}
abbrev s_filled_tree : Stmt := top 21
theorem sc_filled_tree : FnScope ["tree", "trees", "part"] ["tree", "trees"] (defScope s_filled_tree) := ⟨rfl, rfl, rfl, by decide +kernel, rfl, by decide +kernel, by decide +kernel⟩
theorem ft_step (T : Tx w K mg) (d : Nat) (ih : Fk P w K mg base CX0 (d + 1) "filled_tree" ["tree", "trees"] (spFR d)) : Fk P w K mg base CX0 (d + 2) "filled_tree" ["tree", "trees"] (sp_fill d) := by
  refine T.F_filled_tree.ok0 sc_filled_tree (fun _ _ _ _ _ _ us hl => match us, hl with | [_, _], _ => rfl)
    (fun vs H Q E h => ?_) (fun cdv A outer s H vs Q E hr h => ?_)
  · obtain ⟨v, a, t, m, rfl, _⟩ := h
    rfl
  · obtain ⟨v, a, t, m, rfl, it, wf, dp, hm, k⟩ := h
    refine ⟨_, (pss_cons (ps_if (pt_cmpR op_eq (pe_ix ix_tup (pv 0) pe_int (fun _ _ => rfl)) pe_str (nomark _))
  (pss_one (ps_ret (pe_dget2 (hu_of hr) (pv 1) (pe_ix ix_tup (pv 0) pe_int (fun _ _ => rfl)) (pv 0) ⟨by rfl, by rfl, by rfl, by rfl⟩)))
  pss_nil)
  (pss_cons (ps_if (pt_cmpR (op_inK T.D_SIGNS) (pe_ix ix_tup (pv 0) pe_int (fun _ _ => rfl)) (pe_kd T.D_SIGNS) (by rfl))
  (pss_one (ps_ret (pe_op op_catT (pe_tup (pa_cons (pe_ix ix_tup (pv 0) pe_int (fun _ _ => rfl)) pa_nil)) (pe_callTy call_tuple_of (by rfl) T.z_tuple (by decide +kernel) (pa_cons (pe_lc (own := [("part", 2)]) (g := gName 2) (tt := tYes) (by rfl) sc_filled_tree.nd (pi_tup (pe_slice sl_tup (pv 0) (po_some pe_int) po_none)) (blkOk_by (own := [("part", 2)]) (N := ["tree", "trees", "part"]) (sc := defScope s_filled_tree) (by decide +kernel)) (fun _ _ _ _ _ => (pg_name (i := 2) sc_filled_tree.nd rfl (Or.inl rfl))) (fun _ _ _ _ _ => pts_nil) (fun _ _ _ _ _ => (pe_fk ih (hr.mono (by omega)) rfl pass0 (pa_cons (pv 2) (pa_cons (pv 1) pa_nil))))) pa_nil)))))
  pss_nil)
  (pss_one (ps_ret (pv 0))))), ?_⟩
    have big : 16777216 ≤ sizeLine := by decide
    by_cases hpt : t.parts ≠ []
    · obtain ⟨hsg, hws⟩ := wf.sign hpt
      obtain ⟨pf, us, rfl, hp, hlu, hl2, hne, hus⟩ := it.parts hpt
      have h4 : ¬ decide (V.str t.head = V.str "unknown") = true := by
        have : ∀ z ∈ (["mark", "open", "own", "pair", "seal", "lock"] : List Str), ¬ decide (V.str z = V.str "unknown") = true := by decide +kernel
        exact this _ hsg
      refine ⟨_, rfl, pf, _, _, _, rfl, rfl, SqT.of hp, at_of (j := 0) rfl rfl, rfl, _, rfl, iteN h4 ?_⟩
      refine ⟨_, rfl, pf, _, _, _, rfl, rfl, SqT.of hp, at_of (j := 0) rfl rfl, _, rfl, rfl, _, rfl, iteP (decide_eq_true (mem_to (by decide +kernel) hsg)) ?_⟩
      refine ⟨_, rfl, pf, _, _, _, rfl, rfl, SqT.of hp, at_of (j := 0) rfl rfl, (by show 1 ≤ sizeLine; decide), fun q hq => ?_⟩
      have sq := Rd.Same.upd (o := .tup [.str t.head]) hq
      have hq1 : upd H q (.tup [.str t.head]) q = some (.tup [.str t.head]) := upd_same
      generalize upd H q (.tup [.str t.head]) = Hq at sq hq1
      refine ⟨_, rfl, _, rfl, pf, _, rfl, SqT.of (sq _ _ hp), ?_, fun p2 hp2 => ?_⟩
      · rintro ⟨z, _⟩
        rw [show (1 : Int) = ((1 : Nat) : Int) from rfl, HT.sIx_nat, List.length_cons] at z
        omega
      rw [cut1]
      have s2 := Rd.Same.upd (o := .tup us) hp2
      refine ⟨p2, rfl, ⟨_, SqT.of upd_same⟩, fun D hD => ?_⟩
      refine lct (C := 0) (fun i H v => ∃ r, t.parts[i]? = some r ∧ IsT H (fill m r) v) (fun i H H' v kp h => ?_) (SqT.of upd_same) (by omega) hD (fun i x H1 Q1 hx s1 k1 => ?_) fun vs H1 s1 hD1 hlv hvs => ?_
      · obtain ⟨r, e, h⟩ := h
        exact ⟨r, e, h.mono kp⟩
      · obtain ⟨r, hr1, hr2⟩ := hus i x hx
        obtain ⟨w1, w2⟩ := hws r (List.mem_of_getElem? hr1)
        have s01 := (sq.trans s2).trans s1
        cases d with
        | zero => exact absurd dp (by omega)
        | succ d => exact ⟨_, rfl, _, rfl, x, a, r, m, rfl, hr2.same s01, w1, (by omega), hm.same s01, fun u H' s' hu => k1 _ H' s' ⟨r, hr1, hu⟩⟩
      have hlv2 : vs.length = t.parts.length := hlv.trans hlu
      refine ⟨D, vs, rfl, .inl ⟨SqL.of hD1, fun l' hl' => ?_⟩⟩
      have sl := Rd.Same.upd (o := .tup vs) hl'
      have sb := (s2.trans s1).trans sl
      refine ⟨q, l', [.str t.head], vs, rfl, rfl, SqT.of (sb _ _ hq1), SqT.of upd_same, (fun e => by cases e), (by show 1 + vs.length ≤ sizeLine; omega), fun e => ?_, fun _ p hp3 => ?_⟩
      · subst e
        exact absurd hlv (by intro h; exact hpt (List.length_eq_zero_iff.mp (by rw [← hlv2]; rfl)))
      have sp := Rd.Same.upd (o := .tup ([.str t.head] ++ vs)) hp3
      refine k (.ref p) _ ((sq.trans sb).trans sp) (fill_tup hpt upd_same hlv2 fun i v hv => ?_)
      obtain ⟨r, e, h⟩ := hvs i v hv
      exact ⟨r, e, (h.same sl).same sp⟩
    · cases wf with
      | @am k0 x0 ko =>
        have ikeep := it
        obtain ⟨pf, rfl, hp⟩ := it
        refine ⟨_, rfl, pf, _, _, _, rfl, rfl, SqT.of hp, at_of (j := 0) rfl rfl, rfl, _, rfl, ?_⟩
        rcases ko with ⟨rfl, hx⟩ | ⟨rfl, hx⟩ | ⟨rfl, hx⟩
        · refine iteN (by decide +kernel) ?_
          refine ⟨_, rfl, pf, _, _, _, rfl, rfl, SqT.of hp, at_of (j := 0) rfl rfl, _, rfl, rfl, _, rfl, iteN (by decide +kernel) ?_⟩
          refine ⟨_, rfl, k _ H (Same.refl _) ?_⟩
          rw [fill, if_neg (by decide +kernel)]
          exact ikeep
        · refine iteN (by decide +kernel) ?_
          refine ⟨_, rfl, pf, _, _, _, rfl, rfl, SqT.of hp, at_of (j := 0) rfl rfl, _, rfl, rfl, _, rfl, iteN (by decide +kernel) ?_⟩
          refine ⟨_, rfl, k _ H (Same.refl _) ?_⟩
          rw [fill, if_neg (by decide +kernel)]
          exact ikeep
        · refine iteP (by decide +kernel) ?_
          obtain ⟨o, g1, g2, g3⟩ := hm.get (x := x0)
          refine ⟨_, rfl, a, rfl, hm.isD, _, rfl, pf, _, _, _, rfl, rfl, SqT.of hp, at_of (j := 1) rfl rfl, _, rfl, o, g1, k _ H (Same.refl _) ?_⟩
          rw [fill, if_pos rfl]
          cases e : m x0 with
          | none => rw [g3 e]; exact ikeep
          | some t => obtain ⟨v, e2, iv⟩ := g2 t e; rw [e2]; exact iv
      | _ => exact absurd (fun e => by cases e) hpt
theorem ft_none (T : Tx w K mg) : Fk P w K mg base CX0 1 "filled_tree" ["tree", "trees"] (spFR 0) := by
  refine T.F_filled_tree.ok0 sc_filled_tree (fun _ _ _ _ _ _ us hl => match us, hl with | [_, _], _ => rfl) (fun vs H Q E h => h.elim) (fun cdv A outer s H vs Q E hr h => h.elim)
theorem ok_filled_tree (T : Tx w K mg) : ∀ d : Nat, Fk P w K mg base CX0 (d + 2) "filled_tree" ["tree", "trees"] (sp_fill d)
  | 0 => ft_step T 0 (ft_none T)
  | d + 1 => ft_step T (d + 1) (ok_filled_tree T d)
end
end Rd
namespace Rd
open PySem L2
section
variable {P : Program} {w : World} {K : PySem.W.Frag} {mg : Str → Option Value} {base : Heap}
abbrev s__law_filled : Stmt := top 49
theorem sc__law_filled : FnScope ["_law_form", "_law_forms", "_law_part"] ["_law_form", "_law_forms"] (defScope s__law_filled) := ⟨rfl, rfl, rfl, by decide +kernel, rfl, by decide +kernel, by decide +kernel⟩
theorem lf_step (T : Tx w K mg) (d : Nat) (ih : Fk P w K mg base CX0 (d + 1) "_law_filled" ["_law_form", "_law_forms"] (spFR d)) : Fk P w K mg base CX0 (d + 2) "_law_filled" ["_law_form", "_law_forms"] (sp_fill d) := by
  refine T.F__law_filled.ok0 sc__law_filled (fun _ _ _ _ _ _ us hl => match us, hl with | [_, _], _ => rfl)
    (fun vs H Q E h => ?_) (fun cdv A outer s H vs Q E hr h => ?_)
  · obtain ⟨v, a, t, m, rfl, _⟩ := h
    rfl
  · obtain ⟨v, a, t, m, rfl, it, wf, dp, hm, k⟩ := h
    refine ⟨_, (pss_cons (ps_if (pt_cmpR op_eq (pe_ix ix_tup (pv 0) pe_int (fun _ _ => rfl)) pe_str (nomark _))
  (pss_one (ps_ret (pe_dget2 (hu_of hr) (pv 1) (pe_ix ix_tup (pv 0) pe_int (fun _ _ => rfl)) (pv 0) ⟨by rfl, by rfl, by rfl, by rfl⟩)))
  pss_nil)
  (pss_cons (ps_if (pt_cmpR op_inT (pe_ix ix_tup (pv 0) pe_int (fun _ _ => rfl)) (pe_tup (pa_cons pe_str (pa_cons pe_str pa_nil))) (by rfl))
  (pss_one (ps_ret (pv 0)))
  pss_nil)
  (pss_one (ps_ret (pe_op op_catT (pe_tup (pa_cons (pe_ix ix_tup (pv 0) pe_int (fun _ _ => rfl)) pa_nil)) (pe_callTy call_tuple_of (by rfl) T.z_tuple (by decide +kernel) (pa_cons (pe_lc (own := [("_law_part", 2)]) (g := gName 2) (tt := tYes) (by rfl) sc__law_filled.nd (pi_tup (pe_slice sl_tup (pv 0) (po_some pe_int) po_none)) (blkOk_by (own := [("_law_part", 2)]) (N := ["_law_form", "_law_forms", "_law_part"]) (sc := defScope s__law_filled) (by decide +kernel)) (fun _ _ _ _ _ => (pg_name (i := 2) sc__law_filled.nd rfl (Or.inl rfl))) (fun _ _ _ _ _ => pts_nil) (fun _ _ _ _ _ => (pe_fk ih (hr.mono (by omega)) rfl pass0 (pa_cons (pv 2) (pa_cons (pv 1) pa_nil))))) pa_nil))))))), ?_⟩
    have big : 16777216 ≤ sizeLine := by decide
    by_cases hpt : t.parts ≠ []
    · obtain ⟨hsg, hws⟩ := wf.sign hpt
      obtain ⟨pf, us, rfl, hp, hlu, hl2, hne, hus⟩ := it.parts hpt
      have h4 : ¬ decide (V.str t.head = V.str "unknown") = true := by
        have : ∀ z ∈ (["mark", "open", "own", "pair", "seal", "lock"] : List Str), ¬ decide (V.str z = V.str "unknown") = true := by decide +kernel
        exact this _ hsg
      have h5 : ¬ decide (t.head ∈ (["word", "name"] : List Str)) = true := by
        have : ∀ z ∈ (["mark", "open", "own", "pair", "seal", "lock"] : List Str), ¬ decide (z ∈ (["word", "name"] : List Str)) = true := by decide +kernel
        exact this _ hsg
      refine ⟨_, rfl, pf, _, _, _, rfl, rfl, SqT.of hp, at_of (j := 0) rfl rfl, rfl, _, rfl, iteN h4 ?_⟩
      refine ⟨_, rfl, pf, _, _, _, rfl, rfl, SqT.of hp, at_of (j := 0) rfl rfl, (by show 2 ≤ sizeLine; decide), fun q0 hq0 => ⟨_, q0, ["word", "name"], rfl, rfl, SqT.of upd_same, _, rfl, iteN h5 ?_⟩⟩
      have s0 := Rd.Same.upd (o := .tup [.str "word", .str "name"]) hq0
      generalize upd H q0 (.tup [.str "word", .str "name"]) = H0 at s0
      refine ⟨_, rfl, pf, _, _, _, rfl, rfl, SqT.of (s0 _ _ hp), at_of (j := 0) rfl rfl, (by show 1 ≤ sizeLine; decide), fun q hq => ?_⟩
      have sq := s0.trans (Rd.Same.upd (o := .tup [.str t.head]) hq)
      have hq1 : upd H0 q (.tup [.str t.head]) q = some (.tup [.str t.head]) := upd_same
      generalize upd H0 q (.tup [.str t.head]) = Hq at sq hq1
      refine ⟨_, rfl, _, rfl, pf, _, rfl, SqT.of (sq _ _ hp), ?_, fun p2 hp2 => ?_⟩
      · rintro ⟨z, _⟩
        rw [show (1 : Int) = ((1 : Nat) : Int) from rfl, HT.sIx_nat, List.length_cons] at z
        omega
      rw [cut1]
      have s2 := Rd.Same.upd (o := .tup us) hp2
      refine ⟨p2, rfl, ⟨_, SqT.of upd_same⟩, fun D hD => ?_⟩
      refine lct (C := 0) (fun i H v => ∃ r, t.parts[i]? = some r ∧ IsT H (fill m r) v) (fun i H H' v kp h => ?_) (SqT.of upd_same) (by omega) hD (fun i x H1 Q1 hx s1 k1 => ?_) fun vs H1 s1 hD1 hlv hvs => ?_
      · obtain ⟨r, e, h⟩ := h
        exact ⟨r, e, h.mono kp⟩
      · obtain ⟨r, hr1, hr2⟩ := hus i x hx
        obtain ⟨w1, w2⟩ := hws r (List.mem_of_getElem? hr1)
        have s01 := (sq.trans s2).trans s1
        cases d with
        | zero => exact absurd dp (by omega)
        | succ d => exact ⟨_, rfl, _, rfl, x, a, r, m, rfl, hr2.same s01, w1, (by omega), hm.same s01, fun u H' s' hu => k1 _ H' s' ⟨r, hr1, hu⟩⟩
      have hlv2 : vs.length = t.parts.length := hlv.trans hlu
      refine ⟨D, vs, rfl, .inl ⟨SqL.of hD1, fun l' hl' => ?_⟩⟩
      have sl := Rd.Same.upd (o := .tup vs) hl'
      have sb := (s2.trans s1).trans sl
      refine ⟨q, l', [.str t.head], vs, rfl, rfl, SqT.of (sb _ _ hq1), SqT.of upd_same, (fun e => by cases e), (by show 1 + vs.length ≤ sizeLine; omega), fun e => ?_, fun _ p hp3 => ?_⟩
      · subst e
        exact absurd hlv (by intro h; exact hpt (List.length_eq_zero_iff.mp (by rw [← hlv2]; rfl)))
      have sp := Rd.Same.upd (o := .tup ([.str t.head] ++ vs)) hp3
      refine k (.ref p) _ ((sq.trans sb).trans sp) (fill_tup hpt upd_same hlv2 fun i v hv => ?_)
      obtain ⟨r, e, h⟩ := hvs i v hv
      exact ⟨r, e, (h.same sl).same sp⟩
    · cases wf with
      | @am k0 x0 ko =>
        have ikeep := it
        obtain ⟨pf, rfl, hp⟩ := it
        refine ⟨_, rfl, pf, _, _, _, rfl, rfl, SqT.of hp, at_of (j := 0) rfl rfl, rfl, _, rfl, ?_⟩
        rcases ko with ⟨rfl, hx⟩ | ⟨rfl, hx⟩ | ⟨rfl, hx⟩
        · refine iteN (by decide +kernel) ?_
          refine ⟨_, rfl, pf, _, _, _, rfl, rfl, SqT.of hp, at_of (j := 0) rfl rfl, (by show 2 ≤ sizeLine; decide), fun q0 hq0 => ⟨_, q0, ["word", "name"], rfl, rfl, SqT.of upd_same, _, rfl, iteP (by decide +kernel) ?_⟩⟩
          refine ⟨_, rfl, k _ _ (Rd.Same.upd hq0) ?_⟩
          rw [fill, if_neg (by decide +kernel)]
          exact ikeep.same (Rd.Same.upd hq0)
        · refine iteN (by decide +kernel) ?_
          refine ⟨_, rfl, pf, _, _, _, rfl, rfl, SqT.of hp, at_of (j := 0) rfl rfl, (by show 2 ≤ sizeLine; decide), fun q0 hq0 => ⟨_, q0, ["word", "name"], rfl, rfl, SqT.of upd_same, _, rfl, iteP (by decide +kernel) ?_⟩⟩
          refine ⟨_, rfl, k _ _ (Rd.Same.upd hq0) ?_⟩
          rw [fill, if_neg (by decide +kernel)]
          exact ikeep.same (Rd.Same.upd hq0)
        · refine iteP (by decide +kernel) ?_
          obtain ⟨o, g1, g2, g3⟩ := hm.get (x := x0)
          refine ⟨_, rfl, a, rfl, hm.isD, _, rfl, pf, _, _, _, rfl, rfl, SqT.of hp, at_of (j := 1) rfl rfl, _, rfl, o, g1, k _ H (Same.refl _) ?_⟩
          rw [fill, if_pos rfl]
          cases e : m x0 with
          | none => rw [g3 e]; exact ikeep
          | some t => obtain ⟨v, e2, iv⟩ := g2 t e; rw [e2]; exact iv
      | _ => exact absurd (fun e => by cases e) hpt
theorem lf_none (T : Tx w K mg) : Fk P w K mg base CX0 1 "_law_filled" ["_law_form", "_law_forms"] (spFR 0) := by
  refine T.F__law_filled.ok0 sc__law_filled (fun _ _ _ _ _ _ us hl => match us, hl with | [_, _], _ => rfl) (fun vs H Q E h => h.elim) (fun cdv A outer s H vs Q E hr h => h.elim)
theorem ok__law_filled (T : Tx w K mg) : ∀ d : Nat, Fk P w K mg base CX0 (d + 2) "_law_filled" ["_law_form", "_law_forms"] (sp_fill d)
  | 0 => lf_step T 0 (lf_none T)
  | d + 1 => lf_step T (d + 1) (ok__law_filled T d)
end
end Rd
namespace Rd
open PySem L2
section
variable {P : Program} {w : World} {K : PySem.W.Frag} {mg : Str → Option Value} {base : Heap}
def sp_filled (K : PySem.W.Frag) (d : Nat) : Sp := fun vs H Q _ => ∃ (a b : Addr) (u : V) (t : Tr) (kvs : List (Key × V)) (l : List (Str × Tr)), vs = [.ref a, .ref b] ∧ IsL K H a u ∧ IsT H t u ∧ Wf t ∧ t.dep ≤ d ∧ H b = some (.dK kvs) ∧ Al (IsLet K) H l kvs ∧ (l.map (·.1)).Nodup ∧ l.length ≤ 1000 ∧
  ∀ v H', Same H H' → IsLet K H' (fill (look l) t) v → Q v H'
abbrev s_Letter_filled : Stmt := inClass (top 25) 7
theorem sc_Letter_filled : FnScope ["self", "filling", "trees", "unknown", "letter"] ["self", "filling"] (defScope s_Letter_filled) := ⟨rfl, rfl, rfl, by decide +kernel, rfl, by decide +kernel, by decide +kernel⟩
theorem ok_filled (T : Tx w K mg) (d : Nat) : Fm P w K mg base CX0 (d + 6) "Letter" "filled" ["self", "filling"] (sp_filled K d) := by
  refine T.M_Letter_filled.ok0 sc_Letter_filled (fun _ _ _ _ _ _ us hl => match us, hl with | [_, _], _ => rfl)
    (fun vs H Q E h => ?_) (fun cdv A outer s H vs Q E hr h => ?_)
  · obtain ⟨a, b, u, t, kvs, l, rfl, _⟩ := h
    rfl
  · obtain ⟨a, b, u, t, kvs, l, rfl, ⟨dx, ha⟩, it, wf, dp, hb, al, nd, hl, k⟩ := h
    refine ⟨_, (pss_cons (ps_lock (ps_setDc (i := 2) (own := [("unknown", 3), ("letter", 4)])  (tt := tYes) (by rfl) sc_Letter_filled.nd rfl rfl (sw_trueD rfl rfl rfl (by decide +kernel)) (pi_items (pv 1)) (blkOk_by (own := [("unknown", 3), ("letter", 4)]) (N := ["self", "filling", "trees", "unknown", "letter"]) (sc := defScope s_Letter_filled) (by decide +kernel)) (fun _ _ _ _ _ => (pg_tupk (K := K) (n := 2) rfl rfl (pgs_cons (pg_name (i := 3) sc_Letter_filled.nd rfl (Or.inl rfl)) (pgs_cons (pg_name (i := 4) sc_Letter_filled.nd rfl (Or.inl rfl)) pgs_nil)))) (fun _ _ _ _ _ => pts_nil) (fun _ _ _ _ _ => (pv 3)) (fun _ _ _ _ _ => (pe_fldk (K := K) rfl (pv 4) rfl))))
  (pss_one (ps_ret (pe_mk2 (ok_Letter T) (hr.mono (by omega)) (by rfl) passN (pa_cons pe_str (pa_cons (pe_fk (ok_filled_tree T d) (hr.mono (by omega)) rfl pass0 (pa_cons (pe_fld (pv 0) rfl) (pa_cons (pv 2) pa_nil))) pa_nil)))))), ?_⟩
    refine ⟨b, _, hb, trivial, fun od => ?_⟩
    refine ⟨_, rfl, b, od, kvs, rfl, upd_same, fun D hD => ?_⟩
    have kb : Kp (He.ga K "Letter") H (upd H b (.frz od (.dK kvs))) := fun c o hi e => by
      rw [upd_ne (fun z => by rw [z, hb] at e; cases e; cases hi)]
      exact e
    refine dci (C := He.ga K "Letter") (l := l) (R1 := IsLet K) (R2 := IsT) id (fun _ _ _ _ kp h => h.mono kp) (fun _ _ _ _ kp h => h.mono kp) upd_same (al.mono fun t v h => h.mono kb) nd hl hD (fun _ _ => rfl) (fun _ _ => rfl) (fun i x t v σ2 H1 Q1 hx s1 r1 e k1 => ?_) fun kvs' H1 s1 hD1 al1 => ?_
    · subst e
      obtain ⟨a', u', rfl, ⟨dx', ha'⟩, iu'⟩ := r1
      exact ⟨_, rfl, a', _, dx', _, u', rfl, ha', T.k_Letter, T.n_Letter_tree, look1 _, k1 _ _ (Same.refl _) iu'⟩
    · refine gName_k ?_
      try dsimp only
      have hb1 := s1 _ _ (upd_same (H := H) (a := b))
      refine ⟨hb1, ?_⟩
      have sx : Same H (upd H1 b (.dK kvs)) := fun c o e => by
        by_cases z : c = b
        · subst z
          rw [hb] at e
          cases e
          exact upd_same
        · rw [upd_ne z]
          exact s1 _ _ (by rw [upd_ne z]; exact e)
      have neD : D ≠ b := fun z => by rw [z, upd_same] at hD; cases hD
      have hDx : upd H1 b (.dK kvs) D = some (.dK kvs') := by rw [upd_ne neD]; exact hD1
      have kx : Kp (He.ga K "Letter") H1 (upd H1 b (.dK kvs)) := fun c o hi e => by
        rw [upd_ne (fun z => by rw [z, hb1] at e; cases e; cases hi)]
        exact e
      have el : (l.map fun p => (p.1, id p.2)) = l := by simp
      rw [el] at al1
      generalize upd H1 b (.dK kvs) = Hx at sx hDx kx
      have dt : DTr Hx D (look l) := ⟨kvs', .inl hDx, fun x t e => ((al1.mono (S := IsT) fun t v h => h.mono kx).look (x := x)).1 t e, fun x e => (al1.look (x := x)).2 e⟩
      refine ⟨_, rfl, a, _, dx, _, u, rfl, sx _ _ ha, T.k_Letter, T.n_Letter_tree, look1 _, _, rfl, u, D, t, look l, rfl, it.same sx, wf, dp, dt, fun v H2 s2 iv => ?_⟩
      obtain ⟨p, us, rfl, hp⟩ := iv.hd
      exact rd_mkL hp fun x' H' s' hl' => k _ H' ((sx.trans s2).trans s') ⟨x', _, rfl, hl', iv.same s'⟩
end
end Rd
namespace Rd
open PySem L2
theorem mk_iff {t : Tr} (wf : Wf t) (h : t.head ≠ "word") : decide (t.head ∈ (["name", "unknown", "own"] : List Str)) = !decide (t.head ∈ MKL) := by
  have h1 : ∀ z ∈ (["mark", "open", "own", "pair", "seal", "lock", "name", "unknown"] : List Str), decide (z ∈ (["name", "unknown", "own"] : List Str)) = !decide (z ∈ MKL) := by decide +kernel
  refine h1 _ ?_
  rcases wf.shp with ⟨k, x, rfl, ko⟩ | ⟨s, a, rfl, hs, _⟩ | ⟨s, a, b, rfl, hs, _⟩
  · rcases ko with ⟨rfl, _⟩ | ⟨rfl, _⟩ | ⟨rfl, _⟩
    · exact absurd rfl h
    · show ("name" : Str) ∈ (["mark", "open", "own", "pair", "seal", "lock", "name", "unknown"] : List Str); decide +kernel
    · show ("unknown" : Str) ∈ (["mark", "open", "own", "pair", "seal", "lock", "name", "unknown"] : List Str); decide +kernel
  · exact mem_to (by decide +kernel) hs
  · exact mem_to (by decide +kernel) hs
section
variable {P : Program} {w : World} {K : PySem.W.Frag} {mg : Str → Option Value} {base : Heap}
abbrev s__law_undoing : Stmt := top 51
theorem sc__law_undoing : FnScope ["_law_form"] ["_law_form"] (defScope s__law_undoing) := ⟨rfl, rfl, rfl, by decide +kernel, rfl, by decide +kernel, by decide +kernel⟩
theorem ok__law_undoing (T : Tx w K mg) : Fk P w K mg base CX0 2 "_law_undoing" ["_law_form"] sp_ukey := by
  refine T.F__law_undoing.ok0 sc__law_undoing (fun _ _ _ _ _ _ us hl => match us, hl with | [_], _ => rfl)
    (fun vs H Q E h => ?_) (fun cdv A outer s H vs Q E hr h => ?_)
  · obtain ⟨v, t, key, rfl, _⟩ := h
    rfl
  · obtain ⟨v, t, key, rfl, it, wf, hk, k⟩ := h
    refine ⟨_, (pss_cons (ps_if (pt_cmpR op_eq (pe_ix ix_tup (pv 0) pe_int (fun _ _ => rfl)) pe_str (nomark _))
  (pss_one (ps_ret (pe_ix ix_tup (pv 0) pe_int (fun _ _ => rfl))))
  pss_nil)
  (pss_one (ps_ret (pe_tup (pa_cons (pe_ix ix_list (pe_lst (pa_cons pe_str (pa_cons pe_str pa_nil))) (pe_callTy call_int1 (by rfl) T.z_int (by decide +kernel) (pa_cons (pe_cmpR op_eq (pe_ix ix_tup (pe_ix ix_tup (pv 0) pe_int (fun _ _ => rfl)) pe_int (fun _ _ => rfl)) pe_str (nomark _)) pa_nil)) (fun _ _ => rfl)) (pa_cons (pe_ix ix_tup (pe_ix ix_tup (pv 0) pe_int (fun _ _ => rfl)) pe_int (fun _ _ => rfl)) pa_nil)))))), ?_⟩
    rcases ukey_inv wf hk with ⟨c, rfl⟩ | ⟨c, s, k0, rfl, hs, rfl⟩
    · obtain ⟨p, u1, u2, rfl, hp, i1, i2⟩ := it
      refine ⟨_, rfl, p, _, _, _, rfl, rfl, SqT.of hp, at_of (j := 0) rfl rfl, rfl, _, rfl, iteP (by decide +kernel) ?_⟩
      exact ⟨_, rfl, p, _, _, _, rfl, rfl, SqT.of hp, at_of (j := 2) rfl rfl, k _ _ (Same.refl _) i2⟩
    · obtain ⟨p, u1, u2, rfl, hp, i1, i2⟩ := it
      refine ⟨_, rfl, p, _, _, _, rfl, rfl, SqT.of hp, at_of (j := 0) rfl rfl, rfl, _, rfl, iteN (by decide +kernel) (nxt ?_)⟩
      try dsimp only
      obtain ⟨p2, u, rfl, hp2, iu⟩ := i2
      refine ⟨(by show 2 ≤ sizeLine; decide), fun q1 hq1 => ?_⟩
      have s1 := Rd.Same.upd (o := .lst [.str "own", .str "open"]) hq1
      have h11 : upd H q1 (.lst [.str "own", .str "open"]) q1 = some (.lst [.str "own", .str "open"]) := upd_same
      generalize upd H q1 (.lst [.str "own", .str "open"]) = H1 at s1 h11 ⊢
      refine ⟨_, rfl, p, _, _, _, rfl, rfl, SqT.of (s1 _ _ hp), at_of (j := 2) rfl rfl, p2, _, _, _, rfl, rfl, SqT.of (s1 _ _ hp2), at_of (j := 0) rfl rfl, rfl, .inr ⟨_, rfl, ?_⟩⟩
      rw [decS]
      by_cases e : s = "own"
      · subst e
        refine ⟨q1, _, _, .str "open", rfl, rfl, SqL.of h11, at_of (j := 1) (by decide +kernel) rfl, _, rfl, p, _, _, _, rfl, rfl, SqT.of (s1 _ _ hp), at_of (j := 2) rfl rfl, p2, _, _, _, rfl, rfl, SqT.of (s1 _ _ hp2), at_of (j := 1) rfl rfl, (by show 2 ≤ sizeLine; decide), fun q hq => ?_⟩
        have sq := Rd.Same.upd (o := .tup [.str "open", u]) hq
        exact k _ _ (s1.trans sq) ⟨q, u, rfl, upd_same, (iu.same s1).same sq⟩
      · have eo : s = "open" := by
          rcases List.mem_cons.mp hs with h | h
          · exact h
          · exact absurd (List.mem_singleton.mp h) e
        subst eo
        refine ⟨q1, _, _, .str "own", rfl, rfl, SqL.of h11, at_of (j := 0) (by decide +kernel) rfl, _, rfl, p, _, _, _, rfl, rfl, SqT.of (s1 _ _ hp), at_of (j := 2) rfl rfl, p2, _, _, _, rfl, rfl, SqT.of (s1 _ _ hp2), at_of (j := 1) rfl rfl, (by show 2 ≤ sizeLine; decide), fun q hq => ?_⟩
        have sq := Rd.Same.upd (o := .tup [.str "own", u]) hq
        exact k _ _ (s1.trans sq) ⟨q, u, rfl, upd_same, (iu.same s1).same sq⟩
abbrev s__law_can : Stmt := top 52
theorem sc__law_can : FnScope ["_law_form", "_law_opened_here", "_law_part"] ["_law_form", "_law_opened_here"] (defScope s__law_can) := ⟨rfl, rfl, rfl, by decide +kernel, rfl, by decide +kernel, by decide +kernel⟩
theorem lcan_step (T : Tx w K mg) (d : Nat) (ih : Fk P w K mg base CX0 (d + 1) "_law_can" ["_law_form", "_law_opened_here"] (spIR d)) : Fk P w K mg base CX0 (d + 2) "_law_can" ["_law_form", "_law_opened_here"] (sp_isMade d) := by
  refine T.F__law_can.ok0 sc__law_can (fun _ _ _ _ _ _ us hl => match us, hl with | [_, _], _ => rfl)
    (fun vs H Q E h => ?_) (fun cdv A outer s H vs Q E hr h => ?_)
  · obtain ⟨v, t, a, ws, ts, rfl, _⟩ := h
    rfl
  · obtain ⟨v, t, a, ws, ts, rfl, it, wf, dp, d60, ha, hts, ft, k⟩ := h
    refine ⟨_, (pss_cons (ps_if (PW.pt (pw_or (pt_cmpR op_eq (pe_ix ix_tup (pv 0) pe_int (fun _ _ => rfl)) pe_str (nomark _)) (pw_or1 (pt_cmpR (op_inD hr.units65) (pv 0) (pv 1) (by rfl)))))
  (pss_one (ps_ret pe_bl))
  pss_nil)
  (pss_cons (ps_if (pt_cmpR op_inT (pe_ix ix_tup (pv 0) pe_int (fun _ _ => rfl)) (pe_tup (pa_cons pe_str (pa_cons pe_str (pa_cons pe_str pa_nil)))) (by rfl))
  (pss_one (ps_ret pe_bl))
  pss_nil)
  (pss_one (ps_ret (pe_callB (cr_all rfl) (by rfl) T.z_all (by decide +kernel) (pa_cons (pe_lc (own := [("_law_part", 2)]) (g := gName 2) (tt := tYes) (by rfl) sc__law_can.nd (pi_tup (pe_slice sl_tup (pv 0) (po_some pe_int) po_none)) (blkOk_by (own := [("_law_part", 2)]) (N := ["_law_form", "_law_opened_here", "_law_part"]) (sc := defScope s__law_can) (by decide +kernel)) (fun _ _ _ _ _ => (pg_name (i := 2) sc__law_can.nd rfl (Or.inl rfl))) (fun _ _ _ _ _ => pts_nil) (fun _ _ _ _ _ => (pe_fk ih (hr.mono (by omega)) rfl pass0 (pa_cons (pv 2) (pa_cons (pv 1) pa_nil))))) pa_nil)))))), ?_⟩
    have big : 16777216 ≤ sizeLine := by decide
    obtain ⟨pf, us, rfl, hp⟩ := it.hd
    have fu : t.fine ∧ t.dep ≤ 60 := ⟨wf.fine, by omega⟩
    refine seqIf (tb_or (b := decide (t.head = "word")) (c := decide (t ∈ ts)) (fun Q2 kq => ⟨_, rfl, pf, _, _, _, rfl, rfl, SqT.of hp, at_of (j := 0) rfl rfl, rfl, _, rfl, ?_⟩) (fun H1 s1 _ Q2 kq => ⟨_, rfl, _, rfl, rd_inTs (it.same s1) fu (s1 _ _ ha) (hts.same s1) ft ⟨_, rfl, kq _ (Same.refl _)⟩⟩)) fun H1 s1 => ?_
    · rw [decS]
      exact kq _ (Same.refl _)
    have em := mka_step (ts := ts) wf
    refine ite2 (fun h1 => ?_) (fun h1 => ?_)
    · rw [h1, Bool.true_or] at em
      rw [em] at k
      exact k _ s1
    · have h1 : (decide (t.head = "word") || decide (t ∈ ts)) = false := by simpa using h1
      rw [h1, Bool.false_or] at em
      refine nxt ?_
      try dsimp only
      refine ⟨_, rfl, pf, _, _, _, rfl, rfl, SqT.of (s1 _ _ hp), at_of (j := 0) rfl rfl, (by show 3 ≤ sizeLine; decide), fun q0 hq0 => ⟨_, q0, ["name", "unknown", "own"], rfl, rfl, SqT.of upd_same, _, rfl, ?_⟩⟩
      have s1 := s1.trans (Rd.Same.upd (o := .tup [.str "name", .str "unknown", .str "own"]) hq0)
      generalize upd H1 q0 (.tup [.str "name", .str "unknown", .str "own"]) = H1 at s1 ⊢
      have hnw : t.head ≠ "word" := fun z => by rw [decide_eq_true z] at h1; cases h1
      have hmk := mk_iff wf hnw
      by_cases hm : t.head ∈ MKL
      · rw [decide_eq_true hm, Bool.true_and] at em
        rw [hmk, decide_eq_true hm]
        refine iteN (by decide) (nxt ?_)
        try dsimp only
        have hpt := mkl_parts wf hm
        obtain ⟨hsg, hws⟩ := wf.sign hpt
        obtain ⟨pf', us', e', hp', hlu, hl2, hne, hus⟩ := it.parts hpt
        cases e'
        rw [hp] at hp'
        cases hp'
        refine ⟨_, rfl, _, rfl, pf, _, rfl, SqT.of (s1 _ _ hp), ?_, fun p2 hp2 => ?_⟩
        · rintro ⟨z, _⟩
          rw [show (1 : Int) = ((1 : Nat) : Int) from rfl, HT.sIx_nat, List.length_cons] at z
          omega
        rw [cut1]
        have s2 := Rd.Same.upd (o := .tup us) hp2
        refine ⟨p2, rfl, ⟨_, SqT.of upd_same⟩, fun D hD => ?_⟩
        refine lct (C := 0) (fun i H v => ∃ r, t.parts[i]? = some r ∧ v = .bl (mka ts r)) (fun i H H' v kp h => h) (SqT.of upd_same) (by omega) hD (fun i x H1 Q1 hx s3 k1 => ?_) fun vs H3 s3 hD3 hlv hvs => ?_
        · obtain ⟨r, hr1, hr2⟩ := hus i x hx
          obtain ⟨w1, w2⟩ := hws r (List.mem_of_getElem? hr1)
          have s01 := (s1.trans s2).trans s3
          cases d with
          | zero => exact absurd dp (by omega)
          | succ d => exact ⟨_, rfl, _, rfl, x, r, a, ws, ts, rfl, hr2.same s01, w1, (by omega), (by omega), s01 _ _ ha, hts.same s01, ft, fun H' s' => k1 _ H' s' ⟨r, hr1, rfl⟩⟩
        have ev := vals_eq (hlv.trans hlu) hvs
        refine ⟨D, t.parts.map (mka ts), rfl, SqL.of (by rw [hD3, ev, List.map_map]; rfl), ?_⟩
        have e3 : (t.parts.map (mka ts)).all id = t.parts.all (mka ts) := by rw [List.all_map]; rfl
        rw [e3, ← em]
        exact k _ ((s1.trans s2).trans s3)
      · rw [decide_eq_false hm, Bool.false_and] at em
        rw [hmk, decide_eq_false hm]
        refine iteP (by decide) ?_
        rw [em] at k
        exact k _ s1
theorem lcan_none (T : Tx w K mg) : Fk P w K mg base CX0 1 "_law_can" ["_law_form", "_law_opened_here"] (spIR 0) := by
  refine T.F__law_can.ok0 sc__law_can (fun _ _ _ _ _ _ us hl => match us, hl with | [_, _], _ => rfl) (fun vs H Q E h => h.elim) (fun cdv A outer s H vs Q E hr h => h.elim)
theorem ok__law_can (T : Tx w K mg) : ∀ d : Nat, Fk P w K mg base CX0 (d + 2) "_law_can" ["_law_form", "_law_opened_here"] (sp_isMade d)
  | 0 => lcan_step T 0 (lcan_none T)
  | d + 1 => lcan_step T (d + 1) (ok__law_can T d)
end
end Rd
namespace Rd
open PySem L2
theorem walkT {K : PySem.W.Frag} {a : Addr} {xs : List V} {GG : V → Hp → (Hp → Prop) → Prop} {H0 : Hp} {Qd : Hp → Prop} (Pv : Nat → Hp → Prop) (h0 : Pv 0 H0) (hl : ∀ i H, i ≤ xs.length → Pv i H → SqT K H a xs) (hs : ∀ i x H, xs[i]? = some x → Pv i H → GG x H (Pv (i + 1))) (hd : ∀ H, Pv xs.length H → Qd H) :
    ∃ W : Nat → Nat → Hp → Prop, (∃ m, W 0 m H0) ∧ ∀ i m H, W i m H →
      ((Itt K a).stop i H ∧ Qd H) ∨ ((Itt K a).go i H ∧ ∃ Nx : Hp → Prop, (∀ H', Nx H' → ∃ m', m' < m ∧ W (i + 1) m' H') ∧ ∀ x H', (Itt K a).yld i H x H' → GG x H' Nx) := by
  refine ⟨fun i m H => m = xs.length - i ∧ i ≤ xs.length ∧ Pv i H, ⟨xs.length, by simp, Nat.zero_le _, h0⟩, ?_⟩
  rintro i m H ⟨rfl, hi, p⟩
  have q := hl i H hi p
  by_cases hlt : i < xs.length
  · refine .inr ⟨⟨xs, xs[i], q, by simp [hlt]⟩, Pv (i + 1), fun H' p' => ⟨xs.length - (i + 1), by omega, rfl, hlt, p'⟩, fun x H' y => ?_⟩
    obtain ⟨e, y⟩ := y
    subst e
    exact hs i x _ (y xs q) p
  · have e : i = xs.length := by omega
    subst e
    exact .inl ⟨⟨xs, q, Nat.le_refl _⟩, hd H p⟩
/-- [te for x in a tuple if tt] -/
theorem lcgT {α β : Type} {K : PySem.W.Frag} {C a D : Addr} {xs : List V} {ds : List α} {R : Hp → β → V → Prop} {tt : TT} {te : TE} {i0 : Nat} {σ : St} {H1 : Hp} {Qd : Hp → Prop} (p : α → Bool) (g : α → β) (rm : ∀ H H' b v, Kp C H H' → R H b v → R H' b v) (hS : SqT K H1 a xs) (he : xs.length = ds.length) (hl : xs.length ≤ 100000) (hD : H1 D = none)
    (htt : ∀ (i : Nat) (x : V) (d : α) (H : Hp) (Q : Bool → Hp → Prop), xs[i]? = some x → ds[i]? = some d → Same H1 H → (∀ H', Same H H' → Q (p d) H') → tt ((wipe σ [i0]).set i0 (some x)) H Q)
    (hte : ∀ (i : Nat) (x : V) (d : α) (H : Hp) (Q : VK), xs[i]? = some x → ds[i]? = some d → p d = true → Same H1 H → (∀ v H', Same H H' → R H' (g d) v → Q v H') → te ((wipe σ [i0]).set i0 (some x)) H Q)
    (hq : ∀ vs H', Same H1 H' → H' D = some (.lst vs) → AtL R H' ((ds.filter p).map g) vs → Qd H') :
    ∃ W : Nat → Nat → Hp → Prop, (∃ m, W 0 m (L2.upd H1 D (.lst []))) ∧ ∀ i m H, W i m H →
      ((Itt K a).stop i H ∧ Qd H) ∨ ((Itt K a).go i H ∧ ∃ Nx : Hp → Prop, (∀ H', Nx H' → ∃ m', m' < m ∧ W (i + 1) m' H') ∧ ∀ x H', (Itt K a).yld i H x H' → gName i0 x (wipe σ [i0]) H' fun σ2 H2 => wipe σ2 [i0] = wipe σ [i0] ∧ tt σ2 H2 fun b H3 =>
        if b = true then te σ2 H3 fun y H4 => ∃ acc, H4 D = some (.lst acc) ∧ acc.length < sizeLine ∧ Nx (L2.upd H4 D (.lst (acc ++ [y]))) else Nx H3) := by
  refine walkT (K := K) (a := a) (xs := xs) (fun i H => ∃ vs, Same H1 H ∧ H D = some (.lst vs) ∧ AtL R H (((ds.take i).filter p).map g) vs) ⟨[], Rd.Same.upd hD, upd_same, AtL.nil⟩ (fun i H _ ⟨_, s, _⟩ => SqT.kept hS s) ?_ ?_
  · rintro i x H hx ⟨vs, sm, hd, hv⟩
    have hlt := (List.getElem?_eq_some_iff.mp hx).1
    have ht : ds[i]? = some ds[i] := List.getElem?_eq_getElem (by omega)
    have etk : ds.take (i + 1) = ds.take i ++ [ds[i]] := by rw [List.take_succ, ht]; rfl
    refine gName_k ⟨by simp [wipe], ?_⟩
    refine htt i x _ H _ hx ht sm fun H2 s2 => ?_
    cases ep : p ds[i] with
    | false =>
      refine iteF ⟨vs, sm.trans s2, s2 _ _ hd, ?_⟩
      rw [etk, List.filter_append, List.filter_cons_of_neg (by rw [ep]; decide), List.filter_nil, List.append_nil]
      exact hv.mp fun r v h => rm _ _ _ _ (Kp.of_same s2) h
    | true =>
      refine iteT (hte i x _ H2 _ hx ht ep (sm.trans s2) fun v H3 s3 h3 => ?_)
      have hD3 := s3 _ _ (s2 _ _ hd)
      have kp := Kp.upd_lst (C := C) (ys := vs ++ [v]) hD3
      have hvl := hv.len
      have hfl : (((ds.take i).filter p).map g).length ≤ i := by
        rw [List.length_map]
        refine Nat.le_trans (List.length_filter_le _ _) ?_
        rw [List.length_take]
        omega
      have big : 16777216 ≤ sizeLine := by decide
      refine ⟨vs, hD3, by omega, vs ++ [v], fun c o e => ?_, upd_same, ?_⟩
      · rw [upd_ne (ne_of_none e hD)]
        exact s3 _ _ (s2 _ _ (sm _ _ e))
      · rw [etk, List.filter_append, List.filter_cons_of_pos ep, List.filter_nil, List.map_append]
        exact (hv.mp fun r v h => rm _ _ _ _ ((Kp.of_same (s2.trans s3)).trans kp) h).snoc (rm _ _ _ _ kp h3)
  · rintro H ⟨vs, sm, hd, hv⟩
    rw [he, List.take_length] at hv
    exact hq vs H sm hd hv
theorem rd_notInTs {K : PySem.W.Frag} {H : Hp} {u : Tr} {ts : List Tr} {v : V} {p : Addr} {vs : List V} {Q : VK} (iu : IsT H u v) (fu : u.fine ∧ u.dep ≤ 60) (hp : H p = some (.lst vs)) (hts : TsAt H ts vs) (ft : ∀ t ∈ ts, t.fine ∧ t.dep ≤ 60) (q : Q (.bl (!decide (u ∈ ts))) H) : rNotInD K v (.ref p) H Q := by
  have h : rInD K v (.ref p) H (fun x H' => ∃ b, x = .bl b ∧ Q (.bl (!b)) H') := rd_inTs iu fu hp hts ft ⟨_, rfl, q⟩
  obtain ⟨d, ds, h1, h2, h3, h4, b, eb, h5⟩ := h
  cases eb
  exact ⟨d, ds, h1, h2, h3, h4, h5⟩
theorem rd_eqNil {K : PySem.W.Frag} {H : Hp} {ts : List Tr} {p q : Addr} {vs : List V} {Q : VK} (hp : H p = some (.lst vs)) (hts : TsAt H ts vs) (ft : ∀ t ∈ ts, t.fine ∧ t.dep ≤ 60) (hq : H q = some (.lst [])) (k : Q (.bl ts.isEmpty) H) : rEqD K (.ref p) (.ref q) H Q := by
  refine ⟨.list (ts.map dat), .list [], .lst (SqL.of hp) (dpAll_ts hts), .lst (SqL.of hq) .nil, ts_shaped ft, rfl, ?_⟩
  have e : PyData.eqv (.list (ts.map dat)) (.list []) = ts.isEmpty := by
    cases ts with
    | nil => rfl
    | cons t ts => rfl
  rw [e]
  exact k
def stepO (F : List Tr) : Tr → List Tr
  | .bi s a b => if s = "pair" then [a, b].filter (fun y => !decide (y ∈ F)) else match ukey (.bi s a b) with
    | some key => if (!decide (a ∈ F) && mka F key) = true then [a] else []
    | none => []
  | _ => []
def freshO (ts F : List Tr) : List Tr := ts.filter (fun y => !decide (y ∈ F)) ++ F.flatMap (stepO F)
structure OR (ts F : List Tr) : Prop where
  nd : F.Nodup
  least : ∀ O' : List Tr, (∀ t ∈ ts, t ∈ O') → PCl O' → SCl O' O' → ∀ t ∈ F, t ∈ O'
theorem OR.inAll {ts F : List Tr} (h : OR ts F) : ∀ t ∈ F, t ∈ allOf ts := h.least _ (allOf_base ts) (allOf_pcl ts) (allOf_scl ts)
theorem stepO_mem {F : List Tr} {t y : Tr} (h : y ∈ stepO F t) : y ∉ F ∧ ((∃ b, t = .bi "pair" y b) ∨ (∃ a, t = .bi "pair" a y) ∨ ∃ s k key, t = .bi s y k ∧ ukey t = some key ∧ mka F key = true) := by
  cases t with
  | am k x => cases h
  | un s a => cases h
  | bi s a b =>
    rw [stepO] at h
    by_cases e : s = "pair"
    · subst e
      rw [if_pos rfl] at h
      obtain ⟨h1, h2⟩ := List.mem_filter.mp h
      refine ⟨by simpa using h2, ?_⟩
      rcases List.mem_cons.mp h1 with rfl | h1
      · exact .inl ⟨b, rfl⟩
      · rw [List.mem_singleton.mp h1]
        exact .inr (.inl ⟨a, rfl⟩)
    · rw [if_neg e] at h
      cases ek : ukey (.bi s a b) with
      | none => rw [ek] at h; cases h
      | some key =>
        rw [ek] at h
        have h : y ∈ (if (!decide (a ∈ F) && mka F key) = true then [a] else []) := h
        by_cases ec : (!decide (a ∈ F) && mka F key) = true
        · rw [if_pos ec] at h
          rw [List.mem_singleton.mp h]
          obtain ⟨c1, c2⟩ := He.ba ec
          exact ⟨by simpa using c1, .inr (.inr ⟨s, b, key, rfl, rfl, c2⟩)⟩
        · rw [if_neg ec] at h
          cases h
theorem OR.fresh {ts F : List Tr} (h : OR ts F) {y : Tr} (hy : y ∈ freshO ts F) : y ∉ F ∧ ∀ O' : List Tr, (∀ t ∈ ts, t ∈ O') → PCl O' → SCl O' O' → y ∈ O' := by
  rcases List.mem_append.mp hy with g | g
  · obtain ⟨h1, h2⟩ := List.mem_filter.mp g
    exact ⟨by simpa using h2, fun O' b _ _ => b y h1⟩
  · obtain ⟨t, ht, g⟩ := List.mem_flatMap.mp g
    obtain ⟨g1, g2⟩ := stepO_mem g
    refine ⟨g1, fun O' b pc sc => ?_⟩
    have hO := h.least O' b pc sc
    rcases g2 with ⟨b', rfl⟩ | ⟨a', rfl⟩ | ⟨s, k, key, rfl, ek, em⟩
    · exact (pc _ _ (hO _ ht)).1
    · exact (pc _ _ (hO _ ht)).2
    · exact sc _ _ _ _ (hO _ ht) ek (mka_mono hO em)
theorem OR.done {ts F : List Tr} (h : OR ts F) (e : freshO ts F = []) : IsOpen ts F := by
  obtain ⟨e1, e2⟩ := List.append_eq_nil_iff.mp e
  have h1 : ∀ t ∈ ts, t ∈ F := fun t ht => by
    have := List.filter_eq_nil_iff.mp e1 t ht
    simpa using this
  have h2 : ∀ t ∈ F, stepO F t = [] := fun t ht => List.flatMap_eq_nil_iff.mp e2 t ht
  refine ⟨h1, fun a b hp => ?_, fun s c k key hb hk hm => ?_, h.least⟩
  · have := h2 _ hp
    rw [stepO, if_pos rfl] at this
    have := List.filter_eq_nil_iff.mp this
    exact ⟨by simpa using this a List.mem_cons_self, by simpa using this b (List.mem_cons_of_mem _ List.mem_cons_self)⟩
  · have := h2 _ hb
    by_cases e : s = "pair"
    · subst e
      have : ukey (.bi "pair" c k) = none := by
        show (if ("pair" : Str) = "seal" then some k else if ("pair" : Str) = "lock" then lkey k else none) = none
        rw [if_neg (by decide +kernel), if_neg (by decide +kernel)]
      rw [this] at hk
      cases hk
    · rw [stepO, if_neg e, hk] at this
      have this : (if (!decide (c ∈ F) && mka F key) = true then [c] else []) = ([] : List Tr) := this
      by_cases ec : c ∈ F
      · exact ec
      · rw [if_pos (by rw [hm, decide_eq_false ec]; rfl)] at this
        cases this
theorem OR.add {ts F : List Tr} (h : OR ts F) {y : Tr} (n : y ∉ F) (l : ∀ O' : List Tr, (∀ t ∈ ts, t ∈ O') → PCl O' → SCl O' O' → y ∈ O') : OR ts (F ++ [y]) := by
  refine ⟨?_, fun O' b pc sc t ht => ?_⟩
  · rw [List.nodup_append]
    refine ⟨h.nd, List.nodup_cons.mpr ⟨by simp, List.nodup_nil⟩, fun a ha b hb => ?_⟩
    rw [List.mem_singleton.mp hb]
    exact fun z => n (z ▸ ha)
  · rcases List.mem_append.mp ht with g | g
    · exact h.least O' b pc sc t g
    · rw [List.mem_singleton.mp g]
      exact l O' b pc sc
theorem OR.lenU {ts F U : List Tr} (h : OR ts F) (b : ∀ t ∈ ts, t ∈ U) (pc : PCl U) (sc : SCl U U) : F.length ≤ U.length := nodup_sub h.nd (h.least U b pc sc)
theorem OR.len {ts F : List Tr} (h : OR ts F) : F.length ≤ (allOf ts).length := nodup_sub h.nd h.inAll
end Rd
namespace Rd
open PySem L2
def sp_lopened (d : Nat) : Sp := fun vs H Q _ => ∃ (a : Addr) (ws : List V) (ts : List Tr), vs = [.ref a] ∧ H a = some (.lst ws) ∧ TsAt H ts ws ∧ (∀ t ∈ ts, Wf t ∧ t.dep ≤ d) ∧ d ≤ 12 ∧ ts.length ≤ 59 ∧ (∃ U : List Tr, (∀ t ∈ ts, t ∈ U) ∧ PCl U ∧ SCl U U ∧ U.length ≤ 59) ∧
  ∀ q us os H', Same H H' → H q = none → H' q = some (.lst us) → TsAt H' os us → IsOpen ts os → Q (.ref q) H'
theorem allOf_ok {ts : List Tr} {d : Nat} (h : ∀ t ∈ ts, Wf t ∧ t.dep ≤ d) {u : Tr} (hu : u ∈ allOf ts) : Wf u ∧ u.dep ≤ d := by
  obtain ⟨t, ht, hu⟩ := List.mem_flatMap.mp hu
  obtain ⟨h1, h2⟩ := all_wf (h t ht).1 u hu
  exact ⟨h1, by have := (h t ht).2; omega⟩
theorem stepO_len (F : List Tr) (t : Tr) : (stepO F t).length ≤ 2 := by
  cases t with
  | am k x => exact Nat.zero_le _
  | un s a => exact Nat.zero_le _
  | bi s a b =>
    rw [stepO]
    split
    · exact List.length_filter_le _ _
    · split
      · split
        · show 1 ≤ 2; decide
        · exact Nat.zero_le _
      · exact Nat.zero_le _
section
variable {P : Program} {w : World} {K : PySem.W.Frag} {mg : Str → Option Value} {base : Heap}
abbrev s__law_opened : Stmt := top 50
theorem sc__law_opened : FnScope ["_law_forms", "_law_found", "_law_turn", "_law_fresh", "_law_form", "_law_part"] ["_law_forms"] (defScope s__law_opened) := ⟨rfl, rfl, rfl, by decide +kernel, rfl, by decide +kernel, by decide +kernel⟩
theorem ok__law_opened (T : Tx w K mg) (d : Nat) : Fk P w K mg base CX0 (d + 4) "_law_opened" ["_law_forms"] (sp_lopened d) := by
  refine T.F__law_opened.ok0 sc__law_opened (fun _ _ _ _ _ _ us hl => match us, hl with | [_], _ => rfl)
    (fun vs H Q E h => ?_) (fun cdv A outer s H vs Q E hr h => ?_)
  · obtain ⟨a, ws, ts, rfl, _⟩ := h
    rfl
  · obtain ⟨a, ws, ts, rfl, ha, hts, wf, d12, htl, ⟨U, hub, hup, hus, h59⟩, k⟩ := h
    refine ⟨_, (pss_cons (ps_set (i := 1) sc__law_opened.nd rfl (Or.inr rfl) (pe_lst pa_nil))
  (pss_cons (ps_for PassesOwn.never rfl (pi_range1 rfl T.z_range (pa_cons pe_int pa_nil)) (pg_name (i := 2) sc__law_opened.nd rfl (Or.inl rfl))
  (pss_cons (ps_setLc (i := 3) (own := [("_law_form", 4)]) (g := gName 4)  (by rfl) sc__law_opened.nd rfl rfl (sw_true rfl rfl rfl (by decide +kernel)) (pi_list (pv 0)) (blkOk_by (own := [("_law_form", 4)]) (N := ["_law_forms", "_law_found", "_law_turn", "_law_fresh", "_law_form", "_law_part"]) (sc := defScope s__law_opened) (by decide +kernel)) (fun _ _ _ _ _ => (pg_name (i := 4) sc__law_opened.nd rfl (Or.inl rfl))) (fun _ _ _ _ _ => (pts_one (pt_cmpR (kOp (r := rNotInD) (K := K) rfl (op_notInD hr.units65)) (pv 4) (pv 1) (by rfl)))) (fun _ _ _ _ _ => (pv 4)))
  (pss_cons (ps_for PassesOwn.never rfl (pi_list (pe_callTy call_list_of (by rfl) T.z_list (by decide +kernel) (pa_cons (pv 1) pa_nil))) (pg_name (i := 4) sc__law_opened.nd rfl (Or.inl rfl))
  (pss_one (ps_if (pt_cmpR op_eq (pe_ix ix_tup (pv 4) pe_int (fun _ _ => rfl)) pe_str (nomark _))
  (pss_one (ps_expr (pe_bm PySem.F.plainAttrs_list PySem.F.slot_list_extend PySem.F.type_list_extend mt_extend (pv 3) (pa_cons (pe_lc (own := [("_law_part", 5)]) (g := gName 5)  (by rfl) sc__law_opened.nd (pi_tup (pe_slice sl_tup (pv 4) (po_some pe_int) po_none)) (blkOk_by (own := [("_law_part", 5)]) (N := ["_law_forms", "_law_found", "_law_turn", "_law_fresh", "_law_form", "_law_part"]) (sc := defScope s__law_opened) (by decide +kernel)) (fun _ _ _ _ _ => (pg_name (i := 5) sc__law_opened.nd rfl (Or.inl rfl))) (fun _ _ _ _ _ => (pts_one (pt_cmpR (kOp (r := rNotInD) (K := K) rfl (op_notInD hr.units65)) (pv 5) (pv 1) (by rfl)))) (fun _ _ _ _ _ => (pv 5))) pa_nil))))
  (pss_one (ps_if (PW.pt (pw_and (pt_cmpR op_inT (pe_ix ix_tup (pv 4) pe_int (fun _ _ => rfl)) (pe_tup (pa_cons pe_str (pa_cons pe_str pa_nil))) (by rfl)) (pw_and (pt_cmpR (op_notInD hr.units65) (pe_ix ix_tup (pv 4) pe_int (fun _ _ => rfl)) (pv 1) (by rfl)) (pw_and1 (pt_val (pe_fk (ok__law_can T d) (hr.mono (by omega)) rfl pass0 (pa_cons (pe_fk (ok__law_undoing T) (hr.mono (by omega)) rfl pass0 (pa_cons (pv 4) pa_nil)) (pa_cons (pv 1) pa_nil))))))))
  (pss_one (ps_expr (pe_bm PySem.F.plainAttrs_list PySem.F.slot_list_append PySem.F.type_list_append mt_append (pv 3) (pa_cons (pe_ix ix_tup (pv 4) pe_int (fun _ _ => rfl)) pa_nil))))
  pss_nil)))))
  (pss_cons (ps_if (pt_cmpR (op_eqD hr.units) (pv 3) (pe_lst pa_nil) (nomark _))
  (pss_one (ps_ret (pv 1)))
  pss_nil)
  (pss_one (ps_for PassesOwn.never rfl (pi_list (pv 3)) (pg_name (i := 4) sc__law_opened.nd rfl (Or.inl rfl))
  (pss_one (ps_if (pt_cmpR (op_notInD hr.units65) (pv 4) (pv 1) (by rfl))
  (pss_one (ps_expr (pe_bm PySem.F.plainAttrs_list PySem.F.slot_list_append PySem.F.type_list_append mt_append (pv 1) (pa_cons (pv 4) pa_nil))))
  pss_nil))))))))
  (pss_one (ps_ret (pv 1))))), ?_⟩
    have big : 16777216 ≤ sizeLine := by decide
    have hwl := hts.len
    refine seqAsg ⟨Nat.zero_le _, fun q hq => ?_⟩
    refine gName_k ?_
    try dsimp only
    have sq := Rd.Same.upd (o := .lst []) hq
    have hq1 : upd H q (.lst []) q = some (.lst []) := upd_same
    generalize upd H q (.lst []) = H1 at sq hq1 ⊢
    refine ⟨60, rfl, by decide, by decide, for_range (n := 60) (fun i σ Hc => ∃ (F : List Tr) (fv : List V) (t2 t3 t4 t5 : Option V), σ = [some (.ref a), some (.ref q), t2, t3, t4, t5] ∧ Same H Hc ∧ Hc q = some (.lst fv) ∧ TsAt Hc F fv ∧ OR ts F ∧ i ≤ F.length) ⟨[], [], _, _, _, _, rfl, sq, hq1, ⟨rfl, fun i t v h => by simp at h⟩, ⟨List.nodup_nil, fun O' _ _ _ t ht => nomatch ht⟩, Nat.le_refl _⟩ ?_ ?_⟩
    · rintro i σ Hc hi ⟨F, fv, t2, t3, t4, t5, rfl, Sc, hqc, htF, or, hlen⟩
      refine gName_k ?_
      try dsimp only
      have wfF : ∀ t ∈ F, Wf t ∧ t.dep ≤ d := fun t ht => allOf_ok wf (or.inAll t ht)
      have ftF : ∀ t ∈ F, t.fine ∧ t.dep ≤ 60 := fun t ht => ⟨(wfF t ht).1.fine, by have := (wfF t ht).2; omega⟩
      have hFl := or.lenU hub hup hus
      have hfl := htF.len
      refine seqAsg ⟨_, rfl, a, rfl, ⟨_, SqL.of (Sc _ _ ha)⟩, fun D hD => ?_⟩
      have nDq : D ≠ q := fun z => by rw [z, hqc] at hD; cases hD
      have nDH : H D = none := Sc.free hD
      refine lcg (C := 0) (R := IsT) (ds := ts) (fun y => !decide (y ∈ F)) id (fun _ _ _ _ kp h => h.mono kp) (SqL.of (Sc _ _ ha)) hwl (by omega) hD (fun j x t H2 Q2 hx ht s2 k2 => ?_) (fun j x t H2 Q2 hx ht _ s2 k2 => ?_) fun v2 H2 s2 hD2 hv2 => ?_
      · have wt := wf t (List.mem_of_getElem? ht)
        exact ⟨_, rfl, _, rfl, rd_notInTs ((hts.get j t x ht hx).same (Sc.trans s2)) ⟨wt.1.fine, by have := wt.2; omega⟩ (s2 _ _ hqc) (htF.same s2) ftF ⟨_, rfl, k2 _ (Same.refl _)⟩⟩
      · exact ⟨_, rfl, k2 _ _ (Same.refl _) ((hts.get j t x ht hx).same (Sc.trans s2))⟩
      rw [List.map_id] at hv2
      refine gName_k ?_
      try dsimp only
      have S2 := Sc.trans s2
      have hq2 := s2 _ _ hqc
      have htF2 := htF.same s2
      refine seqJoin (fun σ' H' => ∃ (vf : List V) (t4 t5 : Option V), σ' = [some (.ref a), some (.ref q), some (.int (0 + (i : Int))), some (.ref D), t4, t5] ∧ (∀ c o, c ≠ D → H2 c = some o → H' c = some o) ∧ H' D = some (.lst vf) ∧ TsAt H' (freshO ts F) vf) (fun KK hK => ?_) ?_
      · refine ⟨_, rfl, q, fv, rfl, .inl (SqL.of hq2), fun qc hqc' => ⟨qc, rfl, ⟨_, SqL.of upd_same⟩, ?_⟩⟩
        have sc := Rd.Same.upd (o := .lst fv) hqc'
        have hqc1 : upd H2 qc (.lst fv) qc = some (.lst fv) := upd_same
        have nqD : qc ≠ D := fun z => by rw [z, hD2] at hqc'; cases hqc'
        generalize upd H2 qc (.lst fv) = H3 at sc hqc1 ⊢
        refine for_list (xs := fv) (fun j σ' H' => ∃ (vf : List V) (t4 t5 : Option V), σ' = [some (.ref a), some (.ref q), some (.int (0 + (i : Int))), some (.ref D), t4, t5] ∧ (∀ c o, c ≠ D → H3 c = some o → H' c = some o) ∧ H' D = some (.lst vf) ∧ TsAt H' (ts.filter (fun y => !decide (y ∈ F)) ++ (F.take j).flatMap (stepO F)) vf) ⟨v2, _, _, rfl, fun c o _ e => e, sc _ _ hD2, by rw [List.take_zero, List.flatMap_nil, List.append_nil]; exact hv2.ts.same sc⟩ ?_ ?_ ?_
        · rintro j σ' H' hj ⟨vf, t4, t5, rfl, off, _⟩
          exact SqL.of (off _ _ nqD hqc1)
        · rintro j x σ' H' hx ⟨vf, t4, t5, rfl, off, hD', ht'⟩
          refine gName_k ?_
          try dsimp only
          have hlt := (List.getElem?_eq_some_iff.mp hx).1
          have ht : F[j]? = some F[j] := List.getElem?_eq_getElem (by omega)
          have kof : Kp 0 H3 H' := fun c o hi e => off c o (fun z => by rw [z, sc _ _ hD2] at e; cases e; cases hi) e
          have it := ((htF2.same sc).mono kof).get j _ x ht hx
          obtain ⟨wt, dt⟩ := wfF _ (List.mem_of_getElem? ht)
          have hq' : H' q = some (.lst fv) := off _ _ (Ne.symm nDq) (sc _ _ hq2)
          have htF' : TsAt H' F fv := (htF2.same sc).mono kof
          have efm : (F.take (j + 1)).flatMap (stepO F) = (F.take j).flatMap (stepO F) ++ stepO F F[j] := by
            have etk : F.take (j + 1) = F.take j ++ [F[j]] := by rw [List.take_succ, ht]; rfl
            rw [etk, List.flatMap_append, List.flatMap_cons, List.flatMap_nil, List.append_nil]
          have hvl := ht'.len
          have hsz : vf.length ≤ 1000 := by
            rw [List.length_append] at hvl
            have h1 := List.length_filter_le (fun y => !decide (y ∈ F)) ts
            have h2 : ((F.take j).flatMap (stepO F)).length ≤ (F.take j).length * 2 := by
              have : ∀ l : List Tr, (l.flatMap (stepO F)).length ≤ l.length * 2 := fun l => by
                induction l with
                | nil => exact Nat.le_refl _
                | cons t l ih =>
                  rw [List.flatMap_cons, List.length_append, List.length_cons]
                  have := stepO_len F t
                  omega
              exact this _
            rw [List.length_take] at h2
            omega
          generalize F[j] = t at ht it wt dt efm
          have fin : ∀ {vn : List V} {H4 : Hp}, (∀ c o, c ≠ D → H3 c = some o → H4 c = some o) → H4 D = some (.lst (vf ++ vn)) → TsAt H4 (ts.filter (fun y => !decide (y ∈ F)) ++ (F.take j).flatMap (stepO F)) vf → TsAt H4 (stepO F t) vn → TsAt H4 (ts.filter (fun y => !decide (y ∈ F)) ++ (F.take (j + 1)).flatMap (stepO F)) (vf ++ vn) := fun {vn H4} _ _ h1 h2 => by
            rw [efm, ← List.append_assoc]
            exact h1.app h2
          obtain ⟨pf, us, rfl, hp⟩ := it.hd
          refine ⟨_, rfl, pf, _, _, _, rfl, rfl, SqT.of hp, at_of (j := 0) rfl rfl, rfl, _, rfl, ?_⟩
          rw [decS]
          by_cases hpr : t.head = "pair"
          · rw [decide_eq_true hpr]
            refine iteT ?_
            obtain ⟨a0, b0, rfl⟩ : ∃ a0 b0, t = .bi "pair" a0 b0 := by
              rcases wt.shp with ⟨k0, x0, rfl, ko⟩ | ⟨s0, a0, rfl, hs, _⟩ | ⟨s0, a0, b0, rfl, hs, _⟩
              · refine absurd hpr ?_
                rcases ko with ⟨rfl, _⟩ | ⟨rfl, _⟩ | ⟨rfl, _⟩
                · show ("word" : Str) ≠ "pair"; decide +kernel
                · show ("name" : Str) ≠ "pair"; decide +kernel
                · show ("unknown" : Str) ≠ "pair"; decide +kernel
              · exact absurd hpr ((by decide +kernel : ∀ z ∈ (["mark", "open", "own"] : List Str), z ≠ "pair") s0 hs)
              · have hpr : s0 = "pair" := hpr
                subst hpr
                exact ⟨a0, b0, rfl⟩
            obtain ⟨p', u1, u2, e, hp', i1, i2⟩ := it
            cases e
            have wab : ∀ y ∈ [a0, b0], Wf y ∧ y.dep ≤ d := fun y hy => by
              have hm : max a0.dep b0.dep + 1 ≤ d := dt
              rcases wt.shp with ⟨_, _, e, _⟩ | ⟨_, _, e, _⟩ | ⟨_, _, _, e, _, wa, wb⟩
              · cases e
              · cases e
              · cases e
                rcases List.mem_cons.mp hy with rfl | hy
                · exact ⟨wa, by omega⟩
                · rw [List.mem_singleton.mp hy]
                  exact ⟨wb, by omega⟩
            refine ⟨_, rfl, .inl ⟨rfl, _, SqL.of hD'⟩, _, rfl, _, rfl, pf, _, rfl, SqT.of hp', ?_, fun p2 hp2 => ?_⟩
            · rintro ⟨z, _⟩
              rw [show (1 : Int) = ((1 : Nat) : Int) from rfl, HT.sIx_nat] at z
              simp at z
            rw [cut1]
            have s5 := Rd.Same.upd (o := .tup [u1, u2]) hp2
            have hp21 : upd H' p2 (.tup [u1, u2]) p2 = some (.tup [u1, u2]) := upd_same
            generalize upd H' p2 (.tup [u1, u2]) = H5 at s5 hp21 ⊢
            refine ⟨p2, rfl, ⟨_, SqT.of hp21⟩, fun D5 hD5 => ?_⟩
            have iab : ∀ {H6 : Hp}, Same H5 H6 → ∀ (i' : Nat) (y : Tr) (x : V), [a0, b0][i']? = some y → [u1, u2][i']? = some x → IsT H6 y x := fun {H6} s6 i' y x hy hx => by
              match i' with
              | 0 => cases hy; cases hx; exact i1.same (s5.trans s6)
              | 1 => cases hy; cases hx; exact i2.same (s5.trans s6)
              | i' + 2 => simp at hy
            refine lcgT (C := 0) (R := IsT) (ds := [a0, b0]) (fun y => !decide (y ∈ F)) id (fun _ _ _ _ kp h => h.mono kp) (SqT.of hp21) rfl (by show 2 ≤ 100000; decide) hD5 (fun i' x y H6 Q6 hx hy s6 k6 => ?_) (fun i' x y H6 Q6 hx hy _ s6 k6 => ?_) fun vn H6 s6 hD6 hv6 => ?_
            · have wy := wab y (List.mem_of_getElem? hy)
              exact ⟨_, rfl, _, rfl, rd_notInTs (iab s6 i' y x hy hx) ⟨wy.1.fine, by have := wy.2; omega⟩ ((s5.trans s6) _ _ hq') (htF'.same (s5.trans s6)) ftF ⟨_, rfl, k6 _ (Same.refl _)⟩⟩
            · exact ⟨_, rfl, k6 _ _ (Same.refl _) (iab s6 i' y x hy hx)⟩
            have s56 := s5.trans s6
            have hD7 := s56 _ _ hD'
            have hvn := hv6.len
            have hvn2 : vn.length ≤ 2 := by
              rw [hvn, List.length_map]
              exact List.length_filter_le _ _
            refine ⟨D, D5, vf, vn, rfl, rfl, hD7, hD6, by omega, ?_⟩
            have kp := Kp.upd_lst (C := 0) (ys := vf ++ vn) hD7
            refine ⟨vf ++ vn, _, _, rfl, fun c o hc e => by rw [upd_ne hc]; exact s56 _ _ (off c o hc e), upd_same, ?_⟩
            refine fin (fun c o hc e => by rw [upd_ne hc]; exact s56 _ _ (off c o hc e)) upd_same ((ht'.same s56).mono kp) ?_
            rw [stepO, if_pos rfl]
            rw [List.map_id] at hv6
            exact hv6.ts.mono kp
          · rw [decide_eq_false hpr]
            refine iteF ?_
            have keepN : ∀ {H4 : Hp}, Same H' H4 → stepO F t = [] → ∃ (vf' : List V) (t4 t5' : Option V), [some (V.ref a), some (V.ref q), some (V.int (0 + (i : Int))), some (V.ref D), some (V.ref pf), t5] = [some (V.ref a), some (V.ref q), some (V.int (0 + (i : Int))), some (V.ref D), t4, t5'] ∧ (∀ c o, c ≠ D → H3 c = some o → H4 c = some o) ∧ H4 D = some (.lst vf') ∧ TsAt H4 (ts.filter (fun y => !decide (y ∈ F)) ++ (F.take (j + 1)).flatMap (stepO F)) vf' := fun {H4} s4 e => ⟨vf, _, _, rfl, fun c o hc e => s4 _ _ (off c o hc e), s4 _ _ hD', by rw [efm, e, List.append_nil]; exact ht'.same s4⟩
            cases eu : ukey t with
            | none =>
              refine oneIf (b := false) (tb_and (b := false) (c := false) (fun Q2 kq => ⟨_, rfl, pf, _, _, _, rfl, rfl, SqT.of hp, at_of (j := 0) rfl rfl, (by show 2 ≤ sizeLine; decide), fun q0 hq0 => ⟨_, q0, ["seal", "lock"], rfl, rfl, SqT.of upd_same, _, rfl, ?_⟩⟩) (fun _ _ e => by cases e)) fun H4 s4 => iteF (nxt ?_)
              · rw [shut_iff wt, eu]
                exact kq _ (Rd.Same.upd hq0)
              · refine keepN s4 ?_
                cases t with
                | am k x => rfl
                | un s a => rfl
                | bi s a b =>
                  have hp2 : ¬ s = "pair" := hpr
                  rw [stepO, if_neg hp2, eu]
            | some key =>
              obtain ⟨s0, a0, b0, rfl⟩ : ∃ s0 a0 b0, t = .bi s0 a0 b0 := by
                rcases ukey_inv wt eu with ⟨c, e⟩ | ⟨c, s, k', e, _⟩
                · exact ⟨_, _, _, e⟩
                · exact ⟨_, _, _, e⟩
              obtain ⟨wk, dk⟩ := ukey_wf wt eu
              have hp2 : ¬ s0 = "pair" := hpr
              have eS : stepO F (.bi s0 a0 b0) = if (!decide (a0 ∈ F) && mka F key) = true then [a0] else [] := by rw [stepO, if_neg hp2, eu]
              obtain ⟨p', u1, u2, e, hp', i1, i2⟩ := id it
              cases e
              have wa : Wf a0 ∧ a0.dep ≤ d := by
                have hm : max a0.dep b0.dep + 1 ≤ d := dt
                rcases wt.shp with ⟨_, _, e, _⟩ | ⟨_, _, e, _⟩ | ⟨_, _, _, e, _, wa, wb⟩
                · cases e
                · cases e
                · cases e
                  exact ⟨wa, by omega⟩
              refine oneIf (b := (true && (!decide (a0 ∈ F) && mka F key))) (tb_and (b := true) (c := (!decide (a0 ∈ F) && mka F key)) (fun Q2 kq => ⟨_, rfl, pf, _, _, _, rfl, rfl, SqT.of hp, at_of (j := 0) rfl rfl, (by show 2 ≤ sizeLine; decide), fun q0 hq0 => ⟨_, q0, ["seal", "lock"], rfl, rfl, SqT.of upd_same, _, rfl, ?_⟩⟩) (fun H4 s4 _ => tb_and (b := !decide (a0 ∈ F)) (c := mka F key) (fun Q2 kq => ⟨_, rfl, pf, _, _, _, rfl, rfl, SqT.of (s4 _ _ hp'), at_of (j := 1) rfl rfl, _, rfl, rd_notInTs (i1.same s4) ⟨wa.1.fine, by have := wa.2; omega⟩ (s4 _ _ hq') (htF'.same s4) ftF ⟨_, rfl, kq _ (Same.refl _)⟩⟩) (fun H5 s5 _ Q2 kq => ⟨_, rfl, _, _, key, rfl, it.same (s4.trans s5), wt, eu, fun u H6 s6 iu => ⟨_, rfl, u, key, q, fv, F, rfl, iu, wk, by omega, by omega, ((s4.trans s5).trans s6) _ _ hq', htF'.same ((s4.trans s5).trans s6), ftF, fun H7 s7 => ⟨_, rfl, kq _ (s6.trans s7)⟩⟩⟩))) fun H4 s4 => ?_
              · rw [shut_iff wt, eu]
                exact kq _ (Rd.Same.upd hq0)
              · rw [Bool.true_and]
                cases ec : (!decide (a0 ∈ F) && mka F key) with
                | false =>
                  rw [ec, if_neg (by decide)] at eS
                  exact iteF (nxt (keepN s4 eS))
                | true =>
                  rw [ec, if_pos rfl] at eS
                  refine iteT ?_
                  have hD4 := s4 _ _ hD'
                  refine ⟨_, rfl, .inl ⟨rfl, _, SqL.of hD4⟩, _, rfl, pf, _, _, _, rfl, rfl, SqT.of (s4 _ _ hp'), at_of (j := 1) rfl rfl, D, vf, _, rfl, rfl, hD4, by omega, ?_⟩
                  have kp := Kp.upd_lst (C := 0) (ys := vf ++ [u1]) hD4
                  refine ⟨vf ++ [u1], _, _, rfl, fun c o hc e => by rw [upd_ne hc]; exact s4 _ _ (off c o hc e), upd_same, ?_⟩
                  refine fin (fun c o hc e => by rw [upd_ne hc]; exact s4 _ _ (off c o hc e)) upd_same ((ht'.same s4).mono kp) ?_
                  rw [eS]
                  exact TsAt.one ((i1.same s4).mono kp)
        · rintro σ' H' ⟨vf, t4, t5, rfl, off, hD', ht'⟩
          rw [hfl, List.take_length] at ht'
          exact hK _ _ ⟨vf, t4, t5, rfl, fun c o hc e => off c o hc (sc _ _ e), hD', ht'⟩
      rintro σ' H3 ⟨vf, t4, t5, rfl, off, hD3, ht3⟩
      try dsimp only
      have frx : ∀ y ∈ freshO ts F, y ∉ F ∧ ∀ O' : List Tr, (∀ t ∈ ts, t ∈ O') → PCl O' → SCl O' O' → y ∈ O' := fun y hy => or.fresh hy
      have wff : ∀ y ∈ freshO ts F, Wf y ∧ y.dep ≤ d := fun y hy => allOf_ok wf ((frx y hy).2 _ (allOf_base ts) (allOf_pcl ts) (allOf_scl ts))
      have ftf : ∀ y ∈ freshO ts F, y.fine ∧ y.dep ≤ 60 := fun y hy => ⟨(wff y hy).1.fine, by have := (wff y hy).2; omega⟩
      have k23 : Kp 0 H2 H3 := fun c o hi e => off c o (fun z => by rw [z, hD2] at e; cases e; cases hi) e
      have hq3 : H3 q = some (.lst fv) := off _ _ (Ne.symm nDq) hq2
      have htF3 : TsAt H3 F fv := htF2.mono k23
      have S3 : Same H H3 := fun c o e => off c o (ne_of_none e nDH) (S2 _ _ e)
      refine seqIf (b := (freshO ts F).isEmpty) (fun Q2 kq => ⟨_, rfl, Nat.zero_le _, fun qe hqe => ?_⟩) fun H4 s4 => ?_
      · have se := Rd.Same.upd (o := .lst []) hqe
        exact rd_eqNil (se _ _ hD3) (ht3.same se) ftf upd_same ⟨_, rfl, kq _ se⟩
      have S4 := S3.trans s4
      cases ee : (freshO ts F).isEmpty with
      | true =>
        refine iteT ?_
        exact ⟨_, rfl, k q fv F H4 S4 hq (s4 _ _ hq3) (htF3.same s4) (or.done (List.isEmpty_iff.mp ee))⟩
      | false =>
        refine iteF (nxt ?_)
        try dsimp only
        have hD4 := s4 _ _ hD3
        have ht4 := ht3.same s4
        have hvl := ht4.len
        refine ⟨_, rfl, D, rfl, ⟨_, SqL.of hD4⟩, ?_⟩
        refine for_list (xs := vf) (fun j σ' H' => ∃ (F' : List Tr) (fv' : List V) (t4 : Option V), σ' = [some (.ref a), some (.ref q), some (.int (0 + (i : Int))), some (.ref D), t4, t5] ∧ (∀ c o, c ≠ q → H4 c = some o → H' c = some o) ∧ H' q = some (.lst fv') ∧ TsAt H' F' fv' ∧ OR ts F' ∧ ((j = 0 ∧ F' = F) ∨ F.length + 1 ≤ F'.length)) ⟨F, fv, _, rfl, (fun c o _ e => e), s4 _ _ hq3, htF3.same s4, or, .inl ⟨rfl, rfl⟩⟩ ?_ ?_ ?_
        · rintro j σ' H' hj ⟨F', fv', t4, rfl, off', _⟩
          exact SqL.of (off' _ _ nDq hD4)
        · rintro j x σ' H' hx ⟨F', fv', t4, rfl, off', hq', htF', or', hl'⟩
          refine gName_k ?_
          try dsimp only
          obtain ⟨y, hy, iy⟩ := ht4.at_ hx
          have k4 : Kp 0 H4 H' := fun c o hi e => off' c o (fun z => by rw [z, s4 _ _ hq3] at e; cases e; cases hi) e
          have iy' := iy.mono k4
          have hym := List.mem_of_getElem? hy
          obtain ⟨n1, n2⟩ := frx y hym
          have ftF' : ∀ t ∈ F', t.fine ∧ t.dep ≤ 60 := fun t ht => by
            have := allOf_ok wf (or'.inAll t ht)
            exact ⟨this.1.fine, by have := this.2; omega⟩
          refine ⟨_, rfl, _, rfl, rd_notInTs iy' (ftf y hym) hq' htF' ftF' ⟨_, rfl, ?_⟩⟩
          by_cases hin : y ∈ F'
          · rw [decide_eq_true hin]
            refine iteF (nxt ⟨F', fv', _, rfl, off', hq', htF', or', .inr ?_⟩)
            rcases hl' with ⟨_, e⟩ | h
            · rw [e] at hin
              exact absurd hin n1
            · exact h
          · rw [decide_eq_false hin]
            have hlf := htF'.len
            have hl59 := or'.lenU hub hup hus
            refine iteT ?_
            refine ⟨_, rfl, .inl ⟨rfl, _, SqL.of hq'⟩, _, rfl, q, fv', _, rfl, rfl, hq', by omega, ?_⟩
            have kp := Kp.upd_lst (C := 0) (ys := fv' ++ [x]) hq'
            refine ⟨F' ++ [y], fv' ++ [x], _, rfl, fun c o hc e => by rw [upd_ne hc]; exact off' c o hc e, upd_same, (htF'.mono kp).app (TsAt.one (iy'.mono kp)), or'.add hin n2, .inr ?_⟩
            rw [List.length_append, List.length_singleton]
            rcases hl' with ⟨_, e⟩ | h
            · rw [e]
              exact Nat.le_refl _
            · omega
        · rintro σ' H' ⟨F', fv', t4, rfl, off', hq', htF', or', hl'⟩
          refine ⟨F', fv', _, _, _, _, rfl, fun c o e => off' c o (ne_of_none e hq) (S4 _ _ e), hq', htF', or', ?_⟩
          have hne : 0 < vf.length := by
            rw [hvl]
            rcases Nat.eq_zero_or_pos (freshO ts F).length with h | h
            · rw [List.length_eq_zero_iff.mp h] at ee
              cases ee
            · exact h
          rcases hl' with ⟨e, _⟩ | h
          · omega
          · omega
    · rintro σ Hc ⟨F, fv, t2, t3, t4, t5, rfl, Sc, hqc, htF, or, hlen⟩
      have := or.lenU hub hup hus
      omega
end
end Rd
namespace Rd
open PySem L2
theorem pick_of {K : PySem.W.Frag} {p a : Addr} {xs us : List V} {n : Nat} {H : Hp} {Q : VK} {E : XK} (hp : H p = some (.lst xs)) (hx : StL (n + 1) xs) (ne : a ≠ p) (ha : H a = some (.lst us)) (h0 : 0 < us.length) (hb : us.length ≤ 1000)
    (k : ∀ v H' ys, v ∈ us → But p H H' → H' p = some (.lst ys) → StL n ys → Q v H') : sp_pick K [.ref p, .ref a] H Q E :=
  ⟨p, a, xs, us, n, rfl, hp, hx, SqL.of ha, SqL.of (by rw [upd_ne ne]; exact ha), h0, by omega, fun j v ys hj hy => k v _ ys (List.mem_of_getElem? hj) But.upd upd_same hy⟩
def smS : Nat → Nat
  | 0 => 1
  | d + 1 => 2 * smS d + 2
def dS (d : Nat) : Nat := 4 * 3 ^ d
/-- a form of some atoms, made by so many turns at most -/
inductive Smd (A : List Tr) : Nat → Tr → Prop
  | at_ {d : Nat} {t : Tr} (h : t ∈ A) : Smd A d t
  | un {d : Nat} {s : Str} {t : Tr} (hs : s ∈ (["mark", "open", "own"] : List Str)) (h : Smd A d t) : Smd A (d + 1) (.un s t)
  | lk {d : Nat} {s : Str} {a b : Tr} (hs : s ∈ (["open", "own"] : List Str)) (h : Smd A d a) (g : Smd A d b) : Smd A (d + 1) (.bi "lock" a (.un s b))
  | bi {d : Nat} {s : Str} {a b : Tr} (hs : s ∈ (["pair", "seal"] : List Str)) (h : Smd A d a) (g : Smd A d b) : Smd A (d + 1) (.bi s a b)
theorem all_un (s : Str) (a : Tr) : (Tr.un s a).all.length = a.all.length + 1 := by simp [Tr.all]
theorem all_bi (s : Str) (a b : Tr) : (Tr.bi s a b).all.length = a.all.length + b.all.length + 1 := by simp [Tr.all]
def sp_small (d : Nat) : Sp := fun vs H Q _ => ∃ (p u : Addr) (xs av : List V) (A : List Tr) (n : Nat), vs = [.ref p, .ref u, .int d] ∧ H p = some (.lst xs) ∧ StL (n + dS d) xs ∧ u ≠ p ∧ H u = some (.lst av) ∧ TsAt H A av ∧ 0 < A.length ∧ A.length ≤ 1000 ∧ (∀ t ∈ A, Wf t) ∧
  ∀ t v ys H', But p H H' → H' p = some (.lst ys) → StL n ys → Smd A d t → IsT H' t v → Q v H'
def spU (D : Nat) : Sp := fun vs H Q E => ∃ d, d ≤ D ∧ sp_small d vs H Q E
def spSmR : Nat → Sp
  | 0 => fun _ _ _ _ => False
  | d + 1 => spU d
section
variable {P : Program} {w : World} {K : PySem.W.Frag} {mg : Str → Option Value} {base : Heap}
abbrev s__law_atoms : Stmt := top 43
theorem sc__law_atoms : FnScope ["_law_form", "_law_kind", "_law_part"] ["_law_form", "_law_kind"] (defScope s__law_atoms) := ⟨rfl, rfl, rfl, by decide +kernel, rfl, by decide +kernel, by decide +kernel⟩
theorem ok__law_atoms (T : Tx w K mg) (d : Nat) : Fk P w K mg base CX0 (d + 3) "_law_atoms" ["_law_form", "_law_kind"] (fun vs H Q E => sp_atoms d vs H Q E ∧ ∃ kd ∈ kinds, vs[1]? = some (.str kd)) := by
  refine T.F__law_atoms.ok0 sc__law_atoms (fun _ _ _ _ _ _ us hl => match us, hl with | [_, _], _ => rfl)
    (fun vs H Q E h => ?_) (fun cdv A outer s H vs Q E hr h => ?_)
  · obtain ⟨⟨v, t, kd, rfl, _⟩, _⟩ := h
    rfl
  · obtain ⟨⟨v, t, kd, rfl, it, wf, dp, d10, k⟩, kd', hk, e⟩ := h
    obtain rfl : kd = kd' := by cases e; rfl
    refine ⟨_, (pss_one (ps_ret (pe_callB (cr_sortedSS rfl) (by rfl) T.z_sorted (by decide +kernel) (pa_cons (pe_callTy (cr_setOfS rfl) (by rfl) T.z_set (by decide +kernel) (pa_cons (pe_lc (own := [("_law_part", 2)]) (g := gName 2)  (by rfl) sc__law_atoms.nd (pi_list (pe_fk (ok__law_parts T d) (hr.mono (by omega)) rfl pass0 (pa_cons (pv 0) pa_nil))) (blkOk_by (own := [("_law_part", 2)]) (N := ["_law_form", "_law_kind", "_law_part"]) (sc := defScope s__law_atoms) (by decide +kernel)) (fun _ _ _ _ _ => (pg_name (i := 2) sc__law_atoms.nd rfl (Or.inl rfl))) (fun _ _ _ _ _ => (pts_one (pt_cmpR op_eq (pe_ix (kIx (r := rIxT) (K := K) rfl ix_tup) (pv 2) pe_int (fun _ _ => rfl)) (pv 1) (nomark _)))) (fun _ _ _ _ _ => (pe_ix (kIx (r := rIxT) (K := K) rfl ix_tup) (pv 2) pe_int (fun _ _ => rfl)))) pa_nil)) pa_nil)))), ?_⟩
    refine ⟨_, rfl, v, t, rfl, it, wf, dp, (by omega), fun p ws H1 s1 np hp htz => ?_⟩
    refine ⟨p, rfl, ⟨_, SqL.of hp⟩, fun D hD => ?_⟩
    have hl1 := all_len t
    have hpw : 2 ^ (t.dep + 1) ≤ 2 ^ 11 := Nat.pow_le_pow_right (by decide) (by omega)
    have h13 : 2 ^ 11 + 1 < scanBound := by decide
    have h14 : 2 ^ 11 ≤ 100000 := by decide
    refine lclF (fun t => (txt1 kd t).map V.str) (fun t => by rw [List.length_map]; exact txt1_le kd t) (SqL.of hp) htz.len (by rw [htz.len]; omega) hD (fun i x t1 H2 Q2 hx ht s2 => ?_) (fun σ H P Q h z => ?_) fun H2 s2 hD2 => ?_
    · have i1 := (htz.get i t1 x ht hx).same s2
      have w1 := (all_wf wf t1 (List.mem_of_getElem? ht)).1
      obtain ⟨q, us, rfl, hq, _, h1⟩ := txt_at (kd := kd) i1 w1
      refine ⟨fun e => ?_, fun c e => ?_⟩
      · exact ⟨_, rfl, q, _, _, _, rfl, rfl, SqT.of hq, at_of (j := 0) rfl rfl, _, rfl, rfl, _, rfl, decide_eq_false (fun z => head_kd w1 hk (List.map_eq_nil_iff.mp e) (by cases z; rfl)), rfl⟩
      · obtain ⟨c', e', rfl⟩ : ∃ c', txt1 kd t1 = [c'] ∧ c = .str c' := by
          cases hc : txt1 kd t1 with
          | nil => rw [hc] at e; cases e
          | cons a r =>
            rw [hc, List.map_cons] at e
            cases r with
            | nil => cases e; exact ⟨a, rfl, rfl⟩
            | cons b r => cases e
        refine ⟨?_, fun z => ?_⟩
        · exact ⟨_, rfl, q, _, _, _, rfl, rfl, SqT.of hq, at_of (j := 0) rfl rfl, _, rfl, rfl, _, rfl, decide_eq_true (by rw [(h1 c' e').1]), rfl⟩
        · rw [(h1 c' e').2] at hq
          exact ⟨_, rfl, q, _, _, _, rfl, rfl, SqT.of hq, at_of (j := 1) rfl rfl, z⟩
    · obtain ⟨_, h1, q, a, b, c, h2, h3, h4, h5, d, h6, h7, e, h8, h9⟩ := z
      exact ⟨_, h1, q, a, b, c, h2, h3, h4, h5, d, h6, h7, e, h8, h _ _ h9⟩
    · have e : t.all.flatMap (fun t => (txt1 kd t).map V.str) = (t.txt kd).map V.str := by rw [← txt_all, List.map_flatMap]
      rw [e] at hD2
      have htl := txts_len kd t
      refine ⟨D, t.txt kd, rfl, SqL.of hD2, (by omega), fun S hS => ?_⟩
      refine ⟨S, _, rfl, upd_same, fun ys q pm nd so hq => ?_⟩
      have e : ys = uniS (t.txt kd) := uniS_of nd so fun z => by rw [pm.mem_iff, putS_mem]; simp
      rw [e]
      have s3 := (s1.trans s2).trans (Rd.Same.upd (o := SetSO w S (putS [] (t.txt kd))) hS)
      exact k q _ (s3.trans (Rd.Same.upd hq)) (s3.free hq) upd_same
abbrev s__law_small : Stmt := top 44
theorem sc__law_small : FnScope ["_law_stream_here", "_law_atoms_here", "_law_deep", "_law_way", "_law_one", "_law_other"] ["_law_stream_here", "_law_atoms_here", "_law_deep"] (defScope s__law_small) := ⟨rfl, rfl, rfl, by decide +kernel, rfl, by decide +kernel, by decide +kernel⟩
theorem small_step (T : Tx w K mg) (D : Nat) (ih : Fk P w K mg base CX0 (D + 2) "_law_small" ["_law_stream_here", "_law_atoms_here", "_law_deep"] (spSmR D)) : Fk P w K mg base CX0 (D + 3) "_law_small" ["_law_stream_here", "_law_atoms_here", "_law_deep"] (spU D) := by
  refine T.F__law_small.ok0 sc__law_small (fun _ _ _ _ _ _ us hl => match us, hl with | [_, _, _], _ => rfl)
    (fun vs H Q E h => ?_) (fun cdv A outer s H vs Q E hr h => ?_)
  · obtain ⟨d, _, p, u, xs, av, AA, n, rfl, _⟩ := h
    rfl
  · obtain ⟨d, hdD, p, u, xs, av, AA, n, rfl, hp, hx, nup, hu, hA, hA0, hA1, hAw, k⟩ := h
    refine ⟨_, (pss_cons (ps_set (i := 3) sc__law_small.nd rfl (Or.inl rfl) (pe_ifExp (pt_cmpR op_gt (pv 2) pe_int (nomark _)) (pe_fk (ok__law_draw T) (hr.mono (by omega)) rfl pass0 (pa_cons (pv 0) (pa_cons pe_int pa_nil))) pe_int))
  (pss_cons (ps_if (pt_cmpR op_lt (pv 3) pe_int (nomark _))
  (pss_one (ps_ret (pe_fk (ok__law_pick T) (hr.mono (by omega)) rfl pass0 (pa_cons (pv 0) (pa_cons (pv 1) pa_nil)))))
  pss_nil)
  (pss_cons (ps_set (i := 4) sc__law_small.nd rfl (Or.inl rfl) (pe_fk ih (hr.mono (by omega)) rfl pass0 (pa_cons (pv 0) (pa_cons (pv 1) (pa_cons (pe_op op_sub (pv 2) pe_int) pa_nil)))))
  (pss_cons (ps_if (pt_cmpR op_eq (pv 3) pe_int (nomark _))
  (pss_one (ps_ret (pe_tup (pa_cons (pe_fk (ok__law_pick T) (hr.mono (by omega)) rfl pass0 (pa_cons (pv 0) (pa_cons (pe_lst (pa_cons pe_str (pa_cons pe_str (pa_cons pe_str pa_nil)))) pa_nil))) (pa_cons (pv 4) pa_nil)))))
  pss_nil)
  (pss_cons (ps_set (i := 5) sc__law_small.nd rfl (Or.inl rfl) (pe_fk ih (hr.mono (by omega)) rfl pass0 (pa_cons (pv 0) (pa_cons (pv 1) (pa_cons (pe_op op_sub (pv 2) pe_int) pa_nil)))))
  (pss_cons (ps_if (pt_cmpR op_eq (pv 3) pe_int (nomark _))
  (pss_one (ps_ret (pe_tup (pa_cons pe_str (pa_cons (pv 4) (pa_cons (pe_tup (pa_cons (pe_fk (ok__law_pick T) (hr.mono (by omega)) rfl pass0 (pa_cons (pv 0) (pa_cons (pe_lst (pa_cons pe_str (pa_cons pe_str pa_nil))) pa_nil))) (pa_cons (pv 5) pa_nil))) pa_nil))))))
  pss_nil)
  (pss_one (ps_ret (pe_tup (pa_cons (pe_ix ix_list (pe_lst (pa_cons pe_str (pa_cons pe_str pa_nil))) (pe_op op_mod (pe_callTy call_int1 (by rfl) T.z_int (by decide +kernel) (pa_cons (pv 3) pa_nil)) pe_int) (fun _ _ => rfl)) (pa_cons (pv 4) (pa_cons (pv 5) pa_nil)))))))))))), ?_⟩
    have hal := hA.len
    have d4 : 4 ≤ dS d := by
      have := Nat.pow_pos (n := d) (show 0 < 3 by decide)
      unfold dS
      omega
    have atomc : ∀ {H1 : Hp} {y1 : List V}, But p H H1 → H1 p = some (.lst y1) → StL (n + 1) y1 → sp_pick K [.ref p, .ref u] H1 Q E0 := fun {H1 y1} b hp1 hy => by
      refine pick_of hp1 hy nup (b u _ nup hu) (by omega) (by omega) fun v H' ys hv b' hp' hy' => ?_
      have kb : Kp 0 H H' := (b.trans b').kp hp
      obtain ⟨t, ht, it⟩ := (hA.mono kb).mem hv
      exact k _ v ys H' (b.trans b') hp' hy' (.at_ ht) it
    refine ⟨_, rfl, _, _, rfl, rfl, _, rfl, ite2 (fun h1 => ?_) (fun h1 => ?_)⟩
    · cases d with
      | zero => exact absurd (of_decide_eq_true h1) (by decide)
      | succ d =>
        obtain ⟨D', rfl⟩ : ∃ D', D = D' + 1 := ⟨D - 1, by omega⟩
        have hD : dS (d + 1) = 3 * dS d := by
          unfold dS
          rw [Nat.pow_succ]
          omega
        have dd4 : 4 ≤ dS d := by
          have := Nat.pow_pos (n := d) (show 0 < 3 by decide)
          unfold dS
          omega
        have ed : (((d + 1 : Nat) : Int) - 1) = (d : Int) := by omega
        have eS : smS (d + 1) = 2 * smS d + 2 := rfl
        refine rd_draw (m := 9) (n := n + 3 * dS d - 1) (by rfl) hp (hx.mono (by omega)) (by decide) (by decide) fun way H1 y1 hw b1 hp1 hy1 => ?_
        have hu1 := b1 u _ nup hu
        have hA1' : TsAt H1 AA av := hA.mono (C := 0) (b1.kp hp)
        refine gName_k ?_
        try dsimp only
        refine ⟨_, rfl, _, _, rfl, rfl, _, rfl, ite2 (fun h2 => ?_) (fun h2 => ?_)⟩
        · exact ⟨_, rfl, _, rfl, atomc b1 hp1 (hy1.mono (by omega))⟩
        refine ⟨_, rfl, _, rfl, _, rfl, _, _, rfl, rfl, d, by omega, p, u, y1, av, AA, n + 2 * dS d - 1, ?_, hp1, hy1.mono (by omega), nup, hu1, hA1', hA0, hA1, hAw, fun t1 v1 y2 H2 b2 hp2 hy2 sm1 it1 => ?_⟩
        · show [V.ref p, V.ref u, V.int (((d + 1 : Nat) : Int) - 1)] = _
          rw [ed]
        have hu2 := b2 u _ nup hu1
        have hA2 : TsAt H2 AA av := hA1'.mono (C := 0) (b2.kp hp1)
        have B2 := b1.trans b2
        refine ⟨_, rfl, rfl, _, rfl, ite2 (fun h3 => ?_) (fun h3 => ?_)⟩
        · refine ⟨_, rfl, (by show 3 ≤ sizeLine; decide), fun ql hql => ?_⟩
          have sl := Rd.Same.upd (o := .lst [.str "mark", .str "open", .str "own"]) hql
          have nlp : ql ≠ p := fun z => by rw [z, hp2] at hql; cases hql
          have hql1 : upd H2 ql (.lst [.str "mark", .str "open", .str "own"]) ql = some (.lst [.str "mark", .str "open", .str "own"]) := upd_same
          generalize upd H2 ql (.lst [.str "mark", .str "open", .str "own"]) = HL at sl hql1 ⊢
          refine ⟨p, ql, y2, _, n, rfl, sl _ _ hp2, hy2.mono (by omega), SqL.of hql1, SqL.of (by rw [upd_ne nlp]; exact hql1), (by show 0 < 3; decide), (by show 3 < 1073741824; decide), fun j v y3 hj hy3 => ?_⟩
          have hv := List.mem_of_getElem? hj
          have b3 : But p HL (upd HL p (.lst y3)) := But.upd
          have hp3 : upd HL p (.lst y3) p = some (.lst y3) := upd_same
          generalize upd HL p (.lst y3) = H3 at b3 hp3 ⊢
          obtain ⟨s3, rfl, hs3⟩ : ∃ s3 : Str, v = .str s3 ∧ s3 ∈ (["mark", "open", "own"] : List Str) := str_of hv (by decide +kernel)
          refine ⟨_, rfl, (by show 2 ≤ sizeLine; decide), fun q hq => ?_⟩
          refine k (.un s3 t1) _ y3 _ (((B2.trans (But.of_same sl)).trans b3).trans (But.new hq)) (by rw [upd_ne (ne_of_none hp3 hq)]; exact hp3) hy3 (.un hs3 sm1) ⟨q, v1, rfl, upd_same, ((it1.same sl).but b3 (sl _ _ hp2)).same (Rd.Same.upd hq)⟩
        refine ⟨_, rfl, _, rfl, _, rfl, _, _, rfl, rfl, d, by omega, p, u, y2, av, AA, n + dS d - 1, ?_, hp2, hy2.mono (by omega), nup, hu2, hA2, hA0, hA1, hAw, fun t2 v2 y3 H3 b3 hp3 hy3 sm2 it2 => ?_⟩
        · show [V.ref p, V.ref u, V.int (((d + 1 : Nat) : Int) - 1)] = _
          rw [ed]
        have B3 := B2.trans b3
        have it1' := it1.but b3 hp2
        refine ⟨_, rfl, rfl, _, rfl, ite2 (fun h4 => ?_) (fun h4 => ?_)⟩
        · refine ⟨_, rfl, _, rfl, (by show 2 ≤ sizeLine; decide), fun ql hql => ?_⟩
          have sl := Rd.Same.upd (o := .lst [.str "open", .str "own"]) hql
          have nlp : ql ≠ p := fun z => by rw [z, hp3] at hql; cases hql
          have hql1 : upd H3 ql (.lst [.str "open", .str "own"]) ql = some (.lst [.str "open", .str "own"]) := upd_same
          generalize upd H3 ql (.lst [.str "open", .str "own"]) = HL at sl hql1 ⊢
          refine ⟨p, ql, y3, _, n, rfl, sl _ _ hp3, hy3.mono (by omega), SqL.of hql1, SqL.of (by rw [upd_ne nlp]; exact hql1), (by show 0 < 2; decide), (by show 2 < 1073741824; decide), fun j v y4 hj hy4 => ?_⟩
          have hv := List.mem_of_getElem? hj
          have b4 : But p HL (upd HL p (.lst y4)) := But.upd
          have hp4 : upd HL p (.lst y4) p = some (.lst y4) := upd_same
          generalize upd HL p (.lst y4) = H4 at b4 hp4 ⊢
          obtain ⟨s4, rfl, hs4⟩ : ∃ s4 : Str, v = .str s4 ∧ s4 ∈ (["open", "own"] : List Str) := str_of hv (by decide +kernel)
          refine ⟨_, rfl, (by show 2 ≤ sizeLine; decide), fun q hq => ⟨(by show 3 ≤ sizeLine; decide), fun q2 hq2 => ?_⟩⟩
          have sq := Rd.Same.upd (o := .tup [.str s4, v2]) hq
          have sq2 := sq.trans (Rd.Same.upd (o := .tup [.str "lock", v1, .ref q]) hq2)
          have i1 := ((it1'.same sl).but b4 (sl _ _ hp3)).same sq2
          have i2 := ((it2.same sl).but b4 (sl _ _ hp3)).same sq2
          refine k (.bi "lock" t1 (.un s4 t2)) _ y4 _ (((B3.trans (But.of_same sl)).trans b4).trans (But.of_same sq2)) (sq2 _ _ hp4) hy4 (.lk hs4 sm1 sm2) ⟨q2, v1, _, rfl, upd_same, i1, q, v2, rfl, ?_, i2⟩
          rw [upd_ne (fun z => by rw [← z, upd_same] at hq2; cases hq2), upd_same]
        · refine ⟨(by show 2 ≤ sizeLine; decide), fun q hq => ?_⟩
          have sq := Rd.Same.upd (o := .lst [.str "pair", .str "seal"]) hq
          have hj : ((way : Int) % 2).toNat < 2 := by omega
          obtain ⟨v, hv⟩ : ∃ v, ([.str "pair", .str "seal"] : List V)[((way : Int) % 2).toNat]? = some v := ⟨_, List.getElem?_eq_getElem (by show _ < 2; exact hj)⟩
          obtain ⟨s4, rfl, hs4⟩ : ∃ s4 : Str, v = .str s4 ∧ s4 ∈ (["pair", "seal"] : List Str) := str_of (List.mem_of_getElem? hv) (by decide +kernel)
          refine ⟨_, rfl, .inl ⟨_, rfl, _, _, rfl, rfl, (by show (0 : Int) < 2; decide), q, _, _, .str s4, rfl, rfl, SqL.of upd_same, at_of (j := ((way : Int) % 2).toNat) (by omega) hv, _, rfl, _, rfl, (by show 3 ≤ sizeLine; decide), fun q2 hq2 => ?_⟩⟩
          have sq2 := sq.trans (Rd.Same.upd (o := .tup [.str s4, v1, v2]) hq2)
          exact k (.bi s4 t1 t2) _ y3 _ (B3.trans (But.of_same sq2)) (sq2 _ _ hp3) (hy3.mono (by omega)) (.bi hs4 sm1 sm2) ⟨q2, v1, v2, rfl, upd_same, it1'.same sq2, it2.same sq2⟩
    · refine gName_k ?_
      try dsimp only
      refine ⟨_, rfl, _, _, rfl, rfl, _, rfl, ite2 (fun h2 => ?_) (fun h2 => absurd (by decide) h2)⟩
      exact ⟨_, rfl, _, rfl, atomc But.refl hp (hx.mono (by omega))⟩
theorem small_none (T : Tx w K mg) : Fk P w K mg base CX0 1 "_law_small" ["_law_stream_here", "_law_atoms_here", "_law_deep"] (spSmR 0) := by
  refine T.F__law_small.ok0 sc__law_small (fun _ _ _ _ _ _ us hl => match us, hl with | [_, _, _], _ => rfl) (fun vs H Q E h => h.elim) (fun cdv A outer s H vs Q E hr h => h.elim)
theorem ok__law_small (T : Tx w K mg) : ∀ d : Nat, Fk P w K mg base CX0 (d + 3) "_law_small" ["_law_stream_here", "_law_atoms_here", "_law_deep"] (spU d)
  | 0 => small_step T 0 ((small_none T).mono (by decide))
  | d + 1 => small_step T (d + 1) (ok__law_small T d)
end
end Rd
namespace Rd
open PySem L2
def sp_eqL (K : PySem.W.Frag) : Sp := fun vs H Q _ => ∃ (a b : Addr) (u1 u2 : V) (t u : Tr), vs = [.ref a, .ref b] ∧ IsL K H a u1 ∧ IsL K H b u2 ∧ IsT H t u1 ∧ IsT H u u2 ∧ t.fine ∧ u.fine ∧ t.dep ≤ 60 ∧ u.dep ≤ 60 ∧ Q (.bl (PyData.eqv (dat t) (dat u))) H
section
variable {P : Program} {w : World} {K : PySem.W.Frag} {mg : Str → Option Value} {base : Heap}
abbrev s_Letter_eq : Stmt := inClass (top 25) 14
theorem sc_Letter_eq : FnScope ["self", "other"] ["self", "other"] (defScope s_Letter_eq) := ⟨rfl, rfl, rfl, by decide +kernel, rfl, by decide +kernel, by decide +kernel⟩
theorem ok_Leq (T : Tx w K mg) : Fm P w K mg base CX0 1 "Letter" "__eq__" ["self", "other"] (sp_eqL K) := by
  refine T.M_Letter_eq.ok0 sc_Letter_eq (fun _ _ _ _ _ _ us hl => match us, hl with | [_, _], _ => rfl)
    (fun vs H Q E h => ?_) (fun cdv A outer s H vs Q E hr h => ?_)
  · obtain ⟨a, b, u1, u2, t, u, rfl, _⟩ := h
    rfl
  · obtain ⟨a, b, u1, u2, t, u, rfl, ⟨dx, ha⟩, ⟨dy, hb⟩, i1, i2, f1, f2, d1, d2, k⟩ := h
    refine ⟨_, (pss_cons (ps_if (pt_not (pt_val (pe_callB call_isi (by rfl) T.z_isinstance (by decide +kernel) (pa_cons (pv 1) (pa_cons (pe_gcls rfl T.g_Letter) pa_nil))))) pss_never pss_nil)
  (pss_one (ps_ret (pe_cmpR (op_eqD hr.units) (pe_fld (pv 0) rfl) (pe_fld (pv 1) rfl) (nomark _))))), ?_⟩
    refine ⟨_, rfl, .ref b, .ref _, .ref _, .ref _, true, rfl, .own _, T.Y_Letter.ty T.k_Letter hb, kit_self, _, rfl, iteF ?_⟩
    exact ⟨_, rfl, a, _, dx, _, _, rfl, ha, T.k_Letter, T.n_Letter_tree, look1 _, _, rfl, b, _, dy, _, _, rfl, hb, T.k_Letter, T.n_Letter_tree, look1 _, dat t, dat u, i1.dp, i2.dp, dat_shaped f1 d1, dat_shaped f2 d2, k⟩
end
end Rd
namespace Rd
open PySem L2
/-- two letters of one form -/
def LsR (K : PySem.W.Frag) (a b : Addr) (H : Hp) : Prop := ∃ (t : Tr) (u1 u2 : V), IsL K H a u1 ∧ IsL K H b u2 ∧ IsT H t u1 ∧ IsT H t u2 ∧ t.fine ∧ t.dep ≤ 60
theorem monLs {K : PySem.W.Frag} : Mon (DIns (He.ga K "Letter") (LsR K)) := mon_ins fun a b H H' e ⟨t, u1, u2, ⟨dx, ha⟩, ⟨dy, hb⟩, i1, i2, f, d⟩ => by
  have s : Same H H' := fun c o h => e c o h
  exact ⟨t, u1, u2, ⟨dx, s _ _ ha⟩, ⟨dy, s _ _ hb⟩, i1.same s, i2.same s, f, d⟩
theorem eqLs {X : Cx} (F : Fm X.prog X.w X.K X.mg X.base CX0 1 "Letter" "__eq__" ["self", "other"] (sp_eqL X.K)) : EqG X 1 (DIns (He.ga X.K "Letter") (LsR X.K)) := by
  obtain ⟨⟨fd, f1, b1⟩, me⟩ := F
  refine eqG_ins (E := E0) (f1.imp fun vs H Q E h => ?_) me.at_ me.fn b1 pass0
  obtain ⟨a, b, rfl, ⟨t, u1, u2, h1, h2, i1, i2, f, d⟩, k⟩ := h
  refine ⟨a, b, u1, u2, t, t, rfl, h1, h2, i1, i2, f, f, d, d, ?_⟩
  rw [SeqAt.eqv_refl _ (Bool.and_eq_true_iff.mp (dat_shaped f d)).1]
  exact k H fun c o h => h
end Rd
namespace Rd
open PySem L2
def opW : Tr → List Tr
  | .am k x => [.am k x]
  | .un s a => [.un s a]
  | .bi s a b => .bi s a b :: (opW a ++ if s = "pair" then opW b else [])
theorem opW_self (t : Tr) : t ∈ opW t := by cases t <;> exact List.mem_cons_self
theorem opW_in {t : Tr} : ∀ {s : Str} {a b : Tr}, Tr.bi s a b ∈ opW t → a ∈ opW t ∧ (s = "pair" → b ∈ opW t) := by
  induction t with
  | am k x => intro s a b h; rw [opW] at h; exact absurd (List.mem_singleton.mp h) (by simp)
  | un s' c _ => intro s a b h; rw [opW] at h; exact absurd (List.mem_singleton.mp h) (by simp)
  | bi s' c d ihc ihd =>
    intro s a b h
    rw [opW] at h ⊢
    rcases List.mem_cons.mp h with e | h
    · cases e
      refine ⟨List.mem_cons_of_mem _ (List.mem_append_left _ (opW_self _)), fun e => ?_⟩
      rw [if_pos e]
      exact List.mem_cons_of_mem _ (List.mem_append_right _ (opW_self _))
    · rcases List.mem_append.mp h with h | h
      · obtain ⟨h1, h2⟩ := ihc h
        exact ⟨List.mem_cons_of_mem _ (List.mem_append_left _ h1), fun e => List.mem_cons_of_mem _ (List.mem_append_left _ (h2 e))⟩
      · by_cases hp : s' = "pair"
        · rw [if_pos hp] at h ⊢
          obtain ⟨h1, h2⟩ := ihd h
          exact ⟨List.mem_cons_of_mem _ (List.mem_append_right _ h1), fun e => List.mem_cons_of_mem _ (List.mem_append_right _ (h2 e))⟩
        · rw [if_neg hp] at h
          cases h
theorem Smd.mono {A B : List Tr} (s : ∀ a ∈ A, a ∈ B) {d : Nat} {t : Tr} (h : Smd A d t) : Smd B d t := by
  induction h with
  | at_ h => exact .at_ (s _ h)
  | un hs _ ih => exact .un hs ih
  | lk hs _ _ ih ig => exact .lk hs ih ig
  | bi hs _ _ ih ig => exact .bi hs ih ig
theorem Smd.wf {A : List Tr} (w : ∀ a ∈ A, Wf a) {d : Nat} {t : Tr} (h : Smd A d t) : Wf t := by
  induction h with
  | at_ h => exact w _ h
  | un hs _ ih => exact .un hs ih
  | lk hs _ _ ih ig => exact .lk hs ih ig
  | bi hs _ _ ih ig => exact .bi hs ih ig
theorem Smd.dep {A : List Tr} {D : Nat} (w : ∀ a ∈ A, a.dep ≤ D) {d : Nat} {t : Tr} (h : Smd A d t) : t.dep ≤ D + 2 * d := by
  induction h with
  | at_ h => have := w _ h; omega
  | @un d s t hs _ ih => show t.dep + 1 ≤ _; omega
  | @lk d s a b hs _ _ ih ig => show max a.dep (b.dep + 1) + 1 ≤ _; omega
  | @bi d s a b hs _ _ ih ig => show max a.dep b.dep + 1 ≤ _; omega
theorem Smd.txt {A : List Tr} {kd : Str} {S : List Str} (w : ∀ a ∈ A, ∀ x ∈ a.txt kd, x ∈ S) {d : Nat} {t : Tr} (h : Smd A d t) : ∀ x ∈ t.txt kd, x ∈ S := by
  induction h with
  | at_ h => exact w _ h
  | un hs _ ih => exact ih
  | lk hs _ _ ih ig => exact fun x hx => (List.mem_append.mp hx).elim (ih x) (ig x)
  | bi hs _ _ ih ig => exact fun x hx => (List.mem_append.mp hx).elim (ih x) (ig x)
def szB (B : Nat) : Nat → Nat
  | 0 => B
  | d + 1 => 2 * szB B d + 2
theorem szB_ge (B d : Nat) : B ≤ szB B d := by
  induction d with
  | zero => exact Nat.le_refl _
  | succ d ih => show B ≤ 2 * szB B d + 2; omega
theorem Smd.size {A : List Tr} {B : Nat} {m : Str → Option Tr} (w : ∀ a ∈ A, (fill m a).all.length ≤ B) {d : Nat} {t : Tr} (h : Smd A d t) : (fill m t).all.length ≤ szB B d := by
  induction h with
  | @at_ d t h => have := w _ h; have := szB_ge B d; omega
  | @un d s t hs _ ih =>
    show (Tr.un s (fill m t)).all.length ≤ 2 * szB B d + 2
    rw [all_un]; omega
  | @lk d s a b hs _ _ ih ig =>
    show (Tr.bi "lock" (fill m a) (.un s (fill m b))).all.length ≤ 2 * szB B d + 2
    rw [all_bi, all_un]; omega
  | @bi d s a b hs _ _ ih ig =>
    show (Tr.bi s (fill m a) (fill m b)).all.length ≤ 2 * szB B d + 2
    rw [all_bi]; omega
theorem Smd.cover {A : List Tr} {m : Str → Option Tr} {d : Nat} {t : Tr} (h : Smd A d t) : ∃ I : List Tr, I.length + 1 ≤ 2 ^ d ∧ (∀ z ∈ opW (fill m t), z ∈ I ∨ ∃ a ∈ A, z ∈ opW (fill m a)) ∧ ∀ z ∈ I, z ∈ opW (fill m t) := by
  induction h with
  | @at_ d t h => exact ⟨[], by have := Nat.pow_pos (n := d) (show 0 < 2 by decide); show 0 + 1 ≤ _; omega, fun z hz => .inr ⟨t, h, hz⟩, fun z hz => by cases hz⟩
  | @un d s t hs _ ih =>
    refine ⟨[.un s (fill m t)], ?_, fun z hz => .inl hz, fun z hz => hz⟩
    have := Nat.pow_pos (n := d) (show 0 < 2 by decide)
    rw [Nat.pow_succ]
    show 1 + 1 ≤ _
    omega
  | @lk d s a b hs _ _ ih ig =>
    obtain ⟨I, i1, i2, i3⟩ := ih
    have e : opW (fill m (.bi "lock" a (.un s b))) = .bi "lock" (fill m a) (.un s (fill m b)) :: opW (fill m a) := by
      show .bi "lock" (fill m a) (.un s (fill m b)) :: (opW (fill m a) ++ if ("lock" : Str) = "pair" then _ else []) = _
      rw [if_neg (by decide +kernel), List.append_nil]
    rw [e]
    refine ⟨.bi "lock" (fill m a) (.un s (fill m b)) :: I, by rw [List.length_cons, Nat.pow_succ]; omega, fun z hz => ?_, fun z hz => ?_⟩
    · rcases List.mem_cons.mp hz with rfl | hz
      · exact .inl List.mem_cons_self
      · exact (i2 z hz).imp (List.mem_cons_of_mem _) id
    · rcases List.mem_cons.mp hz with rfl | hz
      · exact List.mem_cons_self
      · exact List.mem_cons_of_mem _ (i3 z hz)
  | @bi d s a b hs _ _ ih ig =>
    obtain ⟨I, i1, i2, i3⟩ := ih
    obtain ⟨J, j1, j2, j3⟩ := ig
    show ∃ I' : List Tr, I'.length + 1 ≤ 2 ^ (d + 1) ∧ (∀ z ∈ .bi s (fill m a) (fill m b) :: (opW (fill m a) ++ if s = "pair" then opW (fill m b) else []), z ∈ I' ∨ ∃ a ∈ A, z ∈ opW (fill m a)) ∧ ∀ z ∈ I', z ∈ .bi s (fill m a) (fill m b) :: (opW (fill m a) ++ if s = "pair" then opW (fill m b) else [])
    by_cases hp : s = "pair"
    · rw [if_pos hp]
      refine ⟨.bi s (fill m a) (fill m b) :: (I ++ J), by rw [List.length_cons, List.length_append, Nat.pow_succ]; omega, fun z hz => ?_, fun z hz => ?_⟩
      · rcases List.mem_cons.mp hz with rfl | hz
        · exact .inl List.mem_cons_self
        · rcases List.mem_append.mp hz with hz | hz
          · exact (i2 z hz).imp (fun q => List.mem_cons_of_mem _ (List.mem_append_left _ q)) id
          · exact (j2 z hz).imp (fun q => List.mem_cons_of_mem _ (List.mem_append_right _ q)) id
      · rcases List.mem_cons.mp hz with rfl | hz
        · exact List.mem_cons_self
        · rcases List.mem_append.mp hz with hz | hz
          · exact List.mem_cons_of_mem _ (List.mem_append_left _ (i3 z hz))
          · exact List.mem_cons_of_mem _ (List.mem_append_right _ (j3 z hz))
    · rw [if_neg hp, List.append_nil]
      refine ⟨.bi s (fill m a) (fill m b) :: I, by rw [List.length_cons, Nat.pow_succ]; omega, fun z hz => ?_, fun z hz => ?_⟩
      · rcases List.mem_cons.mp hz with rfl | hz
        · exact .inl List.mem_cons_self
        · exact (i2 z hz).imp (List.mem_cons_of_mem _) id
      · rcases List.mem_cons.mp hz with rfl | hz
        · exact List.mem_cons_self
        · exact List.mem_cons_of_mem _ (i3 z hz)
theorem Smd.oc {A : List Tr} (w : ∀ a ∈ A, ∀ u ∈ a.all, (opW u).length ≤ 1) {d : Nat} {t : Tr} (h : Smd A d t) : ∀ u ∈ t.all, (opW u).length + 1 ≤ 2 ^ (d + 1) := by
  have self : ∀ t : Tr, t ∈ t.all := fun t => by cases t <;> exact List.mem_cons_self
  induction h with
  | @at_ d t h =>
    intro u hu
    have := w _ h u hu
    have := Nat.pow_pos (n := d) (show 0 < 2 by decide)
    rw [Nat.pow_succ]
    omega
  | @un d s t hs _ ih =>
    intro u hu
    rcases List.mem_cons.mp (show u ∈ Tr.un s t :: t.all from hu) with rfl | hu
    · have := Nat.pow_pos (n := d) (show 0 < 2 by decide)
      rw [Nat.pow_succ, Nat.pow_succ]
      show 1 + 1 ≤ _
      omega
    · have := ih u hu
      rw [Nat.pow_succ]
      omega
  | @lk d s a b hs _ _ ih ig =>
    intro u hu
    rcases List.mem_cons.mp (show u ∈ Tr.bi "lock" a (.un s b) :: (a.all ++ Tr.un s b :: b.all) from hu) with rfl | hu
    · have := ih a (self a)
      rw [Nat.pow_succ]
      show (opW a ++ if ("lock" : Str) = "pair" then _ else []).length + 1 + 1 ≤ _
      rw [if_neg (by decide +kernel), List.append_nil]
      omega
    · rcases List.mem_append.mp hu with hu | hu
      · have := ih u hu
        rw [Nat.pow_succ]
        omega
      · rcases List.mem_cons.mp hu with rfl | hu
        · have := Nat.pow_pos (n := d) (show 0 < 2 by decide)
          rw [Nat.pow_succ, Nat.pow_succ]
          show 1 + 1 ≤ _
          omega
        · have := ig u hu
          rw [Nat.pow_succ]
          omega
  | @bi d s a b hs _ _ ih ig =>
    intro u hu
    rcases List.mem_cons.mp (show u ∈ Tr.bi s a b :: (a.all ++ b.all) from hu) with rfl | hu
    · have h1 := ih a (self a)
      have h2 := ig b (self b)
      rw [Nat.pow_succ]
      show (opW a ++ if s = "pair" then opW b else []).length + 1 + 1 ≤ _
      rw [List.length_append]
      split
      · omega
      · show _ + 0 + 1 + 1 ≤ _
        omega
    · rcases List.mem_append.mp hu with hu | hu
      · have := ih u hu
        rw [Nat.pow_succ]
        omega
      · have := ig u hu
        rw [Nat.pow_succ]
        omega
/-- few forms in which all that can be opened lies -/
theorem coverU {A : List Tr} {m : Str → Option Tr} {ts : List Tr} (h : ∀ t ∈ ts, Smd A 2 t) : ∃ U : List Tr, (∀ t ∈ ts.map (fill m), t ∈ U) ∧ PCl U ∧ SCl U U ∧ U.length ≤ 3 * ts.length + (A.flatMap fun a => opW (fill m a)).length := by
  have key : ∀ ts : List Tr, (∀ t ∈ ts, Smd A 2 t) → ∃ J : List Tr, J.length ≤ 3 * ts.length ∧ (∀ t ∈ ts, ∀ z ∈ opW (fill m t), z ∈ J ∨ ∃ a ∈ A, z ∈ opW (fill m a)) ∧ ∀ z ∈ J, ∃ t ∈ ts, z ∈ opW (fill m t) := fun ts => by
    induction ts with
    | nil => exact fun _ => ⟨[], Nat.zero_le _, (fun t ht => by cases ht), (fun z hz => by cases hz)⟩
    | cons t ts ih =>
      intro h
      obtain ⟨J, j1, j2, j3⟩ := ih fun u hu => h u (List.mem_cons_of_mem _ hu)
      obtain ⟨I, i1, i2, i3⟩ := (h t List.mem_cons_self).cover (m := m)
      have i1 : I.length + 1 ≤ 4 := i1
      refine ⟨I ++ J, by rw [List.length_append, List.length_cons]; omega, fun u hu z hz => ?_, fun z hz => ?_⟩
      · rcases List.mem_cons.mp hu with rfl | hu
        · exact (i2 z hz).imp (List.mem_append_left _) id
        · exact (j2 u hu z hz).imp (List.mem_append_right _) id
      · rcases List.mem_append.mp hz with hz | hz
        · exact ⟨t, List.mem_cons_self, i3 z hz⟩
        · obtain ⟨u, hu, hz⟩ := j3 z hz
          exact ⟨u, List.mem_cons_of_mem _ hu, hz⟩
  obtain ⟨J, j1, j2, j3⟩ := key ts h
  have inU : ∀ t ∈ ts, ∀ z ∈ opW (fill m t), z ∈ J ++ A.flatMap fun a => opW (fill m a) := fun t ht z hz => by
    rcases j2 t ht z hz with q | ⟨a, ha, q⟩
    · exact List.mem_append_left _ q
    · exact List.mem_append_right _ (List.mem_flatMap.mpr ⟨a, ha, q⟩)
  have clo : ∀ z ∈ J ++ A.flatMap (fun a => opW (fill m a)), ∃ r, z ∈ opW r ∧ ∀ y ∈ opW r, y ∈ J ++ A.flatMap fun a => opW (fill m a) := fun z hz => by
    rcases List.mem_append.mp hz with hz | hz
    · obtain ⟨t, ht, hz⟩ := j3 z hz
      exact ⟨_, hz, inU t ht⟩
    · obtain ⟨a, ha, hz⟩ := List.mem_flatMap.mp hz
      exact ⟨_, hz, fun y hy => List.mem_append_right _ (List.mem_flatMap.mpr ⟨a, ha, hy⟩)⟩
  refine ⟨J ++ A.flatMap fun a => opW (fill m a), fun t ht => ?_, fun a b hp => ?_, fun s c k key hb _ _ => ?_, by rw [List.length_append]; omega⟩
  · obtain ⟨u, hu, rfl⟩ := List.mem_map.mp ht
    exact inU u hu _ (opW_self _)
  · obtain ⟨r, hr, hc⟩ := clo _ hp
    obtain ⟨h1, h2⟩ := opW_in hr
    exact ⟨hc _ h1, hc _ (h2 rfl)⟩
  · obtain ⟨r, hr, hc⟩ := clo _ hb
    exact hc _ (opW_in hr).1
end Rd
namespace Rd
open PySem L2
def AT4 : List Tr := [.am "name" "K", .am "name" "S", .am "word" "a", .un "own" (.am "word" "e")]
def UX : List Tr := [.am "unknown" "x", .am "unknown" "y"]
def AX : List Tr := AT4 ++ UX
theorem AX_wf : ∀ a ∈ AX, Wf a := fun a ha => by
  have h : a = .am "name" "K" ∨ a = .am "name" "S" ∨ a = .am "word" "a" ∨ a = .un "own" (.am "word" "e") ∨ a = .am "unknown" "x" ∨ a = .am "unknown" "y" := by simpa [AX, AT4, UX] using ha
  rcases h with rfl | rfl | rfl | rfl | rfl | rfl
  · exact .am (.inr (.inl ⟨rfl, by decide +kernel⟩))
  · exact .am (.inr (.inl ⟨rfl, by decide +kernel⟩))
  · exact .am (.inl ⟨rfl, by decide +kernel⟩)
  · exact .un (by decide +kernel) (.am (.inl ⟨rfl, by decide +kernel⟩))
  · exact .am (.inr (.inr ⟨rfl, by decide +kernel⟩))
  · exact .am (.inr (.inr ⟨rfl, by decide +kernel⟩))
theorem AX_dep : ∀ a ∈ AX, a.dep ≤ 1 := by decide +kernel
theorem AX_oc : ∀ a ∈ AX, ∀ u ∈ a.all, (opW u).length ≤ 1 := by decide +kernel
theorem AX_txt : ∀ a ∈ AX, ∀ x ∈ a.txt "unknown", x ∈ (["x", "y"] : List Str) := by decide +kernel
theorem AX_len : ∀ a ∈ AX, a.all.length ≤ 2 := by decide +kernel
/-- a row of a list of wishes -/
abbrev FRow := List Tr × Tr
def RwF (N : Addr → Prop) (H : Hp) (r : FRow) (v : V) : Prop := ∃ (q a : Addr) (us : List V) (tv : V), v = .ref q ∧ N a ∧ H q = some (.tup [.ref a, tv]) ∧ H a = some (.lst us) ∧ TsAt H r.1 us ∧ IsT H r.2 tv
theorem RwF.kb {N : Addr → Prop} {H H' : Hp} {r : FRow} {v : V} (k : Kp 0 H H') (b : ∀ c o, N c → H c = some o → H' c = some o) (h : RwF N H r v) : RwF N H' r v := by
  obtain ⟨q, a, us, tv, e, n, h1, h2, h3, h4⟩ := h
  exact ⟨q, a, us, tv, e, n, k _ _ rfl h1, b _ _ n h2, h3.mono k, h4.mono k⟩
theorem RwF.same {N : Addr → Prop} {H H' : Hp} {r : FRow} {v : V} (s : Same H H') (h : RwF N H r v) : RwF N H' r v := h.kb (Kp.of_same s) fun c o _ e => s _ _ e
theorem RwF.imp {N N' : Addr → Prop} {H : Hp} {r : FRow} {v : V} (f : ∀ c, N c → N' c) (h : RwF N H r v) : RwF N' H r v := by
  obtain ⟨q, a, us, tv, e, n, h⟩ := h
  exact ⟨q, a, us, tv, e, f _ n, h⟩
structure GoodW (rs : List FRow) : Prop where
  n : rs.length ≤ 3
  r : ∀ r ∈ rs, (∀ t ∈ r.1, Smd AX 2 t) ∧ r.1.length ≤ 9 ∧ Smd AX 2 r.2
theorem tsOf {H : Hp} {P : Tr → Prop} : ∀ {vs : List V}, (∀ v ∈ vs, ∃ t, P t ∧ IsT H t v) → ∃ ts, TsAt H ts vs ∧ ∀ t ∈ ts, P t
  | [], _ => ⟨[], ⟨rfl, fun i t v h => by cases h⟩, fun t h => by cases h⟩
  | v :: vs, h => by
    obtain ⟨t, p, it⟩ := h v List.mem_cons_self
    obtain ⟨ts, a, q⟩ := tsOf (vs := vs) fun u hu => h u (List.mem_cons_of_mem _ hu)
    refine ⟨t :: ts, ⟨by rw [List.length_cons, List.length_cons, a.len], fun i t' v' h1 h2 => ?_⟩, fun u hu => ?_⟩
    · cases i with
      | zero => cases h1; cases h2; exact it
      | succ i => exact a.get i t' v' h1 h2
    · rcases List.mem_cons.mp hu with rfl | hu
      · exact p
      · exact q u hu
def sp_wdrawn : Sp := fun vs H Q _ => ∃ (p : Addr) (m n : Nat) (xs : List V), vs = [.ref p, .int m] ∧ H p = some (.lst xs) ∧ StL (n + 1000) xs ∧ m ≤ 3 ∧
  ∀ R H' ys us rs, But p H H' → H' p = some (.lst ys) → StL n ys → H R = none → H' R = some (.lst us) → AtL (RwF (fun c => H c = none)) H' rs us → GoodW rs → Q (.ref R) H'
section
variable {P : Program} {w : World} {K : PySem.W.Frag} {mg : Str → Option Value} {base : Heap}
abbrev s__law_wishes_drawn : Stmt := top 45
theorem sc__law_wishes_drawn : FnScope ["_law_stream_here", "_law_many", "_law_atoms_here", "_law_stock", "_law_k", "_law_met", "_law_found", "_law_unknowns_here", "_law_wished", "_law_new", "_law_name", "_law_one", "_law_j"] ["_law_stream_here", "_law_many"] (defScope s__law_wishes_drawn) := ⟨rfl, rfl, rfl, by decide +kernel, rfl, by decide +kernel, by decide +kernel⟩
theorem ok__law_wishes_drawn (T : Tx w K mg) : Fk P w K mg base CX0 12 "_law_wishes_drawn" ["_law_stream_here", "_law_many"] sp_wdrawn := by
  refine T.F__law_wishes_drawn.ok0 sc__law_wishes_drawn (fun _ _ _ _ _ _ us hl => match us, hl with | [_, _], _ => rfl)
    (fun vs H Q E h => ?_) (fun cdv A outer s H vs Q E hr h => ?_)
  · obtain ⟨p, m, n, xs, rfl, _⟩ := h
    rfl
  · obtain ⟨p, m, n, xs, rfl, hp, hx, hm, k⟩ := h
    refine ⟨_, (pss_cons (ps_set (i := 2) sc__law_wishes_drawn.nd rfl (Or.inr rfl) (pe_lst (pa_cons (pe_tup (pa_cons pe_str (pa_cons pe_str pa_nil))) (pa_cons (pe_tup (pa_cons pe_str (pa_cons pe_str pa_nil))) (pa_cons (pe_tup (pa_cons pe_str (pa_cons pe_str pa_nil))) (pa_cons (pe_tup (pa_cons pe_str (pa_cons (pe_tup (pa_cons pe_str (pa_cons pe_str pa_nil))) pa_nil))) pa_nil))))))
  (pss_cons (ps_setLc (i := 3) (own := [("_law_k", 4)]) (g := gName 4) (tt := tYes) (by rfl) sc__law_wishes_drawn.nd rfl rfl (sw_true rfl rfl rfl (by decide +kernel)) (pi_range1 rfl T.z_range (pa_cons (pe_op op_add pe_int (pe_fk (ok__law_draw T) (hr.mono (by omega)) rfl pass0 (pa_cons (pv 0) (pa_cons pe_int pa_nil)))) pa_nil)) (blkOk_by (own := [("_law_k", 4)]) (N := ["_law_stream_here", "_law_many", "_law_atoms_here", "_law_stock", "_law_k", "_law_met", "_law_found", "_law_unknowns_here", "_law_wished", "_law_new", "_law_name", "_law_one", "_law_j"]) (sc := defScope s__law_wishes_drawn) (by decide +kernel)) (fun _ _ _ _ _ => (pg_name (i := 4) sc__law_wishes_drawn.nd rfl (Or.inl rfl))) (fun _ _ _ _ _ => pts_nil) (fun _ _ _ _ _ => (pe_fk (ok__law_small T 2) (hr.mono (by omega)) rfl pass0 (pa_cons (pv 0) (pa_cons (pv 2) (pa_cons pe_int pa_nil))))))
  (pss_cons (ps_asg (pe_tup (pa_cons (pe_lst pa_nil) (pa_cons (pe_lst pa_nil) pa_nil))) (pg_tup rfl (pgs_cons (pg_name (i := 5) sc__law_wishes_drawn.nd rfl (Or.inr rfl)) (pgs_cons (pg_name (i := 6) sc__law_wishes_drawn.nd rfl (Or.inl rfl)) pgs_nil))))
  (pss_cons (ps_for PassesOwn.never rfl (pi_range1 rfl T.z_range (pa_cons (pv 1) pa_nil)) (pg_name (i := 4) sc__law_wishes_drawn.nd rfl (Or.inl rfl))
  (pss_cons (ps_set (i := 7) sc__law_wishes_drawn.nd rfl (Or.inl rfl) (pe_op op_rep (pe_lst (pa_cons (pe_tup (pa_cons pe_str (pa_cons pe_str pa_nil))) (pa_cons (pe_tup (pa_cons pe_str (pa_cons pe_str pa_nil))) pa_nil))) (pe_fk (ok__law_draw T) (hr.mono (by omega)) rfl pass0 (pa_cons (pv 0) (pa_cons pe_int pa_nil)))))
  (pss_cons (ps_set (i := 8) sc__law_wishes_drawn.nd rfl (Or.inl rfl) (pe_fk (ok__law_small T 2) (hr.mono (by omega)) rfl pass0 (pa_cons (pv 0) (pa_cons (pe_op op_cat (pv 2) (pv 7)) (pa_cons pe_int pa_nil)))))
  (pss_cons (ps_expr (pe_bm PySem.F.plainAttrs_list PySem.F.slot_list_append PySem.F.type_list_append mt_append (pv 6) (pa_cons (pe_tup (pa_cons (pe_callTy call_list_of (by rfl) T.z_list (by decide +kernel) (pa_cons (pv 3) pa_nil)) (pa_cons (pv 8) pa_nil))) pa_nil)))
  (pss_cons (ps_setLc (i := 9) (own := [("_law_name", 10)]) (g := gName 10) (tt := tYes) (by rfl) sc__law_wishes_drawn.nd rfl rfl (sw_true rfl rfl rfl (by decide +kernel)) (pi_list (pe_fk (ok__law_atoms T 5) (hr.mono (by omega)) rfl pass0 (pa_cons (pv 8) (pa_cons pe_str pa_nil)))) (blkOk_by (own := [("_law_name", 10)]) (N := ["_law_stream_here", "_law_many", "_law_atoms_here", "_law_stock", "_law_k", "_law_met", "_law_found", "_law_unknowns_here", "_law_wished", "_law_new", "_law_name", "_law_one", "_law_j"]) (sc := defScope s__law_wishes_drawn) (by decide +kernel)) (fun _ _ _ _ _ => (pg_name (i := 10) sc__law_wishes_drawn.nd rfl (Or.inl rfl))) (fun _ _ _ _ _ => pts_nil) (fun _ _ _ _ _ => (pe_tup (pa_cons pe_str (pa_cons (pv 10) pa_nil)))))
  (pss_cons (ps_set (i := 5) sc__law_wishes_drawn.nd rfl (Or.inr rfl) (pe_op op_cat (pv 5) (pe_lc (own := [("_law_one", 11)]) (g := gName 11)  (by rfl) sc__law_wishes_drawn.nd (pi_list (pv 9)) (blkOk_by (own := [("_law_one", 11)]) (N := ["_law_stream_here", "_law_many", "_law_atoms_here", "_law_stock", "_law_k", "_law_met", "_law_found", "_law_unknowns_here", "_law_wished", "_law_new", "_law_name", "_law_one", "_law_j"]) (sc := defScope s__law_wishes_drawn) (by decide +kernel)) (fun _ _ _ _ _ => (pg_name (i := 11) sc__law_wishes_drawn.nd rfl (Or.inl rfl))) (fun _ _ _ _ _ => (pts_one (pt_cmpR (kOp (r := rNotInD) (K := K) rfl (op_notInD hr.units65)) (pv 11) (pv 5) (by rfl)))) (fun _ _ _ _ _ => (pv 11)))))
  (pss_one (ps_set (i := 3) sc__law_wishes_drawn.nd rfl (Or.inl rfl) (pe_op op_cat (pv 3) (pe_lc (own := [("_law_j", 12)]) (g := gName 12) (tt := tYes) (by rfl) sc__law_wishes_drawn.nd (pi_range1 rfl T.z_range (pa_cons (pe_fk (ok__law_draw T) (hr.mono (by omega)) rfl pass0 (pa_cons (pv 0) (pa_cons pe_int pa_nil))) pa_nil)) (blkOk_by (own := [("_law_j", 12)]) (N := ["_law_stream_here", "_law_many", "_law_atoms_here", "_law_stock", "_law_k", "_law_met", "_law_found", "_law_unknowns_here", "_law_wished", "_law_new", "_law_name", "_law_one", "_law_j"]) (sc := defScope s__law_wishes_drawn) (by decide +kernel)) (fun _ _ _ _ _ => (pg_name (i := 12) sc__law_wishes_drawn.nd rfl (Or.inl rfl))) (fun _ _ _ _ _ => pts_nil) (fun _ _ _ _ _ => (pe_fk (ok__law_small T 2) (hr.mono (by omega)) rfl pass0 (pa_cons (pv 0) (pa_cons (pe_op op_cat (pv 2) (pv 5)) (pa_cons pe_int pa_nil)))))))))))))))
  (pss_one (ps_ret (pv 6))))))), ?_⟩
    have big : 16777216 ≤ sizeLine := by decide
    have l2 : 2 ≤ sizeLine := by omega
    have l4 : 4 ≤ sizeLine := by omega
    refine seqAsg ⟨l2, fun t1 g1 => ⟨l2, fun t2 g2 => ⟨l2, fun t3 g3 => ⟨l2, fun t5 g5 => ⟨l2, fun t4 g4 => ⟨l4, fun qa ga => ?_⟩⟩⟩⟩⟩⟩
    have u1 := Rd.Same.upd (o := .tup [.str "name", .str "K"]) g1
    have e1 : upd H t1 (.tup [.str "name", .str "K"]) t1 = some (.tup [.str "name", .str "K"]) := upd_same
    generalize upd H t1 (.tup [.str "name", .str "K"]) = H1 at u1 e1 g2 g3 g4 g5 ga ⊢
    have u2 := Rd.Same.upd (o := .tup [.str "name", .str "S"]) g2
    have e2 : upd H1 t2 (.tup [.str "name", .str "S"]) t2 = some (.tup [.str "name", .str "S"]) := upd_same
    generalize upd H1 t2 (.tup [.str "name", .str "S"]) = H2 at u2 e2 g3 g4 g5 ga ⊢
    have u3 := Rd.Same.upd (o := .tup [.str "word", .str "a"]) g3
    have e3 : upd H2 t3 (.tup [.str "word", .str "a"]) t3 = some (.tup [.str "word", .str "a"]) := upd_same
    generalize upd H2 t3 (.tup [.str "word", .str "a"]) = H3 at u3 e3 g4 g5 ga ⊢
    have u5 := Rd.Same.upd (o := .tup [.str "word", .str "e"]) g5
    have e5 : upd H3 t5 (.tup [.str "word", .str "e"]) t5 = some (.tup [.str "word", .str "e"]) := upd_same
    generalize upd H3 t5 (.tup [.str "word", .str "e"]) = H5 at u5 e5 g4 ga ⊢
    have u4 := Rd.Same.upd (o := .tup [.str "own", .ref t5]) g4
    have e4 : upd H5 t4 (.tup [.str "own", .ref t5]) t4 = some (.tup [.str "own", .ref t5]) := upd_same
    generalize upd H5 t4 (.tup [.str "own", .ref t5]) = H4 at u4 e4 ga ⊢
    have u6 := Rd.Same.upd (o := .lst [.ref t1, .ref t2, .ref t3, .ref t4]) ga
    have e6 : upd H4 qa (.lst [.ref t1, .ref t2, .ref t3, .ref t4]) qa = some (.lst [.ref t1, .ref t2, .ref t3, .ref t4]) := upd_same
    generalize upd H4 qa (.lst [.ref t1, .ref t2, .ref t3, .ref t4]) = H6 at u6 e6 ⊢
    refine gName_k ?_
    try dsimp only
    have s56 := u4.trans u6
    have s36 := u5.trans s56
    have s26 := u3.trans s36
    have s16 := u2.trans s26
    have S6 := u1.trans s16
    have atA : TsAt H6 AT4 [.ref t1, .ref t2, .ref t3, .ref t4] := ⟨rfl, fun i t v h1 h2 => by
      match i, h1, h2 with
      | 0, h1, h2 => cases h1; cases h2; exact ⟨t1, rfl, s16 _ _ e1⟩
      | 1, h1, h2 => cases h1; cases h2; exact ⟨t2, rfl, s26 _ _ e2⟩
      | 2, h1, h2 => cases h1; cases h2; exact ⟨t3, rfl, s36 _ _ e3⟩
      | 3, h1, h2 => cases h1; cases h2; exact ⟨t4, _, rfl, u6 _ _ e4, t5, rfl, s56 _ _ e5⟩⟩
    have hp6 := S6 _ _ hp
    have nqp : qa ≠ p := fun z => by rw [z] at ga; rw [(((u1.trans u2).trans u3).trans (u5.trans u4)) _ _ hp] at ga; cases ga
    refine seqAsg ?_
    refine rd_draw (m := 3) (n := n + 999) (by rfl) hp6 hx (by decide) (by decide) fun d H7 y7 hd b7 hp7 hy7 => ?_
    refine ⟨_, _, rfl, rfl, 1 + d, congrArg (fun z : Int => [V.int z]) (by omega), by omega, by omega, fun D hD => ?_⟩
    have hqa7 := b7 _ _ nqp e6
    have atA7 : TsAt H7 AT4 [.ref t1, .ref t2, .ref t3, .ref t4] := atA.mono (C := 0) (b7.kp hp6)
    have A4wf : ∀ t ∈ AT4, Wf t := fun t ht => AX_wf t (List.mem_append_left _ ht)
    refine lcr_draw (C := 0) (r := 36) (n := n + 330) (fun H v => ∃ t, Smd AX 2 t ∧ IsT H t v) (fun H H' v kp ⟨t, h1, h2⟩ => ⟨t, h1, h2.mono kp⟩) hp7 (hy7.mono (by omega)) hD (by omega) (fun i H8 y8 n8 Q8 hi b8 hp8 hy8 k8 => ?_) fun vs0 H8 y8 b8 hp8 hy8 hD8 vl8 hv8 => ?_
    · refine ⟨_, rfl, _, rfl, 2, Nat.le_refl _, p, qa, y8, _, AT4, n8, rfl, hp8, hy8, nqp, b8 _ _ nqp hqa7, atA7.mono (C := 0) (b8.kp hp7), by decide, by decide, A4wf, fun t v ys H9 b9 hp9 hy9 sm it => k8 v H9 ys b9 hp9 hy9 ⟨t, sm.mono (fun a ha => List.mem_append_left _ ha), it⟩⟩
    obtain ⟨ts0, at0, sm0⟩ := tsOf hv8
    refine gName_k ?_
    try dsimp only
    have b68 : But p H6 H8 := b7.trans b8
    have hqa8 := b8 _ _ nqp hqa7
    have atA8 : TsAt H8 AT4 [.ref t1, .ref t2, .ref t3, .ref t4] := atA7.mono (C := 0) (b8.kp hp7)
    have nDp : D ≠ p := fun z => by rw [z, hp7] at hD; cases hD
    have fD : H D = none := by
      cases e : H D with
      | none => rfl
      | some o => rw [b7 _ _ nDp (S6 _ _ e)] at hD; cases hD
    refine seqAsg ⟨Nat.zero_le _, fun qm gm => ⟨Nat.zero_le _, fun R gR => ⟨l2, fun qt gt => ?_⟩⟩⟩
    have v1 := Rd.Same.upd (o := .lst []) gm
    have f1 : upd H8 qm (.lst []) qm = some (.lst []) := upd_same
    generalize upd H8 qm (.lst []) = H9 at v1 f1 gR gt ⊢
    have v2 := Rd.Same.upd (o := .lst []) gR
    have f2 : upd H9 R (.lst []) R = some (.lst []) := upd_same
    generalize upd H9 R (.lst []) = H10 at v2 f2 gt ⊢
    have v3 := Rd.Same.upd (o := .tup [.ref qm, .ref R]) gt
    have f3 : upd H10 qt (.tup [.ref qm, .ref R]) qt = some (.tup [.ref qm, .ref R]) := upd_same
    generalize upd H10 qt (.tup [.ref qm, .ref R]) = H11 at v3 f3 ⊢
    refine ⟨qt, _, rfl, SqT.of f3, rfl, _, _, rfl, _, _, rfl, rfl, ?_⟩
    try dsimp only
    have s811 := (v1.trans v2).trans v3
    have hpE := s811 _ _ hp8
    have frN : ∀ {c : Addr} {Hx : Hp}, Hx c = none → c ≠ p → But p H6 Hx → H c = none := fun {c Hx} e n b => by
      cases q : H c with
      | none => rfl
      | some o => rw [b _ _ n (S6 _ _ q)] at e; cases e
    have nmp : qm ≠ p := fun z => by rw [z, hp8] at gm; cases gm
    have nRp : R ≠ p := fun z => by rw [z, v1 _ _ hp8] at gR; cases gR
    have fR : H R = none := frN gR nRp (b68.trans (But.of_same v1))
    have fm : H qm = none := frN gm nmp b68
    have nmR : qm ≠ R := fun z => by rw [← z, f1] at gR; cases gR
    have nDR : D ≠ R := fun z => by rw [← z, v1 _ _ hD8] at gR; cases gR
    have nqR : qa ≠ R := fun z => by rw [← z, v1 _ _ hqa8] at gR; cases gR
    have keepN : ∀ c o, c ≠ p → H c = some o → H11 c = some o := fun c o n e => s811 _ _ (b68 _ _ n (S6 _ _ e))
    refine seqJoin (fun σ' Hc => ∃ (x2 x3 x4 x5 x7 x8 x9 x10 x11 x12 : Option V) (ys us : List V) (rs : List FRow), σ' = [some (.ref p), some (.int (m : Int)), x2, x3, x4, x5, some (.ref R), x7, x8, x9, x10, x11, x12] ∧ But p H Hc ∧ Hc p = some (.lst ys) ∧ StL n ys ∧ Hc R = some (.lst us) ∧ AtL (RwF (fun c => H c = none)) Hc rs us ∧ GoodW rs) (fun KK hK => ?_) ?_
    · refine ⟨_, rfl, m, rfl, by omega, by omega, ?_⟩
      refine for_range (n := m) (fun i σ' Hc => ∃ (x4 x7 x8 x9 x10 x11 x12 : Option V) (qs qm : Addr) (ys us sv mv : List V) (ts mts : List Tr) (rs : List FRow), σ' = [some (.ref p), some (.int (m : Int)), some (.ref qa), some (.ref qs), x4, some (.ref qm), some (.ref R), x7, x8, x9, x10, x11, x12] ∧ (∀ c o, c ≠ p → c ≠ R → H11 c = some o → Hc c = some o) ∧ Hc p = some (.lst ys) ∧ StL (n + 110 * (m - i)) ys ∧ Hc R = some (.lst us) ∧ AtL (RwF (fun c => H c = none ∧ c ≠ R)) Hc rs us ∧ rs.length = i ∧ (∀ r ∈ rs, (∀ t ∈ r.1, Smd AX 2 t) ∧ r.1.length ≤ 9 ∧ Smd AX 2 r.2) ∧
          (qs ≠ p ∧ qs ≠ R ∧ H qs = none) ∧ Hc qs = some (.lst sv) ∧ TsAt Hc ts sv ∧ (∀ t ∈ ts, Smd AX 2 t) ∧ ts.length ≤ 3 + 2 * i ∧ (qm ≠ p ∧ qm ≠ R) ∧ Hc qm = some (.lst mv) ∧ TsAt Hc mts mv ∧ (∀ t ∈ mts, t ∈ UX) ∧ mts.length ≤ 64 * i)
        ⟨_, _, _, _, _, _, _, D, qm, y8, [], vs0, [], ts0, [], [], rfl, fun c o _ _ e => e, hpE, hy8.mono (by omega), v3 _ _ f2, AtL.nil, rfl, (fun r hr => by cases hr), ⟨nDp, nDR, fD⟩, s811 _ _ hD8, at0.same s811, sm0, (by have := at0.len; omega), ⟨nmp, nmR⟩, (v2.trans v3) _ _ f1, ⟨rfl, fun i t v h => by cases h⟩, (fun t ht => by cases ht), Nat.zero_le _⟩ ?_ ?_
      · rintro i σ' Hc hi ⟨x4, x7, x8, x9, x10, x11, x12, qs, qm, ys, us, sv, mv, ts, mts, rs, rfl, kc, hpc, hyc, hRc, hrs, rl, gw, ⟨nsp, nsR, fs⟩, hsc, hts, smt, tl, ⟨nmp, nmR⟩, hmc, hmt, mu, ml⟩
        refine gName_k ?_
        try dsimp only
        have hqac := kc _ _ nqp nqR (s811 _ _ hqa8)
        have hsub : m - i = (m - (i + 1)) + 1 := by omega
        have hyc : StL (n + 110 * (m - (i + 1)) + 110) ys := hyc.mono (by rw [hsub]; omega)
        generalize n + 110 * (m - (i + 1)) = nn at hyc
        have atAc : TsAt Hc AT4 [.ref t1, .ref t2, .ref t3, .ref t4] := by
          refine (atA8.same s811).mono (C := 0) fun c o hi' e => kc c o (fun z => ?_) (fun z => ?_) e
          · rw [z, hpE] at e; cases e; cases hi'
          · rw [z, (v3 _ _ f2)] at e; cases e; cases hi'
        refine seqAsg ⟨l2, fun a1 w1 => ⟨l2, fun a2 w2 => ⟨l2, fun q0 w0 => ?_⟩⟩⟩
        have x1' := Rd.Same.upd (o := .tup [.str "unknown", .str "x"]) w1
        have y1 : upd Hc a1 (.tup [.str "unknown", .str "x"]) a1 = some (.tup [.str "unknown", .str "x"]) := upd_same
        generalize upd Hc a1 (.tup [.str "unknown", .str "x"]) = J1 at x1' y1 w2 w0 ⊢
        have x2' := Rd.Same.upd (o := .tup [.str "unknown", .str "y"]) w2
        have y2 : upd J1 a2 (.tup [.str "unknown", .str "y"]) a2 = some (.tup [.str "unknown", .str "y"]) := upd_same
        generalize upd J1 a2 (.tup [.str "unknown", .str "y"]) = J2 at x2' y2 w0 ⊢
        have x3' := Rd.Same.upd (o := .lst [.ref a1, .ref a2]) w0
        have y3 : upd J2 q0 (.lst [.ref a1, .ref a2]) q0 = some (.lst [.ref a1, .ref a2]) := upd_same
        generalize upd J2 q0 (.lst [.ref a1, .ref a2]) = J3 at x3' y3 ⊢
        have sJ3 := (x1'.trans x2').trans x3'
        have atU : TsAt J3 UX [.ref a1, .ref a2] := ⟨rfl, fun j t v h1 h2 => by
          match j, h1, h2 with
          | 0, h1, h2 => cases h1; cases h2; exact ⟨a1, rfl, (x2'.trans x3') _ _ y1⟩
          | 1, h1, h2 => cases h1; cases h2; exact ⟨a2, rfl, x3' _ _ y2⟩⟩
        have ne0 : ∀ {c : Addr} {Hx : Hp}, Hx c = none → Same Hc Hx → c ≠ p ∧ c ≠ R := fun {c Hx} e s => ⟨(fun z => by rw [z, s _ _ hpc] at e; cases e), (fun z => by rw [z, s _ _ hRc] at e; cases e)⟩
        have n0 := ne0 w0 (x1'.trans x2')
        refine rd_draw (m := 3) (n := nn + 109) (by rfl) (sJ3 _ _ hpc) hyc (by decide) (by decide) fun dd J4 yy4 hdd bb4 hp4 hy4 => ?_
        refine ⟨q0, _, _, rfl, rfl, bb4 _ _ n0.1 y3, by omega, by omega, (by show 2 * _ ≤ _; omega), fun q7 w7 => ?_⟩
        have x5' := Rd.Same.upd (o := .lst (List.replicate ((dd : Int)).toNat [V.ref a1, V.ref a2]).flatten) w7
        have y5 : upd J4 q7 (.lst (List.replicate ((dd : Int)).toNat [V.ref a1, V.ref a2]).flatten) q7 = some (.lst (List.replicate ((dd : Int)).toNat [V.ref a1, V.ref a2]).flatten) := upd_same
        have atU4 : TsAt J4 UX [.ref a1, .ref a2] := atU.mono (C := 0) (bb4.kp (sJ3 _ _ hpc))
        have atR : ∀ k : Nat, TsAt J4 (List.replicate k UX).flatten (List.replicate k [V.ref a1, V.ref a2]).flatten := fun k => by
          induction k with
          | zero => exact ⟨rfl, fun i t v h => by cases h⟩
          | succ k ih => rw [List.replicate_succ, List.replicate_succ, List.flatten_cons, List.flatten_cons]; exact atU4.app ih
        have atR := atR ((dd : Int)).toNat
        have lR : (List.replicate ((dd : Int)).toNat UX).flatten.length ≤ 100 := by
          have : ∀ k, (List.replicate k UX).flatten.length = 2 * k := fun k => by
            induction k with
            | zero => rfl
            | succ k ih => rw [List.replicate_succ, List.flatten_cons, List.length_append, ih]; show 2 + _ = _; omega
          rw [this]; omega
        have uR : ∀ t ∈ (List.replicate ((dd : Int)).toNat UX).flatten, t ∈ UX := fun t ht => by
          obtain ⟨l, hl, ht⟩ := List.mem_flatten.mp ht
          rw [(List.mem_replicate.mp hl).2] at ht
          exact ht
        generalize (List.replicate ((dd : Int)).toNat UX).flatten = UR at atR lR uR
        generalize (List.replicate ((dd : Int)).toNat [V.ref a1, V.ref a2]).flatten = uv at x5' y5 atR ⊢
        generalize upd J4 q7 (.lst uv) = J5 at x5' y5 ⊢
        have n7 : q7 ≠ p := fun z => by rw [z, hp4] at w7; cases w7
        refine gName_k ?_
        try dsimp only
        have bc5 : But p Hc J5 := ((But.of_same sJ3).trans bb4).trans (But.of_same x5')
        have hp5 := x5' _ _ hp4
        have hqa5 := bc5 _ _ nqp hqac
        have uvl := atR.len
        -- the wished form
        refine seqAsg ⟨_, rfl, _, rfl, _, rfl, qa, q7, _, _, rfl, rfl, hqa5, y5, (by show 4 + _ ≤ _; omega), fun q9 w9 => ?_⟩
        have x6' := Rd.Same.upd (o := .lst ([V.ref t1, .ref t2, .ref t3, .ref t4] ++ uv)) w9
        have y6 : upd J5 q9 (.lst ([V.ref t1, .ref t2, .ref t3, .ref t4] ++ uv)) q9 = some (.lst ([V.ref t1, .ref t2, .ref t3, .ref t4] ++ uv)) := upd_same
        generalize upd J5 q9 (.lst ([V.ref t1, .ref t2, .ref t3, .ref t4] ++ uv)) = J6 at x6' y6 ⊢
        have n9 : q9 ≠ p := fun z => by rw [z, hp5] at w9; cases w9
        have bc6 : But p Hc J6 := bc5.trans (But.of_same x6')
        have at6 : TsAt J6 (AT4 ++ UR) ([V.ref t1, .ref t2, .ref t3, .ref t4] ++ uv) := (atAc.mono (C := 0) (bc6.kp hpc)).app ((atR.same x5').same x6')
        have wfA : ∀ t ∈ AT4 ++ UR, Wf t := fun t ht => (List.mem_append.mp ht).elim (A4wf t) fun h => AX_wf t (List.mem_append_right _ (uR t h))
        refine ⟨2, Nat.le_refl _, p, q9, yy4, _, AT4 ++ UR, nn + 73, rfl, x6' _ _ hp5, hy4, n9, y6, at6, by rw [List.length_append]; show 0 < 4 + _; omega, by rw [List.length_append]; show 4 + _ ≤ _; omega, wfA, fun tw vw yy7 J7 b7' hp7' hy7' smw itw => ?_⟩
        have smw : Smd AX 2 tw := smw.mono fun a ha => (List.mem_append.mp ha).elim (fun h => List.mem_append_left _ h) fun h => List.mem_append_right _ (uR a h)
        refine gName_k ?_
        try dsimp only
        have bc7 : But p Hc J7 := bc6.trans b7'
        have hs7 := bc7 _ _ nsp hsc
        have hR7 := bc7 _ _ nRp hRc
        have svl := hts.len
        -- found
        refine ⟨_, rfl, .inl ⟨rfl, _, SqL.of hR7⟩, _, rfl, qs, _, rfl, .inl (SqL.of hs7), fun q10 w10 => ?_⟩
        have x8' := Rd.Same.upd (o := .lst sv) w10
        have y8' : upd J7 q10 (.lst sv) q10 = some (.lst sv) := upd_same
        generalize upd J7 q10 (.lst sv) = J8 at x8' y8' ⊢
        refine ⟨_, rfl, l2, fun q11 w11 => ?_⟩
        have x9' := Rd.Same.upd (o := .tup [.ref q10, vw]) w11
        have y9 : upd J8 q11 (.tup [.ref q10, vw]) q11 = some (.tup [.ref q10, vw]) := upd_same
        generalize upd J8 q11 (.tup [.ref q10, vw]) = J9 at x9' y9 ⊢
        have s79 := x8'.trans x9'
        have hR9 := s79 _ _ hR7
        have usl := hrs.len
        refine ⟨R, us, _, rfl, rfl, hR9, by omega, ?_⟩
        try dsimp only
        have n10 : q10 ≠ p ∧ q10 ≠ R := ⟨(fun z => by rw [z, hp7'] at w10; cases w10), (fun z => by rw [z, hR7] at w10; cases w10)⟩
        have frC : ∀ {c : Addr}, Hc c = none → c ≠ p → c ≠ R → H c = none := fun {c} e h1 h2 => by
          cases q : H c with
          | none => rfl
          | some o => rw [kc _ _ h1 h2 (keepN _ _ h1 q)] at e; cases e
        have f10 : H q10 = none := by
          refine frC ?_ n10.1 n10.2
          cases q : Hc q10 with
          | none => rfl
          | some o => rw [bc7 _ _ n10.1 q] at w10; cases w10
        have bc9 : But p Hc J9 := bc7.trans (But.of_same s79)
        have kp9 : Kp 0 Hc J9 := bc9.kp hpc
        have kU : Kp 0 J9 (upd J9 R (.lst (us ++ [.ref q11]))) := Kp.upd_lst hR9
        have bU : ∀ c o, c ≠ R → J9 c = some o → upd J9 R (.lst (us ++ [.ref q11])) c = some o := fun c o h e => by rw [upd_ne h]; exact e
        have hRU : upd J9 R (.lst (us ++ [.ref q11])) R = some (.lst (us ++ [.ref q11])) := upd_same
        have hrsU : AtL (RwF (fun c => H c = none ∧ c ≠ R)) (upd J9 R (.lst (us ++ [.ref q11]))) (rs ++ [(ts, tw)]) (us ++ [.ref q11]) := by
          refine AtL.snoc (hrs.mp fun r v h => (h.kb kp9 fun c o z e => bc9 _ _ (fun q => by rw [q, hp] at z; cases z.1) e).kb kU fun c o z e => bU c o z.2 e) ?_
          exact RwF.kb (r := (ts, tw)) kU (fun c o z e => bU c o z.2 e) ⟨q11, q10, sv, vw, rfl, ⟨f10, n10.2⟩, y9, x9' _ _ y8', hts.mono kp9, itw.same s79⟩
        generalize upd J9 R (.lst (us ++ [.ref q11])) = J10 at kU bU hRU hrsU ⊢
        have bc10 : ∀ c o, c ≠ p → c ≠ R → Hc c = some o → J10 c = some o := fun c o h1 h2 e => bU _ _ h2 (bc9 _ _ h1 e)
        have hp10 := bU _ _ nRp.symm (s79 _ _ hp7')
        have itw10 : IsT J10 tw vw := (itw.same s79).mono kU
        -- its unknowns
        have wfw := smw.wf AX_wf
        have dpw := smw.dep AX_dep
        refine seqAsg ⟨_, rfl, ⟨vw, tw, "unknown", rfl, itw10, wfw, by omega, by decide, fun q12 J11 s11 w12 y12 => ?_⟩, "unknown", by decide +kernel, rfl⟩
        have unl : (uniS (tw.txt "unknown")).length ≤ 64 := by
          have h1 := uniS_len (l := tw.txt "unknown")
          have h2 := txts_len "unknown" tw
          have h3 := all_len tw
          have h4 : 2 ^ (tw.dep + 1) ≤ 2 ^ 6 := Nat.pow_le_pow_right (by decide) (by omega)
          omega
        have ux : ∀ x ∈ uniS (tw.txt "unknown"), Tr.am "unknown" x ∈ UX := fun x hx => by
          have := smw.txt AX_txt x (uniS_mem.mp hx)
          have h : x = "x" ∨ x = "y" := by simpa using this
          rcases h with rfl | rfl
          · exact List.mem_cons_self
          · exact List.mem_cons_of_mem _ List.mem_cons_self
        refine ⟨q12, rfl, ⟨_, SqL.of y12⟩, fun D2 hD2 => ?_⟩
        refine lcl (C := 0) (fun i H v => ∃ x, (uniS (tw.txt "unknown"))[i]? = some x ∧ IsT H (.am "unknown" x) v) (fun i H H' v kp ⟨x, h1, h2⟩ => ⟨x, h1, h2.mono kp⟩) (SqL.of y12) (by rw [List.length_map]; omega) hD2 (fun j x J12 Q12 hx s12 k12 => ?_) fun vs2 J12 s12 hD12 vl12 hv12 => ?_
        · rw [List.getElem?_map] at hx
          cases hz : (uniS (tw.txt "unknown"))[j]? with
          | none => rw [hz] at hx; cases hx
          | some z =>
            rw [hz] at hx
            cases hx
            exact ⟨_, rfl, l2, fun q g => k12 _ _ (Rd.Same.upd g) ⟨z, hz, q, rfl, upd_same⟩⟩
        rw [List.length_map] at vl12
        have atN : TsAt J12 ((uniS (tw.txt "unknown")).map (Tr.am "unknown")) vs2 := ⟨by rw [List.length_map]; exact vl12, fun j t v h1 h2 => by
          obtain ⟨x, e, it⟩ := hv12 j v h2
          rw [List.getElem?_map, e] at h1
          cases h1
          exact it⟩
        have uN : ∀ t ∈ (uniS (tw.txt "unknown")).map (Tr.am "unknown"), t ∈ UX := fun t ht => by
          obtain ⟨x, hx, rfl⟩ := List.mem_map.mp ht
          exact ux x hx
        have lN : ((uniS (tw.txt "unknown")).map (Tr.am "unknown")).length ≤ 64 := by rw [List.length_map]; exact unl
        generalize (uniS (tw.txt "unknown")).map (Tr.am "unknown") = ns at atN uN lN
        refine gName_k ?_
        try dsimp only
        have s1012 := s11.trans s12
        have bc12 : ∀ c o, c ≠ p → c ≠ R → Hc c = some o → J12 c = some o := fun c o h1 h2 e => s1012 _ _ (bc10 c o h1 h2 e)
        have hm12 := bc12 _ _ nmp nmR hmc
        have kc12 : Kp 0 Hc J12 := fun c o hi' e => bc12 c o (fun z => by rw [z, hpc] at e; cases e; cases hi') (fun z => by rw [z, hRc] at e; cases e; cases hi') e
        have atM12 : TsAt J12 mts mv := hmt.mono kc12
        have ftU : ∀ t ∈ UX, t.fine ∧ t.dep ≤ 60 := fun t ht => ⟨(AX_wf t (List.mem_append_right _ ht)).fine, by have := AX_dep t (List.mem_append_right _ ht); omega⟩
        have mvl := atM12.len
        -- met
        refine seqAsg ⟨_, rfl, _, rfl, D2, rfl, ⟨_, SqL.of hD12⟩, fun D3 hD3 => ?_⟩
        refine lcg (K := K) (C := 0) (R := IsT) (ds := ns) (fun y => !decide (y ∈ mts)) id (fun _ _ _ _ kp h => h.mono kp) (SqL.of hD12) atN.len (by have := atN.len; omega) hD3 (fun j x t J13 Q13 hx ht s13 k13 => ?_) (fun j x t J13 Q13 hx ht _ s13 k13 => ?_) fun v3 J13 s13 hD13 hv13 => ?_
        · exact ⟨_, rfl, _, rfl, rd_notInTs ((atN.get j t x ht hx).same s13) (ftU t (uN t (List.mem_of_getElem? ht))) (s13 _ _ hm12) (atM12.same s13) (fun u hu => ftU u (mu u hu)) ⟨_, rfl, k13 _ (Same.refl _)⟩⟩
        · exact ⟨_, rfl, k13 _ _ (Same.refl _) ((atN.get j t x ht hx).same s13)⟩
        rw [List.map_id] at hv13
        have v3l := hv13.len
        have fl := List.length_filter_le (fun y => !decide (y ∈ mts)) ns
        refine ⟨qm, D3, _, _, rfl, rfl, s13 _ _ hm12, hD13, by omega, fun q13 w13 => ?_⟩
        have x14' := Rd.Same.upd (o := .lst (mv ++ v3)) w13
        have y14 : upd J13 q13 (.lst (mv ++ v3)) q13 = some (.lst (mv ++ v3)) := upd_same
        generalize upd J13 q13 (.lst (mv ++ v3)) = J14 at x14' y14 ⊢
        have s1214 := s13.trans x14'
        have atM14 : TsAt J14 (mts ++ ns.filter fun y => !decide (y ∈ mts)) (mv ++ v3) := (atM12.same s1214).app (hv13.ts.same x14')
        have mu14 : ∀ t ∈ mts ++ ns.filter (fun y => !decide (y ∈ mts)), t ∈ UX := fun t ht => (List.mem_append.mp ht).elim (mu t) fun h => uN t (List.mem_filter.mp h).1
        have ml14 : (mts ++ ns.filter fun y => !decide (y ∈ mts)).length ≤ 64 * (i + 1) := by rw [List.length_append]; omega
        have n13 : q13 ≠ p ∧ q13 ≠ R := ⟨(fun z => by rw [z, (s1012.trans s13) _ _ hp10] at w13; cases w13), (fun z => by rw [z, (s1012.trans s13) _ _ hRU] at w13; cases w13)⟩
        generalize mts ++ ns.filter (fun y => !decide (y ∈ mts)) = mts' at atM14 mu14 ml14
        generalize mv ++ v3 = mv' at y14 atM14
        refine gName_k ?_
        try dsimp only
        have s1014 := s1012.trans s1214
        have bc14 : ∀ c o, c ≠ p → c ≠ R → Hc c = some o → J14 c = some o := fun c o h1 h2 e => s1214 _ _ (bc12 c o h1 h2 e)
        have hp14 := s1014 _ _ hp10
        have hs14 := bc14 _ _ nsp nsR hsc
        have hqa14 := bc14 _ _ nqp nqR hqac
        have mvl' := atM14.len
        -- stock
        refine ⟨_, rfl, ?_⟩
        refine rd_draw (m := 3) (n := nn + 72) (by rfl) hp14 (hy7'.mono (by omega)) (by decide) (by decide) fun d2 J15 y15 hd2 b15 hp15 hy15 => ?_
        refine ⟨d2, rfl, by omega, by omega, fun D4 hD4 => ?_⟩
        have wfM : ∀ t ∈ AT4 ++ mts', Wf t := fun t ht => (List.mem_append.mp ht).elim (A4wf t) fun h => AX_wf t (List.mem_append_right _ (mu14 t h))
        have kc15 : Kp 0 Hc J15 := fun c o hi' e => b15 _ _ (fun z => by rw [z, hpc] at e; cases e; cases hi') (bc14 c o (fun z => by rw [z, hpc] at e; cases e; cases hi') (fun z => by rw [z, hRc] at e; cases e; cases hi') e)
        have hqa15 := b15 _ _ nqp hqa14
        have hm15 := b15 _ _ n13.1 y14
        have atM15 : TsAt J15 mts' mv' := atM14.mono (C := 0) (b15.kp hp14)
        refine lcr_draw (C := 0) (r := 36) (n := nn) (fun H v => ∃ t, Smd AX 2 t ∧ IsT H t v) (fun H H' v kp ⟨t, h1, h2⟩ => ⟨t, h1, h2.mono kp⟩) hp15 (hy15.mono (by omega)) hD4 (by omega) (fun j J16 y16 n16 Q16 hj b16 hp16 hy16 k16 => ?_) fun v4 J16 y16 b16 hp16 hy16 hD16 vl16 hv16 => ?_
        · refine ⟨_, rfl, _, rfl, _, rfl, qa, q13, _, _, rfl, rfl, b16 _ _ nqp hqa15, b16 _ _ n13.1 hm15, (by show 4 + _ ≤ _; omega), fun q15 w15 => ?_⟩
          have x17 := Rd.Same.upd (o := .lst ([V.ref t1, .ref t2, .ref t3, .ref t4] ++ mv')) w15
          have y17 : upd J16 q15 (.lst ([V.ref t1, .ref t2, .ref t3, .ref t4] ++ mv')) q15 = some (.lst ([V.ref t1, .ref t2, .ref t3, .ref t4] ++ mv')) := upd_same
          generalize upd J16 q15 (.lst ([V.ref t1, .ref t2, .ref t3, .ref t4] ++ mv')) = J17 at x17 y17 ⊢
          have at17 : TsAt J17 (AT4 ++ mts') ([V.ref t1, .ref t2, .ref t3, .ref t4] ++ mv') := (((atAc.mono kc15).app atM15).mono (C := 0) (b16.kp hp15)).same x17
          exact ⟨2, Nat.le_refl _, p, q15, y16, _, AT4 ++ mts', n16, rfl, x17 _ _ hp16, hy16, (fun z => by rw [z, hp16] at w15; cases w15), y17, at17, by rw [List.length_append]; show 0 < 4 + _; omega, by rw [List.length_append]; show 4 + _ ≤ _; omega, wfM, fun t v ys H9 b9 hp9 hy9 sm it => k16 v H9 ys ((But.of_same x17).trans b9) hp9 hy9 ⟨t, sm.mono (fun a ha => (List.mem_append.mp ha).elim (fun h => List.mem_append_left _ h) fun h => List.mem_append_right _ (mu14 a h)), it⟩⟩
        obtain ⟨ts4, at4, sm4⟩ := tsOf hv16
        have b1416 : But p J14 J16 := b15.trans b16
        have hs16 := b1416 _ _ nsp hs14
        have t4l := at4.len
        refine ⟨qs, D4, _, _, rfl, rfl, hs16, hD16, by omega, fun q16 w16 => ?_⟩
        have x18 := Rd.Same.upd (o := .lst (sv ++ v4)) w16
        have y18 : upd J16 q16 (.lst (sv ++ v4)) q16 = some (.lst (sv ++ v4)) := upd_same
        generalize upd J16 q16 (.lst (sv ++ v4)) = J18 at x18 y18 ⊢
        have b1418 : But p J14 J18 := b1416.trans (But.of_same x18)
        have bc18 : ∀ c o, c ≠ p → c ≠ R → Hc c = some o → J18 c = some o := fun c o h1 h2 e => b1418 _ _ h1 (bc14 c o h1 h2 e)
        have k1418 : Kp 0 J14 J18 := b1418.kp hp14
        have kc18 : Kp 0 Hc J18 := fun c o hi' e => bc18 c o (fun z => by rw [z, hpc] at e; cases e; cases hi') (fun z => by rw [z, hRc] at e; cases e; cases hi') e
        have hR14 := s1014 _ _ hRU
        have hR18 := b1418 _ _ nRp hR14
        have n16 : q16 ≠ p ∧ q16 ≠ R := ⟨(fun z => by rw [z, hp16] at w16; cases w16), (fun z => by rw [z, b1416 _ _ nRp hR14] at w16; cases w16)⟩
        have f16 : H q16 = none := by
          refine frC ?_ n16.1 n16.2
          cases q : Hc q16 with
          | none => rfl
          | some o => rw [b1416 _ _ n16.1 (bc14 _ _ n16.1 n16.2 q)] at w16; cases w16
        refine gName_k ?_
        refine ⟨_, _, _, _, _, _, _, q16, q13, y16, _, sv ++ v4, mv', ts ++ ts4, mts', rs ++ [(ts, tw)], rfl, fun c o h1 h2 e => bc18 c o h1 h2 (kc c o h1 h2 e), x18 _ _ hp16, hy16, hR18, hrsU.mp fun r v h => h.kb ((Kp.of_same s1014).trans k1418) (fun c o z e => b1418 _ _ (fun q => by rw [q, hp] at z; cases z.1) (s1014 _ _ e)), by rw [List.length_append, rl]; rfl, fun r hr => ?_, ⟨n16.1, n16.2, f16⟩, y18, (hts.mono kc18).app (at4.same x18), fun t ht => (List.mem_append.mp ht).elim (smt t) (sm4 t), by rw [List.length_append]; omega, n13, b1418 _ _ n13.1 y14, atM14.mono k1418, mu14, ml14⟩
        rcases List.mem_append.mp hr with hr | hr
        · exact gw r hr
        · rw [List.mem_singleton.mp hr]
          exact ⟨smt, by show ts.length ≤ 9; omega, smw⟩
      · rintro σ' Hc ⟨x4, x7, x8, x9, x10, x11, x12, qs, qm, ys, us, sv, mv, ts, mts, rs, rfl, kc, hpc, hyc, hRc, hrs, rl, gw, _⟩
        exact hK _ _ ⟨_, _, _, _, _, _, _, _, _, _, ys, us, rs, rfl, fun c o n e => kc _ _ n (fun z => by rw [z, fR] at e; cases e) (keepN c o n e), hpc, hyc.mono (by omega), hRc, hrs.mp fun r v h => h.imp fun c z => z.1, ⟨by omega, gw⟩⟩
    · rintro σ' Hc ⟨x2, x3, x4, x5, x7, x8, x9, x10, x11, x12, ys, us, rs, rfl, b, hpc, hyc, hRc, hrs, gw⟩
      exact ⟨_, rfl, k R Hc ys us rs b hpc hyc fR hRc hrs gw⟩
end
end Rd
namespace Rd
open PySem L2
/-- a list comprehension over a list, any target: what is made lives through all but the new list -/
theorem lclGU {K : PySem.W.Frag} {a D : Addr} {xs : List V} {g : TG} {te : TE} {vs : List Nat} {σ : St} {H1 : Hp} {Qd : Hp → Prop} (C : Addr) (R : Nat → Hp → V → Prop) (rm : ∀ i H H' v, Kp C H H' → But D H H' → R i H v → R i H' v) (hS : SqL K H1 a xs) (hl : xs.length ≤ 100000) (hD : H1 D = none)
    (hte : ∀ (i : Nat) (x : V) (H : Hp) (Q : VK), xs[i]? = some x → Same H1 H → H D ≠ none → (∀ v H', Same H H' → R i H' v → Q v H') → g x (wipe σ vs) H fun σ2 H2 => wipe σ2 vs = wipe σ vs ∧ te σ2 H2 Q)
    (hq : ∀ us H', Same H1 H' → H' D = some (.lst us) → us.length = xs.length → (∀ (i : Nat) v, us[i]? = some v → R i H' v) → Qd H') :
    ∃ W : Nat → Nat → Hp → Prop, (∃ m, W 0 m (L2.upd H1 D (.lst []))) ∧ ∀ i m H, W i m H →
      ((Itl K a).stop i H ∧ Qd H) ∨ ((Itl K a).go i H ∧ ∃ Nx : Hp → Prop, (∀ H', Nx H' → ∃ m', m' < m ∧ W (i + 1) m' H') ∧ ∀ x H', (Itl K a).yld i H x H' → g x (wipe σ vs) H' fun σ2 H2 => wipe σ2 vs = wipe σ vs ∧ tYes σ2 H2 fun b H3 =>
        if b = true then te σ2 H3 fun y H4 => ∃ acc, H4 D = some (.lst acc) ∧ acc.length < sizeLine ∧ Nx (L2.upd H4 D (.lst (acc ++ [y]))) else Nx H3) := by
  refine lc_list (K := K) (a := a) (xs := xs) (fun i H => ∃ us, Same H1 H ∧ H D = some (.lst us) ∧ us.length = i ∧ (∀ (j : Nat) v, us[j]? = some v → R j H v)) ?_ ?_ ?_ ?_
  · exact ⟨[], Rd.Same.upd hD, upd_same, rfl, fun j v h => by simp at h⟩
  · rintro i H hi ⟨us, s, _⟩
    exact SqL.kept hS s
  · rintro i x H hx ⟨us, s, hDv, hlv, hg⟩
    refine hte i x H (fun y H4 => ∃ acc, H4 D = some (.lst acc) ∧ acc.length < sizeLine ∧ ∃ us, Same H1 (L2.upd H4 D (.lst (acc ++ [y]))) ∧ L2.upd H4 D (.lst (acc ++ [y])) D = some (.lst us) ∧ us.length = i + 1 ∧ (∀ (j : Nat) v, us[j]? = some v → R j (L2.upd H4 D (.lst (acc ++ [y]))) v)) hx s (by rw [hDv]; exact fun z => by cases z) fun v H' s' hv => ⟨us, s' _ _ hDv, ?_, ?_⟩
    · have : 100000 < sizeLine := by decide
      have := (List.getElem?_eq_some_iff.mp hx).1
      omega
    · have hDv' := s' _ _ hDv
      refine ⟨us ++ [v], fun c o e => ?_, upd_same, by rw [List.length_append, hlv]; rfl, fun j v' hv' => ?_⟩
      · rw [upd_ne (ne_of_none e hD)]
        exact s' c o (s c o e)
      · have kp : But D H' (upd H' D (.lst (us ++ [v]))) := But.upd
        have kp0 : Kp C H' (upd H' D (.lst (us ++ [v]))) := Kp.upd_lst hDv'
        by_cases hj : j < us.length
        · rw [List.getElem?_append_left hj] at hv'
          exact rm _ _ _ _ kp0 kp (rm _ _ _ _ (Kp.of_same s') (But.of_same s') (hg j v' hv'))
        · have e : j = us.length := by
            have := (List.getElem?_eq_some_iff.mp hv').1
            rw [List.length_append, List.length_singleton] at this
            omega
          subst e
          rw [List.getElem?_append_right (Nat.le_refl _), Nat.sub_self] at hv'
          have e2 : v = v' := Option.some.inj hv'
          rw [← e2, hlv]
          exact rm _ _ _ _ kp0 kp hv
  · rintro H ⟨us, s, hDv, hlv, hg⟩
    exact hq us H s hDv hlv hg
/-- a row of wishes, made -/
def RwL (K : PySem.W.Frag) (N : Addr → Prop) (H : Hp) (r : FRow) (v : V) : Prop := ∃ (q a : Addr) (us : List V) (lv : V), v = .ref q ∧ N a ∧ H q = some (.tup [.ref a, lv]) ∧ H a = some (.lst us) ∧ AtL (IsLet K) H r.1 us ∧ IsLet K H r.2 lv
theorem RwL.kb {K : PySem.W.Frag} {N : Addr → Prop} {H H' : Hp} {r : FRow} {v : V} (k : Kp (He.ga K "Letter") H H') (b : ∀ c o, N c → H c = some o → H' c = some o) (h : RwL K N H r v) : RwL K N H' r v := by
  obtain ⟨q, a, us, tv, e, n, h1, h2, h3, h4⟩ := h
  exact ⟨q, a, us, tv, e, n, k _ _ rfl h1, b _ _ n h2, h3.mp fun _ _ h => h.mono k, h4.mono k⟩
theorem RwL.same {K : PySem.W.Frag} {N : Addr → Prop} {H H' : Hp} {r : FRow} {v : V} (s : Same H H') (h : RwL K N H r v) : RwL K N H' r v := h.kb (Kp.of_same s) fun c o _ e => s _ _ e
theorem RwL.imp {K : PySem.W.Frag} {N N' : Addr → Prop} {H : Hp} {r : FRow} {v : V} (f : ∀ c, N c → N' c) (h : RwL K N H r v) : RwL K N' H r v := by
  obtain ⟨q, a, us, tv, e, n, h⟩ := h
  exact ⟨q, a, us, tv, e, f _ n, h⟩
/-- rows that can be made -/
structure OkW (D : Nat) (rs : List FRow) : Prop where
  n : rs.length ≤ 3
  r : ∀ r ∈ rs, (∀ t ∈ r.1, Wf t ∧ t.dep ≤ D) ∧ r.1.length ≤ 9 ∧ Wf r.2 ∧ r.2.dep ≤ D
theorem GoodW.ok {rs : List FRow} (g : GoodW rs) : OkW 5 rs := ⟨g.n, fun r hr => ⟨fun t ht => ⟨((g.r r hr).1 t ht).wf AX_wf, ((g.r r hr).1 t ht).dep AX_dep⟩, (g.r r hr).2.1, (g.r r hr).2.2.wf AX_wf, (g.r r hr).2.2.dep AX_dep⟩⟩
def sp_lwishes (K : PySem.W.Frag) : Sp := fun vs H Q _ => ∃ (R : Addr) (us : List V) (rs : List FRow), vs = [.ref R] ∧ H R = some (.lst us) ∧ AtL (RwF fun _ => True) H rs us ∧ OkW 5 rs ∧
  ∀ q ws H', Same H H' → H q = none → H' q = some (.lst ws) → AtL (RwL K fun c => H c = none ∧ c ≠ q) H' rs ws → Q (.ref q) H'
section
variable {P : Program} {w : World} {K : PySem.W.Frag} {mg : Str → Option Value} {base : Heap}
abbrev s__law_wishes : Stmt := top 46
theorem sc__law_wishes : FnScope ["_law_rows", "_law_form", "_law_forms"] ["_law_rows"] (defScope s__law_wishes) := ⟨rfl, rfl, rfl, by decide +kernel, rfl, by decide +kernel, by decide +kernel⟩
theorem ok__law_wishes (T : Tx w K mg) : Fk P w K mg base CX0 15 "_law_wishes" ["_law_rows"] (sp_lwishes K) := by
  refine T.F__law_wishes.ok0 sc__law_wishes (fun _ _ _ _ _ _ us hl => match us, hl with | [_], _ => rfl)
    (fun vs H Q E h => ?_) (fun cdv A outer s H vs Q E hr h => ?_)
  · obtain ⟨R, us, rs, rfl, _⟩ := h
    rfl
  · obtain ⟨R, us, rs, rfl, hR, hrs, ok, k⟩ := h
    refine ⟨_, (pss_one (ps_ret (pe_lc (own := [("_law_forms", 2), ("_law_form", 1)])  (tt := tYes) (by rfl) sc__law_wishes.nd (pi_list (pv 0)) (blkOk_by (own := [("_law_forms", 2), ("_law_form", 1)]) (N := ["_law_rows", "_law_form", "_law_forms"]) (sc := defScope s__law_wishes) (by decide +kernel)) (fun _ _ _ _ _ => (pg_tupk (K := K) (n := 2) rfl rfl (pgs_cons (pg_name (i := 2) sc__law_wishes.nd rfl (Or.inl rfl)) (pgs_cons (pg_name (i := 1) sc__law_wishes.nd rfl (Or.inl rfl)) pgs_nil)))) (fun _ _ _ _ _ => pts_nil) (fun _ _ _ _ _ => (pe_tup (pa_cons (pe_lc (own := [("_law_form", 1)]) (g := gName 1) (tt := tYes) (by rfl) sc__law_wishes.nd (pi_listk (K := K) rfl (pv 2)) (blkOk_by (own := [("_law_form", 1)]) (N := ["_law_rows", "_law_form", "_law_forms"]) (by kernel_rfl)) (fun _ _ _ _ _ => (pg_name (i := 1) sc__law_wishes.nd rfl (Or.inl rfl))) (fun _ _ _ _ _ => pts_nil) (fun _ _ _ _ _ => (pe_fk (ok__law_letter T 6) (hr.mono (by omega)) rfl pass0 (pa_cons (pv 1) pa_nil)))) (pa_cons (pe_fk (ok__law_letter T 6) (hr.mono (by omega)) rfl pass0 (pa_cons (pv 1) pa_nil)) pa_nil))))))), ?_⟩
    have big : 16777216 ≤ sizeLine := by decide
    have rl := hrs.len
    have rn := ok.n
    refine ⟨_, rfl, R, rfl, ⟨_, SqL.of hR⟩, fun D hD => ?_⟩
    refine lclGU (K := K) (He.ga K "Letter") (fun i H' v => ∃ r, rs[i]? = some r ∧ RwL K (fun c => H c = none ∧ c ≠ D) H' r v) (fun i H1 H2 v kp b ⟨r, h1, h2⟩ => ⟨r, h1, h2.kb kp fun c o n e => b _ _ n.2 e⟩) (SqL.of hR) (by omega) hD (fun i x H1 Q1 hx s1 nD k1 => ?_) fun vs H1 s1 hD1 vl1 hv1 => ?_
    · have hlt := (List.getElem?_eq_some_iff.mp hx).1
      have hr' : rs[i]? = some rs[i] := List.getElem?_eq_getElem (by omega)
      have rm : rs[i] ∈ rs := List.getElem_mem _
      have rw := hrs.get i _ _ hr' hx
      generalize rs[i] = r at hr' rw rm
      obtain ⟨q, a, fs, tv, rfl, _, h1, h2, h3, h4⟩ := rw
      obtain ⟨o1, o2, o3, o4⟩ := ok.r r rm
      have fl := h3.len
      have l2 : 2 ≤ sizeLine := by omega
      have h1' := s1 _ _ h1
      have h2' := s1 _ _ h2
      have h3' := h3.same s1
      refine ⟨q, _, rfl, SqT.of h1', rfl, _, _, rfl, _, _, rfl, rfl, rfl, ?_⟩
      refine ⟨_, rfl, a, rfl, ⟨_, SqL.of h2'⟩, fun D2 hD2 => ?_⟩
      refine lcg (K := K) (C := He.ga K "Letter") (R := IsLet K) (ds := r.1) (fun _ => true) id (fun _ _ _ _ kp h => h.mono kp) (SqL.of h2') h3'.len (by omega) hD2 (fun j y t J Q2 hy ht sj kj => kj _ (Same.refl _)) (fun j y t J Q2 hy ht _ sj kj => ?_) fun v3 J sj hDj hv3 => ?_
      · obtain ⟨c1, c2⟩ := o1 t (List.mem_of_getElem? ht)
        exact ⟨_, rfl, y, t, rfl, (h3'.get j t y ht hy).same sj, c1, Nat.le_trans c2 (by decide), fun v' H' s' il => kj v' H' s' il⟩
      rw [List.filter_eq_self.mpr fun _ _ => rfl, List.map_id] at hv3
      refine ⟨_, rfl, tv, r.2, rfl, (h4.same s1).same sj, o3, Nat.le_trans o4 (by decide), fun lv J2 sj2 il2 => ⟨l2, fun q2 gq2 => ?_⟩⟩
      have t2 := Rd.Same.upd (o := .tup [.ref D2, lv]) gq2
      exact k1 _ _ (((sj.trans sj2).trans t2)) ⟨r, hr', q2, D2, v3, lv, rfl, ⟨s1.free hD2, fun z => nD (by rw [← z]; exact hD2)⟩, upd_same, t2 _ _ (sj2 _ _ hDj), hv3.mp fun _ _ h => (h.same sj2).same t2, il2.same t2⟩
    · refine k D vs H1 s1 hD hD1 ⟨by omega, fun i r v h1 h2 => ?_⟩
      obtain ⟨r', e, z⟩ := hv1 i v h2
      rw [h1] at e
      cases e
      exact z
end
end Rd
namespace Rd
open PySem L2
/-- the unknowns of some rows -/
def rwsU (rs : List FRow) : List Str := rs.flatMap fun r => (r.1 ++ [r.2]).flatMap fun t => t.txt "unknown"
def addU (f l : List Str) : List Str := f ++ l.filter fun x => !decide (x ∈ f)
theorem addU_mem {f l : List Str} {x : Str} : x ∈ addU f l ↔ x ∈ f ∨ x ∈ l := by
  unfold addU
  rw [List.mem_append, List.mem_filter]
  by_cases h : x ∈ f
  · simp [h]
  · simp [h]
theorem addU_nd {f l : List Str} (h1 : f.Nodup) (h2 : l.Nodup) : (addU f l).Nodup := by
  refine List.nodup_append.mpr ⟨h1, h2.filter _, fun a ha b hb e => ?_⟩
  subst e
  have := (List.mem_filter.mp hb).2
  rw [decide_eq_true ha] at this
  cases this
theorem uniS_nd {l : List Str} : (uniS l).Nodup := List.Pairwise.imp (fun {a b} h e => by rw [e, ltS_irr] at h; cases h) uniS_asc
def sp_lunk : Sp := fun vs H Q _ => ∃ (R : Addr) (us : List V) (rs : List FRow), vs = [.ref R] ∧ H R = some (.lst us) ∧ AtL (RwF fun _ => True) H rs us ∧ OkW 5 rs ∧ (∀ x ∈ rwsU rs, x ∈ (["x", "y"] : List Str)) ∧
  ∀ (q : Addr) (xs : List Str) (H' : Hp), Same H H' → H q = none → H' q = some (.lst (xs.map V.str)) → xs.Nodup → (∀ x, x ∈ xs ↔ x ∈ rwsU rs) → Q (.ref q) H'
section
variable {P : Program} {w : World} {K : PySem.W.Frag} {mg : Str → Option Value} {base : Heap}
abbrev s__law_unknowns : Stmt := top 47
theorem sc__law_unknowns : FnScope ["_law_rows", "_law_found", "_law_forms", "_law_form", "_law_one", "_law_name"] ["_law_rows"] (defScope s__law_unknowns) := ⟨rfl, rfl, rfl, by decide +kernel, rfl, by decide +kernel, by decide +kernel⟩
theorem ok__law_unknowns (T : Tx w K mg) : Fk P w K mg base CX0 9 "_law_unknowns" ["_law_rows"] sp_lunk := by
  refine T.F__law_unknowns.ok0 sc__law_unknowns (fun _ _ _ _ _ _ us hl => match us, hl with | [_], _ => rfl)
    (fun vs H Q E h => ?_) (fun cdv A outer s H vs Q E hr h => ?_)
  · obtain ⟨R, us, rs, rfl, _⟩ := h
    rfl
  · obtain ⟨R, us, rs, rfl, hR, hrs, ok, two, k⟩ := h
    refine ⟨_, (pss_cons (ps_set (i := 1) sc__law_unknowns.nd rfl (Or.inr rfl) (pe_lst pa_nil))
  (pss_cons (ps_for PassesOwn.never rfl (pi_list (pv 0)) (pg_tup rfl (pgs_cons (pg_name (i := 2) sc__law_unknowns.nd rfl (Or.inl rfl)) (pgs_cons (pg_name (i := 3) sc__law_unknowns.nd rfl (Or.inl rfl)) pgs_nil)))
  (pss_one (ps_for PassesOwn.never rfl (pi_list (pe_op op_cat (pv 2) (pe_lst (pa_cons (pv 3) pa_nil)))) (pg_name (i := 4) sc__law_unknowns.nd rfl (Or.inl rfl))
  (pss_one (ps_expr (pe_bm PySem.F.plainAttrs_list PySem.F.slot_list_extend PySem.F.type_list_extend mt_extend (pv 1) (pa_cons (pe_lc (own := [("_law_name", 5)]) (g := gName 5)  (by rfl) sc__law_unknowns.nd (pi_list (pe_fk (ok__law_atoms T 5) (hr.mono (by omega)) rfl pass0 (pa_cons (pv 4) (pa_cons pe_str pa_nil)))) (blkOk_by (own := [("_law_name", 5)]) (N := ["_law_rows", "_law_found", "_law_forms", "_law_form", "_law_one", "_law_name"]) (sc := defScope s__law_unknowns) (by decide +kernel)) (fun _ _ _ _ _ => (pg_name (i := 5) sc__law_unknowns.nd rfl (Or.inl rfl))) (fun _ _ _ _ _ => (pts_one (pt_cmpR (kOp (r := fun K => rIn K true) (K := K) rfl op_notIn_seq) (pv 5) (pv 1) (by rfl)))) (fun _ _ _ _ _ => (pv 5))) pa_nil)))))))
  (pss_one (ps_ret (pe_callB cr_sortedS (by rfl) T.z_sorted (by decide +kernel) (pa_cons (pv 1) pa_nil)))))), ?_⟩
    have big : 16777216 ≤ sizeLine := by decide
    have rl := hrs.len
    have rn := ok.n
    refine seqAsg ⟨Nat.zero_le _, fun p gp => ?_⟩
    have s1 := Rd.Same.upd (o := .lst []) gp
    have hp : upd H p (.lst []) p = some (.lst []) := upd_same
    generalize upd H p (.lst []) = H1 at s1 hp ⊢
    refine gName_k ?_
    try dsimp only
    have l1 : 1 ≤ sizeLine := by omega
    have nRp : R ≠ p := fun z => by rw [← z, hR] at gp; cases gp
    have fp : ∀ {c : Addr} {o : HO}, H c = some o → c ≠ p := fun {c o} e z => by rw [z, gp] at e; cases e
    have LU : ∀ xs : List Str, xs.Nodup → (∀ x ∈ xs, x ∈ (["x", "y"] : List Str)) → xs.length ≤ 2 := fun xs nd h => nodup_sub nd h
    refine seqJoin (fun σ Hc => ∃ (x2 x3 x4 x5 : Option V) (xs : List Str), σ = [some (.ref R), some (.ref p), x2, x3, x4, x5] ∧ But p H1 Hc ∧ Hc p = some (.lst (xs.map V.str)) ∧ xs.Nodup ∧ ∀ x, x ∈ xs ↔ x ∈ rwsU rs) (fun KK hK => ?_) ?_
    · refine ⟨_, rfl, R, rfl, ⟨_, SqL.of (s1 _ _ hR)⟩, ?_⟩
      refine for_list (xs := us) (fun i σ Hc => ∃ (x2 x3 x4 x5 : Option V) (xs : List Str), σ = [some (.ref R), some (.ref p), x2, x3, x4, x5] ∧ But p H1 Hc ∧ Hc p = some (.lst (xs.map V.str)) ∧ xs.Nodup ∧ ∀ x, x ∈ xs ↔ x ∈ rwsU (rs.take i)) ⟨_, _, _, _, [], rfl, fun c o _ e => e, hp, List.nodup_nil, (fun x => ⟨(fun h => by cases h), (fun h => by cases h)⟩)⟩ ?_ ?_ ?_
      · rintro i σ Hc hi ⟨x2, x3, x4, x5, xs, rfl, b, _⟩
        exact SqL.of (b _ _ nRp (s1 _ _ hR))
      · rintro i x σ Hc hx ⟨x2, x3, x4, x5, xs, rfl, b, hpc, nd, mem⟩
        have hlt := (List.getElem?_eq_some_iff.mp hx).1
        have hr' : rs[i]? = some rs[i] := List.getElem?_eq_getElem (by omega)
        have rm : rs[i] ∈ rs := List.getElem_mem _
        have rw' := hrs.get i _ _ hr' hx
        have etk : rs.take (i + 1) = rs.take i ++ [rs[i]] := by rw [List.take_succ, hr']; rfl
        generalize rs[i] = r at hr' rw' rm etk
        obtain ⟨q, a, fs, tv, rfl, _, h1, h2, h3, h4⟩ := rw'
        obtain ⟨o1, o2, o3, o4⟩ := ok.r r rm
        have kc : Kp 0 H1 Hc := b.kp hp
        have fl := h3.len
        have sb : ∀ x, x ∈ rwsU (rs.take i) → x ∈ (["x", "y"] : List Str) := fun x hx => two x (by
          obtain ⟨r', h1, h2⟩ := List.mem_flatMap.mp hx
          exact List.mem_flatMap.mpr ⟨r', List.mem_of_mem_take h1, h2⟩)
        refine ⟨q, _, rfl, SqT.of (b _ _ (fp h1) (s1 _ _ h1)), rfl, _, _, rfl, _, _, rfl, rfl, ?_⟩
        try dsimp only
        refine ⟨_, rfl, _, rfl, l1, fun q9 g9 => ?_⟩
        have s9 := Rd.Same.upd (o := .lst [tv]) g9
        have y9 : upd Hc q9 (.lst [tv]) q9 = some (.lst [tv]) := upd_same
        generalize upd Hc q9 (.lst [tv]) = H9 at s9 y9 ⊢
        refine ⟨a, q9, fs, [tv], rfl, rfl, s9 _ _ (b _ _ (fp h2) (s1 _ _ h2)), y9, (by show _ + 1 ≤ _; omega), fun q10 g10 => ?_⟩
        have s10 := Rd.Same.upd (o := .lst (fs ++ [tv])) g10
        have y10 : upd H9 q10 (.lst (fs ++ [tv])) q10 = some (.lst (fs ++ [tv])) := upd_same
        generalize upd H9 q10 (.lst (fs ++ [tv])) = H10 at s10 y10 ⊢
        have s910 := s9.trans s10
        have hp10 := s910 _ _ hpc
        have b10 : But p H1 H10 := b.trans (But.of_same s910)
        have at10 : TsAt H10 (r.1 ++ [r.2]) (fs ++ [tv]) := ((h3.same s1).mono (C := 0) (b10.kp hp)).app (TsAt.one ((h4.same s1).mono (C := 0) (b10.kp hp)))
        have n10 : q10 ≠ p := fun z => by rw [z, s9 _ _ hpc] at g10; cases g10
        have okT : ∀ t ∈ r.1 ++ [r.2], Wf t ∧ t.dep ≤ 5 := fun t ht => (List.mem_append.mp ht).elim (o1 t) fun h => by rw [List.mem_singleton.mp h]; exact ⟨o3, o4⟩
        have all2 : ∀ x, x ∈ rwsU (rs.take i) ∨ (∃ t ∈ r.1 ++ [r.2], x ∈ t.txt "unknown") → x ∈ (["x", "y"] : List Str) := fun x hx => hx.elim (sb x) fun ⟨t, h1, h2⟩ => two x (List.mem_flatMap.mpr ⟨r, rm, List.mem_flatMap.mpr ⟨t, h1, h2⟩⟩)
        have at10l := at10.len
        generalize ets : r.1 ++ [r.2] = ts at at10 okT all2 at10l
        generalize fs ++ [tv] = zs at y10 at10 at10l
        refine ⟨q10, rfl, ⟨_, SqL.of y10⟩, ?_⟩
        refine for_list (xs := zs) (fun j σ Hc => ∃ (x4 x5 : Option V) (xs : List Str), σ = [some (.ref R), some (.ref p), some (.ref a), some tv, x4, x5] ∧ But p H10 Hc ∧ Hc p = some (.lst (xs.map V.str)) ∧ xs.Nodup ∧ ∀ x, x ∈ xs ↔ x ∈ rwsU (rs.take i) ∨ ∃ t ∈ ts.take j, x ∈ t.txt "unknown") ⟨_, _, xs, rfl, fun c o _ e => e, hp10, nd, (fun x => by rw [mem]; exact ⟨.inl, fun h => h.elim id fun ⟨t, h, _⟩ => by cases h⟩)⟩ ?_ ?_ ?_
        · rintro j σ Jc hj ⟨x4, x5, xs, rfl, bj, _⟩
          exact SqL.of (bj _ _ n10 y10)
        · rintro j y σ Jc hy ⟨x4, x5, xs, rfl, bj, hpj, ndj, memj⟩
          have hltj := (List.getElem?_eq_some_iff.mp hy).1
          have ht : ts[j]? = some ts[j] := List.getElem?_eq_getElem (by omega)
          have tm : ts[j] ∈ ts := List.getElem_mem _
          have it := at10.get j _ _ ht hy
          have etj : ts.take (j + 1) = ts.take j ++ [ts[j]] := by rw [List.take_succ, ht]; rfl
          generalize ts[j] = t at ht tm it etj
          obtain ⟨wt, dt⟩ := okT t tm
          have lj : xs.length ≤ 2 := LU xs ndj fun x hx => all2 x (((memj x).mp hx).imp id fun ⟨t, h1, h2⟩ => ⟨t, List.mem_of_mem_take h1, h2⟩)
          refine gName_k ?_
          try dsimp only
          refine ⟨_, rfl, .inl ⟨rfl, _, SqL.of hpj⟩, _, rfl, ⟨y, t, "unknown", rfl, it.mono (C := 0) (bj.kp hp10), wt, dt, by decide, fun q12 J1 s11 w12 y12 => ?_⟩, "unknown", by decide +kernel, rfl⟩
          have lu : (uniS (t.txt "unknown")).length ≤ 2 := LU _ uniS_nd fun x hx => all2 x (.inr ⟨t, tm, uniS_mem.mp hx⟩)
          have hpJ := s11 _ _ hpj
          refine ⟨q12, rfl, ⟨_, SqL.of y12⟩, fun D2 hD2 => ?_⟩
          refine lcg (K := K) (C := 0) (R := fun _ (z : Str) v => v = .str z) (ds := uniS (t.txt "unknown")) (fun y => !decide (y ∈ xs)) id (fun _ _ _ _ _ h => h) (SqL.of y12) (List.length_map _) (by rw [List.length_map]; omega) hD2 (fun i x z J13 Q13 hx hz s13 k13 => ?_) (fun i x z J13 Q13 hx hz _ s13 k13 => ?_) fun v3 J2 s13 hD3 hv3 => ?_
          · have e : x = .str z := by rw [List.getElem?_map, hz] at hx; cases hx; rfl
            subst e
            refine ⟨_, rfl, _, rfl, p, _, rfl, .inl (SqL.of (s13 _ _ hpJ)), rfl, (by rw [List.all_map]; exact List.all_eq_true.mpr fun _ _ => rfl), _, rfl, ?_⟩
            have e : inV (V.str z) (xs.map V.str) = decide (z ∈ xs) := inV_strsX z xs
            show Q13 (!inV (V.str z) (xs.map V.str)) J13
            rw [e]
            exact k13 _ (Same.refl _)
          · have e : x = .str z := by rw [List.getElem?_map, hz] at hx; cases hx; rfl
            subst e
            exact ⟨_, rfl, k13 _ _ (Same.refl _) rfl⟩
          rw [List.map_id] at hv3
          have ev : v3 = ((uniS (t.txt "unknown")).filter fun y => !decide (y ∈ xs)).map V.str := by
            refine List.ext_getElem? fun n => ?_
            rw [List.getElem?_map]
            cases hn : ((uniS (t.txt "unknown")).filter fun y => !decide (y ∈ xs))[n]? with
            | none =>
              rw [List.getElem?_eq_none_iff] at hn
              exact List.getElem?_eq_none_iff.mpr (by have := hv3.len; omega)
            | some z =>
              have := hv3.len
              have hn' := (List.getElem?_eq_some_iff.mp hn).1
              have hv : v3[n]? = some v3[n] := List.getElem?_eq_getElem (by omega)
              rw [hv, hv3.get n z _ hn hv]
              rfl
          subst ev
          have fl3 := List.length_filter_le (fun y => !decide (y ∈ xs)) (uniS (t.txt "unknown"))
          refine ⟨p, D2, _, _, rfl, rfl, s13 _ _ hpJ, hD3, by rw [List.length_map, List.length_map]; omega, ?_⟩
          refine ⟨_, _, addU xs (uniS (t.txt "unknown")), rfl, (bj.trans (But.of_same (s11.trans s13))).trans But.upd, ?_, addU_nd ndj uniS_nd, fun x => ?_⟩
          · rw [← List.map_append]
            exact upd_same
          · rw [addU_mem, memj, uniS_mem, etj]
            exact ⟨fun h => h.elim (fun h => h.imp id fun ⟨t, h1, h2⟩ => ⟨t, List.mem_append_left _ h1, h2⟩) fun h => .inr ⟨t, List.mem_append_right _ List.mem_cons_self, h⟩, fun h => h.elim (fun h => .inl (.inl h)) fun ⟨t', h1, h2⟩ => (List.mem_append.mp h1).elim (fun h1 => .inl (.inr ⟨t', h1, h2⟩)) fun h1 => .inr (by rw [List.mem_singleton.mp h1] at h2; exact h2)⟩
        · rintro σ Jc ⟨x4, x5, xs, rfl, bj, hpj, ndj, memj⟩
          refine ⟨_, _, _, _, xs, rfl, b10.trans bj, hpj, ndj, fun x => ?_⟩
          rw [memj, List.take_of_length_le (l := ts) (by omega), etk]
          unfold rwsU
          rw [List.flatMap_append, List.mem_append, List.flatMap_singleton, ets, List.mem_flatMap (l := ts)]
      · rintro σ Hc ⟨x2, x3, x4, x5, xs, rfl, b, hpc, nd, mem⟩
        rw [List.take_of_length_le (by omega)] at mem
        exact hK _ _ ⟨_, _, _, _, xs, rfl, b, hpc, nd, mem⟩
    · rintro σ Hc ⟨x2, x3, x4, x5, xs, rfl, b, hpc, nd, mem⟩
      have lx : xs.length ≤ 2 := LU xs nd fun x hx => two x ((mem x).mp hx)
      refine ⟨_, rfl, p, xs, rfl, SqL.of hpc, by omega, fun ys q pm so gq => ?_⟩
      have fq : H q = none := by
        cases e : H q with
        | none => rfl
        | some o => rw [b _ _ (fp e) (s1 _ _ e)] at gq; cases gq
      refine k q ys _ (fun c o e => ?_) fq upd_same (pm.nodup_iff.mpr nd) fun x => by rw [pm.mem_iff, mem]
      exact Rd.Same.upd gq _ _ (b _ _ (fp e) (s1 _ _ e))
end
end Rd
namespace Rd
open PySem L2
theorem fill_wf {m : Str → Option Tr} {d : Nat} (hm : ∀ x t, m x = some t → Wf t ∧ t.dep ≤ d) {t : Tr} (h : Wf t) : Wf (fill m t) ∧ (fill m t).dep ≤ t.dep + d := by
  induction h with
  | @am k x ko =>
    show Wf (if k = "unknown" then _ else _) ∧ (if k = "unknown" then _ else _ : Tr).dep ≤ _
    split
    · cases e : m x with
      | none => exact ⟨.am ko, Nat.zero_le _⟩
      | some t =>
        obtain ⟨a, b⟩ := hm x t e
        exact ⟨a, by show t.dep ≤ 0 + d; omega⟩
    · exact ⟨.am ko, Nat.zero_le _⟩
  | @un s a hs _ ih => exact ⟨.un hs ih.1, by show (fill m a).dep + 1 ≤ a.dep + 1 + d; have := ih.2; omega⟩
  | @bi s a b hs _ _ ih1 ih2 => exact ⟨.bi hs ih1.1 ih2.1, by show max (fill m a).dep (fill m b).dep + 1 ≤ max a.dep b.dep + 1 + d; have := ih1.2; have := ih2.2; omega⟩
  | @lk s a b hs _ _ ih1 ih2 => exact ⟨.lk hs ih1.1 ih2.1, by show max (fill m a).dep ((fill m b).dep + 1) + 1 ≤ max a.dep (b.dep + 1) + 1 + d; have := ih1.2; have := ih2.2; omega⟩
/-- what a filling of wishes holds -/
structure GoodM (m : Str → Option Tr) : Prop where
  wf : ∀ x t, m x = some t → Wf t ∧ t.dep ≤ 5
  sz : ∀ x t, m x = some t → t.all.length ≤ 14
  op : ∀ x t, m x = some t → (opW t).length ≤ 7
  pl : ∀ x t, m x = some t → t.txt "unknown" = []
theorem GoodM.opA {m : Str → Option Tr} (g : GoodM m) : (AX.flatMap fun a => opW (fill m a)).length ≤ 18 := by
  have hu : ∀ x, (opW (fill m (.am "unknown" x))).length ≤ 7 := fun x => by
    show (opW (if ("unknown" : Str) = "unknown" then (m x).getD (.am "unknown" x) else _)).length ≤ 7
    rw [if_pos rfl]
    cases e : m x with
    | none => show 1 ≤ 7; decide
    | some t => exact g.op x t e
  have h1 := hu "x"
  have h2 := hu "y"
  show ([fill m (.am "name" "K"), fill m (.am "name" "S"), fill m (.am "word" "a"), fill m (.un "own" (.am "word" "e")), fill m (.am "unknown" "x"), fill m (.am "unknown" "y")].flatMap opW).length ≤ 18
  rw [List.flatMap_cons, List.flatMap_cons, List.flatMap_cons, List.flatMap_cons, List.flatMap_cons, List.flatMap_cons, List.flatMap_nil]
  rw [List.length_append, List.length_append, List.length_append, List.length_append, List.length_append, List.length_append]
  show 1 + (1 + (1 + (1 + (_ + (_ + 0))))) ≤ 18
  omega
theorem GoodM.szA {m : Str → Option Tr} (g : GoodM m) : ∀ a ∈ AX, (fill m a).all.length ≤ 14 := fun a ha => by
  have h : a = .am "name" "K" ∨ a = .am "name" "S" ∨ a = .am "word" "a" ∨ a = .un "own" (.am "word" "e") ∨ a = .am "unknown" "x" ∨ a = .am "unknown" "y" := by simpa [AX, AT4, UX] using ha
  have hu : ∀ x, (fill m (.am "unknown" x)).all.length ≤ 14 := fun x => by
    show (if ("unknown" : Str) = "unknown" then (m x).getD (.am "unknown" x) else _).all.length ≤ 14
    rw [if_pos rfl]
    cases e : m x with
    | none => show 1 ≤ 14; decide
    | some t => exact g.sz x t e
  rcases h with rfl | rfl | rfl | rfl | rfl | rfl
  · show 1 ≤ 14; decide
  · show 1 ≤ 14; decide
  · show 1 ≤ 14; decide
  · show 2 ≤ 14; decide
  · exact hu "x"
  · exact hu "y"
theorem GoodM.sz2 {m : Str → Option Tr} (g : GoodM m) {t : Tr} (h : Smd AX 2 t) : (fill m t).all.length ≤ 62 := h.size g.szA
/-- a filling grants wishes -/
def GrR (m : Str → Option Tr) (r : FRow) : Prop := ∃ os, IsOpen (r.1.map (fill m)) os ∧ mka os (fill m r.2) = true
def Gr (m : Str → Option Tr) (rs : List FRow) : Prop := ∀ r ∈ rs, GrR m r
theorem GrR.of {m : Str → Option Tr} {r : FRow} {os : List Tr} (h : IsOpen (r.1.map (fill m)) os) : GrR m r ↔ mka os (fill m r.2) = true :=
  ⟨fun ⟨o, h1, h2⟩ => by rw [← mka_congr (h1.same h) (fill m r.2)]; exact h2, fun e => ⟨os, h, e⟩⟩
def sp_lgranted : Sp := fun vs H Q _ => ∃ (R b : Addr) (us : List V) (rs : List FRow) (m : Str → Option Tr), vs = [.ref R, .ref b] ∧ H R = some (.lst us) ∧ AtL (RwF fun _ => True) H rs us ∧ GoodW rs ∧ DTr H b m ∧ GoodM m ∧
  ∀ c H', Same H H' → (c = true ↔ Gr m rs) → Q (.bl c) H'
section
variable {P : Program} {w : World} {K : PySem.W.Frag} {mg : Str → Option Value} {base : Heap}
abbrev s__law_granted : Stmt := top 48
theorem sc__law_granted : FnScope ["_law_rows", "_law_filling", "_law_forms", "_law_form", "_law_opened_here", "_law_one"] ["_law_rows", "_law_filling"] (defScope s__law_granted) := ⟨rfl, rfl, rfl, by decide +kernel, rfl, by decide +kernel, by decide +kernel⟩
theorem ok__law_granted (T : Tx w K mg) : Fk P w K mg base CX0 15 "_law_granted" ["_law_rows", "_law_filling"] sp_lgranted := by
  refine T.F__law_granted.ok0 sc__law_granted (fun _ _ _ _ _ _ us hl => match us, hl with | [_, _], _ => rfl)
    (fun vs H Q E h => ?_) (fun cdv A outer s H vs Q E hr h => ?_)
  · obtain ⟨R, b, us, rs, m, rfl, _⟩ := h
    rfl
  · obtain ⟨R, b, us, rs, m, rfl, hR, hrs, gw, dt, gm, k⟩ := h
    refine ⟨_, (pss_cons (ps_for PassesOwn.never rfl (pi_list (pv 0)) (pg_tup rfl (pgs_cons (pg_name (i := 2) sc__law_granted.nd rfl (Or.inl rfl)) (pgs_cons (pg_name (i := 3) sc__law_granted.nd rfl (Or.inl rfl)) pgs_nil)))
  (pss_cons (ps_set (i := 4) sc__law_granted.nd rfl (Or.inl rfl) (pe_fk (ok__law_opened T 10) (hr.mono (by omega)) rfl pass0 (pa_cons (pe_lc (own := [("_law_one", 5)]) (g := gName 5) (tt := tYes) (by rfl) sc__law_granted.nd (pi_list (pv 2)) (blkOk_by (own := [("_law_one", 5)]) (N := ["_law_rows", "_law_filling", "_law_forms", "_law_form", "_law_opened_here", "_law_one"]) (sc := defScope s__law_granted) (by decide +kernel)) (fun _ _ _ _ _ => (pg_name (i := 5) sc__law_granted.nd rfl (Or.inl rfl))) (fun _ _ _ _ _ => pts_nil) (fun _ _ _ _ _ => (pe_fk (ok__law_filled T 6) (hr.mono (by omega)) rfl pass0 (pa_cons (pv 5) (pa_cons (pv 1) pa_nil))))) pa_nil)))
  (pss_one (ps_if (pt_not (pt_val (pe_fk (ok__law_can T 10) (hr.mono (by omega)) rfl pass0 (pa_cons (pe_fk (ok__law_filled T 6) (hr.mono (by omega)) rfl pass0 (pa_cons (pv 3) (pa_cons (pv 1) pa_nil))) (pa_cons (pv 4) pa_nil)))))
  (pss_one (ps_ret pe_bl))
  pss_nil))))
  (pss_one (ps_ret pe_bl))), ?_⟩
    have big : 16777216 ≤ sizeLine := by decide
    have rl := hrs.len
    have rn := gw.n
    have ok := gw.ok
    refine seqJoin (fun σ Hc => ∃ (x2 x3 x4 x5 : Option V), σ = [some (.ref R), some (.ref b), x2, x3, x4, x5] ∧ Same H Hc ∧ Gr m rs) (fun KK hK => ?_) ?_
    · refine ⟨_, rfl, R, rfl, ⟨_, SqL.of hR⟩, ?_⟩
      refine for_list (xs := us) (fun i σ Hc => ∃ (x2 x3 x4 x5 : Option V), σ = [some (.ref R), some (.ref b), x2, x3, x4, x5] ∧ Same H Hc ∧ Gr m (rs.take i)) ⟨_, _, _, _, rfl, (fun c o e => e), fun r h => by cases h⟩ ?_ ?_ ?_
      · rintro i σ Hc hi ⟨x2, x3, x4, x5, rfl, s0, _⟩
        exact SqL.of (s0 _ _ hR)
      · rintro i x σ Hc hx ⟨x2, x3, x4, x5, rfl, s0, gr⟩
        have hlt := (List.getElem?_eq_some_iff.mp hx).1
        have hr' : rs[i]? = some rs[i] := List.getElem?_eq_getElem (by omega)
        have rm : rs[i] ∈ rs := List.getElem_mem _
        have rw' := hrs.get i _ _ hr' hx
        have etk : rs.take (i + 1) = rs.take i ++ [rs[i]] := by rw [List.take_succ, hr']; rfl
        generalize rs[i] = r at hr' rw' rm etk
        obtain ⟨q, a, fs, tv, rfl, _, h1, h2, h3, h4⟩ := rw'
        obtain ⟨o1, o2, o3, o4⟩ := ok.r r rm
        obtain ⟨g1, g2, g3⟩ := gw.r r rm
        have fl := h3.len
        refine ⟨q, _, rfl, SqT.of (s0 _ _ h1), rfl, _, _, rfl, _, _, rfl, rfl, ?_⟩
        try dsimp only
        have h3c := h3.same s0
        refine seqAsg ⟨_, rfl, a, rfl, ⟨_, SqL.of (s0 _ _ h2)⟩, fun D hD => ?_⟩
        refine lcg (K := K) (C := 0) (R := IsT) (ds := r.1) (fun _ => true) (fill m) (fun _ _ _ _ kp h => h.mono kp) (SqL.of (s0 _ _ h2)) h3c.len (by omega) hD (fun j y t J Q2 hy ht sj kj => kj _ (Same.refl _)) (fun j y t J Q2 hy ht _ sj kj => ?_) fun v3 J sj hDj hv3 => ?_
        · obtain ⟨c1, c2⟩ := o1 t (List.mem_of_getElem? ht)
          exact ⟨_, rfl, _, rfl, y, b, t, m, rfl, (h3c.get j t y ht hy).same sj, c1, Nat.le_trans c2 (by decide), dt.same (s0.trans sj), fun u H' s' it => kj u H' s' it⟩
        rw [List.filter_eq_self.mpr fun _ _ => rfl] at hv3
        have tsv : TsAt J (r.1.map (fill m)) v3 := hv3.ts
        obtain ⟨U, u1, u2, u3, u4⟩ := coverU (A := AX) (m := m) g1
        have u5 := gm.opA
        have wfd : ∀ t ∈ r.1.map (fill m), Wf t ∧ t.dep ≤ 10 := fun t ht => by
          obtain ⟨t0, ht0, rfl⟩ := List.mem_map.mp ht
          obtain ⟨c1, c2⟩ := fill_wf gm.wf (o1 t0 ht0).1
          exact ⟨c1, by have := (o1 t0 ht0).2; omega⟩
        refine ⟨D, v3, _, rfl, hDj, tsv, wfd, by decide, by rw [List.length_map]; omega, ⟨U, u1, u2, u3, by omega⟩, fun q7 us7 os H7 s7 gq7 hq7 at7 op7 => ?_⟩
        refine gName_k ?_
        try dsimp only
        have s07 := (s0.trans sj).trans s7
        refine ⟨_, rfl, _, rfl, tv, b, r.2, m, rfl, h4.same s07, o3, Nat.le_trans o4 (by decide), dt.same s07, fun u H8 s8 it8 => ?_⟩
        obtain ⟨c1, c2⟩ := fill_wf gm.wf o3
        refine ⟨_, rfl, u, fill m r.2, q7, us7, os, rfl, it8, c1, by omega, by decide, s8 _ _ hq7, at7.same s8, (fun t ht => ?_), fun H9 s9 => ⟨_, rfl, ?_⟩⟩
        · obtain ⟨d1, d2⟩ := allOf_ok wfd (op7.inAll t ht)
          exact ⟨d1.fine, by omega⟩
        have S9 := (s07.trans s8).trans s9
        have iffr := GrR.of (m := m) (r := r) op7
        cases e : mka os (fill m r.2) with
        | false =>
          refine k _ _ S9 ⟨(fun z => by cases z), fun g => ?_⟩
          have := iffr.mp (g r rm)
          rw [e] at this
          cases this
        | true =>
          refine ⟨_, _, _, _, rfl, S9, fun r' h' => ?_⟩
          rw [etk] at h'
          rcases List.mem_append.mp h' with h' | h'
          · exact gr r' h'
          · rw [List.mem_singleton.mp h']
            exact iffr.mpr e
      · rintro σ Hc ⟨x2, x3, x4, x5, rfl, s0, gr⟩
        rw [List.take_of_length_le (by omega)] at gr
        exact hK _ _ ⟨_, _, _, _, rfl, s0, gr⟩
    · rintro σ Hc ⟨x2, x3, x4, x5, rfl, s0, gr⟩
      exact k _ _ s0 ⟨fun _ => gr, fun _ => rfl⟩
end
end Rd
namespace Rd
open PySem L2
section
variable {X : Cx} {CX : CXT} {k : Nat} {ps : List Str} {sp : Sp} {E : XK} {c m : Str} {pos apos : Pos} {e o : Expr} {es : List Expr} {t : TA} {ta : TE} {K : PySem.W.Frag}
theorem pe_fmk {pl : Sem Bool} (hK : X.K = K) (he : PE X o ta) (cl : Cls X.K (He.ga X.K c)) (F : Fm X.prog X.w X.K X.mg X.base CX k c m ps sp) (hr : Room k X.A) (hx : Passes CX X E) (ha : PA X (e :: es) t)
    (hst : starEach (e :: es) X.env = (false, eval e X.env) :: starEach es X.env := by rfl) (hpl : (backTo pos (starEach es X.env)).any (·.1) = false := by rfl)
    (ht : eval (.Call (.Attribute o m apos) (e :: es) [] pos) X.env = (do
      let ov ← eval o X.env
      standAt apos.atName
      let (f, first) ← holding [ov] (getMethod ov m pl)
      callWith pos f first (backTo pos (starEach (e :: es) X.env)) (backToKw pos (keywordEach [] X.env))) := by rfl) :
    PE X (.Call (.Attribute o m apos) (e :: es) [] pos) (tMeth (He.ga K c) m sp [] E ta t) := by subst hK; exact pe_fm he cl F hr hx ha hst hpl ht
end
theorem GoodW.rev {rs : List FRow} (g : GoodW rs) : GoodW rs.reverse := ⟨by rw [List.length_reverse]; exact g.n, fun r hr => g.r r (List.mem_reverse.mp hr)⟩
theorem allOf_le {ts : List Tr} {S : Nat} (h : ∀ t ∈ ts, t.all.length ≤ S) : (allOf ts).length ≤ ts.length * S := by
  induction ts with
  | nil => exact Nat.zero_le _
  | cons t ts ih =>
    have h1 := h t List.mem_cons_self
    have h2 := ih fun u hu => h u (List.mem_cons_of_mem _ hu)
    show (t.all ++ allOf ts).length ≤ _
    rw [List.length_append, List.length_cons, Nat.succ_mul]
    omega
def sp_granted (K : PySem.W.Frag) : Sp := fun vs H Q _ => ∃ (R b : Addr) (us : List V) (rs : List FRow) (kvs : List (Key × V)) (fl : List (Str × Tr)), vs = [.ref R, .ref b] ∧ H R = some (.lst us) ∧ AtL (RwL K fun _ => True) H rs us ∧ GoodW rs ∧ H b = some (.dK kvs) ∧ Al (IsLet K) H fl kvs ∧ (fl.map (·.1)).Nodup ∧ fl.length ≤ 2 ∧ GoodM (look fl) ∧ (∀ x ∈ rwsU rs, ∃ t, look fl x = some t) ∧
  ∀ c H', Same H H' → (c = true ↔ Gr (look fl) rs) → Q (.bl c) H'
section
variable {P : Program} {w : World} {K : PySem.W.Frag} {mg : Str → Option Value} {base : Heap}
abbrev s_granted : Stmt := top 36
theorem sc_granted : FnScope ["wishes", "filling", "letters", "letter", "one", "unknown", "opened"] ["wishes", "filling"] (defScope s_granted) := ⟨rfl, rfl, rfl, by decide +kernel, rfl, by decide +kernel, by decide +kernel⟩
theorem ok_granted (T : Tx w K mg) : Fk P w K mg base CX0 16 "granted" ["wishes", "filling"] (sp_granted K) := by
  refine T.F_granted.ok0 sc_granted (fun _ _ _ _ _ _ us hl => match us, hl with | [_, _], _ => rfl)
    (fun vs H Q E h => ?_) (fun cdv A outer s H vs Q E hr h => ?_)
  · obtain ⟨R, b, us, rs, kvs, fl, rfl, _⟩ := h
    rfl
  · obtain ⟨R, b, us, rs, kvs, fl, rfl, hR, hrs, gw, hb, al, nd, fl2, gm, un, k⟩ := h
    refine ⟨_, (pss_cons (ps_for PassesOwn.never rfl (pi_list (pv 0)) (pg_tup rfl (pgs_cons (pg_name (i := 2) sc_granted.nd rfl (Or.inl rfl)) (pgs_cons (pg_name (i := 3) sc_granted.nd rfl (Or.inl rfl)) pgs_nil)))
  (pss_one (ps_for PassesOwn.never rfl (pi_list (pe_op op_cat (pv 2) (pe_lst (pa_cons (pv 3) pa_nil)))) (pg_name (i := 4) sc_granted.nd rfl (Or.inl rfl))
  (pss_one (ps_for PassesOwn.never rfl (pi_list (pe_fm0 (pv 4) T.k_Letter (ok_unknowns T 10) (hr.mono (by omega)) pass0)) (pg_name (i := 5) sc_granted.nd rfl (Or.inl rfl))
  (pss_one (ps_if (PW.pt (pw_or (pt_cmp (pc_dnotin (hu_of hr) (pv 5) (pv 1))) (pw_or1 (pt_not (pt_val (pe_fk (ok_is_plainB T 6) (hr.mono (by omega)) rfl pass0 (pa_cons (pe_dget (hu_of hr) (pv 1) (pv 5) (fun _ _ => rfl)) pa_nil)))))))
  (pss_one ps_never)
  pss_nil)))))))
  (pss_cons (ps_for PassesOwn.never rfl (pi_list (pv 0)) (pg_tup rfl (pgs_cons (pg_name (i := 2) sc_granted.nd rfl (Or.inl rfl)) (pgs_cons (pg_name (i := 3) sc_granted.nd rfl (Or.inl rfl)) pgs_nil)))
  (pss_cons (ps_set (i := 6) sc_granted.nd rfl (Or.inl rfl) (pe_fk (ok_opened_parts T 10) (hr.mono (by omega)) rfl pass0 (pa_cons (pe_lc (own := [("one", 4)]) (g := gName 4) (tt := tYes) (by rfl) sc_granted.nd (pi_list (pv 2)) (blkOk_by (own := [("one", 4)]) (N := ["wishes", "filling", "letters", "letter", "one", "unknown", "opened"]) (sc := defScope s_granted) (by decide +kernel)) (fun _ _ _ _ _ => (pg_name (i := 4) sc_granted.nd rfl (Or.inl rfl))) (fun _ _ _ _ _ => pts_nil) (fun _ _ _ _ _ => (pe_fldk (K := K) rfl (pe_fmk (K := K) rfl (pv 4) T.k_Letter (ok_filled T 6) (hr.mono (by omega)) pass0 (pa_cons (pv 1) pa_nil)) rfl))) pa_nil)))
  (pss_one (ps_if (pt_not (pt_val (pe_fk (ok_is_made T 10) (hr.mono (by omega)) rfl pass0 (pa_cons (pe_fld (pe_fm (pv 3) T.k_Letter (ok_filled T 6) (hr.mono (by omega)) pass0 (pa_cons (pv 1) pa_nil)) rfl) (pa_cons (pv 6) pa_nil)))))
  (pss_one (ps_ret pe_bl))
  pss_nil))))
  (pss_one (ps_ret pe_bl)))), ?_⟩
    have big : 16777216 ≤ sizeLine := by decide
    have l1 : 1 ≤ sizeLine := by omega
    have rl := hrs.len
    have rn := gw.n
    have ok := gw.ok
    refine seqJoin (fun σ Hc => ∃ (x2 x3 x4 x5 x6 : Option V), σ = [some (.ref R), some (.ref b), x2, x3, x4, x5, x6] ∧ Same H Hc) (fun KK hK => ?_) ?_
    · refine ⟨_, rfl, R, rfl, ⟨_, SqL.of hR⟩, ?_⟩
      refine for_list (xs := us) (fun i σ Hc => ∃ (x2 x3 x4 x5 x6 : Option V), σ = [some (.ref R), some (.ref b), x2, x3, x4, x5, x6] ∧ Same H Hc) ⟨_, _, _, _, _, rfl, fun c o e => e⟩ ?_ ?_ ?_
      · rintro i σ Hc hi ⟨x2, x3, x4, x5, x6, rfl, s0⟩
        exact SqL.of (s0 _ _ hR)
      · rintro i x σ Hc hx ⟨x2, x3, x4, x5, x6, rfl, s0⟩
        have hlt := (List.getElem?_eq_some_iff.mp hx).1
        have hr' : rs[i]? = some rs[i] := List.getElem?_eq_getElem (by omega)
        have rm : rs[i] ∈ rs := List.getElem_mem _
        have rw' := hrs.get i _ _ hr' hx
        generalize rs[i] = r at hr' rw' rm
        obtain ⟨q, a, fs, tv, rfl, _, h1, h2, h3, h4⟩ := rw'
        obtain ⟨o1, o2, o3, o4⟩ := ok.r r rm
        have fsl := h3.len
        refine ⟨q, _, rfl, SqT.of (s0 _ _ h1), rfl, _, _, rfl, _, _, rfl, rfl, ?_⟩
        try dsimp only
        refine ⟨_, rfl, _, rfl, l1, fun q9 g9 => ?_⟩
        have s9 := Rd.Same.upd (o := .lst [tv]) g9
        have y9 : upd Hc q9 (.lst [tv]) q9 = some (.lst [tv]) := upd_same
        generalize upd Hc q9 (.lst [tv]) = H9 at s9 y9 ⊢
        refine ⟨a, q9, fs, [tv], rfl, rfl, s9 _ _ (s0 _ _ h2), y9, (by show _ + 1 ≤ _; omega), fun q10 g10 => ?_⟩
        have s10 := Rd.Same.upd (o := .lst (fs ++ [tv])) g10
        have y10 : upd H9 q10 (.lst (fs ++ [tv])) q10 = some (.lst (fs ++ [tv])) := upd_same
        generalize upd H9 q10 (.lst (fs ++ [tv])) = H10 at s10 y10 ⊢
        have S10 := (s0.trans s9).trans s10
        have at10 : AtL (IsLet K) H10 (r.1 ++ [r.2]) (fs ++ [tv]) := (h3.mp fun _ _ h => h.same S10).snoc (h4.same S10)
        have okT : ∀ t ∈ r.1 ++ [r.2], Wf t ∧ t.dep ≤ 5 := fun t ht => (List.mem_append.mp ht).elim (o1 t) fun h => by rw [List.mem_singleton.mp h]; exact ⟨o3, o4⟩
        have unT : ∀ t ∈ r.1 ++ [r.2], ∀ x ∈ t.txt "unknown", ∃ u, look fl x = some u := fun t ht x hx => un x (List.mem_flatMap.mpr ⟨r, rm, List.mem_flatMap.mpr ⟨t, ht, hx⟩⟩)
        have at10l := at10.len
        generalize r.1 ++ [r.2] = ts at at10 okT unT at10l
        generalize fs ++ [tv] = zs at y10 at10 at10l
        refine ⟨q10, rfl, ⟨_, SqL.of y10⟩, ?_⟩
        refine for_list (xs := zs) (fun j σ Hc => ∃ (x4 x5 x6 : Option V), σ = [some (.ref R), some (.ref b), some (.ref a), some tv, x4, x5, x6] ∧ Same H10 Hc) ⟨_, _, _, rfl, fun c o e => e⟩ ?_ ?_ ?_
        · rintro j σ Jc hj ⟨x4, x5, x6, rfl, sj⟩
          exact SqL.of (sj _ _ y10)
        · rintro j y σ Jc hy ⟨x4, x5, x6, rfl, sj⟩
          have hltj := (List.getElem?_eq_some_iff.mp hy).1
          have ht : ts[j]? = some ts[j] := List.getElem?_eq_getElem (by omega)
          have tm : ts[j] ∈ ts := List.getElem_mem _
          have it := (at10.get j _ _ ht hy).same sj
          generalize ts[j] = t at ht tm it
          obtain ⟨wt, dt⟩ := okT t tm
          have unt := unT t tm
          obtain ⟨la, lu, rfl, ⟨dx, hla⟩, itu⟩ := it
          refine gName_k ?_
          try dsimp only
          refine ⟨_, rfl, la, dx, _, rfl, hla, lookT (by decide +kernel), la, lu, t, rfl, ⟨dx, hla⟩, itu, wt, Nat.le_trans dt (by decide), by decide, fun p J1 s1 np hp1 => ?_⟩
          refine ⟨p, rfl, ⟨_, SqL.of hp1⟩, ?_⟩
          refine for_list (xs := (uniS (t.txt "unknown")).map V.str) (fun n σ Hc => ∃ (x5 x6 : Option V), σ = [some (.ref R), some (.ref b), some (.ref a), some tv, some (.ref la), x5, x6] ∧ Same J1 Hc) ⟨_, _, rfl, fun c o e => e⟩ ?_ ?_ ?_
          · rintro n σ Kc hn ⟨x5, x6, rfl, sk⟩
            exact SqL.of (sk _ _ hp1)
          · rintro n y σ Kc hn ⟨x5, x6, rfl, sk⟩
            rw [List.getElem?_map] at hn
            cases hz : (uniS (t.txt "unknown"))[n]? with
            | none => rw [hz] at hn; cases hn
            | some z =>
              rw [hz] at hn
              cases hn
              obtain ⟨u, hu⟩ := unt z (uniS_mem.mp (List.mem_of_getElem? hz))
              have S2 := ((S10.trans sj).trans s1).trans sk
              obtain ⟨vv, hv, il⟩ := (al.look (x := z)).1 u hu
              obtain ⟨ua, uu, rfl, ⟨ux, hua⟩, iuu⟩ := il.same S2
              have dg : DGet Kc b (.str z) (some (.ref ua)) := .inl ⟨kvs, .inr z, .inl (S2 _ _ hb), rfl, hv.symm⟩
              obtain ⟨wu, du⟩ := gm.wf z u hu
              refine gName_k ?_
              try dsimp only
              refine ⟨_, rfl, _, rfl, b, _, rfl, dg, _, rfl, ?_⟩
              refine iteN (by intro z; cases z) ?_
              refine ⟨_, rfl, _, rfl, b, _, rfl, dg, ua, uu, u, rfl, ⟨ux, hua⟩, iuu, wu, Nat.le_trans du (by decide), by decide, fun H3 s3 => ⟨_, rfl, ?_⟩⟩
              have e : hasUnk u = false := by
                unfold hasUnk
                rw [gm.pl z u hu]
                rfl
              rw [e]
              exact ⟨_, _, rfl, sk.trans s3⟩
          · rintro σ Kc ⟨x5, x6, rfl, sk⟩
            exact ⟨_, _, _, rfl, (sj.trans s1).trans sk⟩
        · rintro σ Jc ⟨x4, x5, x6, rfl, sj⟩
          exact ⟨_, _, _, _, _, rfl, S10.trans sj⟩
      · rintro σ Hc ⟨x2, x3, x4, x5, x6, rfl, s0⟩
        exact hK _ _ ⟨_, _, _, _, _, rfl, s0⟩
    · rintro σ H1 ⟨x2, x3, x4, x5, x6, rfl, t0⟩
      refine seqJoin (fun σ Hc => ∃ (x2 x3 x4 x5 x6 : Option V), σ = [some (.ref R), some (.ref b), x2, x3, x4, x5, x6] ∧ Same H Hc ∧ Gr (look fl) rs) (fun KK hK => ?_) ?_
      · refine ⟨_, rfl, R, rfl, ⟨_, SqL.of (t0 _ _ hR)⟩, ?_⟩
        refine for_list (xs := us) (fun i σ Hc => ∃ (x2 x3 x4 x5 x6 : Option V), σ = [some (.ref R), some (.ref b), x2, x3, x4, x5, x6] ∧ Same H Hc ∧ Gr (look fl) (rs.take i)) ⟨_, _, _, _, _, rfl, t0, fun r h => by cases h⟩ ?_ ?_ ?_
        · rintro i σ Hc hi ⟨x2, x3, x4, x5, x6, rfl, s0, _⟩
          exact SqL.of (s0 _ _ hR)
        · rintro i x σ Hc hx ⟨x2, x3, x4, x5, x6, rfl, s0, gr⟩
          have hlt := (List.getElem?_eq_some_iff.mp hx).1
          have hr' : rs[i]? = some rs[i] := List.getElem?_eq_getElem (by omega)
          have rm : rs[i] ∈ rs := List.getElem_mem _
          have rw' := hrs.get i _ _ hr' hx
          have etk : rs.take (i + 1) = rs.take i ++ [rs[i]] := by rw [List.take_succ, hr']; rfl
          generalize rs[i] = r at hr' rw' rm etk
          obtain ⟨q, a, fs, tv, rfl, _, h1, h2, h3, h4⟩ := rw'
          obtain ⟨o1, o2, o3, o4⟩ := ok.r r rm
          obtain ⟨g1, g2, g3⟩ := gw.r r rm
          have fsl := h3.len
          refine ⟨q, _, rfl, SqT.of (s0 _ _ h1), rfl, _, _, rfl, _, _, rfl, rfl, ?_⟩
          try dsimp only
          have h3c : AtL (IsLet K) Hc r.1 fs := h3.mp fun _ _ h => h.same s0
          have alc : ∀ {J : Hp}, Same H J → Al (IsLet K) J fl kvs := fun s => al.mono fun t v h => h.same s
          refine seqAsg ⟨_, rfl, a, rfl, ⟨_, SqL.of (s0 _ _ h2)⟩, fun D hD => ?_⟩
          refine lcg (K := K) (C := 0) (R := IsT) (ds := r.1) (fun _ => true) (fill (look fl)) (fun _ _ _ _ kp h => h.mono kp) (SqL.of (s0 _ _ h2)) h3c.len (by omega) hD (fun j y t J Q2 hy ht sj kj => kj _ (Same.refl _)) (fun j y t J Q2 hy ht _ sj kj => ?_) fun v3 J sj hDj hv3 => ?_
          · obtain ⟨c1, c2⟩ := o1 t (List.mem_of_getElem? ht)
            obtain ⟨la, lu, rfl, ⟨dx, hla⟩, itu⟩ := (h3c.get j t y ht hy).same sj
            refine ⟨_, rfl, la, dx, _, rfl, hla, lookT (by decide +kernel), _, rfl, la, b, lu, t, kvs, fl, rfl, ⟨dx, hla⟩, itu, c1, Nat.le_trans c2 (by decide), (s0.trans sj) _ _ hb, alc (s0.trans sj), nd, by omega, fun v J2 s2 il => ?_⟩
            obtain ⟨lb, lv, rfl, ⟨dy, hlb⟩, itv⟩ := il
            exact ⟨lb, _, dy, _, lv, rfl, hlb, T.k_Letter, T.n_Letter_tree, look1 _, kj _ _ s2 itv⟩
          rw [List.filter_eq_self.mpr fun _ _ => rfl] at hv3
          have tsv : TsAt J (r.1.map (fill (look fl))) v3 := hv3.ts
          have wfd : ∀ t ∈ r.1.map (fill (look fl)), Wf t ∧ t.dep ≤ 10 ∧ t.all.length ≤ 62 := fun t ht => by
            obtain ⟨t0, ht0, rfl⟩ := List.mem_map.mp ht
            obtain ⟨c1, c2⟩ := fill_wf gm.wf (o1 t0 ht0).1
            exact ⟨c1, by have := (o1 t0 ht0).2; omega, gm.sz2 (g1 t0 ht0)⟩
          have aol : (allOf (r.1.map (fill (look fl)))).length ≤ 558 := by
            have h := allOf_le (ts := r.1.map (fill (look fl))) fun t ht => (wfd t ht).2.2
            rw [List.length_map] at h
            omega
          refine ⟨D, v3, _, 62, rfl, hDj, tsv, wfd, by decide, by omega, by omega, fun q7 us7 os H7 s7 gq7 hq7 at7 op7 nd7 => ?_⟩
          refine gName_k ?_
          try dsimp only
          have s07 := (s0.trans sj).trans s7
          obtain ⟨la, lu, rfl, ⟨dx, hla⟩, itu⟩ := h4.same s07
          refine ⟨_, rfl, la, dx, _, rfl, hla, lookT (by decide +kernel), _, rfl, la, b, lu, r.2, kvs, fl, rfl, ⟨dx, hla⟩, itu, o3, Nat.le_trans o4 (by decide), s07 _ _ hb, alc s07, nd, by omega, fun v H8 s8 il => ?_⟩
          obtain ⟨lb, lv, rfl, ⟨dy, hlb⟩, itv⟩ := il
          obtain ⟨c1, c2⟩ := fill_wf gm.wf o3
          refine ⟨lb, _, dy, _, lv, rfl, hlb, T.k_Letter, T.n_Letter_tree, look1 _, ?_⟩
          refine ⟨_, rfl, lv, fill (look fl) r.2, q7, us7, os, rfl, itv, c1, by omega, by decide, s8 _ _ hq7, at7.same s8, (fun t ht => ?_), fun H9 s9 => ⟨_, rfl, ?_⟩⟩
          · obtain ⟨d1, d2⟩ := allOf_ok (fun t ht => ⟨(wfd t ht).1, (wfd t ht).2.1⟩) (op7.inAll t ht)
            exact ⟨d1.fine, by omega⟩
          have S9 := (s07.trans s8).trans s9
          have iffr := GrR.of (m := look fl) (r := r) op7
          cases e : mka os (fill (look fl) r.2) with
          | false =>
            refine k _ _ S9 ⟨(fun z => by cases z), fun g => ?_⟩
            have := iffr.mp (g r rm)
            rw [e] at this
            cases this
          | true =>
            refine ⟨_, _, _, _, _, rfl, S9, fun r' h' => ?_⟩
            rw [etk] at h'
            rcases List.mem_append.mp h' with h' | h'
            · exact gr r' h'
            · rw [List.mem_singleton.mp h']
              exact iffr.mpr e
        · rintro σ Hc ⟨x2, x3, x4, x5, x6, rfl, s0, gr⟩
          rw [List.take_of_length_le (by omega)] at gr
          exact hK _ _ ⟨_, _, _, _, _, rfl, s0, gr⟩
      · rintro σ Hc ⟨x2, x3, x4, x5, x6, rfl, s0, gr⟩
        exact k _ _ s0 ⟨fun _ => gr, fun _ => rfl⟩
end
end Rd
namespace Rd
open PySem L2
theorem all_len_le {t : Tr} : ∀ {u : Tr}, u ∈ t.all → u.all.length ≤ t.all.length := by
  induction t with
  | am k x => intro u h; rw [List.mem_singleton.mp (show u ∈ [Tr.am k x] from h)]; exact Nat.le_refl _
  | un s a ih =>
    intro u h
    rcases List.mem_cons.mp (show u ∈ Tr.un s a :: a.all from h) with rfl | h
    · exact Nat.le_refl _
    · have := ih h
      rw [all_un]
      omega
  | bi s a b ih ig =>
    intro u h
    rcases List.mem_cons.mp (show u ∈ Tr.bi s a b :: (a.all ++ b.all) from h) with rfl | h
    · exact Nat.le_refl _
    · rw [all_bi]
      rcases List.mem_append.mp h with h | h
      · have := ih h; omega
      · have := ig h; omega
theorem fill_none : ∀ t : Tr, fill (fun _ => none) t = t
  | .am k x => by
    show (if k = "unknown" then _ else _) = _
    split
    · rename_i h; rw [h]; rfl
    · rfl
  | .un s a => by show Tr.un s _ = _; rw [fill_none a]
  | .bi s a b => by show Tr.bi s _ _ = _; rw [fill_none a, fill_none b]
/-- a form that can be drawn for an unknown -/
structure Cand (t : Tr) : Prop where
  wf : Wf t
  dp : t.dep ≤ 5
  sz : t.all.length ≤ 14
  op : (opW t).length ≤ 7
  pl : t.txt "unknown" = []
theorem Smd.szN {t : Tr} (h : Smd AX 2 t) : t.all.length ≤ 14 := by
  have := h.size (B := 2) (m := fun _ => none) fun a ha => by rw [fill_none]; exact AX_len a ha
  rw [fill_none] at this
  exact this
theorem Cand.part {t u : Tr} (h : Smd AX 2 t) (hu : u ∈ t.all) (e : hasUnk u = false) : Cand u := by
  obtain ⟨h1, h2⟩ := all_wf (h.wf AX_wf) u hu
  have hd := h.dep AX_dep
  have hs := h.szN
  have hl := all_len_le hu
  have ho := h.oc AX_oc u hu
  refine ⟨h1, by omega, by omega, by have : 2 ^ (2 + 1) = 8 := rfl; omega, ?_⟩
  unfold hasUnk at e
  cases q : u.txt "unknown" with
  | nil => rfl
  | cons x l => rw [q] at e; cases e
def C4 : List Tr := [.am "word" "a", .am "word" "zz", .am "name" "K", .am "name" "S"]
theorem C4_ok : ∀ t ∈ C4, Cand t := fun t ht => by
  have h : t = .am "word" "a" ∨ t = .am "word" "zz" ∨ t = .am "name" "K" ∨ t = .am "name" "S" := by simpa [C4] using ht
  have b1 : ∀ {k x : Str}, (k = "unknown" → False) → Wf (.am k x) → Cand (.am k x) := fun {k x} n w => ⟨w, Nat.zero_le _, (by show 1 ≤ 14; decide), (by show 1 ≤ 7; decide), if_neg n⟩
  rcases h with rfl | rfl | rfl | rfl
  · exact b1 (by decide +kernel) (.am (.inl ⟨rfl, by decide +kernel⟩))
  · exact b1 (by decide +kernel) (.am (.inl ⟨rfl, by decide +kernel⟩))
  · exact b1 (by decide +kernel) (.am (.inr (.inl ⟨rfl, by decide +kernel⟩)))
  · exact b1 (by decide +kernel) (.am (.inr (.inl ⟨rfl, by decide +kernel⟩)))
theorem GoodM.of {fl : List (Str × Tr)} (h : ∀ p ∈ fl, Cand p.2) : GoodM (look fl) := by
  have key : ∀ x t, look fl x = some t → Cand t := fun x t e => by
    unfold look at e
    obtain ⟨p, hp, e⟩ := Option.map_eq_some_iff.mp e
    rw [← e]
    exact h p (List.mem_of_find?_eq_some hp)
  exact ⟨fun x t e => ⟨(key x t e).wf, (key x t e).dp⟩, fun x t e => (key x t e).sz, fun x t e => (key x t e).op, fun x t e => (key x t e).pl⟩
theorem eqv_unk (t : Tr) : PyData.eqv (.list ((uniS (t.txt "unknown")).map PyData.str)) (.list []) = !hasUnk t := by
  unfold hasUnk
  cases e1 : t.txt "unknown" with
  | nil => rfl
  | cons x l =>
    cases e2 : uniS (x :: l) with
    | nil =>
      have : x ∈ uniS (x :: l) := uniS_mem.mpr List.mem_cons_self
      rw [e2] at this
      cases this
    | cons y m => rfl
def sp_lfd : Sp := fun vs H Q _ => ∃ (p R : Addr) (xs us : List V) (rs : List FRow) (n : Nat), vs = [.ref p, .ref R] ∧ H p = some (.lst xs) ∧ StL (n + 2) xs ∧ R ≠ p ∧ H R = some (.lst us) ∧ AtL (RwF fun c => c ≠ p) H rs us ∧ GoodW rs ∧
  ∀ b kvs (fl : List (Str × Tr)) ys H', But p H H' → H' p = some (.lst ys) → StL n ys → H b = none → H' b = some (.dK kvs) → Al IsT H' fl kvs → fl.map (·.1) = (["x", "y"] : List Str) → (∀ e ∈ fl, Cand e.2) → Q (.ref b) H'
section
variable {P : Program} {w : World} {K : PySem.W.Frag} {mg : Str → Option Value} {base : Heap}
abbrev s__law_filling_drawn : Stmt := top 53
theorem sc__law_filling_drawn : FnScope ["_law_stream_here", "_law_rows", "_law_some", "_law_forms", "_law_form", "_law_one", "_law_part", "_law_name"] ["_law_stream_here", "_law_rows"] (defScope s__law_filling_drawn) := ⟨rfl, rfl, rfl, by decide +kernel, rfl, by decide +kernel, by decide +kernel⟩
theorem ok__law_filling_drawn (T : Tx w K mg) : Fk P w K mg base CX0 20 "_law_filling_drawn" ["_law_stream_here", "_law_rows"] sp_lfd := by
  refine T.F__law_filling_drawn.ok0 sc__law_filling_drawn (fun _ _ _ _ _ _ us hl => match us, hl with | [_, _], _ => rfl)
    (fun vs H Q E h => ?_) (fun cdv A outer s H vs Q E hr h => ?_)
  · obtain ⟨p, R, xs, us, rs, n, rfl, _⟩ := h
    rfl
  · obtain ⟨p, R, xs, us, rs, n, rfl, hp, hx, nRp, hR, hrs, gw, k⟩ := h
    refine ⟨_, (pss_cons (ps_set (i := 2) sc__law_filling_drawn.nd rfl (Or.inr rfl) (pe_lst (pa_cons (pe_tup (pa_cons pe_str (pa_cons pe_str pa_nil))) (pa_cons (pe_tup (pa_cons pe_str (pa_cons pe_str pa_nil))) (pa_cons (pe_tup (pa_cons pe_str (pa_cons pe_str pa_nil))) (pa_cons (pe_tup (pa_cons pe_str (pa_cons pe_str pa_nil))) pa_nil))))))
  (pss_cons (ps_for PassesOwn.never rfl (pi_list (pv 1)) (pg_tup rfl (pgs_cons (pg_name (i := 3) sc__law_filling_drawn.nd rfl (Or.inl rfl)) (pgs_cons (pg_name (i := 4) sc__law_filling_drawn.nd rfl (Or.inl rfl)) pgs_nil)))
  (pss_one (ps_for PassesOwn.never rfl (pi_list (pe_op op_cat (pv 3) (pe_lst (pa_cons (pv 4) pa_nil)))) (pg_name (i := 5) sc__law_filling_drawn.nd rfl (Or.inl rfl))
  (pss_one (ps_expr (pe_bm PySem.F.plainAttrs_list PySem.F.slot_list_extend PySem.F.type_list_extend mt_extend (pv 2) (pa_cons (pe_lc (own := [("_law_part", 6)]) (g := gName 6)  (by rfl) sc__law_filling_drawn.nd (pi_list (pe_fk (ok__law_parts T 5) (hr.mono (by omega)) rfl pass0 (pa_cons (pv 5) pa_nil))) (blkOk_by (own := [("_law_part", 6)]) (N := ["_law_stream_here", "_law_rows", "_law_some", "_law_forms", "_law_form", "_law_one", "_law_part", "_law_name"]) (sc := defScope s__law_filling_drawn) (by decide +kernel)) (fun _ _ _ _ _ => (pg_name (i := 6) sc__law_filling_drawn.nd rfl (Or.inl rfl))) (fun _ _ _ _ _ => (pts_one (pt_cmpR (kOp (r := rEqD) (K := K) rfl (op_eqD hr.units)) (pe_fk (ok__law_atoms T 5) (hr.mono (by omega)) rfl pass0 (pa_cons (pv 6) (pa_cons pe_str pa_nil))) (pe_lst pa_nil) (nomark _)))) (fun _ _ _ _ _ => (pv 6))) pa_nil)))))))
  (pss_one (ps_ret (pe_callTy (call_dictP rfl) (by rfl) T.z_dict (by decide +kernel) (pa_cons (pe_lc (own := [("_law_name", 7)]) (g := gName 7) (tt := tYes) (by rfl) sc__law_filling_drawn.nd (pi_list (pe_lst (pa_cons pe_str (pa_cons pe_str pa_nil)))) (blkOk_by (own := [("_law_name", 7)]) (N := ["_law_stream_here", "_law_rows", "_law_some", "_law_forms", "_law_form", "_law_one", "_law_part", "_law_name"]) (sc := defScope s__law_filling_drawn) (by decide +kernel)) (fun _ _ _ _ _ => (pg_name (i := 7) sc__law_filling_drawn.nd rfl (Or.inl rfl))) (fun _ _ _ _ _ => pts_nil) (fun _ _ _ _ _ => (pe_tup (pa_cons (pv 7) (pa_cons (pe_fk (ok__law_pick T) (hr.mono (by omega)) rfl pass0 (pa_cons (pv 0) (pa_cons (pv 2) pa_nil))) pa_nil))))) pa_nil)))))), ?_⟩
    have big : 16777216 ≤ sizeLine := by decide
    have l1 : 1 ≤ sizeLine := by omega
    have l2 : 2 ≤ sizeLine := by omega
    have l4 : 4 ≤ sizeLine := by omega
    have rl := hrs.len
    have rn := gw.n
    have ok := gw.ok
    refine seqAsg ⟨l2, fun t1 g1 => ⟨l2, fun t2 g2 => ⟨l2, fun t3 g3 => ⟨l2, fun t4 g4 => ⟨l4, fun qa ga => ?_⟩⟩⟩⟩⟩
    have u1 := Rd.Same.upd (o := .tup [.str "word", .str "a"]) g1
    have e1 : upd H t1 (.tup [.str "word", .str "a"]) t1 = some (.tup [.str "word", .str "a"]) := upd_same
    generalize upd H t1 (.tup [.str "word", .str "a"]) = H1 at u1 e1 g2 g3 g4 ga ⊢
    have u2 := Rd.Same.upd (o := .tup [.str "word", .str "zz"]) g2
    have e2 : upd H1 t2 (.tup [.str "word", .str "zz"]) t2 = some (.tup [.str "word", .str "zz"]) := upd_same
    generalize upd H1 t2 (.tup [.str "word", .str "zz"]) = H2 at u2 e2 g3 g4 ga ⊢
    have u3 := Rd.Same.upd (o := .tup [.str "name", .str "K"]) g3
    have e3 : upd H2 t3 (.tup [.str "name", .str "K"]) t3 = some (.tup [.str "name", .str "K"]) := upd_same
    generalize upd H2 t3 (.tup [.str "name", .str "K"]) = H3 at u3 e3 g4 ga ⊢
    have u4 := Rd.Same.upd (o := .tup [.str "name", .str "S"]) g4
    have e4 : upd H3 t4 (.tup [.str "name", .str "S"]) t4 = some (.tup [.str "name", .str "S"]) := upd_same
    generalize upd H3 t4 (.tup [.str "name", .str "S"]) = H4 at u4 e4 ga ⊢
    have u5 := Rd.Same.upd (o := .lst [.ref t1, .ref t2, .ref t3, .ref t4]) ga
    have e5 : upd H4 qa (.lst [.ref t1, .ref t2, .ref t3, .ref t4]) qa = some (.lst [.ref t1, .ref t2, .ref t3, .ref t4]) := upd_same
    generalize upd H4 qa (.lst [.ref t1, .ref t2, .ref t3, .ref t4]) = H5 at u5 e5 ⊢
    refine gName_k ?_
    try dsimp only
    have s45 := u4.trans u5
    have s35 := u3.trans s45
    have s25 := u2.trans s35
    have S5 := u1.trans s25
    have at5 : TsAt H5 C4 [.ref t1, .ref t2, .ref t3, .ref t4] := ⟨rfl, fun i t v h1 h2 => by
      match i, h1, h2 with
      | 0, h1, h2 => cases h1; cases h2; exact ⟨t1, rfl, s25 _ _ e1⟩
      | 1, h1, h2 => cases h1; cases h2; exact ⟨t2, rfl, s35 _ _ e2⟩
      | 2, h1, h2 => cases h1; cases h2; exact ⟨t3, rfl, s45 _ _ e3⟩
      | 3, h1, h2 => cases h1; cases h2; exact ⟨t4, rfl, u5 _ _ e4⟩⟩
    have fqa : H qa = none := (((u1.trans u2).trans u3).trans u4).free ga
    have fq : ∀ {c : Addr} {o : HO}, H c = some o → c ≠ qa := fun {c o} e z => by rw [z, fqa] at e; cases e
    refine seqJoin (fun σ Hc => ∃ (x3 x4 x5 x6 x7 : Option V) (sv : List V) (cs : List Tr), σ = [some (.ref p), some (.ref R), some (.ref qa), x3, x4, x5, x6, x7] ∧ But qa H5 Hc ∧ Hc qa = some (.lst sv) ∧ TsAt Hc cs sv ∧ (∀ t ∈ cs, Cand t) ∧ 4 ≤ cs.length ∧ cs.length ≤ 424) (fun KK hK => ?_) ?_
    · refine ⟨_, rfl, R, rfl, ⟨_, SqL.of (S5 _ _ hR)⟩, ?_⟩
      refine for_list (xs := us) (fun i σ Hc => ∃ (x3 x4 x5 x6 x7 : Option V) (sv : List V) (cs : List Tr), σ = [some (.ref p), some (.ref R), some (.ref qa), x3, x4, x5, x6, x7] ∧ But qa H5 Hc ∧ Hc qa = some (.lst sv) ∧ TsAt Hc cs sv ∧ (∀ t ∈ cs, Cand t) ∧ 4 ≤ cs.length ∧ cs.length ≤ 4 + 140 * i) ⟨_, _, _, _, _, _, C4, rfl, (fun c o _ e => e), e5, at5, C4_ok, by decide, by decide⟩ ?_ ?_ ?_
      · rintro i σ Hc hi ⟨x3, x4, x5, x6, x7, sv, cs, rfl, b, _⟩
        exact SqL.of (b _ _ (fq hR) (S5 _ _ hR))
      · rintro i x σ Hc hx ⟨x3, x4, x5, x6, x7, sv, cs, rfl, b, hqa, hcs, cok, c4, cl⟩
        have hlt := (List.getElem?_eq_some_iff.mp hx).1
        have hr' : rs[i]? = some rs[i] := List.getElem?_eq_getElem (by omega)
        have rm : rs[i] ∈ rs := List.getElem_mem _
        have rw' := hrs.get i _ _ hr' hx
        generalize rs[i] = r at hr' rw' rm
        obtain ⟨q, a, fs, tv, rfl, nap, h1, h2, h3, h4⟩ := rw'
        obtain ⟨o1, o2, o3⟩ := gw.r r rm
        have fsl := h3.len
        have kc : Kp 0 H5 Hc := b.kp e5
        refine ⟨q, _, rfl, SqT.of (b _ _ (fq h1) (S5 _ _ h1)), rfl, _, _, rfl, _, _, rfl, rfl, ?_⟩
        try dsimp only
        refine ⟨_, rfl, _, rfl, l1, fun q9 g9 => ?_⟩
        have s9 := Rd.Same.upd (o := .lst [tv]) g9
        have y9 : upd Hc q9 (.lst [tv]) q9 = some (.lst [tv]) := upd_same
        generalize upd Hc q9 (.lst [tv]) = H9 at s9 y9 ⊢
        refine ⟨a, q9, fs, [tv], rfl, rfl, s9 _ _ (b _ _ (fq h2) (S5 _ _ h2)), y9, (by show _ + 1 ≤ _; omega), fun q10 g10 => ?_⟩
        have s10 := Rd.Same.upd (o := .lst (fs ++ [tv])) g10
        have y10 : upd H9 q10 (.lst (fs ++ [tv])) q10 = some (.lst (fs ++ [tv])) := upd_same
        generalize upd H9 q10 (.lst (fs ++ [tv])) = H10 at s10 y10 ⊢
        have s910 := s9.trans s10
        have hqa10 := s910 _ _ hqa
        have b10 : But qa H5 H10 := b.trans (But.of_same s910)
        have k10 : Kp 0 H5 H10 := b10.kp e5
        have at10 : TsAt H10 (r.1 ++ [r.2]) (fs ++ [tv]) := ((h3.same S5).mono k10).app (TsAt.one ((h4.same S5).mono k10))
        have okT : ∀ t ∈ r.1 ++ [r.2], Smd AX 2 t := fun t ht => (List.mem_append.mp ht).elim (o1 t) fun h => by rw [List.mem_singleton.mp h]; exact o3
        have n10 : q10 ≠ qa := fun z => by rw [z, s9 _ _ hqa] at g10; cases g10
        have at10l := at10.len
        have zl : (r.1 ++ [r.2]).length ≤ 10 := by rw [List.length_append]; show _ + 1 ≤ 10; omega
        generalize r.1 ++ [r.2] = ts at at10 okT at10l zl
        generalize fs ++ [tv] = zs at y10 at10 at10l
        refine ⟨q10, rfl, ⟨_, SqL.of y10⟩, ?_⟩
        refine for_list (xs := zs) (fun j σ Hc => ∃ (x5 x6 x7 : Option V) (sv : List V) (cs : List Tr), σ = [some (.ref p), some (.ref R), some (.ref qa), some (.ref a), some tv, x5, x6, x7] ∧ But qa H10 Hc ∧ Hc qa = some (.lst sv) ∧ TsAt Hc cs sv ∧ (∀ t ∈ cs, Cand t) ∧ 4 ≤ cs.length ∧ cs.length ≤ 4 + 140 * i + 14 * j) ⟨_, _, _, sv, cs, rfl, (fun c o _ e => e), hqa10, hcs.same s910, cok, c4, by omega⟩ ?_ ?_ ?_
        · rintro j σ Jc hj ⟨x5, x6, x7, sv, cs, rfl, bj, _⟩
          exact SqL.of (bj _ _ n10 y10)
        · rintro j y σ Jc hy ⟨x5, x6, x7, sv, cs, rfl, bj, hqj, hcs, cok, c4, cl⟩
          have hltj := (List.getElem?_eq_some_iff.mp hy).1
          have ht : ts[j]? = some ts[j] := List.getElem?_eq_getElem (by omega)
          have tm : ts[j] ∈ ts := List.getElem_mem _
          have it := (at10.get j _ _ ht hy).mono (C := 0) (bj.kp hqa10)
          generalize ts[j] = t at ht tm it
          have sm := okT t tm
          have csl := hcs.len
          have tsz := sm.szN
          refine gName_k ?_
          try dsimp only
          have l0 : 0 ≤ sizeLine := Nat.zero_le _
          refine ⟨_, rfl, .inl ⟨rfl, _, SqL.of hqj⟩, ?_⟩
          refine ⟨_, rfl, y, t, rfl, it, sm.wf AX_wf, sm.dep AX_dep, by decide, fun q12 ws J1 s11 w12 y12 at12 => ?_⟩
          have wl := at12.len
          have hqJ := s11 _ _ hqj
          refine ⟨q12, rfl, ⟨_, SqL.of y12⟩, fun D2 hD2 => ?_⟩
          refine lcg (K := K) (C := 0) (R := IsT) (ds := t.all) (fun u => !hasUnk u) id (fun _ _ _ _ kp h => h.mono kp) (SqL.of y12) wl (by omega) hD2 (fun n x u J13 Q13 hx hu s13 k13 => ?_) (fun n x u J13 Q13 hx hu _ s13 k13 => ?_) fun v3 J2 s13 hD3 hv3 => ?_
          · obtain ⟨wu, du⟩ := all_wf (sm.wf AX_wf) u (List.mem_of_getElem? hu)
            have dt := sm.dep AX_dep
            refine ⟨_, rfl, ⟨x, u, "unknown", rfl, (at12.get n u x hu hx).same s13, wu, by omega, by decide, fun q14 J3 s14 w14 y14 => ?_⟩, "unknown", by decide +kernel, rfl⟩
            refine ⟨Nat.zero_le _, fun q15 w15 => ?_⟩
            have sq := Rd.Same.upd (o := .lst []) w15
            have hsh : SeqAt.shaped (.list ((uniS (u.txt "unknown")).map PyData.str)) = true := str_shaped fun x hx => (unk_len (txt_isUnkX wu x (uniS_mem.mp hx))).2.2
            refine ⟨.list ((uniS (u.txt "unknown")).map PyData.str), .list [], .lst (SqL.of (sq _ _ y14)) (dpAll_str _), .lst (SqL.of upd_same) .nil, hsh, rfl, ?_⟩
            rw [eqv_unk]
            exact ⟨_, rfl, k13 _ (s14.trans sq)⟩
          · exact ⟨_, rfl, k13 _ _ (Same.refl _) ((at12.get n u x hu hx).same s13)⟩
          rw [List.map_id] at hv3
          have v3l := hv3.len
          have fl := List.length_filter_le (fun u => !hasUnk u) t.all
          refine ⟨qa, D2, _, _, rfl, rfl, s13 _ _ hqJ, hD3, by omega, ?_⟩
          have sJ := s11.trans s13
          have kp : Kp 0 J2 (upd J2 qa (.lst (sv ++ v3))) := Kp.upd_lst (s13 _ _ hqJ)
          refine ⟨_, _, _, sv ++ v3, cs ++ t.all.filter (fun u => !hasUnk u), rfl, (bj.trans (But.of_same sJ)).trans But.upd, upd_same, ((hcs.same sJ).mono kp).app (hv3.ts.mono kp), fun u hu => ?_, by rw [List.length_append]; omega, by rw [List.length_append]; omega⟩
          rcases List.mem_append.mp hu with hu | hu
          · exact cok u hu
          · obtain ⟨h1, h2⟩ := List.mem_filter.mp hu
            exact Cand.part sm h1 (by cases e : hasUnk u with | false => rfl | true => rw [e] at h2; cases h2)
        · rintro σ Jc ⟨x5, x6, x7, sv, cs, rfl, bj, hqj, hcs, cok, c4, cl⟩
          exact ⟨_, _, _, _, _, sv, cs, rfl, b10.trans bj, hqj, hcs, cok, c4, by omega⟩
      · rintro σ Hc ⟨x3, x4, x5, x6, x7, sv, cs, rfl, b, hqa, hcs, cok, c4, cl⟩
        exact hK _ _ ⟨_, _, _, _, _, sv, cs, rfl, b, hqa, hcs, cok, c4, by omega⟩
    · rintro σ Hc ⟨x3, x4, x5, x6, x7, sv, cs, rfl, b, hqa, hcs, cok, c4, cl⟩
      have hpc := b _ _ (fq hp) (S5 _ _ hp)
      have csl := hcs.len
      have npq : qa ≠ p := fun z => fq hp z.symm
      refine ⟨l2, fun qn gn => ?_⟩
      have un := Rd.Same.upd (o := .lst [.str "x", .str "y"]) gn
      have en : upd Hc qn (.lst [.str "x", .str "y"]) qn = some (.lst [.str "x", .str "y"]) := upd_same
      generalize upd Hc qn (.lst [.str "x", .str "y"]) = Hn at un en ⊢
      have hpn := un _ _ hpc
      have nqn : qn ≠ p := fun z => by rw [z, hpc] at gn; cases gn
      refine ⟨qn, rfl, ⟨_, SqL.of en⟩, fun D hD => ?_⟩
      have nDp : D ≠ p := fun z => by rw [z, hpn] at hD; cases hD
      have nDq : qn ≠ D := fun z => by rw [← z, en] at hD; cases hD
      have atn : TsAt Hn cs sv := hcs.same un
      have hqn := un _ _ hqa
      have nDa : qa ≠ D := fun z => by rw [← z, hqn] at hD; cases hD
      refine lc_list (K := K) (a := qn) (xs := [.str "x", .str "y"]) (fun i Hi => ∃ (ps : List Addr) (kq : List (Key × V)) (fl : List (Str × Tr)) (ys : List V), (∀ c o, c ≠ p → c ≠ D → Hn c = some o → Hi c = some o) ∧ Hi p = some (.lst ys) ∧ StL (n + (2 - i)) ys ∧ Hi D = some (.lst (ps.map V.ref)) ∧ ps.length = i ∧ Pq Hi ps kq ∧ Al IsT Hi fl kq ∧ fl.map (·.1) = (["x", "y"] : List Str).take i ∧ ∀ e ∈ fl, Cand e.2) ?_ ?_ ?_ ?_
      · exact ⟨[], [], [], xs, (fun c o _ h e => by rw [upd_ne h]; exact e), (by rw [upd_ne nDp.symm]; exact hpn), hx, upd_same, rfl, trivial, trivial, rfl, fun e he => by cases he⟩
      · rintro i Hi hi ⟨ps, kq, fl, ys, bi, _⟩
        exact SqL.of (bi _ _ nqn nDq en)
      · rintro i x Hi hxi ⟨ps, kq, fl, ys, bi, hpi, hyi, hDi, pl, pq, al, fm, ck⟩
        have hlt : i < 2 := (List.getElem?_eq_some_iff.mp hxi).1
        obtain ⟨z, hz, rfl⟩ : ∃ z : Str, (["x", "y"] : List Str)[i]? = some z ∧ x = .str z := by
          match i, hxi with
          | 0, hxi => cases hxi; exact ⟨_, rfl, rfl⟩
          | 1, hxi => cases hxi; exact ⟨_, rfl, rfl⟩
        refine gName_k ⟨by simp [wipe], ?_⟩
        unfold tYes
        refine iteT ⟨_, rfl, _, rfl, _, rfl, p, qa, ys, sv, n + (2 - (i + 1)), rfl, hpi, hyi.mono (by omega), SqL.of (bi _ _ npq nDa hqn), SqL.of (by rw [upd_ne npq]; exact bi _ _ npq nDa hqn), by omega, by omega, fun j v y2 hv hy2 => ?_⟩
        unfold tNil
        have kpi : Kp 0 Hn Hi := fun c o hi e => bi c o (fun z => by rw [z, hpn] at e; cases e; cases hi) (fun z => by rw [z, hD] at e; cases e) e
        have hct : cs[j]? = some (cs[j]'(by have := (List.getElem?_eq_some_iff.mp hv).1; omega)) := List.getElem?_eq_getElem _
        have itv := (atn.get j _ _ hct hv).mono kpi
        have ctm := cok _ (List.mem_of_getElem? hct)
        generalize cs[j]'(by have := (List.getElem?_eq_some_iff.mp hv).1; omega) = t at hct itv ctm
        have kp2 : Kp 0 Hi (upd Hi p (.lst y2)) := Kp.upd_lst hpi
        have b2 : But p Hi (upd Hi p (.lst y2)) := But.upd
        have hp2 : upd Hi p (.lst y2) p = some (.lst y2) := upd_same
        generalize upd Hi p (.lst y2) = H2 at kp2 b2 hp2 ⊢
        refine ⟨l2, fun q gq => ?_⟩
        have u3 := Rd.Same.upd (o := .tup [.str z, v]) gq
        have e3 : upd H2 q (.tup [.str z, v]) q = some (.tup [.str z, v]) := upd_same
        have hD2 := b2 _ _ nDp hDi
        generalize upd H2 q (.tup [.str z, v]) = H3 at u3 e3 ⊢
        have hD3 := u3 _ _ hD2
        have kp3 : Kp 0 H3 (upd H3 D (.lst (ps.map V.ref ++ [.ref q]))) := Kp.upd_lst hD3
        have kpA : Kp 0 Hi (upd H3 D (.lst (ps.map V.ref ++ [.ref q]))) := (kp2.trans (Kp.of_same u3)).trans kp3
        refine ⟨ps.map V.ref, hD3, by rw [List.length_map]; omega, ps ++ [q], kq ++ [(.inr z, v)], fl ++ [(z, t)], y2, fun c o h1 h2 e => ?_, ?_, hy2, ?_, ?_, Pq.snoc (kp3 _ _ rfl e3) (pq.mono kpA), Al.snoc (itv.mono kpA) (al.mono fun t v h => h.mono kpA), ?_, fun e he => ?_⟩
        · rw [upd_ne h2]
          exact u3 _ _ (b2 _ _ h1 (bi c o h1 h2 e))
        · rw [upd_ne nDp.symm]
          exact u3 _ _ hp2
        · rw [upd_same, List.map_append]
          rfl
        · rw [List.length_append, pl]
          rfl
        · rw [List.map_append, fm, List.take_succ, hz]
          rfl
        · rcases List.mem_append.mp he with he | he
          · exact ck e he
          · rw [List.mem_singleton.mp he]
            exact ctm
      · rintro Hi ⟨ps, kq, fl, ys, bi, hpi, hyi, hDi, pl, pq, al, fm, ck⟩
        unfold tNil
        have fm2 : fl.map (·.1) = (["x", "y"] : List Str) := fm
        have nd : (fl.map (·.1)).Nodup := by rw [fm2]; decide +kernel
        refine ⟨D, ps, kq, rfl, SqL.of hDi, pq.paired, fun q hq => ?_⟩
        rw [al.merge nd]
        have bi2 : ∀ c o, c ≠ p → H c = some o → Hi c = some o := fun c o h e => bi c o h (fun z => by have := un _ _ (b _ _ (fq e) (S5 _ _ e)); rw [z, hD] at this; cases this) (un _ _ (b _ _ (fq e) (S5 _ _ e)))
        have npq' : q ≠ p := fun z => by rw [z, hpi] at hq; cases hq
        refine k q kq fl ys _ (fun c o h e => Rd.Same.upd hq _ _ (bi2 c o h e)) (Rd.Same.upd hq _ _ hpi) hyi ?_ upd_same (al.mono fun t v h => h.same (Rd.Same.upd hq)) fm2 ck
        cases e : H q with
        | none => rfl
        | some o => rw [bi2 q o npq' e] at hq; cases hq
end
end Rd
namespace Rd
open PySem L2
theorem op_isB {X : Cx} : OpR X (compareOp .Is) (fun x y H Q => ∃ a b, x = .bl a ∧ y = .bl b ∧ Q (.bl (a == b)) H) := by
  intro pins s σ H x y v u Q I rx ry h
  obtain ⟨a, b, rfl, rfl, q⟩ := h
  cases rx
  cases ry
  exact wpAny_is_plain rfl (fin_bl I q (by cases a <;> cases b <;> rfl))
/-- a list of letters and a letter -/
abbrev DWi (K : PySem.W.Frag) : Eqv := fun x y H => DList (DIns (He.ga K "Letter") (LsR K)) x y H ∨ DIns (He.ga K "Letter") (LsR K) x y H
theorem monWi {K : PySem.W.Frag} : Mon (DWi K) := Mon.or (mon_list monLs) monLs
theorem monWs {K : PySem.W.Frag} : Mon (DTup K (DWi K)) := mon_tup monWi
theorem eqWs {X : Cx} (F : Fm X.prog X.w X.K X.mg X.base CX0 1 "Letter" "__eq__" ["self", "other"] (sp_eqL X.K)) : EqG X 3 (DTup X.K (DWi X.K)) :=
  eqG_tup monWi (EqG.or (eqG_list monLs (eqLs F)) ((eqLs F).mono (by decide)))
theorem prsL {K : PySem.W.Frag} {H : Hp} {t : Tr} {v u : V} (h : IsLet K H t v) (g : IsLet K H t u) (ft : t.fine ∧ t.dep ≤ 60) : DIns (He.ga K "Letter") (LsR K) v u H := by
  obtain ⟨a1, u1, rfl, ⟨d1, g1⟩, i1⟩ := h
  obtain ⟨a2, u2, rfl, ⟨d2, g2⟩, i2⟩ := g
  exact ⟨a1, a2, d1, d2, _, _, rfl, rfl, g1, g2, _, u1, u2, ⟨d1, g1⟩, ⟨d2, g2⟩, i1, i2, ft.1, ft.2⟩
theorem prsW {K : PySem.W.Frag} {N N' : Addr → Prop} {H : Hp} {r : FRow} {v u : V} (h : RwL K N H r v) (g : RwL K N' H r u) (ft : ∀ t ∈ r.1 ++ [r.2], t.fine ∧ t.dep ≤ 60) : DTup K (DWi K) v u H := by
  obtain ⟨q1, a1, us, l1, rfl, _, h1, h2, h3, h4⟩ := h
  obtain ⟨q2, a2, ws, l2, rfl, _, g1, g2, g3, g4⟩ := g
  refine ⟨q1, q2, _, _, rfl, rfl, SqT.of h1, SqT.of g1, Prs.cons (.inl ⟨a1, a2, us, ws, rfl, rfl, h2, g2, by rw [h3.len, g3.len], fun i x y hx hy => ?_⟩) (Prs.cons (.inr (prsL h4 g4 (ft _ (List.mem_append_right _ List.mem_cons_self)))) Prs.nil)⟩
  have hl := h3.len
  have hi := (List.getElem?_eq_some_iff.mp hx).1
  have ht : r.1[i]? = some r.1[i] := List.getElem?_eq_getElem (by omega)
  exact prsL (h3.get i _ _ ht hx) (g3.get i _ _ ht hy) (ft _ (List.mem_append_left _ (List.getElem_mem _)))
theorem prsWs {K : PySem.W.Frag} {N N' : Addr → Prop} {H : Hp} {rs : List FRow} {us ws : List V} (h : AtL (RwL K N) H rs us) (g : AtL (RwL K N') H rs ws) (ok : OkW 5 rs) : Prs (DTup K (DWi K)) us ws H := by
  have hl := h.len
  refine ⟨by rw [hl, g.len], fun i x y hx hy => ?_⟩
  have hi := (List.getElem?_eq_some_iff.mp hx).1
  have ht : rs[i]? = some rs[i] := List.getElem?_eq_getElem (by omega)
  obtain ⟨o1, _, o3, o4⟩ := ok.r _ (List.getElem_mem (h := by omega) : rs[i]'(by omega) ∈ rs)
  refine prsW (h.get i _ _ ht hx) (g.get i _ _ ht hy) fun t ht => ?_
  rcases List.mem_append.mp ht with ht | ht
  · exact ⟨(o1 t ht).1.fine, by have := (o1 t ht).2; omega⟩
  · rw [List.mem_singleton.mp ht]
    exact ⟨o3.fine, by omega⟩
theorem fill_congr {m m' : Str → Option Tr} : ∀ {t : Tr}, (∀ x ∈ t.txt "unknown", m x = m' x) → fill m t = fill m' t
  | .am k x, h => by
    show (if k = "unknown" then _ else _) = (if k = "unknown" then _ else _ : Tr)
    by_cases e : k = "unknown"
    · rw [if_pos e, if_pos e]
      have hx : x ∈ (Tr.am k x).txt "unknown" := by
        show x ∈ (if k = "unknown" then [x] else [])
        rw [if_pos e]
        exact List.mem_cons_self
      rw [h x hx]
    · rw [if_neg e, if_neg e]
  | .un s a, h => by show Tr.un s _ = Tr.un s _; rw [fill_congr (t := a) h]
  | .bi s a b, h => by
    show Tr.bi s _ _ = Tr.bi s _ _
    rw [fill_congr (t := a) fun x hx => h x (List.mem_append_left _ hx), fill_congr (t := b) fun x hx => h x (List.mem_append_right _ hx)]
theorem Gr.congr {m m' : Str → Option Tr} {rs : List FRow} (h : ∀ x ∈ rwsU rs, m x = m' x) : Gr m rs ↔ Gr m' rs := by
  have key : ∀ r ∈ rs, ∀ t ∈ r.1 ++ [r.2], fill m t = fill m' t := fun r hr t ht => fill_congr fun x hx => h x (List.mem_flatMap.mpr ⟨r, hr, List.mem_flatMap.mpr ⟨t, ht, hx⟩⟩)
  have e : ∀ r ∈ rs, (GrR m r ↔ GrR m' r) := fun r hr => by
    unfold GrR
    rw [List.map_congr_left fun t ht => key r hr t (List.mem_append_left _ ht), key r hr _ (List.mem_append_right _ List.mem_cons_self)]
  exact ⟨fun g r hr => (e r hr).mp (g r hr), fun g r hr => (e r hr).mpr (g r hr)⟩
theorem Gr.rev {m : Str → Option Tr} {rs : List FRow} : Gr m rs.reverse ↔ Gr m rs := ⟨fun g r hr => g r (List.mem_reverse.mpr hr), fun g r hr => g r (List.mem_reverse.mp hr)⟩
theorem rwsU_rev {rs : List FRow} {x : Str} : x ∈ rwsU rs.reverse ↔ x ∈ rwsU rs := by
  unfold rwsU
  rw [List.mem_flatMap, List.mem_flatMap]
  exact ⟨fun ⟨r, h, q⟩ => ⟨r, List.mem_reverse.mp h, q⟩, fun ⟨r, h, q⟩ => ⟨r, List.mem_reverse.mpr h, q⟩⟩
theorem GoodW.two {rs : List FRow} (g : GoodW rs) : ∀ x ∈ rwsU rs, x ∈ (["x", "y"] : List Str) := fun x hx => by
  obtain ⟨r, hr, hx⟩ := List.mem_flatMap.mp hx
  obtain ⟨t, ht, hx⟩ := List.mem_flatMap.mp hx
  obtain ⟨g1, _, g3⟩ := g.r r hr
  rcases List.mem_append.mp ht with ht | ht
  · exact (g1 t ht).txt AX_txt x hx
  · rw [List.mem_singleton.mp ht] at hx
    exact g3.txt AX_txt x hx
/-- a comprehension of pairs over a list of texts -/
theorem lckS {K : PySem.W.Frag} {a D : Addr} {xs : List Str} {R : Hp → Tr → V → Prop} (f : Str → Tr) {tv : TE} {i0 : Nat} {σ : St} {H1 : Hp} {Qd : Hp → Prop} (C : Addr)
    (rm : ∀ H H' t v, Kp C H H' → R H t v → R H' t v) (hS : SqL K H1 a (xs.map V.str)) (hl : xs.length ≤ 1000) (hD : H1 D = none)
    (hsl : ∀ p : V, ((wipe σ [i0]).set i0 (some p))[i0]? = some (some p)) (hw : ∀ p : V, wipe ((wipe σ [i0]).set i0 (some p)) [i0] = wipe σ [i0])
    (hte : ∀ (x : Str) (H : Hp) (σ2 : St) (Q : VK), x ∈ xs → Same H1 H → σ2 = (wipe σ [i0]).set i0 (some (.str x)) → (∀ z H', Same H H' → R H' (f x) z → Q z H') → tv σ2 H Q)
    (hq : ∀ ps kq H', Same H1 H' → H' D = some (.lst (ps.map V.ref)) → Pq H' ps kq → Al R H' (xs.map fun x => (x, f x)) kq → Qd H') :
    ∃ W : Nat → Nat → Hp → Prop, (∃ m, W 0 m (L2.upd H1 D (.lst []))) ∧ ∀ i m H, W i m H →
      ((Itl K a).stop i H ∧ Qd H) ∨ ((Itl K a).go i H ∧ ∃ Nx : Hp → Prop, (∀ H', Nx H' → ∃ m', m' < m ∧ W (i + 1) m' H') ∧ ∀ x H', (Itl K a).yld i H x H' → gName i0 x (wipe σ [i0]) H' fun σ2 H2 => wipe σ2 [i0] = wipe σ [i0] ∧ tYes σ2 H2 fun b H3 =>
        if b = true then tTup (tCons (tVar i0) (tCons tv tNil)) σ2 H3 fun y H4 => ∃ acc, H4 D = some (.lst acc) ∧ acc.length < sizeLine ∧ Nx (L2.upd H4 D (.lst (acc ++ [y]))) else Nx H3) := by
  have big : 100000 ≤ sizeLine := by decide
  refine lc_list (K := K) (a := a) (xs := xs.map V.str) (fun i H => ∃ ps kq, Same H1 H ∧ H D = some (.lst (ps.map V.ref)) ∧ ps.length = i ∧ Pq H ps kq ∧ Al R H ((xs.take i).map fun x => (x, f x)) kq) ⟨[], [], Rd.Same.upd hD, upd_same, rfl, trivial, trivial⟩ (fun i H _ ⟨_, _, s, _⟩ => SqL.kept hS s) ?_ ?_
  · rintro i x H hx ⟨ps, kq, s, hDa, pl, pq, ala⟩
    rw [List.getElem?_map] at hx
    cases hz : xs[i]? with
    | none => rw [hz] at hx; cases hx
    | some z =>
      rw [hz] at hx
      cases hx
      have hlt := (List.getElem?_eq_some_iff.mp hz).1
      have etk : xs.take (i + 1) = xs.take i ++ [z] := by rw [List.take_succ, hz]; rfl
      refine gName_k ⟨hw _, ?_⟩
      unfold tYes
      refine iteT ⟨_, hsl _, hte z _ _ _ (List.mem_of_getElem? hz) s rfl fun y H' s' hy => ⟨(by show 2 ≤ sizeLine; decide), fun q hq' => ?_⟩⟩
      have sq := Rd.Same.upd (o := .tup [.str z, y]) hq'
      have hD' := sq _ _ (s' _ _ hDa)
      refine ⟨_, hD', by rw [List.length_map]; omega, ps ++ [q], kq ++ [(.inr z, y)], fun c o e => ?_, ?_, by rw [List.length_append, pl]; rfl, ?_, ?_⟩
      · rw [upd_ne (ne_of_none e hD)]
        exact sq _ _ (s' _ _ (s _ _ e))
      · rw [upd_same, List.map_append]
        rfl
      · have kp := Kp.upd_lst (C := C) (ys := ps.map V.ref ++ [V.ref q]) hD'
        exact Pq.snoc (kp _ _ rfl upd_same) ((pq.mono (C := C) (Kp.of_same (s'.trans sq))).mono kp)
      · have kp := Kp.upd_lst (C := C) (ys := ps.map V.ref ++ [V.ref q]) hD'
        rw [etk, List.map_append]
        exact Al.snoc (rm _ _ _ _ kp (rm _ _ _ _ (Kp.of_same sq) hy)) (ala.mono fun t v h => rm _ _ _ _ kp (rm _ _ _ _ (Kp.of_same (s'.trans sq)) h))
  · rintro H ⟨ps, kq, s, hDa, pl, pq, ala⟩
    rw [List.length_map, List.take_length] at ala
    exact hq ps kq H s hDa pq ala
end Rd
namespace Rd
open PySem L2
def needM (fl : List (Str × Tr)) (x : Str) : Tr := (look fl x).getD (.am "word" "a")
theorem look_map {xs : List Str} (f : Str → Tr) (nd : xs.Nodup) {x : Str} (h : x ∈ xs) : look (xs.map fun x => (x, f x)) x = some (f x) := by
  obtain ⟨i, hi, e⟩ := List.getElem_of_mem h
  have e0 : (xs.map fun x => (x, f x)).map (·.1) = xs := by rw [List.map_map]; exact List.map_id _
  refine look_get (i := i) (by rw [e0]; exact nd) ?_
  rw [List.getElem?_map, List.getElem?_eq_getElem hi, e]
  rfl
theorem needL {fl : List (Str × Tr)} {xs : List Str} (nd : xs.Nodup) (h : ∀ x ∈ xs, ∃ t, look fl x = some t) {x : Str} (hx : x ∈ xs) : look (xs.map fun x => (x, needM fl x)) x = look fl x := by
  obtain ⟨t, e⟩ := h x hx
  rw [look_map _ nd hx, needM, e]
  rfl
theorem AtL.rev {β : Type} {R : Hp → β → V → Prop} {H : Hp} {bs : List β} {vs : List V} (h : AtL R H bs vs) : AtL R H bs.reverse vs.reverse := by
  have hl := h.len
  refine ⟨by rw [List.length_reverse, List.length_reverse, hl], fun i b v h1 h2 => ?_⟩
  have hi := (List.getElem?_eq_some_iff.mp h1).1
  rw [List.length_reverse] at hi
  rw [List.getElem?_reverse hi] at h1
  rw [List.getElem?_reverse (by omega), hl] at h2
  exact h.get _ b v h1 h2
abbrev spDict (K : PySem.W.Frag) : List V → Hp → VK → Prop := fun xs H Q => ∃ (a : Addr) (ps : List Addr) (kvs : List (Key × V)), xs = [.ref a] ∧ SqL K H a (ps.map V.ref) ∧ Paired (fun p kv => SqT K H p [kV kv.1, kv.2]) ps kvs ∧ ∀ p, H p = none → Q (.ref p) (upd H p (.dK (mergeK [] kvs)))
/-- dict([(x, letter of d[x]) for x in d]) -/
theorem mkLets {K : PySem.W.Frag} {σ : St} {i : Nat} {d : Addr} {kvs : List (Key × V)} {fl : List (Str × Tr)} {H : Hp} {Q : VK} (hi0 : σ[i]? = some (some (.ref d))) (hi : ∀ p : V, ((wipe σ [8]).set 8 (some p))[i]? = some (some (.ref d))) (h8 : ∀ p : V, ((wipe σ [8]).set 8 (some p))[8]? = some (some p)) (hw : ∀ p : V, wipe ((wipe σ [8]).set 8 (some p)) [8] = wipe σ [8])
    (hd : H d = some (.dK kvs)) (al : Al IsT H fl kvs) (nd : (fl.map (·.1)).Nodup) (hl : fl.length ≤ 2) (wf : ∀ e ∈ fl, Wf e.2 ∧ e.2.dep ≤ 6)
    (k : ∀ q kq H', Same H H' → H q = none → H' q = some (.dK kq) → Al (IsLet K) H' fl kq → Q (.ref q) H') :
    tCB (spDict K) (tCons (tLockE (tLc (iKeys (tVar i)) (gName 8) tYes (tTup (tCons (tVar 8) (tCons (tCall (sp_letter K 6) [] E0 (tCons (tDGet (tVar i) (tVar 8)) tNil)) tNil))) [8])) tNil) σ H Q := by
  refine ⟨d, _, hd, trivial, fun od => ?_⟩
  have ka : Kp (He.ga K "Letter") H (upd H d (.frz od (.dK kvs))) := fun c o hi e => by
    rw [upd_ne (fun z => by rw [z, hd] at e; cases e; cases hi)]
    exact e
  refine ⟨_, hi0, d, od, rfl, .inl ⟨kvs, upd_same, fun D hD => ?_⟩⟩
  refine lck (C := He.ga K "Letter") (l := fl) (R1 := IsT) (R2 := IsLet K) id (fun _ _ _ _ kp h => h.mono kp) (fun _ _ _ _ kp h => h.mono kp) upd_same (al.mono fun t v h => h.mono ka) nd (by omega) hD h8 hw (fun i x t v σ2 H1 Q1 hx s1 r1 dg e k1 => ?_) fun ps kq H1 s1 hD1 pq al1 => ?_
  · subst e
    obtain ⟨w1, w2⟩ := wf _ (List.mem_of_getElem? hx)
    exact ⟨_, hi _, _, h8 _, d, v, rfl, dg, v, t, rfl, r1, w1, w2, fun v' H' s' il => k1 _ _ s' il⟩
  · have el : (fl.map fun p => (p.1, id p.2)) = fl := by simp
    rw [el] at al1
    have ha1 := s1 _ _ (upd_same (H := H) (a := d))
    refine ⟨ha1, ?_⟩
    have sx : Same H (upd H1 d (.dK kvs)) := fun c o e => by
      by_cases z : c = d
      · subst z
        rw [hd] at e
        cases e
        exact upd_same
      · rw [upd_ne z]
        exact s1 _ _ (by rw [upd_ne z]; exact e)
    have neD : D ≠ d := fun z => by rw [z, upd_same] at hD; cases hD
    have kx : Kp (He.ga K "Letter") H1 (upd H1 d (.dK kvs)) := fun c o hi e => by
      rw [upd_ne (fun z => by rw [z, ha1] at e; cases e; cases hi)]
      exact e
    refine ⟨D, ps, kq, rfl, SqL.of (by rw [upd_ne neD]; exact hD1), (pq.mono kx).paired, fun q hq => ?_⟩
    rw [al1.merge nd]
    exact k q kq _ (sx.trans (Rd.Same.upd hq)) (sx.free hq) upd_same ((al1.mono fun t v h => h.mono kx).mono fun t v h => h.same (Rd.Same.upd hq))
def spLaw (K : PySem.W.Frag) : Sp := fun vs H Q _ => ∃ (a : Addr) (ns : List Int), vs = [.ref a] ∧ SqL K H a (ns.map V.int) ∧ ns.length ≤ 63 ∧ ∀ H', Q (.bl true) H'
section
variable {P : Program} {w : World} {K : PySem.W.Frag} {mg : Str → Option Value} {base : Heap}
abbrev s_law : Stmt := top 54
theorem sc_law : FnScope ["_law_script", "_law_k", "_law_stream_here", "_law_rows", "_law_wishes_here", "_law_turn", "_law_filling", "_law_needed", "_law_name", "_law_forms", "_law_letters", "_law_turned", "_law_letter_here"] ["_law_script"] (defScope s_law) := ⟨rfl, rfl, rfl, by decide +kernel, rfl, by decide +kernel, by decide +kernel⟩
theorem ok_law {f : Addr} {fd : FuncData} (F : FunD K "law" "law" (defArgs s_law) (defBody s_law) (defScope s_law) [] [] f fd) (T : Tx w K mg) : FnOk P w K mg base CX0 40 f fd ["_law_script"] (spLaw K) := by
  refine F.ok sc_law (fun vs H Q E h => ?_) (fun cdv A outer s H vs Q E hr h => ?_)
  · obtain ⟨a, ns, rfl, _⟩ := h
    rfl
  · obtain ⟨a, ns, rfl, hS, hn, k⟩ := h
    refine ⟨_, PSs.nox (pss_cons (ps_for PassesOwn.never rfl (pi_range1 rfl T.z_range (pa_cons pe_int pa_nil)) (pg_name (i := 1) sc_law.nd rfl (Or.inl rfl))
  (pss_cons (ps_set (i := 2) sc_law.nd rfl (Or.inl rfl) (pe_fk (ok__law_stream T) (hr.mono (by omega)) rfl pass0 (pa_cons (pv 0) (pa_cons (pv 1) pa_nil))))
  (pss_cons (ps_set (i := 3) sc_law.nd rfl (Or.inl rfl) (pe_fk (ok__law_wishes_drawn T) (hr.mono (by omega)) rfl pass0 (pa_cons (pv 2) (pa_cons (pe_op op_add pe_int (pe_fk (ok__law_draw T) (hr.mono (by omega)) rfl pass0 (pa_cons (pv 2) (pa_cons pe_int pa_nil)))) pa_nil))))
  (pss_cons (ps_set (i := 4) sc_law.nd rfl (Or.inl rfl) (pe_fk (ok__law_wishes T) (hr.mono (by omega)) rfl pass0 (pa_cons (pv 3) pa_nil)))
  (pss_one (ps_for PassesOwn.never rfl (pi_range1 rfl T.z_range (pa_cons pe_int pa_nil)) (pg_name (i := 5) sc_law.nd rfl (Or.inl rfl))
  (pss_cons (ps_set (i := 6) sc_law.nd rfl (Or.inr rfl) (pe_fk (ok__law_filling_drawn T) (hr.mono (by omega)) rfl pass0 (pa_cons (pv 2) (pa_cons (pv 3) pa_nil))))
  (pss_cons (ps_set (i := 7) sc_law.nd rfl (Or.inl rfl) (pe_callTy (call_dictP rfl) (by rfl) T.z_dict (by decide +kernel) (pa_cons (pe_lc (own := [("_law_name", 8)]) (g := gName 8) (tt := tYes) (by rfl) sc_law.nd (pi_list (pe_fk (ok__law_unknowns T) (hr.mono (by omega)) rfl pass0 (pa_cons (pv 3) pa_nil))) (blkOk_by (own := [("_law_name", 8)]) (N := ["_law_script", "_law_k", "_law_stream_here", "_law_rows", "_law_wishes_here", "_law_turn", "_law_filling", "_law_needed", "_law_name", "_law_forms", "_law_letters", "_law_turned", "_law_letter_here"]) (sc := defScope s_law) (by decide +kernel)) (fun _ _ _ _ _ => (pg_name (i := 8) sc_law.nd rfl (Or.inl rfl))) (fun _ _ _ _ _ => pts_nil) (fun _ _ _ _ _ => (pe_tup (pa_cons (pv 8) (pa_cons (pe_dget (hu_of hr) (pv 6) (pv 8) (fun _ _ => rfl)) pa_nil))))) pa_nil)))
  (pss_cons (ps_for PassesOwn.never rfl (pi_list (pe_lst (pa_cons (pv 6) (pa_cons (pv 7) pa_nil)))) (pg_name (i := 9) sc_law.nd rfl (Or.inr rfl))
  (pss_cons (ps_set (i := 10) sc_law.nd rfl (Or.inl rfl) (pe_callTy (call_dictP rfl) (by rfl) T.z_dict (by decide +kernel) (pa_cons (pe_lock (pe_lc (own := [("_law_name", 8)]) (g := gName 8) (tt := tYes) (by rfl) sc_law.nd (pi_keys (pv 9)) (blkOk_by (own := [("_law_name", 8)]) (N := ["_law_script", "_law_k", "_law_stream_here", "_law_rows", "_law_wishes_here", "_law_turn", "_law_filling", "_law_needed", "_law_name", "_law_forms", "_law_letters", "_law_turned", "_law_letter_here"]) (sc := defScope s_law) (by decide +kernel)) (fun _ _ _ _ _ => (pg_name (i := 8) sc_law.nd rfl (Or.inl rfl))) (fun _ _ _ _ _ => pts_nil) (fun _ _ _ _ _ => (pe_tup (pa_cons (pv 8) (pa_cons (pe_fk (ok__law_letter T 6) (hr.mono (by omega)) rfl pass0 (pa_cons (pe_dget (hu_of hr) (pv 9) (pv 8) (fun _ _ => rfl)) pa_nil)) pa_nil)))))) pa_nil)))
  (pss_one (ps_if (pt_cmpR op_ne (pe_fk (ok_granted T) (hr.mono (by omega)) rfl pass0 (pa_cons (pv 4) (pa_cons (pv 10) pa_nil))) (pe_fk (ok__law_granted T) (hr.mono (by omega)) rfl pass0 (pa_cons (pv 3) (pa_cons (pv 6) pa_nil))) (nomark _))
  (pss_one (ps_ret pe_bl))
  pss_nil))))
  (pss_cons (ps_setLc (i := 11) (own := [("_law_letters", 10), ("_law_letter_here", 12)])  (tt := tYes) (by rfl) sc_law.nd rfl rfl (sw_true rfl rfl rfl (by decide +kernel)) (pi_list (pe_revL (pv 4))) (blkOk_by (own := [("_law_letters", 10), ("_law_letter_here", 12)]) (N := ["_law_script", "_law_k", "_law_stream_here", "_law_rows", "_law_wishes_here", "_law_turn", "_law_filling", "_law_needed", "_law_name", "_law_forms", "_law_letters", "_law_turned", "_law_letter_here"]) (sc := defScope s_law) (by decide +kernel)) (fun _ _ _ _ _ => (pg_tupk (K := K) (n := 2) rfl rfl (pgs_cons (pg_name (i := 10) sc_law.nd rfl (Or.inl rfl)) (pgs_cons (pg_name (i := 12) sc_law.nd rfl (Or.inl rfl)) pgs_nil)))) (fun _ _ _ _ _ => pts_nil) (fun _ _ _ _ _ => (pe_tup (pa_cons (pv 10) (pa_cons (pv 12) pa_nil)))))
  (pss_cons (ps_set (i := 10) sc_law.nd rfl (Or.inl rfl) (pe_callTy (call_dictP rfl) (by rfl) T.z_dict (by decide +kernel) (pa_cons (pe_lock (pe_lc (own := [("_law_name", 8)]) (g := gName 8) (tt := tYes) (by rfl) sc_law.nd (pi_keys (pv 6)) (blkOk_by (own := [("_law_name", 8)]) (N := ["_law_script", "_law_k", "_law_stream_here", "_law_rows", "_law_wishes_here", "_law_turn", "_law_filling", "_law_needed", "_law_name", "_law_forms", "_law_letters", "_law_turned", "_law_letter_here"]) (sc := defScope s_law) (by decide +kernel)) (fun _ _ _ _ _ => (pg_name (i := 8) sc_law.nd rfl (Or.inl rfl))) (fun _ _ _ _ _ => pts_nil) (fun _ _ _ _ _ => (pe_tup (pa_cons (pv 8) (pa_cons (pe_fk (ok__law_letter T 6) (hr.mono (by omega)) rfl pass0 (pa_cons (pe_dget (hu_of hr) (pv 6) (pv 8) (fun _ _ => rfl)) pa_nil)) pa_nil)))))) pa_nil)))
  (pss_one (ps_if (PW.pt (pw_or (pt_cmpR op_ne (pe_fk (ok_granted T) (hr.mono (by omega)) rfl pass0 (pa_cons (pv 11) (pa_cons (pv 10) pa_nil))) (pe_fk (ok__law_granted T) (hr.mono (by omega)) rfl pass0 (pa_cons (pv 3) (pa_cons (pv 6) pa_nil))) (nomark _)) (pw_or1 (pt_cmpR (op_neoL monWs (eqWs (ok_Leq T)) (hr.mono (by omega))) (pv 4) (pe_fk (ok__law_wishes T) (hr.mono (by omega)) rfl pass0 (pa_cons (pv 3) pa_nil)) (nomark _)))))
  (pss_one (ps_ret pe_bl))
  pss_nil)))))))))))))
  (pss_one (ps_ret (pe_cmpR op_isB (pe_fk (ok_granted T) (hr.mono (by omega)) rfl pass0 (pa_cons (pe_lst pa_nil) (pa_cons pe_dnewK pa_nil))) pe_bl (nomark _))))), ?_⟩
    have big : 16777216 ≤ sizeLine := by decide
    have l2 : 2 ≤ sizeLine := by omega
    have l0 : 0 ≤ sizeLine := Nat.zero_le _
    refine seqJoin (fun σ Hc => ∃ (t1 t2 t3 t4 t5 t6 t7 t8 t9 t10 t11 t12 : Option V), σ = [some (.ref a), t1, t2, t3, t4, t5, t6, t7, t8, t9, t10, t11, t12]) (fun KK hK => ?_) ?_
    · refine ⟨3, rfl, by decide, by decide, for_range (n := 3) (fun i σ H => SqL K H a (ns.map V.int) ∧ ∃ (t1 t2 t3 t4 t5 t6 t7 t8 t9 t10 t11 t12 : Option V), σ = [some (.ref a), t1, t2, t3, t4, t5, t6, t7, t8, t9, t10, t11, t12]) ⟨hS, _, _, _, _, _, _, _, _, _, _, _, _, rfl⟩ ?_ (fun σ Hc ⟨_, h⟩ => hK _ _ h)⟩
      rintro i σ H2 hi ⟨hS2, t1, t2, t3, t4, t5, t6, t7, t8, t9, t10, t11, t12, rfl⟩
      refine gName_k ?_
      try dsimp only
      refine seqAsg ⟨_, rfl, _, rfl, a, ns, _, rfl, hS2, hn, (by omega), (by omega), fun p xs H3 s3 np hp3 hx3 => ?_⟩
      refine gName_k ?_
      try dsimp only
      refine seqAsg ⟨_, rfl, ?_⟩
      refine rd_draw (m := 3) (n := 20000) (by rfl) hp3 (hx3.mono (by decide)) (by decide) (by decide) fun d H4 y4 hd b4 hp4 hy4 => ?_
      refine ⟨_, _, rfl, rfl, p, 1 + d, 1000, y4, congrArg (fun z : Int => [V.ref p, V.int z]) (by omega), hp4, hy4.mono (by decide), by omega, fun R H5 y5 us rs b5 hp5 hy5 nR hR5 hrs5 gw => ?_⟩
      refine gName_k ?_
      try dsimp only
      have nRp : R ≠ p := fun z => by rw [z, hp4] at nR; cases nR
      have hrs5 : AtL (RwF fun c => c ≠ p) H5 rs us := hrs5.mp fun r v h => h.imp fun c hc z => by rw [z, hp4] at hc; cases hc
      have ok := gw.ok
      have two := gw.two
      refine seqAsg ⟨_, rfl, R, us, rs, rfl, hR5, hrs5.mp (fun r v h => h.imp fun _ _ => trivial), ok, fun q ws H6 s6 nq hq6 hws6 => ?_⟩
      refine gName_k ?_
      try dsimp only
      have nqp : q ≠ p := fun z => by rw [z, hp5] at nq; cases nq
      have hws6 : AtL (RwL K fun c => c ≠ p) H6 rs ws := hws6.mp fun r v h => h.imp fun c hc z => by rw [z, hp5] at hc; cases hc.1
      have hp6 := s6 _ _ hp5
      have hR6 := s6 _ _ hR5
      have hrs6 : AtL (RwF fun c => c ≠ p) H6 rs us := hrs5.mp fun r v h => h.same s6
      have S36 : But p H3 H6 := (b4.trans b5).trans (But.of_same s6)
      have S26 : ∀ {J : Hp}, But p H6 J → Same H2 J := fun bj => But.fresh s3 np (S36.trans bj)
      refine ⟨3, rfl, by decide, by decide, for_range (n := 3) (fun j σ Hc => ∃ (t5 t6 t7 t8 t9 t10 t11 t12 : Option V) (ys : List V), σ = [some (.ref a), some (.int ((0 : Int) + (i : Int))), some (.ref p), some (.ref R), some (.ref q), t5, t6, t7, t8, t9, t10, t11, t12] ∧ But p H6 Hc ∧ Hc p = some (.lst ys) ∧ StL (100 + 2 * (3 - j)) ys) ⟨_, _, _, _, _, _, _, _, y5, rfl, (fun c o _ e => e), hp6, hy5.mono (by decide)⟩ ?_ ?_⟩
      · rintro j σ Hc hj ⟨t5, t6, t7, t8, t9, t10, t11, t12, ys, rfl, bc, hpc, hyc⟩
        refine gName_k ?_
        try dsimp only
        have kc : ∀ {C : Addr}, Kp C H6 Hc := fun {C} => bc.kp hp6
        have hRc := bc _ _ nRp hR6
        have hqc := bc _ _ nqp hq6
        have hrsc : AtL (RwF fun c => c ≠ p) Hc rs us := hrs6.mp fun r v h => h.kb kc fun c o n e => bc _ _ n e
        have hwsc : AtL (RwL K fun c => c ≠ p) Hc rs ws := hws6.mp fun r v h => h.kb kc fun c o n e => bc _ _ n e
        refine seqAsg ⟨_, rfl, _, rfl, p, R, ys, us, rs, 100 + 2 * (3 - (j + 1)), rfl, hpc, hyc.mono (by omega), nRp, hRc, hrsc, gw, fun b kvs fl y9 H9 b9 hp9 hy9 nb hb al fm ck => ?_⟩
        refine gName_k ?_
        try dsimp only
        have k9 : ∀ {C : Addr}, Kp C Hc H9 := fun {C} => b9.kp hpc
        have hR9 := b9 _ _ nRp hRc
        have hq9 := b9 _ _ nqp hqc
        have hrs9 : AtL (RwF fun _ => True) H9 rs us := hrsc.mp fun r v h => (h.kb k9 fun c o n e => b9 _ _ n e).imp fun _ _ => trivial
        have hws9 : AtL (RwL K fun _ => True) H9 rs ws := hwsc.mp fun r v h => (h.kb k9 fun c o n e => b9 _ _ n e).imp fun _ _ => trivial
        have gm : GoodM (look fl) := GoodM.of ck
        have ndf : (fl.map (·.1)).Nodup := by rw [fm]; decide +kernel
        have lk : ∀ x ∈ rwsU rs, ∃ t, look fl x = some t := fun x hx => by
          have hx2 := two x hx
          rw [← fm] at hx2
          obtain ⟨e, he, ex⟩ := List.mem_map.mp hx2
          obtain ⟨i, hi, ei⟩ := List.getElem_of_mem he
          subst ex
          exact ⟨e.2, look_get ndf (by rw [List.getElem?_eq_getElem hi, ei])⟩
        refine seqAsg ⟨_, rfl, R, us, rs, rfl, hR9, hrs9, ok, two, fun q10 nm H10 s10 nq10 hq10 nd10 mem10 => ?_⟩
        have nml : nm.length ≤ 2 := nodup_sub (m := (["x", "y"] : List Str)) nd10 fun x hx => two x ((mem10 x).mp hx)
        have fll : fl.length = 2 := by have := congrArg List.length fm; rw [List.length_map] at this; exact this
        refine ⟨q10, rfl, ⟨_, SqL.of hq10⟩, fun D hD => ?_⟩
        refine lckS (K := K) (R := IsT) (needM fl) 0 (fun _ _ _ _ kp h => h.mono kp) (SqL.of hq10) (by omega) hD (fun _ => rfl) (fun _ => rfl) (fun x J σ2 Q2 hx sj e kk => ?_) fun ps kq J sj hDj pq alj => ?_
        · subst e
          obtain ⟨t, ht⟩ := lk x ((mem10 x).mp hx)
          obtain ⟨v, hv, it⟩ := (al.look (x := x)).1 t ht
          have e : needM fl x = t := by unfold needM; rw [ht]; rfl
          rw [e] at kk
          have s9J := s10.trans sj
          exact ⟨_, rfl, _, rfl, b, v, rfl, .inl ⟨kvs, .inr x, .inl (s9J _ _ hb), rfl, hv.symm⟩, kk v J (Same.refl _) (it.same s9J)⟩
        unfold tNil
        have ndn : ((nm.map fun x => (x, needM fl x)).map (·.1)).Nodup := by
          have e0 : (nm.map fun x => (x, needM fl x)).map (·.1) = nm := by rw [List.map_map]; exact List.map_id _
          rw [e0]
          exact nd10
        refine ⟨D, ps, kq, rfl, SqL.of hDj, pq.paired, fun bn hbn0 => ?_⟩
        rw [alj.merge ndn]
        have sn := Rd.Same.upd (o := .dK kq) hbn0
        have hbn : upd J bn (.dK kq) bn = some (.dK kq) := upd_same
        generalize upd J bn (.dK kq) = H11 at sn hbn ⊢
        refine gName_k ?_
        try dsimp only
        have s911 := (s10.trans sj).trans sn
        have aln := alj.mono fun t v h => h.same sn
        have lkn : ∀ x ∈ rwsU rs, look (nm.map fun x => (x, needM fl x)) x = look fl x := fun x hx => needL nd10 (fun x hx => lk x ((mem10 x).mp hx)) ((mem10 x).mpr hx)
        have ckn : ∀ e ∈ nm.map (fun x => (x, needM fl x)), Cand e.2 := fun e he => by
          obtain ⟨x, hx, rfl⟩ := List.mem_map.mp he
          obtain ⟨t, ht⟩ := lk x ((mem10 x).mp hx)
          have e : needM fl x = t := by unfold needM; rw [ht]; rfl
          show Cand (needM fl x)
          rw [e]
          unfold look at ht
          obtain ⟨p', hp', e'⟩ := Option.map_eq_some_iff.mp ht
          rw [← e']
          exact ck p' (List.mem_of_find?_eq_some hp')
        have dtf : ∀ {Hx : Hp}, Same H9 Hx → DTr Hx b (look fl) := fun {Hx} sx =>
          have al' : Al IsT Hx fl kvs := al.mono fun t v h => h.same sx
          ⟨kvs, .inl (sx _ _ hb), fun x t e => (al'.look (x := x)).1 t e, fun x e => (al'.look (x := x)).2 e⟩
        have fnl : (nm.map fun x => (x, needM fl x)).length ≤ 2 := by rw [List.length_map]; exact nml
        generalize nm.map (fun x => (x, needM fl x)) = fn at aln lkn ckn fnl ndn
        refine seqJoin (fun σ Hz => ∃ (t8 t9 t10 t11 t12 : Option V), σ = [some (.ref a), some (.int ((0 : Int) + (i : Int))), some (.ref p), some (.ref R), some (.ref q), some (.int ((0 : Int) + (j : Int))), some (.ref b), some (.ref bn), t8, t9, t10, t11, t12] ∧ Same H11 Hz) (fun KK2 hK2 => ?_) ?_
        · refine ⟨_, rfl, _, rfl, l2, fun q13 g13 => ?_⟩
          have s13 := Rd.Same.upd (o := .lst [.ref b, .ref bn]) g13
          have hq13 : upd H11 q13 (.lst [.ref b, .ref bn]) q13 = some (.lst [.ref b, .ref bn]) := upd_same
          generalize upd H11 q13 (.lst [.ref b, .ref bn]) = H13 at s13 hq13 ⊢
          refine ⟨q13, rfl, ⟨_, SqL.of hq13⟩, ?_⟩
          refine for_list (xs := [.ref b, .ref bn]) (fun _ σ Hz => ∃ (t8 t9 t10 t11 t12 : Option V), σ = [some (.ref a), some (.int ((0 : Int) + (i : Int))), some (.ref p), some (.ref R), some (.ref q), some (.int ((0 : Int) + (j : Int))), some (.ref b), some (.ref bn), t8, t9, t10, t11, t12] ∧ Same H13 Hz) ⟨_, _, _, _, _, rfl, Same.refl _⟩ ?_ ?_ ?_
          · rintro n σ Hz hn ⟨t8, t9, t10, t11, t12, rfl, sz⟩
            exact SqL.of (sz _ _ hq13)
          · rintro n x σ Hz hx ⟨t8, t9, t10, t11, t12, rfl, sz⟩
            have s9z := (s911.trans s13).trans sz
            obtain ⟨bd, kd, fd', rfl, hbd, ald, ndd, fdl, ckd, lkd⟩ : ∃ (bd : Addr) (kd : List (Key × V)) (fd' : List (Str × Tr)), x = .ref bd ∧ Hz bd = some (.dK kd) ∧ Al IsT Hz fd' kd ∧ (fd'.map (·.1)).Nodup ∧ fd'.length ≤ 2 ∧ (∀ e ∈ fd', Cand e.2) ∧ ∀ x ∈ rwsU rs, look fd' x = look fl x := by
              match n, hx with
              | 0, hx => cases hx; exact ⟨b, kvs, fl, rfl, s9z _ _ hb, al.mono fun t v h => h.same s9z, ndf, by omega, ck, fun x _ => rfl⟩
              | 1, hx => cases hx; exact ⟨bn, kq, fn, rfl, (s13.trans sz) _ _ hbn, aln.mono fun t v h => h.same (s13.trans sz), ndn, fnl, ckn, lkn⟩
            refine gName_k ?_
            try dsimp only
            refine seqAsg (mkLets (K := K) (fl := fd') rfl (fun _ => rfl) (fun _ => rfl) (fun _ => rfl) hbd ald ndd fdl (fun e he => ⟨(ckd e he).wf, by have := (ckd e he).dp; omega⟩) fun ql kl Hl sl nl hql all => ?_)
            refine gName_k ?_
            try dsimp only
            have s9l := s9z.trans sl
            refine ⟨_, rfl, _, rfl, q, ql, ws, rs, kl, fd', rfl, s9l _ _ hq9, hws9.mp (fun r v h => h.same s9l), gw, hql, all, ndd, fdl, GoodM.of ckd, (fun x hx => by rw [lkd x hx]; exact lk x hx), fun c1 Hm sm cg => ?_⟩
            have s9m := s9l.trans sm
            refine ⟨_, rfl, _, rfl, R, b, us, rs, look fl, rfl, s9m _ _ hR9, hrs9.mp (fun r v h => h.same s9m), gw, dtf s9m, gm, fun c2 Ho so cg2 => ?_⟩
            · have ec : c1 = c2 := by
                rw [Bool.eq_iff_iff, cg, cg2]
                exact Gr.congr lkd
              subst ec
              exact ⟨rfl, _, rfl, iteN (by simp) ⟨_, _, _, _, _, rfl, (sz.trans (sl.trans (sm.trans so)))⟩⟩
          · rintro σ Hz ⟨t8, t9, t10, t11, t12, rfl, sz⟩
            exact hK2 _ _ ⟨_, _, _, _, _, rfl, s13.trans sz⟩
        · rintro σ Hz ⟨t8, t9, t10, t11, t12, rfl, sz⟩
          have s9z := s911.trans sz
          refine seqAsg ⟨_, rfl, q, ws, rfl, SqL.of (s9z _ _ hq9), fun q14 g14 => ?_⟩
          have s14 := Rd.Same.upd (o := .lst ws.reverse) g14
          have hq14 : upd Hz q14 (.lst ws.reverse) q14 = some (.lst ws.reverse) := upd_same
          generalize upd Hz q14 (.lst ws.reverse) = H14 at s14 hq14 ⊢
          have s914 := s9z.trans s14
          refine ⟨q14, rfl, ⟨_, SqL.of hq14⟩, fun D2 hD2 => ?_⟩
          have wsl := hws9.len
          have hrev : AtL (RwL K fun _ => True) H14 rs.reverse ws.reverse := AtL.rev (hws9.mp fun r v h => h.same s914)
          have revl := hrev.len
          refine lclGU (K := K) (He.ga K "Letter") (fun n H' v => ∃ r, rs.reverse[n]? = some r ∧ RwL K (fun c => c ≠ D2) H' r v) (fun n H1 H2 v kp bb ⟨r, h1, h2⟩ => ⟨r, h1, h2.kb kp fun c o n e => bb _ _ n e⟩) (SqL.of hq14) (by have := gw.n; rw [revl, List.length_reverse]; omega) hD2 (fun n x J1 Q1 hx sj nD kk => ?_) fun tv J1 sj hDt tvl htv => ?_
          · have hlt := (List.getElem?_eq_some_iff.mp hx).1
            have hr' : rs.reverse[n]? = some (rs.reverse[n]'(by omega)) := List.getElem?_eq_getElem _
            have rw' := hrev.get n _ _ hr' hx
            generalize rs.reverse[n]'(by omega) = r at hr' rw'
            obtain ⟨qr, ar, ur, lr, rfl, _, h1, h2, h3, h4⟩ := rw'
            have nar : ar ≠ D2 := fun z => by rw [z, hD2] at h2; cases h2
            have h2 := sj _ _ h2
            have h3 : AtL (IsLet K) J1 r.1 ur := h3.mp fun _ _ h => h.same sj
            have h4 := h4.same sj
            refine ⟨qr, _, rfl, SqT.of (sj _ _ h1), rfl, _, _, rfl, _, _, rfl, rfl, rfl, ?_⟩
            refine ⟨_, rfl, _, rfl, l2, fun qz gz => ?_⟩
            have tz := Rd.Same.upd (o := .tup [.ref ar, lr]) gz
            exact kk _ _ tz ⟨r, hr', qz, ar, ur, lr, rfl, nar, upd_same, tz _ _ h2, h3.mp (fun _ _ h => h.same tz), h4.same tz⟩
          · refine gName_k ?_
            try dsimp only
            have s9j := s914.trans sj
            have htw : AtL (RwL K fun _ => True) J1 rs.reverse tv := ⟨by rw [tvl, revl], fun n r v h1 h2 => by
              obtain ⟨r', e, z⟩ := htv n v h2
              rw [h1] at e
              cases e
              exact z.imp fun _ _ => trivial⟩
            refine seqAsg (mkLets (K := K) (fl := fl) rfl (fun _ => rfl) (fun _ => rfl) (fun _ => rfl) (s9j _ _ hb) (al.mono fun t v h => h.same s9j) ndf (by omega) (fun e he => ⟨(ck e he).wf, by have := (ck e he).dp; omega⟩) fun ql kl Hl sl nl hql all => ?_)
            refine gName_k ?_
            try dsimp only
            have s9l := s9j.trans sl
            refine ⟨_, rfl, _, rfl, D2, ql, tv, rs.reverse, kl, fl, rfl, sl _ _ hDt, htw.mp (fun r v h => h.same sl), gw.rev, hql, all, ndf, by omega, gm, (fun x hx => lk x (rwsU_rev.mp hx)), fun c1 Hm sm cg => ?_⟩
            have s9m := s9l.trans sm
            refine ⟨_, rfl, _, rfl, R, b, us, rs, look fl, rfl, s9m _ _ hR9, hrs9.mp (fun r v h => h.same s9m), gw, dtf s9m, gm, fun c2 Ho so cg2 => ?_⟩
            have ec : c1 = c2 := by
              rw [Bool.eq_iff_iff, cg, cg2]
              exact Gr.rev
            subst ec
            have s9o := s9m.trans so
            refine ⟨rfl, _, rfl, iteN (by simp) ⟨_, rfl, _, rfl, R, us, rs, rfl, s9o _ _ hR9, hrs9.mp (fun r v h => h.same s9o), ok, fun q2 ws2 Hq sq nq2 hq2 hws2 => ?_⟩⟩
            have s9q := s9o.trans sq
            refine ⟨⟨q, q2, ws, ws2, rfl, rfl, s9q _ _ hq9, hq2, prsWs (hws9.mp fun r v h => h.same s9q) hws2 ok⟩, fun He ext => ⟨_, rfl, ?_⟩⟩
            have se : Same Hq He := fun c o e => ext c o e
            have b9e : But p H9 He := But.of_same (s9q.trans se)
            exact ⟨_, _, _, _, _, _, _, _, y9, rfl, (bc.trans b9).trans b9e, (s9q.trans se) _ _ hp9, hy9⟩
      · rintro σ Hc ⟨t5, t6, t7, t8, t9, t10, t11, t12, ys, rfl, bc, hpc, hyc⟩
        exact ⟨SqL.kept hS2 (S26 bc), _, _, _, _, _, _, _, _, _, _, _, _, rfl⟩
    · rintro σ Hc ⟨t1, t2, t3, t4, t5, t6, t7, t8, t9, t10, t11, t12, rfl⟩
      refine ⟨l0, fun R gR => ?_⟩
      have s1 := Rd.Same.upd (o := .lst []) gR
      have hR : upd Hc R (.lst []) R = some (.lst []) := upd_same
      generalize upd Hc R (.lst []) = H1 at s1 hR ⊢
      intro b gb
      have s2 := Rd.Same.upd (o := .dK []) gb
      have hb : upd H1 b (.dK []) b = some (.dK []) := upd_same
      generalize upd H1 b (.dK []) = H2 at s2 hb ⊢
      refine ⟨R, b, [], [], [], [], rfl, s2 _ _ hR, AtL.nil, ⟨by decide, fun r hr => by cases hr⟩, hb, trivial, List.nodup_nil, by decide, GoodM.of (fun e he => by cases he), (fun x hx => by cases hx), fun c Hm sm cg => ?_⟩
      have ec : c = true := cg.mpr fun r hr => by cases hr
      subst ec
      exact ⟨true, true, rfl, rfl, k _⟩
end
end Rd
set_option maxHeartbeats 0
namespace Rd
open PySem L2
theorem tx_ok {w : World} {K : PySem.W.Frag} {h : Heap} {mg : Str → Option Value} (X : K.In h) (G : h.Ns mainGlobals mg) (ct : He.SaysT fa fn ts w K) (cc : He.SaysD fa fn K) (cz : He5.SaysA [] fs K) (hx : exq K = true) : Tx w K mg where
  z_len := He.free_ok X G (cc.fact 0 rfl)
  z_all := He.free_ok X G (cc.fact 1 rfl)
  z_abs := He.free_ok X G (cc.fact 2 rfl)
  z_int := He.free_ok X G (cc.fact 3 rfl)
  z_list := He.free_ok X G (cc.fact 4 rfl)
  z_tuple := He.free_ok X G (cc.fact 5 rfl)
  z_range := He.free_ok X G (cc.fact 6 rfl)
  z_isinstance := He.free_ok X G (cc.fact 7 rfl)
  z_sorted := He.free_ok X G (cc.fact 8 rfl)
  z_set := He.free_ok X G (cc.fact 9 rfl)
  z_dict := He.free_ok X G (cc.fact 10 rfl)
  c_SMALL := He.str_ok X G (cc.fact 11 rfl)
  c_GREAT := He.str_ok X G (cc.fact 12 rfl)
  c_DIGITS := He.str_ok X G (cc.fact 13 rfl)
  D_SIGNS := kd_ok (He.glo_ok X G (cc.fact 14 rfl)) (ct.tab 0 rfl) (exl_ok hx 0 rfl)
  U_MAKEABLE := ktB_ok (He.glo_ok X G (cc.fact 15 rfl)) (exl_ok hx 1 rfl)
  U_SHUT := ktB_ok (He.glo_ok X G (cc.fact 16 rfl)) (exl_ok hx 2 rfl)
  F_is_word := ⟨(cc.def_ 0 (d := d0) rfl), He.glo_ok X G (cc.fact 17 rfl)⟩
  F_is_unknown := ⟨(cc.def_ 1 (d := d1) rfl), He.glo_ok X G (cc.fact 18 rfl)⟩
  F_is_name := ⟨(cc.def_ 2 (d := d2) rfl), He.glo_ok X G (cc.fact 19 rfl)⟩
  F_atom_tree := ⟨(cc.def_ 3 (d := d3) rfl), He.glo_ok X G (cc.fact 20 rfl)⟩
  F_parts_of := ⟨(cc.def_ 4 (d := d4) rfl), He.glo_ok X G (cc.fact 21 rfl)⟩
  F_atoms_of := ⟨(cc.def_ 5 (d := d5) rfl), He.glo_ok X G (cc.fact 22 rfl)⟩
  F_filled_tree := ⟨(cc.def_ 6 (d := d6) rfl), He.glo_ok X G (cc.fact 23 rfl)⟩
  F_tree_text := ⟨(cc.def_ 7 (d := d7) rfl), He.glo_ok X G (cc.fact 24 rfl)⟩
  F_is_plain := ⟨(cc.def_ 8 (d := d8) rfl), He.glo_ok X G (cc.fact 25 rfl)⟩
  F_partner := ⟨(cc.def_ 9 (d := d9) rfl), He.glo_ok X G (cc.fact 26 rfl)⟩
  F_undoing_key := ⟨(cc.def_ 10 (d := d10) rfl), He.glo_ok X G (cc.fact 27 rfl)⟩
  F_is_made := ⟨(cc.def_ 11 (d := d11) rfl), He.glo_ok X G (cc.fact 28 rfl)⟩
  F_halves_of := ⟨(cc.def_ 12 (d := d12) rfl), He.glo_ok X G (cc.fact 29 rfl)⟩
  F_opened_parts := ⟨(cc.def_ 13 (d := d13) rfl), He.glo_ok X G (cc.fact 30 rfl)⟩
  F_granted := ⟨(cc.def_ 14 (d := d14) rfl), He.glo_ok X G (cc.fact 31 rfl)⟩
  F__law_stream := ⟨(cc.def_ 15 (d := d15) rfl), He.glo_ok X G (cc.fact 32 rfl)⟩
  F__law_draw := ⟨(cc.def_ 16 (d := d16) rfl), He.glo_ok X G (cc.fact 33 rfl)⟩
  F__law_pick := ⟨(cc.def_ 17 (d := d17) rfl), He.glo_ok X G (cc.fact 34 rfl)⟩
  F__law_letter := ⟨(cc.def_ 18 (d := d18) rfl), He.glo_ok X G (cc.fact 35 rfl)⟩
  F__law_parts := ⟨(cc.def_ 19 (d := d19) rfl), He.glo_ok X G (cc.fact 36 rfl)⟩
  F__law_atoms := ⟨(cc.def_ 20 (d := d20) rfl), He.glo_ok X G (cc.fact 37 rfl)⟩
  F__law_small := ⟨(cc.def_ 21 (d := d21) rfl), He.glo_ok X G (cc.fact 38 rfl)⟩
  F__law_wishes_drawn := ⟨(cc.def_ 22 (d := d22) rfl), He.glo_ok X G (cc.fact 39 rfl)⟩
  F__law_wishes := ⟨(cc.def_ 23 (d := d23) rfl), He.glo_ok X G (cc.fact 40 rfl)⟩
  F__law_unknowns := ⟨(cc.def_ 24 (d := d24) rfl), He.glo_ok X G (cc.fact 41 rfl)⟩
  F__law_granted := ⟨(cc.def_ 25 (d := d25) rfl), He.glo_ok X G (cc.fact 42 rfl)⟩
  F__law_filled := ⟨(cc.def_ 26 (d := d26) rfl), He.glo_ok X G (cc.fact 43 rfl)⟩
  F__law_opened := ⟨(cc.def_ 27 (d := d27) rfl), He.glo_ok X G (cc.fact 44 rfl)⟩
  F__law_undoing := ⟨(cc.def_ 28 (d := d28) rfl), He.glo_ok X G (cc.fact 45 rfl)⟩
  F__law_can := ⟨(cc.def_ 29 (d := d29) rfl), He.glo_ok X G (cc.fact 46 rfl)⟩
  F__law_filling_drawn := ⟨(cc.def_ 30 (d := d30) rfl), He.glo_ok X G (cc.fact 47 rfl)⟩
  g_RoadError := He.glo_ok X G (cc.fact 49 rfl)
  r_RoadError := rexB_ok (exl_ok hx 3 rfl)
  X_BadAtom := ⟨He.glo_ok X G (cc.fact 50 rfl), oexB_ok (exl_ok hx 4 rfl), He.noat_ok (cc.fact 53 rfl), ⟨(cc.def_ 32 (d := d32) rfl), He.meth_ok (cc.fact 52 rfl)⟩, xfB_ok (exl_ok hx 5 rfl), He.exm_ok (cc.fact 51 rfl)⟩
  X_BadKey := ⟨He.glo_ok X G (cc.fact 54 rfl), oexB_ok (exl_ok hx 6 rfl), He.noat_ok (cc.fact 57 rfl), ⟨(cc.def_ 33 (d := d33) rfl), He.meth_ok (cc.fact 56 rfl)⟩, xfB_ok (exl_ok hx 7 rfl), He.exm_ok (cc.fact 55 rfl)⟩
  f_Letter := (exl_ok hx 8 rfl)
  Y_Letter := isiB_ok (exl_ok hx 9 rfl)
  k_Letter := He.cls_ok (cc.fact 59 rfl)
  g_Letter := He.glo_ok X G (cc.fact 58 rfl)
  n_Letter_tree := He.noat_ok (cc.fact 60 rfl)
  I_Letter := ⟨(cc.def_ 34 (d := d34) rfl), He.mkr_ok (cc.fact 61 rfl), He.glo_ok X G (cc.fact 58 rfl), He.cls_ok (cc.fact 59 rfl)⟩
  M_Letter_unknowns := ⟨(cc.def_ 35 (d := d35) rfl), He.meth_ok (cc.fact 62 rfl)⟩
  M_Letter_filled := ⟨(cc.def_ 36 (d := d36) rfl), He.meth_ok (cc.fact 63 rfl)⟩
  M_Letter_add := ⟨(cc.def_ 37 (d := d37) rfl), He.meth_ok (cc.fact 64 rfl)⟩
  M_Letter_mul := ⟨(cc.def_ 38 (d := d38) rfl), He.meth_ok (cc.fact 65 rfl)⟩
  M_Letter_xor := ⟨(cc.def_ 39 (d := d39) rfl), He.meth_ok (cc.fact 66 rfl)⟩
  M_Letter_invert := ⟨(cc.def_ 40 (d := d40) rfl), He.meth_ok (cc.fact 67 rfl)⟩
  M_Letter_pos := ⟨(cc.def_ 41 (d := d41) rfl), He.meth_ok (cc.fact 68 rfl)⟩
  M_Letter_neg := ⟨(cc.def_ 42 (d := d42) rfl), He.meth_ok (cc.fact 69 rfl)⟩
  M_Letter_eq := ⟨(cc.def_ 43 (d := d43) rfl), He.meth_ok (cc.fact 70 rfl)⟩
theorem facts {P : Program} {w : World} {K : PySem.W.Frag} {h : Heap} {mg : Str → Option Value} {f : Addr} (X : K.In h) (G : h.Ns mainGlobals mg) (hfa : mg ("law" : Str) = some (.ref f)) (c : SaysZ fa fn ts exq fs w K) :
    ∃ fd : FuncData, (∀ (s : Shared) (v : Value), BindsTo s fd ⟨[v], []⟩ [("_law_script", v)]) ∧ ∀ base : Heap, K.In base → base.Ns mainGlobals mg → FnOk P w K mg base CX0 40 f fd ["_law_script"] (spLaw K) := by
  have cc := c.y.t.d
  have T := tx_ok X G c.y.t cc c.s c.y.more
  obtain ⟨fd, F⟩ := cc.def_ 31 (d := d31) rfl
  have e := hfa.symm.trans (He.glo_ok X G (cc.fact 48 (f := .glo "law") rfl))
  cases e
  have b := FunD.bindsA (ps := ["_law_script"]) F fun _ _ _ _ _ _ us hl => match us, hl with | [_], _ => rfl
  exact ⟨fd, fun s v => b s [v] rfl, fun base _ _ => ok_law F T⟩
end Rd
open PySem PySem.W PySem.Calls PyProof.Rows
set_option maxRecDepth 100000 in
set_option maxHeartbeats 0 in
theorem PySem.Challenge.cw_openroads_k18_wishes_granted_holds : PySem.Challenge.rw_openroads_k18_wishes_granted.Holds := by
  w_on; o_law
  refine HandSHeadRun.head_any (r := OpenLaw.row PySem.Challenge.rw_openroads_k18_wishes_granted) (q := Rd.qv) (H := Rd.hk) (ob := Rd.ob) (M := 8000) (loose := Rd.loo) (d := HandSHeadRun.topDef (OpenLaw.row PySem.Challenge.rw_openroads_k18_wishes_granted).prog 54) (kwd := []) Rd.ob_eq
    (by kernel_rfl) (fun s => by kernel_rfl) Rd.run (by kernel_rfl) (by kernel_rfl) (by kernel_rfl) (by rfl) (by first | assumption | decide +kernel) (by decide +kernel) ⟨rfl, rfl, rfl, rfl, rfl, by decide +kernel⟩ ?hw ?hc
  case hw => w_witness2
  case hc =>
    refine L2.walk_ofE (l := PySem.Challenge.rw_openroads_k18_wishes_granted) (n := 63) (k := 40) (x := "_law_script") (CX := L2.CX0) rfl (by decide) (by kernel_rfl) ⟨rfl, by decide, by decide⟩ ?F (fun _ _ _ _ z => z)
    intro w mg fa h Y G hmg0
    obtain ⟨K, KX, c⟩ := Y
    have hmg : mg ("law" : PySem.Str) = some (.ref fa) := by
      have e : (HandSHeadRun.topDef (OpenLaw.row PySem.Challenge.rw_openroads_k18_wishes_granted).prog 54).name = ("law" : PySem.Str) := by kernel_rfl
      rw [← e]
      exact hmg0
    obtain ⟨fd, hb, hF⟩ := Rd.facts (P := (PySem.Challenge.rw_openroads_k18_wishes_granted).prog) (w := w) KX G hmg c
    exact ⟨K, fd, Rd.spLaw K, KX, hb, fun H a ns hl _ hS => ⟨a, ns, rfl, hS, hl, fun _ => rfl⟩, hF⟩
