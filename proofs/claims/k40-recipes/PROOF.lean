import PyProof.Rows.All
import Wide.All
import OpenK.AllK
import Wide.FinOn
import KE.KStateDown
import Lean
import HandS.ForMost
import HandS.ForExc
import HandS.Flow
import HandS.StrMore
import HandS.Defaults
import HandS.ExcInit
import HandS.ExcField
import HandS.More
import HandS.HeadHook3
import PyProof.ListStr
import HandS.Head0
import HandS.Head1
import HandS.Head2
import HandS.HeadEnd
import HandS.Zip
import HandS.FStr
import HandS.StrMore
import HandS.HotCalls
import HandS.ExcInitHot
import PyProof.InstEq
import HandS.IsInst
import HandS.HeadNt
import HandS.TupLe
import PyProof.Rows.SortShellAny
import HandS.Set
import HandS.SetFor
import HandS.SetBool
import HandS.Deep
import HandS.TupAny
import KE.KEqDict
import HandS.DictComp
import HandS.DeepEq
import HandS.List
import HandS.SetKeys
import KE.GoesNew
import KE.GoesMore
import PyProof.AutoSeq1
import HandS.Sort
import KE.KSortTupAny
import KE.KOpsOwn
import HandS.WordsDict
import KE.KDictList
import PyProof.SetRoads
import HandS.ExcCtx
import HandS.Comp
import KE.GoesRaise
import KE.GoesComp
import KE.KIsAll
import KE.KExcIs
import HandS.Base
import HandS.Call
import HandS.Exc
import HandS.ExcIs
import PySem.Challenge.RW_openroads_k40_recipes_run
set_option Elab.async false
set_option linter.all false
set_option maxRecDepth 100000
set_option maxHeartbeats 4000000
namespace Rd
open PySem PySem.Spec PyProof.Rows L2
/-- a function of the module by its name: promise, binding, place -/
structure Fk (P : Program) (w : World) (K : PySem.W.Frag) (mg : Str → Option Value) (base : Heap) (CX : CXT) (k : Nat) (x : Str) (ps : List Str) (sp : Sp) : Prop where
  ex : ∃ fd, FnOk P w K mg base CX k (He.ga K x) fd ps sp ∧ Binds K fd ps []
  g : mg x = some (.ref (He.ga K x))
  kp : PySem.W.keepIn K (.ref (He.ga K x)) = true
/-- what the head tells of a function of the module -/
structure Fh (K : PySem.W.Frag) (mg : Str → Option Value) (x : Str) (st : Stmt) : Prop where
  ex : ∃ fd, FunD K x x (defArgs st) (defBody st) (defScope st) [] [] (He.ga K x) fd
  g : mg x = some (.ref (He.ga K x))
section
variable {P : Program} {w : World} {K : PySem.W.Frag} {mg : Str → Option Value} {base : Heap} {CX : CXT} {k : Nat} {x : Str} {ps N : List Str} {sp : Sp} {st : Stmt}
theorem Fh.ok (F : Fh K mg x st) (S : FnScope N ps (defScope st))
    (hb : ∀ (kV doc pm : Value) (an : Option Addr) (cdv ct : Value) (us : List Value), us.length = ps.length → bindArgs (PySem.W.fnOf x x (defArgs st) (defBody st) (defScope st) .none kV doc pm an cdv ct) ⟨us, []⟩ = pure (ps.zip us))
    (len : ∀ vs H Q E, sp vs H Q E → vs.length = ps.length)
    (hbody : ∀ (cdv : Value) (A : Around) (outer : List Env) (s : Shared) (H : Hp) (vs : List V) (Q : VK) (E : XK), Room k (A.deeper (envOfC x (defScope st) s.heap.objs.size (He.ga K x) cdv)) → sp vs H Q E →
      ∃ t, PSs (cxOf CX P w K mg base N x (defScope st) (He.ga K x) cdv A outer s H E) (defBody st) t ∧ t { nx := fun _ H' => Q .non H', rt := Q } (start N vs) H) : Fk P w K mg base CX (k + 1) x ps sp := by
  obtain ⟨fd, F'⟩ := F.ex
  exact ⟨⟨fd, F'.ok S len hbody, F'.bindsN hb⟩, F.g, F'.kp⟩
/-- no exception leaves -/
theorem Fh.ok0 (F : Fh K mg x st) (S : FnScope N ps (defScope st))
    (hb : ∀ (kV doc pm : Value) (an : Option Addr) (cdv ct : Value) (us : List Value), us.length = ps.length → bindArgs (PySem.W.fnOf x x (defArgs st) (defBody st) (defScope st) .none kV doc pm an cdv ct) ⟨us, []⟩ = pure (ps.zip us))
    (len : ∀ vs H Q E, sp vs H Q E → vs.length = ps.length)
    (hbody : ∀ (cdv : Value) (A : Around) (outer : List Env) (s : Shared) (H : Hp) (vs : List V) (Q : VK) (E : XK), Room k (A.deeper (envOfC x (defScope st) s.heap.objs.size (He.ga K x) cdv)) → sp vs H Q E →
      ∃ t, PSs (cxOf CX0 P w K mg base N x (defScope st) (He.ga K x) cdv A outer s H E).nox (defBody st) t ∧ t { nx := fun _ H' => Q .non H', rt := Q } (start N vs) H) : Fk P w K mg base CX0 (k + 1) x ps sp :=
  F.ok S hb len fun cdv A outer s H vs Q E hr h => by
    obtain ⟨t, h1, h2⟩ := hbody cdv A outer s H vs Q E hr h
    exact ⟨t, h1.nox, h2⟩
theorem Fk.mono {j : Nat} (F : Fk P w K mg base CX j x ps sp) (h : j ≤ k) : Fk P w K mg base CX k x ps sp := by
  obtain ⟨⟨fd, a, b⟩, c, d⟩ := F
  exact ⟨⟨fd, a.mono h, b⟩, c, d⟩
end
section
variable {X : Cx} {CX : CXT} {k : Nat} {ps : List Str} {sp : Sp} {E : XK} {x : Str} {p pos : Pos} {e : Expr} {es : List Expr} {t : TA}
theorem pe_fk (F : Fk X.prog X.w X.K X.mg X.base CX k x ps sp) (hr : Room k X.A) (hg : Gl X x) (hx : Passes CX X E)
    (ha : PA X (e :: es) t) (hdb : (x == ("__debug__" : Str)) = false := by decide) (he : starEach (e :: es) X.env = (false, eval e X.env) :: starEach es X.env := by rfl) (hpl : (backTo pos (starEach es X.env)).any (·.1) = false := by rfl) :
    PE X (.Call (.Name x p) (e :: es) [] pos) (tCall sp [] E t) := by
  obtain ⟨⟨fd, a, b⟩, c, d⟩ := F
  exact pe_call a hr hg c d b .nil hx ha hdb he hpl
theorem pe_gstr {z : Str} (hm : ∃ t, X.mg x = some (.str z t)) (hg : Gl X x := by rfl) (hd : (x == ("__debug__" : Str)) = false := by decide) : PE X (.Name x pos) (tC (.str z)) := by
  obtain ⟨t, hm⟩ := hm
  exact pe_glob hg hm ⟨t, rfl⟩ hd
end
end Rd
namespace Rd
open PySem PySem.Spec PyProof.Rows L2
/-- an exception class over ValueError, as OexC wants it -/
def oexB (K : PySem.W.Frag) (x : Str) : Bool := (match K.lookup (He.ga K x) with
  | some ⟨.type c, _, .cls cd, sl⟩ => decide (c = "type") && (match cd.mro, sl.toList with
    | .ref C' :: bm, [_, _, _, _, some (.builtin n), _] => decide (C' = He.ga K x) && (decide (n = "ValueError.__new__") && (!cd.hasDel && (cd.hasDict && PySem.HandSPX.refsVE bm)))
    | _, _ => false)
  | _ => false) && (He.eqO (PySem.W.findIn K (.ref (He.ga K x)) "__setattr__") (some (some (.builtin "object.__setattr__"))) && (decide (PySem.W.subIn K (.ref (He.ga K x)) (.type "BaseException") = some true) && (decide (PySem.W.typeIn K (.ref (He.ga K x)) = some (.type "type")) && PySem.W.keepIn K (.ref (He.ga K x)))))
theorem oexB_ok {K : PySem.W.Frag} {x : Str} (h : oexB K x = true) : OexC K (He.ga K x) := by
  obtain ⟨h1, h⟩ := He.ba h
  obtain ⟨h2, h⟩ := He.ba h
  obtain ⟨h3, h⟩ := He.ba h
  obtain ⟨h4, h5⟩ := He.ba h
  refine ⟨?_, He.eqO_ok h2, of_decide_eq_true h3, of_decide_eq_true h4, h5⟩
  cases e : K.lookup (He.ga K x) with
  | none => rw [e] at h1; cases h1
  | some o =>
    rw [e] at h1
    obtain ⟨oc, od, dt, sl⟩ := o
    cases oc with
    | type c =>
      cases dt with
      | cls cd =>
        obtain ⟨h6, h7⟩ := He.ba (show (decide (c = "type") && (match cd.mro, sl.toList with
          | .ref C' :: bm, [_, _, _, _, some (.builtin n), _] => decide (C' = He.ga K x) && (decide (n = "ValueError.__new__") && (!cd.hasDel && (cd.hasDict && PySem.HandSPX.refsVE bm)))
          | _, _ => false)) = true from h1)
        have ec : c = "type" := of_decide_eq_true h6
        subst ec
        obtain ⟨nm, bs, mro, ns, qn, hd, sn, sb, ab, col, del⟩ := cd
        obtain ⟨sl⟩ := sl
        simp only at h7
        split at h7
        · obtain ⟨h8, h9⟩ := He.ba h7
          obtain ⟨h10, h11⟩ := He.ba h9
          obtain ⟨h12, h13⟩ := He.ba h11
          obtain ⟨h14, h15⟩ := He.ba h13
          rename_i C' bm k0 k1 k2 k3 n k5
          have e1 : C' = He.ga K x := of_decide_eq_true h8
          have e2 : n = "ValueError.__new__" := of_decide_eq_true h10
          have e3 : del = false := by simpa using h12
          subst e2 e3
          have e4 : hd = true := h14
          subst e4
          rw [e1]
          exact ⟨_, _, _, _, bm, _, _, _, _, _, _, _, _, _, _, rfl, h15⟩
        · cases h7
      | _ => cases h1
    | _ => cases dt <;> cases h1
end Rd
namespace Rd
open PySem L2
/-- [f(c) for c in text], f pure -/
theorem lcs {x : Str} {te : TE} {i : Nat} {σ : St} {H1 : Hp} {D : Addr} {Qd : Hp → Prop} (f : Nat → V) (hx : x.length ≤ sizeLine)
    (hte : ∀ c (H : Hp) (Q : VK), c ∈ x.cps.toList → Q (f c) H → te ((wipe σ [i]).set i (some (.str ⟨#[c]⟩))) H Q) (hq : Qd (upd H1 D (.lst (x.cps.toList.map f)))) :
    ∃ W : Nat → Nat → Hp → Prop, (∃ m, W 0 m (upd H1 D (.lst []))) ∧ ∀ j m H, W j m H →
      ((Its x).stop j H ∧ Qd H) ∨ ((Its x).go j H ∧ ∃ Nx : Hp → Prop, (∀ H', Nx H' → ∃ m', m' < m ∧ W (j + 1) m' H') ∧ ∀ v H', (Its x).yld j H v H' → gName i v (wipe σ [i]) H' fun σ2 H2 => wipe σ2 [i] = wipe σ [i] ∧ tYes σ2 H2 fun b H3 =>
        if b = true then te σ2 H3 fun y H4 => ∃ acc, H4 D = some (.lst acc) ∧ acc.length < sizeLine ∧ Nx (upd H4 D (.lst (acc ++ [y]))) else Nx H3) := by
  have hs : x.cps.toList.length = x.cps.size := by simp
  refine ⟨fun j m H => m = x.cps.size - j ∧ j ≤ x.cps.size ∧ H = upd H1 D (.lst ((x.cps.toList.take j).map f)), ⟨_, rfl, Nat.zero_le _, rfl⟩, ?_⟩
  rintro j m H ⟨rfl, hj, rfl⟩
  by_cases hlt : j < x.cps.size
  · refine .inr ⟨hlt, fun H' => H' = upd H1 D (.lst ((x.cps.toList.take (j + 1)).map f)), fun H' e => ⟨x.cps.size - (j + 1), by omega, rfl, hlt, e⟩, ?_⟩
    rintro v H' ⟨rfl, c, hc, rfl⟩
    have hc2 : x.cps.toList[j]? = some c := by simpa using hc
    refine ⟨by simp [wipe], hte c _ _ (List.mem_of_getElem? hc2) ⟨_, upd_same, ?_, ?_⟩⟩
    · rw [List.length_map, List.length_take, hs]
      have : x.cps.size ≤ sizeLine := hx
      omega
    · show upd (upd H1 D _) D _ = _
      rw [upd_upd, List.take_succ, hc2]
      simp
  · have e : j = x.cps.size := by omega
    subst e
    refine .inl ⟨Nat.le_refl _, ?_⟩
    rw [← hs, List.take_length]
    exact hq
theorem Same.upd {H : Hp} {p : Addr} {o : HO} (h : H p = none) : Same H (L2.upd H p o) := fun a u e => by rw [upd_ne (ne_of_none e h)]; exact e
theorem Same.upd' {H H1 : Hp} {p : Addr} {o : HO} (x : Same H H1) (h : H1 p = none) : Same H (L2.upd H1 p o) := x.trans (Rd.Same.upd h)
end Rd
namespace Rd
open PySem L2
theorem seqAsg {te : TE} {g : TG} {u : TS} {D : Ends} {σ : St} {H : Hp} (h : te σ H fun x H1 => g x σ H1 (u D)) : tSeq (tAsg te g) u D σ H := h
theorem gName_k {i : Nat} {v : V} {σ : St} {H : Hp} {R : St → Hp → Prop} (h : R (σ.set i (some v)) H) : gName i v σ H R := h
theorem asgNx {te : TE} {g : TG} {D : Ends} {σ : St} {H : Hp} (h : te σ H fun x H1 => g x σ H1 D.nx) : tAsg te g D σ H := h
end Rd
namespace Rd
open PySem L2
/-- a test that answers b, the heap may grow -/
def TB (t : TT) (σ : St) (H : Hp) (b : Bool) : Prop := ∀ Q : Bool → Hp → Prop, (∀ H', Same H H' → Q b H') → t σ H Q
theorem tb_and {t u : TT} {σ : St} {H : Hp} {b c : Bool} (h1 : TB t σ H b) (h2 : ∀ H', Same H H' → b = true → TB u σ H' c) : TB (tAnd t u) σ H (b && c) := fun Q k => h1 _ fun H' s => by
  cases b with
  | true => exact h2 H' s rfl Q fun H2 s2 => k H2 (s.trans s2)
  | false => exact k H' s
theorem tb_or {t u : TT} {σ : St} {H : Hp} {b c : Bool} (h1 : TB t σ H b) (h2 : ∀ H', Same H H' → b = false → TB u σ H' c) : TB (tOr t u) σ H (b || c) := fun Q k => h1 _ fun H' s => by
  cases b with
  | true => exact k H' s
  | false => exact h2 H' s rfl Q fun H2 s2 => k H2 (s.trans s2)
theorem tb_not {t : TT} {σ : St} {H : Hp} {b : Bool} (h1 : TB t σ H b) : TB (tNot t) σ H (!b) := fun Q k => h1 _ fun H' s => k H' s
theorem seqIf {c : TT} {t u v : TS} {D : Ends} {σ : St} {H : Hp} {b : Bool} (hc : TB c σ H b) (k : ∀ H', Same H H' → if b = true then t { D with nx := v D } σ H' else u { D with nx := v D } σ H') : tSeq (tIfS c t u) v D σ H := hc _ k
theorem oneIf {c : TT} {t u : TS} {D : Ends} {σ : St} {H : Hp} {b : Bool} (hc : TB c σ H b) (k : ∀ H', Same H H' → if b = true then t D σ H' else u D σ H') : tIfS c t u D σ H := hc _ k
end Rd
namespace Rd
open PySem L2
theorem nxt {D : Ends} {σ : St} {H : Hp} (h : D.nx σ H) : tNext D σ H := h
end Rd
namespace Rd
open PySem L2
/-- C0.__init__ read off the class C0 -/
structure REx (K : PySem.W.Frag) (C0 : Addr) : Prop where
  sga : PySem.W.specialIn K (.ref C0) "__getattribute__" = some (some (.builtin "type.__getattribute__"))
  ty : PySem.W.typeIn K (.ref C0) = some (.type "type")
  rd : PySem.W.readsIn K C0 (.type "type") = true
  fc : PySem.W.findCls K (.ref C0) (.type "type") "__init__" = some (.val (.builtin "ValueError.__init__"))
def rexB (K : PySem.W.Frag) (x : Str) : Bool := He.eqO (PySem.W.specialIn K (.ref (He.ga K x)) "__getattribute__") (some (some (.builtin "type.__getattribute__"))) && (decide (PySem.W.typeIn K (.ref (He.ga K x)) = some (.type "type")) && (PySem.W.readsIn K (He.ga K x) (.type "type") &&
  (match PySem.W.findCls K (.ref (He.ga K x)) (.type "type") "__init__" with
    | some (.val (.builtin n)) => decide (n = "ValueError.__init__")
    | _ => false)))
theorem rexB_ok {K : PySem.W.Frag} {x : Str} (h : rexB K x = true) : REx K (He.ga K x) := by
  obtain ⟨h1, h⟩ := He.ba h
  obtain ⟨h2, h⟩ := He.ba h
  obtain ⟨h3, h4⟩ := He.ba h
  refine ⟨He.eqO_ok h1, of_decide_eq_true h2, h3, ?_⟩
  split at h4
  · rename_i n e
    rw [e, of_decide_eq_true h4]
  · cases h4
section
variable {X : Cx} {e : Expr} {es : List Expr} {ta : TA} {p1 p2 pos : Pos}
theorem pe_reinit {pl : Sem Bool} {x : Str} {C0 : Addr} (hg : Gl X x) (hm : X.mg x = some (.ref C0)) (R0 : REx X.K C0) (ha : PA X (e :: es) ta) (hd : (x == ("__debug__" : Str)) = false := by decide)
    (hc : eval (.Call (.Attribute (.Name x p1) "__init__" p2) (e :: es) [] pos) X.env = (do
      let ov ← eval (.Name x p1) X.env
      standAt p2.atName
      let (f, first) ← holding [ov] (getMethod ov "__init__" pl)
      callWith pos f first (backTo pos (starEach (e :: es) X.env)) (backToKw pos (keywordEach [] X.env))) := by rfl)
    (he : starEach (e :: es) X.env = (false, eval e X.env) :: starEach es X.env := by rfl) (hpl : (backTo pos (starEach es X.env)).any (·.1) = false := by rfl) :
    PE X (.Call (.Attribute (.Name x p1) "__init__" p2) (e :: es) [] pos) (tVeI X.K ta) := by
  refine ⟨fun pins s σ H Q I h => ?_⟩
  refine PySem.W.methodCall_KW (ld_glob I hg hm ?_ hd) hc
  obtain ⟨m, fr⟩ := I.fr
  refine PySem.W.method_of_cls fr I.ok.mod.kin R0.sga (PySem.W.cls_val fr I.ok.mod.kin R0.ty R0.rd R0.fc (by decide +kernel) ?_)
  show wpAny _ _ (callWith pos (Value.builtin "ValueError.__init__") [] (backTo pos (starEach (e :: es) X.env)) []) _ _ _
  refine PyProof.Rows.callWith_method1 (thn (ha.run pos pins _ σ H _ (I.tok _) h) fun us s1 ⟨vs, H1, I1, r1, a, C, ws, ev, hl, T, ea, q⟩ => ?_) he hpl
  subst ev
  cases r1 with
  | @cons _ u0 _ ur ra rw' =>
    obtain rfl : u0 = Value.ref a := ra
    have hlen : ur.length ≤ sizeLine := by
      rw [← Paired.length rw', sizeLine_eq]
      omega
    exact oinit_ok T I1 ea hlen fun s' J => ⟨.non, H1, J, rfl, q⟩
end
/-- the __init__ of an exception with one field -/
def spX1 (K : PySem.W.Frag) (f : Str) : Sp := fun vs H Q _ => ∃ (a C : Addr) (v : V), vs = [.ref a, v] ∧ OexC K C ∧ PySem.W.findIn K (.ref C) f = some none ∧ H a = some (exo a C none) ∧
  ∀ dx, H dx = none → dx ≠ a → Q .non (upd (upd H dx (exd dx [(f, v)])) a (exo a C (some dx)))
/-- reading a raise of such an exception, behind its argument -/
theorem rd_raise1 {K : PySem.W.Frag} {C : Addr} {f : Str} {v : V} {H1 : Hp} {R : XK} (T : OexC K C) (no : PySem.W.findIn K (.ref C) f = some none)
    (k : ∀ d H', Same H1 H' → H1 d = none → H' d = some (.xd [(f, v)]) → R (.ref C) (some d) H') :
    ([v] : List V).length ≤ 1000 ∧ ∀ a, H1 a = none → spX1 K f (.ref a :: ([v] ++ [])) (upd H1 a (exo a C none)) (fun v' H2 => v' = .non ∧ ∃ (d : Addr) (fs : List (Str × V)), H2 a = some (exo a C (some d)) ∧ H2 d = some (exd d fs) ∧ H1 d = none ∧ R (.ref C) (some d) (upd (del H2 a) d (.xd fs))) (fun _ _ _ => False) := by
  refine ⟨by show 1 ≤ 1000; decide, fun a ha => ⟨a, C, v, rfl, T, no, upd_same, fun dx hdx ne => ⟨rfl, dx, [(f, v)], upd_same, ?_, ?_, ?_⟩⟩⟩
  · rw [upd_ne ne, upd_same]
  · rw [upd_ne ne] at hdx
    exact hdx
  · rw [upd_ne ne] at hdx
    refine k dx _ (fun b o e => ?_) hdx upd_same
    rw [upd_ne (ne_of_none e hdx), del_ne (ne_of_none e ha), upd_ne (ne_of_none e ha), upd_ne (ne_of_none e hdx), upd_ne (ne_of_none e ha)]
    exact e
structure Mh (K : PySem.W.Frag) (c m q : Str) (st : Stmt) : Prop where
  ex : ∃ fd, FunD K m q (defArgs st) (defBody st) (defScope st) [] [] (He.ma K (He.ga K c) m) fd
  me : Meth K (He.ga K c) m (He.ma K (He.ga K c) m)
structure Fm (P : Program) (w : World) (K : PySem.W.Frag) (mg : Str → Option Value) (base : Heap) (CX : CXT) (k : Nat) (c m : Str) (ps : List Str) (sp : Sp) : Prop where
  ex : ∃ fd, FnOk P w K mg base CX k (He.ma K (He.ga K c) m) fd ps sp ∧ Binds K fd ps []
  me : Meth K (He.ga K c) m (He.ma K (He.ga K c) m)
section
variable {P : Program} {w : World} {K : PySem.W.Frag} {mg : Str → Option Value} {base : Heap} {CX : CXT} {k : Nat} {c m q : Str} {ps N : List Str} {sp : Sp} {st : Stmt}
theorem Mh.ok (F : Mh K c m q st) (S : FnScope N ps (defScope st))
    (hb : ∀ (kV doc pm : Value) (an : Option Addr) (cdv ct : Value) (us : List Value), us.length = ps.length → bindArgs (PySem.W.fnOf m q (defArgs st) (defBody st) (defScope st) .none kV doc pm an cdv ct) ⟨us, []⟩ = pure (ps.zip us))
    (len : ∀ vs H Q E, sp vs H Q E → vs.length = ps.length)
    (hbody : ∀ (cdv : Value) (A : Around) (outer : List Env) (s : Shared) (H : Hp) (vs : List V) (Q : VK) (E : XK), Room k (A.deeper (PyProof.Rows.envOfC q (defScope st) s.heap.objs.size (He.ma K (He.ga K c) m) cdv)) → sp vs H Q E →
      ∃ t, PSs (cxOf CX P w K mg base N q (defScope st) (He.ma K (He.ga K c) m) cdv A outer s H E) (defBody st) t ∧ t { nx := fun _ H' => Q .non H', rt := Q } (start N vs) H) : Fm P w K mg base CX (k + 1) c m ps sp := by
  obtain ⟨fd, F'⟩ := F.ex
  exact ⟨⟨fd, F'.ok S len hbody, F'.bindsN hb⟩, F.me⟩
theorem Mh.ok0 (F : Mh K c m q st) (S : FnScope N ps (defScope st))
    (hb : ∀ (kV doc pm : Value) (an : Option Addr) (cdv ct : Value) (us : List Value), us.length = ps.length → bindArgs (PySem.W.fnOf m q (defArgs st) (defBody st) (defScope st) .none kV doc pm an cdv ct) ⟨us, []⟩ = pure (ps.zip us))
    (len : ∀ vs H Q E, sp vs H Q E → vs.length = ps.length)
    (hbody : ∀ (cdv : Value) (A : Around) (outer : List Env) (s : Shared) (H : Hp) (vs : List V) (Q : VK) (E : XK), Room k (A.deeper (PyProof.Rows.envOfC q (defScope st) s.heap.objs.size (He.ma K (He.ga K c) m) cdv)) → sp vs H Q E →
      ∃ t, PSs (cxOf CX0 P w K mg base N q (defScope st) (He.ma K (He.ga K c) m) cdv A outer s H E).nox (defBody st) t ∧ t { nx := fun _ H' => Q .non H', rt := Q } (start N vs) H) : Fm P w K mg base CX0 (k + 1) c m ps sp :=
  F.ok S hb len fun cdv A outer s H vs Q E hr h => by
    obtain ⟨t, h1, h2⟩ := hbody cdv A outer s H vs Q E hr h
    exact ⟨t, h1.nox, h2⟩
end
section
variable {X : Cx} {CX : CXT} {k : Nat} {ps : List Str} {sp : Sp} {E : XK} {x c m : Str} {p pos apos : Pos} {e o : Expr} {es : List Expr} {t : TA} {ta : TE}
theorem pe_fm0 {pl : Sem Bool} (he : PE X o ta) (cl : Cls X.K (He.ga X.K c)) (F : Fm X.prog X.w X.K X.mg X.base CX k c m ps sp) (hr : Room k X.A) (hx : Passes CX X E)
    (ht : eval (.Call (.Attribute o m apos) [] [] pos) X.env = (do
      let ov ← eval o X.env
      standAt apos.atName
      let (f, first) ← holding [ov] (getMethod ov m pl)
      callWith pos f first (backTo pos (starEach [] X.env)) (backToKw pos (keywordEach [] X.env))) := by rfl) :
    PE X (.Call (.Attribute o m apos) [] [] pos) (tMeth (He.ga X.K c) m sp [] E ta tNil) := by
  obtain ⟨⟨fd, a, b⟩, me⟩ := F
  exact pe_meth0 he cl me a hr b .nil hx ht
end
structure Xh (K : PySem.W.Frag) (mg : Str → Option Value) (x f q : Str) (st : Stmt) : Prop where
  g : mg x = some (.ref (He.ga K x))
  oex : OexC K (He.ga K x)
  no : PySem.W.findIn K (.ref (He.ga K x)) f = some none
  init : Mh K x "__init__" q st
  xf : XfC K (He.ga K x)
  em : PySem.W.exmOne K (.ref (He.ga K x)) (.ref (He.ga K x)) = some true
structure Ih (K : PySem.W.Frag) (mg : Str → Option Value) (c q : Str) (st : Stmt) (dvs : List V) : Prop where
  ex : ∃ fd, FunD K "__init__" q (defArgs st) (defBody st) (defScope st) dvs [] (He.ma K (He.ga K c) "__init__") fd
  mkr : Mk K (He.ga K c) (He.ma K (He.ga K c) "__init__")
  g : mg c = some (.ref (He.ga K c))
  cl : Cls K (He.ga K c)
structure Fi (P : Program) (w : World) (K : PySem.W.Frag) (mg : Str → Option Value) (base : Heap) (CX : CXT) (k : Nat) (c : Str) (ps : List Str) (sp : Sp) (v : V) : Prop where
  ex : ∃ fd, FnOk P w K mg base CX k (He.ma K (He.ga K c) "__init__") fd ps sp ∧ Binds K fd ps [] ∧ ∃ ds, Vals [v] ds ∧ Binds K fd ps ds
  mkr : Mk K (He.ga K c) (He.ma K (He.ga K c) "__init__")
  g : mg c = some (.ref (He.ga K c))
section
variable {P : Program} {w : World} {K : PySem.W.Frag} {mg : Str → Option Value} {base : Heap} {CX : CXT} {k : Nat} {c q : Str} {ps N : List Str} {sp : Sp} {st : Stmt} {v : V}
theorem Ih.ok {n : Nat} (F : Ih K mg c q st [v]) (S : FnScope N ps (defScope st)) (hn : ps.length = n + 1)
    (hb1 : ∀ (T : Addr) (kV doc pm : Value) (an : Option Addr) (cdv ct : Value) (us its : List Value), us.length = n → its.length = 1 →
      ∃ k, bindArgs (PySem.W.fnOf "__init__" q (defArgs st) (defBody st) (defScope st) (.ref T) kV doc pm an cdv ct) ⟨us, []⟩ = seqItems? (.ref T) >>= k ∧ k (some its.toArray) = pure (ps.zip (us ++ its.drop 0)))
    (hb2 : ∀ (T : Addr) (kV doc pm : Value) (an : Option Addr) (cdv ct : Value) (us its : List Value), us.length = n + 1 → its.length = 1 →
      ∃ k, bindArgs (PySem.W.fnOf "__init__" q (defArgs st) (defBody st) (defScope st) (.ref T) kV doc pm an cdv ct) ⟨us, []⟩ = seqItems? (.ref T) >>= k ∧ k (some its.toArray) = pure (ps.zip (us ++ its.drop 1)))
    (len : ∀ vs H Q E, sp vs H Q E → vs.length = ps.length)
    (hbody : ∀ (cdv : Value) (A : Around) (outer : List Env) (s : Shared) (H : Hp) (vs : List V) (Q : VK) (E : XK), Room k (A.deeper (PyProof.Rows.envOfC q (defScope st) s.heap.objs.size (He.ma K (He.ga K c) "__init__") cdv)) → sp vs H Q E →
      ∃ t, PSs (cxOf CX P w K mg base N q (defScope st) (He.ma K (He.ga K c) "__init__") cdv A outer s H E) (defBody st) t ∧ t { nx := fun _ H' => Q .non H', rt := Q } (start N vs) H) : Fi P w K mg base CX (k + 1) c ps sp v := by
  obtain ⟨fd, F'⟩ := F.ex
  have b1 := F'.binds1 (ps := ps) n 0 (List.cons_ne_nil _ _) (by rw [hn]; rfl) hb1
  obtain ⟨ds, e, b2⟩ := F'.binds1 (ps := ps) (n + 1) 1 (List.cons_ne_nil _ _) (by rw [hn]; rfl) hb2
  cases e
  exact ⟨⟨fd, F'.ok S len hbody, b2, b1⟩, F.mkr, F.g⟩
end
section
variable {X : Cx} {CX : CXT} {k : Nat} {ps : List Str} {sp : Sp} {E : XK} {c : Str} {p pos : Pos} {e : Expr} {es : List Expr} {t : TA} {v : V}
/-- C(.., ..), every argument written -/
theorem pe_mk2 (F : Fi X.prog X.w X.K X.mg X.base CX k c ps sp v) (hr : Room (k + 1) X.A) (hg : Gl X c) (hx : Passes CX X E)
    (ha : PA X (e :: es) t) (hdb : (c == ("__debug__" : Str)) = false := by decide) (he : starEach (e :: es) X.env = (false, eval e X.env) :: starEach es X.env := by rfl) (hpl : (backTo pos (starEach es X.env)).any (·.1) = false := by rfl) :
    PE X (.Call (.Name c p) (e :: es) [] pos) (tMake (He.ga X.K c) sp [] E t) := by
  obtain ⟨⟨fd, a, b, _⟩, M, g⟩ := F
  exact pe_make M a hr hg g b .nil hx ha hdb he hpl
end
end Rd
namespace Rd
open PySem L2
def frY (n : Nat) (g : Addr → Option Obj) : PySem.W.Frag := He.frG g (cStatics :: He.asD g n)
abbrev AlY : Type := He.AlT × Bool
structure SaysY (fa : List He.Fa) (fn : List He.DefD) (ts : List He.Tab) (ex : PySem.W.Frag → Bool) (w : World) (K : PySem.W.Frag) : Prop where
  t : He.SaysT fa fn ts w K
  more : ex K = true
def obsY (n : Nat) (fa : List He.Fa) (fn : List He.DefD) (ts : List He.Tab) (ex : PySem.W.Frag → Bool) (g : Addr → Option Obj) : AlY := (He.obsT fa fn ts (frY n g), ex (frY n g))
def valY (fn : List He.DefD) (ts : List He.Tab) (w : World) : AlY := (He.valT fn ts w, true)
end Rd
namespace Rd
open PySem L2
structure Kd (w : World) (K : PySem.W.Frag) (mg : Str → Option Value) (x : Str) (kvs : List (Str × Int)) : Prop where
  g : mg x = some (.ref (He.ga K x))
  kd : ∃ es n, KDict K w (He.ga K x) es n
  no : ∀ z, z ∉ kvs.map (·.1) → PySem.W.nsIn K (He.ga K x) z = some none
  ys : ∀ p ∈ kvs, ∃ t, PySem.W.nsIn K (He.ga K x) p.1 = some (some (.int p.2 t))
def kdB (K : PySem.W.Frag) (a : Addr) (kvs : List (Str × Int)) : Bool := (match K.lookup a with
  | some ⟨_, _, .dict es _, _⟩ => es.toList.all fun e => (match e.key with
    | .str x _ => (kvs.map (·.1)).contains x
    | _ => false)
  | _ => false) && kvs.all fun p => (match PySem.W.nsIn K a p.1 with
    | some (some (.int i _)) => decide (i = p.2)
    | _ => false)
theorem kd_ok {w : World} {K : PySem.W.Frag} {mg : Str → Option Value} {x : Str} {kvs : List (Str × Int)} (g : mg x = some (.ref (He.ga K x))) (kd : ∃ es n, KDict K w (He.ga K x) es n) (h : kdB K (He.ga K x) kvs = true) : Kd w K mg x kvs := by
  obtain ⟨h1, h2⟩ := He.ba h
  refine ⟨g, kd, fun z hz => ?_, fun p hp => ?_⟩
  · obtain ⟨es, n, D⟩ := kd
    rw [D.at_] at h1
    have h3 : es.toList.all (fun e => (match e.key with
      | .str x _ => (kvs.map (·.1)).contains x
      | _ => false)) = true := h1
    have h4 := List.all_eq_true.mp h3
    unfold PySem.W.nsIn
    rw [D.at_]
    have e1 : es.toList.find? (·.key.isStr z) = none := by
      rw [List.find?_eq_none]
      intro e he q
      have h5 := h4 e he
      cases ek : e.key with
      | str y t =>
        rw [ek] at h5 q
        have e2 : y = z := eq_of_beq q
        subst e2
        exact hz (List.contains_iff_mem.mp h5)
      | _ =>
        rw [ek] at h5
        cases h5
    have e2 : es.toList.any (·.refKey) = false := by
      rw [List.any_eq_false]
      intro e he q
      have h5 := h4 e he
      unfold DictEntry.refKey at q
      cases ek : e.key with
      | str y t =>
        rw [ek] at q
        cases q
      | _ =>
        rw [ek] at h5
        cases h5
    show (match es.toList.find? (·.key.isStr z) with
      | some e => some (some e.val)
      | none => if es.toList.any (·.refKey) then none else some none) = some none
    rw [e1, e2]
    rfl
  · have h3 := List.all_eq_true.mp h2 p hp
    split at h3
    · rename_i i t e
      rw [e]
      exact ⟨t, by rw [of_decide_eq_true h3]⟩
    · cases h3
section
variable {X : Cx} {x : Str} {kvs : List (Str × Int)} {pos : Pos}
theorem pe_kd (D : Kd X.w X.K X.mg x kvs) (hg : Gl X x := by rfl) (hd : (x == ("__debug__" : Str)) = false := by decide) : PE X (.Name x pos) (tC (.ref (He.ga X.K x))) := pe_glob hg D.g rfl hd
def rInK (K : PySem.W.Frag) (x : Str) (kvs : List (Str × Int)) : R2 := fun a b H Q => ∃ z, a = .str z ∧ b = .ref (He.ga K x) ∧ Q (.bl (decide (z ∈ kvs.map (·.1)))) H
def rNotInK (K : PySem.W.Frag) (x : Str) (kvs : List (Str × Int)) : R2 := fun a b H Q => ∃ z, a = .str z ∧ b = .ref (He.ga K x) ∧ Q (.bl (!decide (z ∈ kvs.map (·.1)))) H
theorem Kd.look {w : World} {K : PySem.W.Frag} {mg : Str → Option Value} (D : Kd w K mg x kvs) (z : Str) : ∃ r, PySem.W.nsIn K (He.ga K x) z = some r ∧ r.isSome = decide (z ∈ kvs.map (·.1)) := by
  by_cases h : z ∈ kvs.map (·.1)
  · obtain ⟨p, hp, rfl⟩ := List.mem_map.mp h
    obtain ⟨t, e⟩ := D.ys p hp
    exact ⟨_, e, by rw [decide_eq_true h]; rfl⟩
  · exact ⟨_, D.no z h, by rw [decide_eq_false h]; rfl⟩
theorem op_inK (D : Kd X.w X.K X.mg x kvs) : OpR X (compareOp .In) (rInK X.K x kvs) := by
  intro pins s σ H a b v u Q I ra rb h
  obtain ⟨z, rfl, rfl, q⟩ := h
  obtain ⟨es, n, kd⟩ := D.kd
  obtain ⟨r, e1, e2⟩ := D.look z
  exact op_in_kd kd pins s σ H _ _ v u Q I ra rb ⟨z, r, rfl, rfl, e1, by rw [e2]; exact q⟩
theorem op_notInK (D : Kd X.w X.K X.mg x kvs) : OpR X (compareOp .NotIn) (rNotInK X.K x kvs) := by
  intro pins s σ H a b v u Q I ra rb h
  obtain ⟨z, rfl, rfl, q⟩ := h
  obtain ⟨es, n, kd⟩ := D.kd
  obtain ⟨r, e1, e2⟩ := D.look z
  exact op_notIn_kd kd pins s σ H _ _ v u Q I ra rb ⟨z, r, rfl, rfl, e1, by rw [e2]; exact q⟩
def rIxK (K : PySem.W.Frag) (x : Str) (kvs : List (Str × Int)) : R2 := fun a b H Q => ∃ p ∈ kvs, a = .ref (He.ga K x) ∧ b = .str p.1 ∧ Q (.int p.2) H
theorem ix_K (D : Kd X.w X.K X.mg x kvs) : IxR X (rIxK X.K x kvs) := by
  intro value slice pins s σ H a b v u Q I ra rb h hs
  obtain ⟨p, hp, rfl, rfl, q⟩ := h
  obtain ⟨es, n, kd⟩ := D.kd
  obtain ⟨t, e⟩ := D.ys p hp
  exact ix_kdict value slice pins s σ H _ _ v u Q I ra rb ⟨_, _, V.int p.2, rfl, rfl, ⟨es, n, _, kd.at_, kd.lit, e, ⟨t, rfl⟩⟩, q⟩ hs
end
end Rd
namespace Rd
open PySem L2
def tMethS (C : Addr) (m : Str) (sp : Sp) (E : St → XK) (ta : TE) (t : TA) : TE := fun σ H Q => ta σ H fun x H1 => ∃ a dx fs, x = .ref a ∧ H1 a = some (.ins C dx fs) ∧ fs.lookup m = none ∧
  t σ H1 fun vs H2 => sp (x :: vs) H2 Q (E σ)
end Rd
namespace Rd
open PySem L2
theorem at0 {X : Cx} {σ : St} : PassesAt CX0 X σ E0 := fun _ _ _ _ _ _ h => h.elim
end Rd
namespace Rd
open PySem L2
theorem in_strs (z : Str) : ∀ l : List Str, inV (.str z) (l.map V.str) = decide (z ∈ l)
  | [] => by simp [inV]
  | a :: r => by
    have ih := in_strs z r
    unfold inV at ih ⊢
    rw [List.map_cons, List.any_cons, ih]
    show ((a == z) || _) = _
    by_cases h : a = z
    · subst h
      simp
    · have e : (a == z) = false := by simpa using h
      rw [e, Bool.false_or]
      have h' : z ≠ a := fun q => h q.symm
      simp [h']
theorem flat_strs : ∀ l : List Str, (l.map V.str).all flatV = true
  | [] => rfl
  | a :: r => by rw [List.map_cons, List.all_cons, flat_strs r]; rfl
section
variable {X : Cx}
def rInT (K : PySem.W.Frag) : R2 := fun x y H Q => ∃ (z : Str) (p : Addr) (l : List Str), x = .str z ∧ y = .ref p ∧ SqT K H p (l.map V.str) ∧ Q (.bl (decide (z ∈ l))) H
def rNotInT (K : PySem.W.Frag) : R2 := fun x y H Q => ∃ (z : Str) (p : Addr) (l : List Str), x = .str z ∧ y = .ref p ∧ SqT K H p (l.map V.str) ∧ Q (.bl (!decide (z ∈ l))) H
theorem op_inT : OpR X (compareOp .In) (rInT X.K) := by
  intro pins s σ H x y v u Q I rx ry h
  obtain ⟨z, p, l, rfl, rfl, hs, q⟩ := h
  exact op_in_seq pins s σ H _ _ v u Q I rx ry ⟨p, _, rfl, .inr hs, rfl, flat_strs l, by show Q (.bl (inV _ _)) H; rw [in_strs]; exact q⟩
theorem op_notInT : OpR X (compareOp .NotIn) (rNotInT X.K) := by
  intro pins s σ H x y v u Q I rx ry h
  obtain ⟨z, p, l, rfl, rfl, hs, q⟩ := h
  exact op_notIn_seq pins s σ H _ _ v u Q I rx ry ⟨p, _, rfl, .inr hs, rfl, flat_strs l, by show Q (.bl (!inV _ _)) H; rw [in_strs]; exact q⟩
end
end Rd
namespace Rd
open PySem L2
theorem passN {X : Cx} : Passes (L2N.CX X.prog X.w) X E0 := fun _ _ _ _ _ _ _ h => by
  obtain ⟨_, _, _, _, _, _, _, _, _, _, _, _, z⟩ := h
  exact z.elim
theorem atN {X : Cx} {σ : St} : PassesAt (L2N.CX X.prog X.w) X σ E0 := fun _ _ _ _ _ I h => passN _ _ _ _ _ _ I h
theorem takes0N {X : Cx} : L2N.Takes X (fun _ _ _ _ => False) := fun _ _ x => by
  obtain ⟨_, _, _, _, _, _, _, _, _, _, _, _, _, _, _, _, z⟩ := x
  exact z.elim
section
variable {X : Cx} {k : Nat} {x f c m : Str} {p pos apos : Pos} {e o : Expr} {te : TE} {ta : TA} {ps : List Str} {sp : Sp} {CX : CXT} {to : TE}
theorem pmk_xN {es : List Expr} {q : Str} {st : Stmt} (T : Xh X.K X.mg x f q st) (Fq : Fm X.prog X.w X.K X.mg X.base CX0 k x "__init__" ps sp) (hr : Room (k + 1) X.A) (hg : Gl X x) (ha : PA X (e :: es) ta)
    (hdb : (x == ("__debug__" : Str)) = false := by decide) (he : starEach (e :: es) X.env = (false, eval e X.env) :: starEach es X.env := by rfl) (hpl : (backTo pos (starEach es X.env)).any (·.1) = false := by rfl) :
    L2N.PMk X (.Call (.Name x p) (e :: es) [] pos) (tMkO (He.ga X.K x) sp [] ta) := by
  obtain ⟨⟨fd, F1, hb⟩, me⟩ := Fq
  intro pins s σ H Q I h
  obtain ⟨nm, q', N, bs, bm, sn, sub, ab, col, dd, k0, k1, k2, k3, k5, hC, hbm⟩ := T.oex.cls
  refine wpAny_Call_Name_kw (ld_glob I hg T.g ?_ hdb)
  refine PySem.W.callWith_K (h₀ := X.base) I.ok.mod.kin T.oex.kC (thn (ha.run pos pins s σ H _ I h) fun us s1 ⟨vs, H1, I1, r1, hz, q1⟩ => ⟨I1.kIn, ?_⟩) he hpl
  show wpAny _ _ (call (.ref (He.ga X.K x)) us) _ _ _
  obtain ⟨hp, g, dr, tk, os⟩ := s1
  have hsz : hp.objs.size ≤ hp.objs.size + 1 := Nat.le_succ _
  have hn : H1 (hp.objs.size + 1) = none := I1.hok.fresh hsz
  have hq := q1 (hp.objs.size + 1) hn
  rw [List.append_nil] at hq
  have kk : ∀ b o, hp.get? b = some o → ((hp.push (PySem.W.kdv_tup us)).push (PySem.HandSPX.excO (He.ga X.K x) hp.objs.size)).get? b = some o := fun b o e => Heap.get?_push_of_some _ (Heap.get?_push_of_some _ e)
  have hget : ((hp.push (PySem.W.kdv_tup us)).push (PySem.HandSPX.excO (He.ga X.K x) hp.objs.size)).get? (hp.objs.size + 1) = some (PySem.HandSPX.excO (He.ga X.K x) hp.objs.size) := by heap_get
  have I2 : Inv X pins σ (upd H1 (hp.objs.size + 1) (exo (hp.objs.size + 1) (He.ga X.K x) none)) ⟨(hp.push (PySem.W.kdv_tup us)).push (PySem.HandSPX.excO (He.ga X.K x) hp.objs.size), g, dr, tk, os⟩ :=
    I1.laid (t' := tk) (a := hp.objs.size + 1) (o := exo (hp.objs.size + 1) (He.ga X.K x) none) (h' := (hp.push (PySem.W.kdv_tup us)).push (PySem.HandSPX.excO (He.ga X.K x) hp.objs.size)) kk hsz (exo_ok hget)
  have r2 : Vals (V.ref (hp.objs.size + 1) :: vs) (Value.ref (hp.objs.size + 1) :: us) := .cons rfl r1
  have hl : (Value.ref (hp.objs.size + 1) :: us).length = ps.length := by
    have e := r2.length
    rw [F1.len _ _ _ _ hq] at e
    exact e.symm
  have hus : us.length ≤ sizeLine := by
    rw [← Paired.length r1, sizeLine_eq]
    omega
  have hbt := hb ⟨(hp.push (PySem.W.kdv_tup us)).push (PySem.HandSPX.excO (He.ga X.K x) hp.objs.size), g, dr, tk, os⟩ (Value.ref (hp.objs.size + 1) :: us) I2.kIn (by rw [List.append_nil]; exact hl)
  rw [List.append_nil] at hbt
  refine wpAny_call (PySem.HandSPX.call_own PySem.F.excBase_ValueError (fun Y => PySem.HandSPX.refsVE_contains Y bm hbm) (I1.kIn _ _ hC) (PySem.W.looks_findIn I1.kIn me.at_) (fun self => PySem.W.bind_fn I1.kIn self (beq_iff_eq.mp me.fn)) hus
    (codeAny_mono (F1.run _ X.stack _ _ ⟨Value.ref (hp.objs.size + 1) :: us, []⟩ (Value.ref (hp.objs.size + 1) :: us) _ _ (fun _ _ _ => False) (hr.make (He.ga X.K x) us []) (I2.env0.make (He.ga X.K x) us []) hbt r2 hq) fun r s' hq' => ?_))
  cases r with
  | error er => exact hq'.elim
  | ok fl =>
    cases fl with
    | ret u =>
      obtain ⟨v, H2, os2, bare2, un2, hok2, rv, ev, d, fs, ea, ed, hd1, q2⟩ := hq'
      subst ev
      obtain ⟨h2, g2, d2, t2, os'⟩ := s'
      obtain ⟨t0, G, J, kG, ge, hoe, na⟩ := mk_end0 (d2 := d2) (t2 := t2) I1 hsz kk un2 hok2 os2 bare2 ea ed hd1
      exact ⟨rv, _, _, _, ⟨G, g2, d2, t2, os'⟩, _, .ref (He.ga X.K x), some d, rfl, J, kG, ge, hoe, ⟨rfl, rfl, fun vs e => by cases e; rfl⟩, rfl, rfl, na, rfl, bare2, raises_own T.oex.exC T.oex.tyC, q2⟩
    | next => exact False.elim hq'
    | brk => exact False.elim hq'
    | cont => exact False.elim hq'
end
end Rd
namespace Rd
open PySem L2
structure IsiC (K : PySem.W.Frag) (C : Addr) : Prop where
  ha : PySem.W.findIn K (.ref C) "__class__" = some (some (.builtin "object.__class__"))
  hn : PySem.W.specialIn K (.builtin "object.__class__") "__get__" = some (some (.builtin "getset_descriptor.__get__"))
  htk : PySem.W.takesIn K (.builtin "object.__class__") = some true
  hm : PySem.W.mroIn K C (.type "object") = some true
  ne : PySem.W.findIn K (.ref C) "__ne__" = some (some (.builtin "object.__ne__"))
theorem IsiC.ty {K : PySem.W.Frag} {C : Addr} (h : IsiC K C) (cl : Cls K C) {H : Hp} {a dx : Addr} {fs : List (Str × V)} (e : H a = some (.ins C dx fs)) : TyX K H (.ref a) (.ref C) := .base (.ins e cl h.ha h.hn h.htk h.hm)
theorem pe_gcls {X : Cx} {x : Str} {pos : Pos} (hg : Gl X x) (hm : X.mg x = some (.ref (He.ga X.K x))) (hd : (x == ("__debug__" : Str)) = false := by decide) : PE X (.Name x pos) (tC (.ref (He.ga X.K x))) := pe_glob hg hm rfl hd
end Rd
namespace Rd
open PySem L2
def sfn (K : PySem.W.Frag) (c m : Str) : Addr := He5.wf K (He.ga K c) "staticmethod" m
structure Sh (K : PySem.W.Frag) (mg : Str → Option Value) (c m q : Str) (st : Stmt) : Prop where
  ex : ∃ fd, FunD K m q (defArgs st) (defBody st) (defScope st) [] [] (sfn K c m) fd
  g : mg c = some (.ref (He.ga K c))
  at_ : PySem.W.findCls K (.ref (He.ga K c)) (.type "type") m = some (.get (.builtin "staticmethod.__get__") (.ref (He.ma K (He.ga K c) m)) .none (.ref (He.ga K c)))
  rc : ∃ rest, PySem.W.recIn K (He.ma K (He.ga K c) m) "staticmethod" = some (.ref (sfn K c m) :: rest)
  sga : PySem.W.specialIn K (.ref (He.ga K c)) "__getattribute__" = some (some (.builtin "type.__getattribute__"))
  ty : PySem.W.typeIn K (.ref (He.ga K c)) = some (.type "type")
  rd : PySem.W.readsIn K (He.ga K c) (.type "type") = true
def statB (K : PySem.W.Frag) (c m : Str) : Bool := He5.wrapB K (He.ga K c) "staticmethod" "staticmethod.__get__" m && (He.eqO (PySem.W.specialIn K (.ref (He.ga K c)) "__getattribute__") (some (some (.builtin "type.__getattribute__"))) &&
  (decide (PySem.W.typeIn K (.ref (He.ga K c)) = some (.type "type")) && PySem.W.readsIn K (He.ga K c) (.type "type")))
theorem sh_ok {K : PySem.W.Frag} {mg : Str → Option Value} {c m q : Str} {st : Stmt} (ex : ∃ fd, FunD K m q (defArgs st) (defBody st) (defScope st) [] [] (sfn K c m) fd) (g : mg c = some (.ref (He.ga K c))) (h : statB K c m = true) : Sh K mg c m q st := by
  obtain ⟨h1, h⟩ := He.ba h
  obtain ⟨h2, h⟩ := He.ba h
  obtain ⟨h3, h4⟩ := He.ba h
  obtain ⟨a, b⟩ := He5.wrapB_ok h1
  exact ⟨ex, g, a, b, He.eqO_ok h2, of_decide_eq_true h3, h4⟩
structure Fs (P : Program) (w : World) (K : PySem.W.Frag) (mg : Str → Option Value) (base : Heap) (CX : CXT) (k : Nat) (c m q : Str) (st : Stmt) (ps : List Str) (sp : Sp) : Prop where
  ex : ∃ fd, FnOk P w K mg base CX k (sfn K c m) fd ps sp ∧ Binds K fd ps [] ∧ PySem.W.keepIn K (.ref (sfn K c m)) = true
  sh : Sh K mg c m q st
section
variable {P : Program} {w : World} {K : PySem.W.Frag} {mg : Str → Option Value} {base : Heap} {CX : CXT} {k : Nat} {c m q : Str} {ps N : List Str} {sp : Sp} {st : Stmt}
theorem Sh.ok (F : Sh K mg c m q st) (S : FnScope N ps (defScope st))
    (hb : ∀ (kV doc pm : Value) (an : Option Addr) (cdv ct : Value) (us : List Value), us.length = ps.length → bindArgs (PySem.W.fnOf m q (defArgs st) (defBody st) (defScope st) .none kV doc pm an cdv ct) ⟨us, []⟩ = pure (ps.zip us))
    (len : ∀ vs H Q E, sp vs H Q E → vs.length = ps.length)
    (hbody : ∀ (cdv : Value) (A : Around) (outer : List Env) (s : Shared) (H : Hp) (vs : List V) (Q : VK) (E : XK), Room k (A.deeper (PyProof.Rows.envOfC q (defScope st) s.heap.objs.size (sfn K c m) cdv)) → sp vs H Q E →
      ∃ t, PSs (cxOf CX P w K mg base N q (defScope st) (sfn K c m) cdv A outer s H E) (defBody st) t ∧ t { nx := fun _ H' => Q .non H', rt := Q } (start N vs) H) : Fs P w K mg base CX (k + 1) c m q st ps sp := by
  obtain ⟨fd, F'⟩ := F.ex
  exact ⟨⟨fd, F'.ok S len hbody, F'.bindsN hb, F'.kp⟩, F⟩
end
section
variable {X : Cx} {CX : CXT} {k : Nat} {c m q : Str} {ps : List Str} {sp : Sp} {st : Stmt} {e : Expr} {es : List Expr} {ta : TA} {p1 p2 pos : Pos} {E : St → XK}
theorem pe_fs {pl : Sem Bool} (F : Fs X.prog X.w X.K X.mg X.base CX k c m q st ps sp) (hr : Room k X.A) (hg : Gl X c) (hx : ∀ σ, PassesAt CX X σ (E σ)) (ha : PA X (e :: es) ta) (hd : (c == ("__debug__" : Str)) = false := by decide)
    (hc : eval (.Call (.Attribute (.Name c p1) m p2) (e :: es) [] pos) X.env = (do
      let ov ← eval (.Name c p1) X.env
      standAt p2.atName
      let (f, first) ← holding [ov] (getMethod ov m pl)
      callWith pos f first (backTo pos (starEach (e :: es) X.env)) (backToKw pos (keywordEach [] X.env))) := by rfl)
    (he : starEach (e :: es) X.env = (false, eval e X.env) :: starEach es X.env := by rfl) (hpl : (backTo pos (starEach es X.env)).any (·.1) = false := by rfl) :
    PE X (.Call (.Attribute (.Name c p1) m p2) (e :: es) [] pos) (tCallS sp E ta) := by
  obtain ⟨⟨fd, f1, b1, kp⟩, S⟩ := F
  refine ⟨fun pins s σ H Q I h => ?_⟩
  refine PySem.W.methodCall_KW (ld_glob I hg S.g ?_ hd) hc
  obtain ⟨mm, fr⟩ := I.fr
  obtain ⟨rest, rc⟩ := S.rc
  refine PySem.W.method_of_cls fr I.ok.mod.kin S.sga (PySem.W.cls_sm fr I.ok.mod.kin S.ty S.rd S.at_ rc rfl ?_)
  refine PySem.W.callWith_K (first := []) (h₀ := X.base) I.ok.mod.kin kp (thn (ha.run pos pins _ σ H _ (I.tok _) h) fun us s1 ⟨vs, H1, I1, r1, q1⟩ => ⟨I1.kIn, ?_⟩) he hpl
  exact run_fnS (E := E) f1 hr b1 (hx σ) I1 r1 q1
end
abbrev AlZ : Type := AlY × He.AlD
structure SaysZ (fa : List He.Fa) (fn : List He.DefD) (ts : List He.Tab) (ex : PySem.W.Frag → Bool) (fs : List He5.DefA) (w : World) (K : PySem.W.Frag) : Prop where
  y : SaysY fa fn ts ex w K
  s : He5.SaysA [] fs K
def obsZ (n : Nat) (fa : List He.Fa) (fn : List He.DefD) (ts : List He.Tab) (ex : PySem.W.Frag → Bool) (fs : List He5.DefA) (g : Addr → Option Obj) : AlZ := (obsY n fa fn ts ex g, He5.obsA [] fs (frY n g))
def valZ (fn : List He.DefD) (ts : List He.Tab) (fs : List He5.DefA) (w : World) : AlZ := (valY fn ts w, He5.valA fs)
def hookZ (n : Nat) (fa : List He.Fa) (fn : List He.DefD) (ts : List He.Tab) (ex : PySem.W.Frag → Bool) (fs : List He5.DefA) : PySem.W.Hook where
  α := AlZ
  obs := fun s => obsZ n fa fn ts ex fs s.heap.get?
  val := fun w => valZ fn ts fs w
  says := fun w h => ∃ K : PySem.W.Frag, K.In h ∧ SaysZ fa fn ts ex fs w K
  of := fun _ _ e => ⟨_, He.frG_in, ⟨⟨congrArg (fun z : AlZ => z.1.1) e, congrArg (fun z : AlZ => z.1.2) e⟩, congrArg (fun z : AlZ => z.2) e⟩⟩
  keeps := fun _ _ _ ⟨K, hK, c⟩ k => ⟨K, PySem.W.Frag.In.keeps hK k, c⟩
theorem obsZ_eq {n : Nat} {fa : List He.Fa} {fn : List He.DefD} {ts : List He.Tab} {ex : PySem.W.Frag → Bool} {fs : List He5.DefA} {g : Addr → Option Obj} {s : Shared} (h : ∀ a, g a = s.heap.get? a) : obsZ n fa fn ts ex fs g = (hookZ n fa fn ts ex fs).obs s := by
  have e : g = s.heap.get? := funext h
  rw [e] <;> rfl
end Rd
namespace Rd
open PySem PySem.SeqAt
open PySem.AutoSeq1 (wpAny_loadPart')
open PySem.MeetsSeq PySem.MeetsSeq2 PySem.MeetsSeq3
open Ob (RcOp lexAt lexAt_succ lexAt_zero)
/-- the pairs ahead of j are equal -/
def Ahead (e : Nat → Bool) (j : Nat) : Prop := ∀ i, i < j → e i = true
theorem Ahead.more {e : Nat → Bool} {j : Nat} (h : Ahead e j) (q : e j = true) : Ahead e (j + 1) := fun i hi => by
  rcases Nat.lt_succ_iff_lt_or_eq.mp hi with z | z
  · exact h i z
  · rw [z]; exact q
end Rd
namespace Rd
open PySem PySem.Spec PyProof.Rows L2
def kt (e : Int × Value) : Str := match e.2 with | .str x _ => x | _ => Str.empty
/-- a row of such a set -/
def GT (w : World) (e : Int × Value) : Prop := ∃ x t, e.2 = Value.str x t ∧ e.1 = hashStr w x
def addS (l : List Str) (x : Str) : List Str := if x ∈ l then l else x :: l
/-- what a table must be so that it can be walked -/
structure Tb (w : World) (n : Nat) (t : SetTable) : Prop where
  sm : n < scanBound
  ft : t.fits n = true
  ri : Ris t.place.toList
  ld : w.params.followText "set-order" = true ∨ t.led = true
/-- a set of the texts l (in any order) at a -/
structure SetS (w : World) (h : Heap) (a : Addr) (l : List Str) : Prop where
  nd : l.Nodup
  ex : ∃ o es ep t, h.get? a = some o ∧ o.ExactSet ∧ o.data = .set es ep t ∧ (∀ e ∈ es.toList, GT w e) ∧ (es.toList.map kt).Perm l ∧ Tb w es.size t
theorem SetS.at {w : World} {h h' : Heap} {a : Addr} {l : List Str} (R : SetS w h a l) (k : ∀ o, h.get? a = some o → h'.get? a = some o) : SetS w h' a l := by
  obtain ⟨nd, o, es, ep, t, ho, r⟩ := R
  exact ⟨nd, o, es, ep, t, k o ho, r⟩
section
variable {P : Program} {w : World}
theorem gt_is {e : Int × Value} (g : GT w e) (x : Str) : (PySem.strKind P w).is x e.2 = true ↔ kt e = x := by
  obtain ⟨y, t, h1, _⟩ := g
  unfold kt
  rw [h1]
  show ((y == x) = true) ↔ y = x
  exact beq_iff_eq
theorem gt_elems {l : List (Int × Value)} (g : ∀ e ∈ l, GT w e) : ElemsOf (PySem.strKind P w) l := fun e he => by
  obtain ⟨x, t, h1, h2⟩ := g e he
  exact ⟨⟨x, by rw [h1]; exact strKind_is P w x t, h2⟩, by rw [h1] <;> rfl⟩
theorem gt_mem {l : List (Int × Value)} (g : ∀ e ∈ l, GT w e) (x : Str) : x ∈ l.map kt ↔ ∃ e ∈ l, (PySem.strKind P w).is x e.2 = true := by
  constructor
  · intro h
    obtain ⟨e, he, q⟩ := List.mem_map.mp h
    exact ⟨e, he, (gt_is (g e he) x).2 q⟩
  · rintro ⟨e, he, q⟩
    exact List.mem_map.mpr ⟨e, he, (gt_is (g e he) x).1 q⟩
theorem SetS.setOf {h : Heap} {a : Addr} {l : List Str} (R : SetS w h a l) : h.SetOf (PySem.strKind P w) a (fun x => decide (x ∈ l)) l.length := by
  obtain ⟨nd, o, es, ep, t, ho, hx, hd, g, pm, T⟩ := R
  refine ⟨o, es, ep, t, ho, hx, hd, gt_elems g, fun x => ?_, T.sm, T.ft, ?_⟩
  · rw [decide_eq_true_eq, ← pm.mem_iff]
    exact gt_mem g x
  · rw [← pm.length_eq, List.length_map, Array.length_toList]
theorem setS_fresh {h : Heap} {a : Addr} (ho : h.get? a = some { cls := .type "set", dict := none, data := .set #[] 0 (.fresh 0 0 (!w.params.followText "set-order")) }) : SetS w h a [] := by
  refine ⟨List.nodup_nil, _, #[], 0, _, ho, ⟨rfl, rfl, rfl⟩, rfl, (fun e he => by simp at he), List.Perm.refl _, (by decide), (by rfl), List.Pairwise.nil, ?_⟩
  show _ ∨ (!w.params.followText "set-order") = true
  cases w.params.followText "set-order" with
  | false => exact .inr rfl
  | true => exact .inl rfl
end
section
variable {P : Program} {w : World} {A : Around} {E : Value → Shared → Prop} {s : Shared} {a : Addr} {l : List Str}
theorem setS_tail {g : Bool → Sem Unit} (hg : ∀ (b : Bool) (s₁ : Shared) (Q' : Unit → Shared → Prop), Q' () s₁ → wpAny (model P w) A (g b) Q' E s₁)
    {o : Obj} {es e1 : Array (Int × Value)} {ep : Nat} {t t2 : SetTable} {m : List Str} (ho : s.heap.get? a = some o) (hx : o.ExactSet) (hd : o.data = .set es ep t)
    (g1 : ∀ e ∈ e1.toList, GT w e) (p1 : (e1.toList.map kt).Perm m) (nm : m.Nodup) (T : Tb w e1.size t2) {old : Bool} {R : Option Bool → Shared → Prop} (hR : ∀ h', Heap.SameBut a s.heap h' → SetS w h' a m → R (some true) { s with heap := h' }) :
    wpAny (model P w) A (do
        storeSet a e1 t2
        if (!old && t2.tooFull) = true then do
            g (relayAll t2 e1 (SetTable.grown e1.size)).2.2
            storeSet a (relayAll t2 e1 (SetTable.grown e1.size)).1 (relayAll t2 e1 (SetTable.grown e1.size)).2.1
            pure (some true)
          else pure (some true)) R E s := by
  refine wpAny_bind (wpAny_storeSet_of ho hd ?_ (fits_of_scanBound T.sm))
  have o1 := store_at (es' := e1) (t' := t2) ho hd
  have b1 := Heap.SameBut.update s.heap a (Obj.putSet e1 t2)
  split
  · have pm := relayAll_perm t2 e1 (SetTable.grown e1.size)
    have f3 := relayAll_fits t2 e1 (SetTable.grown e1.size)
    have r3 := relayAll_ris t2 e1 (SetTable.grown e1.size)
    have l3 := relayAll_led t2 e1 (SetTable.grown e1.size)
    generalize relayAll t2 e1 (SetTable.grown e1.size) = Z at pm f3 r3 l3 ⊢
    obtain ⟨e2, t3, gave⟩ := Z
    dsimp only at pm f3 r3 l3 ⊢
    have z2 : e2.size = e1.size := by rw [← Array.length_toList, pm.length_eq, Array.length_toList]
    have T3 : Tb w e2.size t3 := ⟨by rw [z2]; exact T.sm, f3, r3, T.ld.imp id fun z => by rw [l3]; exact z⟩
    refine wpAny_bind (hg _ _ _ ?_)
    refine wpAny_bind (wpAny_storeSet_of o1 rfl ?_ (fits_of_scanBound T3.sm))
    exact wpAny_pure (hR _ (b1.trans (Heap.SameBut.update _ a _)) ⟨nm, _, e2, _, t3, store_at (es' := e2) (t' := t3) o1 rfl, hx, rfl, fun e he => g1 e (pm.mem_iff.mp he), (pm.map kt).trans p1, T3⟩)
  · exact wpAny_pure (hR _ b1 ⟨nm, _, e1, _, t2, o1, hx, rfl, g1, p1, T⟩)
theorem setS_addH {x : Str} {tk : Tok} {Q : Bool → Shared → Prop} (R : SetS w s.heap a l) (room : l.length + 1 < scanBound)
    (hQ : ∀ b h', Heap.SameBut a s.heap h' → SetS w h' a (addS l x) → Q b { s with heap := h' }) : wpAny (model P w) A (setAddHashed a (.str x tk) ((PySem.strKind P w).hash x)) Q E s := by
  obtain ⟨nd, o, es, ep, t, ho, hx, hd, g, pm, T⟩ := R
  have sc : (Value.str x tk).scannable = true := rfl
  have el : ElemsOf (PySem.strKind P w) es.toList := gt_elems g
  have zl : es.size = l.length := by rw [← pm.length_eq, List.length_map, Array.length_toList]
  unfold setAddHashed setAddHashedIn
  refine wpAny_holding (wpAny_bind (wpAny_setState_of ho hd T.ft ?_))
  dsimp only
  rw [byScan_of sc T.sm el]
  simp only [↓reduceIte]
  unfold setAddByScan
  refine wpAny_bind ?_
  refine wpAny_bind (wpAny_rule ?_)
  refine wpAny_bind (wpAny_setScan_of (strKind_is P w x tk) ho hd T.ft el ?_)
  cases fi : List.findIdx? (fun e => (PySem.strKind P w).is x e.2) es.toList with
  | some j =>
    dsimp only
    obtain ⟨hj, pj, _⟩ := List.findIdx?_eq_some_iff_getElem.mp fi
    have inl : x ∈ l := pm.mem_iff.mp ((gt_mem (P := P) g x).2 ⟨es.toList[j], List.getElem_mem hj, pj⟩)
    have e : addS l x = l := if_pos inl
    exact wpAny_pure (wpAny_pure (hQ _ s.heap (Heap.SameBut.refl a s.heap) (by rw [e]; exact ⟨nd, o, es, ep, t, ho, hx, hd, g, pm, T⟩)))
  | none =>
    dsimp only
    have nin : x ∉ l := fun z => by
      obtain ⟨e, he, q⟩ := (gt_mem (P := P) g x).1 (pm.mem_iff.mpr z)
      have c := List.findIdx?_eq_none_iff.mp fi e he
      rw [q] at c
      cases c
    have ea : addS l x = x :: l := if_neg nin
    rw [ea] at hQ
    have nm : (x :: l).Nodup := List.nodup_cons.mpr ⟨nin, nd⟩
    have gw : ∀ (b : Bool) {s₁ : Shared} {Q' : Unit → Shared → Prop}, Q' () s₁ → wpAny (model P w) A (match b with | true => rule "set.scan.the-table-gave-way" | false => pure ()) Q' E s₁ :=
      fun b s₁ Q' q => by cases b <;> first | exact wpAny_pure q | exact wpAny_rule q
    have pq := layNew_perm t es ((PySem.strKind P w).hash x) (.str x tk)
    have f1 := layNew_fits t es ((PySem.strKind P w).hash x) (.str x tk)
    have r1 := layNew_ris t es ((PySem.strKind P w).hash x) (.str x tk) T.ri
    have l1 := layNew_led t es ((PySem.strKind P w).hash x) (.str x tk)
    generalize layNew t es ((PySem.strKind P w).hash x) (.str x tk) = Z at pq f1 r1 l1 ⊢
    obtain ⟨e1, t1, old, gave⟩ := Z
    dsimp only at pq f1 r1 l1 ⊢
    rw [Array.toList_push] at pq
    have pc : e1.toList.Perm (((PySem.strKind P w).hash x, Value.str x tk) :: es.toList) := pq.trans (List.perm_append_singleton _ _)
    have p1 : (e1.toList.map kt).Perm (x :: l) := (pc.map kt).trans (pm.cons x)
    have g1 : ∀ e ∈ e1.toList, GT w e := fun e he => by
      rcases List.mem_cons.mp (pc.mem_iff.mp he) with z | z
      · rw [z]; exact ⟨x, tk, rfl, rfl⟩
      · exact g e z
    have z1 : e1.size = l.length + 1 := by rw [← Array.length_toList, pc.length_eq, List.length_cons, Array.length_toList, zl]
    have s1 : e1.size < scanBound := by rw [z1]; exact room
    have ld : w.params.followText "set-order" = true ∨ t1.led = true := T.ld.imp id fun z => by rw [l1]; exact z
    refine wpAny_bind (gw _ ?_)
    split
    · refine wpAny_bind ?_
      rw [hashByValue_scannable 8 sc]
      refine wpAny_pure ?_
      refine setS_tail ?_ ho hx hd g1 p1 nm ⟨s1, ?_, ?_, ?_⟩ ?_
      · intro b s₁ Q' q; cases b <;> first | exact wpAny_pure q | exact wpAny_rule q
      · first | (split <;> first | exact f1 | exact SetTable.fits_plain_off f1) | exact f1
      · first | (split <;> exact r1) | exact r1
      · first | (split <;> exact ld) | exact ld
      · intro h' sb r; dsimp only; exact wpAny_pure (hQ _ h' sb r)
    · refine wpAny_bind (wpAny_pure ?_)
      simp only [↓reduceIte]
      refine setS_tail ?_ ho hx hd g1 p1 nm ⟨s1, f1, r1, ld⟩ ?_
      · intro b s₁ Q' q; cases b <;> first | exact wpAny_pure q | exact wpAny_rule q
      · intro h' sb r; dsimp only; exact wpAny_pure (hQ _ h' sb r)
/-- found.add(x) -/
theorem setS_add {x : Str} {tk : Tok} {Q : Value → Shared → Prop} (R : SetS w s.heap a l) (room : l.length + 1 < scanBound)
    (hQ : ∀ h', Heap.SameBut a s.heap h' → SetS w h' a (addS l x) → Q .none { s with heap := h', toks := s.toks + 1 }) : wpAny (model P w) A (call (.builtin "set.add") [.ref a, .str x tk]) Q E s := by
  refine wpAny_call_entry F.slot_set_add (R.setOf (P := P)).typeIs F.entry_set_add ?_ (F.args_set_add_2 _ _)
  unfold Builtin.«set.add» Builtin.Frozenset.oneOther
  simp only [List.isEmpty_nil, bind_assoc]
  unfold Builtin.Frozenset.addrOf setAdd
  refine wpAny_bind (wpAny_pure ?_)
  try dsimp only
  refine wpAny_bind (wpAny_pure ?_)
  try dsimp only
  refine wpAny_bind (wpAny_holding (wpAny_bind ((PySem.strKind P w).pyHash (strKind_is P w x tk) ?_)))
  refine setS_addH (s := { s with toks := s.toks + 1 }) R room fun b h' sb r => ?_
  show wpAny _ _ (ret Value.none) _ _ _
  exact wpAny_pure ⟨_, rfl, hQ h' sb r⟩
end
def SetSO (w : World) (a : Addr) (l : List Str) : HO := .ext fun h => SetS w h a l
theorem setSO_new {w : World} {P : Program} {H : Hp} {h : Heap} {a : Addr} {l : List Str} (R : SetS w h a l) : ObjOk P w H h a (SetSO w a l) := by
  have ⟨_, o, _, _, _, ho, _⟩ := R
  exact ⟨R, ⟨o, ho⟩, fun h1 h2 p k => SetS.at p k⟩
section
variable {X : Cx}
theorem setSO_get {pins : List (Addr × Obj)} {σ : L2.St} {H : Hp} {s : Shared} {a : Addr} {l : List Str} (I : Inv X pins σ H s) (ha : H a = some (SetSO X.w a l)) : SetS X.w s.heap a l := (I.hok a _ ha).1
theorem addS_ok {pins : List (Addr × Obj)} {σ : L2.St} {H : Hp} {s : Shared} {E : Value → Shared → Prop} {D : Addr} {l : List Str} {x : Str} {tk : Tok} {Q : Value → Shared → Prop} (I : Inv X pins σ H s) (hD : H D = some (SetSO X.w D l)) (room : l.length + 1 < scanBound)
    (h : ∀ s', Inv X pins σ (upd H D (SetSO X.w D (addS l x))) s' → Q .none s') : wpAny (model X.prog X.w) X.A (call (.builtin "set.add") [.ref D, .str x tk]) Q E s := by
  refine setS_add (setSO_get I hD) room fun h' sb new => ?_
  have he : ∃ u, h'.get? D = some u := by
    have ⟨_, o, _, _, _, ho, _⟩ := new
    exact ⟨o, ho⟩
  exact h _ (I.write (e := D) (t' := s.toks + 1) (by rw [hD]; trivial) (.inl rfl) (fun b u hb hu => (sb.2 b hb).trans hu) he (setSO_new new))
end
end Rd
namespace Rd
open PySem PySem.Spec PyProof.Rows L2
def tScS (w : World) (wi : TI) (g : TG) (tt : TT) (te : TE) (vs : List Nat) : TE := fun σ H Q => wi σ H fun J H1 => ∀ D, H1 D = none → ∃ W : Nat → Nat → Hp → Prop, (∃ m, W 0 m (upd H1 D (SetSO w D []))) ∧ ∀ i m H, W i m H →
  (J.stop i H ∧ Q (.ref D) H) ∨ (J.go i H ∧ ∃ Nx : Hp → Prop, (∀ H', Nx H' → ∃ m', m' < m ∧ W (i + 1) m' H') ∧ ∀ x H', J.yld i H x H' → g x (wipe σ vs) H' fun σ2 H2 => wipe σ2 vs = wipe σ vs ∧ tt σ2 H2 fun b H3 =>
    if b = true then te σ2 H3 fun y H4 => ∃ (c : Str) (l : List Str), y = .str c ∧ H4 D = some (SetSO w D l) ∧ l.length + 1 < scanBound ∧ Nx (upd H4 D (SetSO w D (addS l c))) else Nx H3)
section
variable {X : Cx}
theorem pe_scS {elt tg iter : Expr} {ifs : List Expr} {scope : Scope} {own : List (PySem.Str × Nat)} {pos : Pos} {wi : TI} {g : TG} {tt : TT} {te : TE} (hc : X.calm = true) (hN : X.N.Nodup) (hi : PI X tg iter wi) (ok : BlkOk X.N X.env.scope scope own)
    (hg : ∀ (s : Shared) (H : Hp) (C : Addr) (cl : List (PySem.Str × Addr)) (fp : List Addr), PG (X.blk s H scope (compEnvC scope cl C X.env) fp) tg g) (ht : ∀ (s : Shared) (H : Hp) (C : Addr) (cl : List (PySem.Str × Addr)) (fp : List Addr), PTs (X.blk s H scope (compEnvC scope cl C X.env) fp) ifs tt)
    (he : ∀ (s : Shared) (H : Hp) (C : Addr) (cl : List (PySem.Str × Addr)) (fp : List Addr), PE (X.blk s H scope (compEnvC scope cl C X.env) fp) elt te) (hs : ∀ x, foldedSetIterable iter X.env x = pure x := by intro _; rfl) :
    PE X (.SetComp elt [⟨tg, iter, ifs, 0⟩] scope pos) (tScS X.w wi g tt te (own.map (·.2))) := by
  refine ⟨fun pins s σ H Q I h => ?_⟩
  rw [PpSet.eval_SetComp]
  have hfree : ∀ y ∈ scope.names, y.2 = .free → ∃ c, X.env.cells.lookup y.1 = some c := fun y hy e => (ok.free y hy e).elim (fun k => I.ok.has _ (.inl k)) fun k => I.ok.has _ (.inr k)
  refine wpAny_comprehension_free (use := none) rfl hs (closure_ok hfree) ok.kind (fun y hy e => by rw [ok.uniq y hy, e]) (thn (hi.run pins s σ H _ I h) fun xv s1 hx => thn hx fun itv s2 h2 => ?_)
  obtain ⟨it, fp, tn, J, H2, e, I2, T, st2, f2, q⟩ := h2
  subst e
  refine PpSet.newSet_ok (newEnv_comp ?_)
  generalize hD : s2.heap.objs.size = D
  have Dn : H2 D = none := I2.hok.fresh (Nat.le_of_eq hD)
  obtain ⟨W, ⟨m0, w0⟩, turn⟩ := q D Dn
  generalize hO : ({ cls := .type "set", dict := none, data := .set #[] 0 (.fresh 0 0 (!X.w.params.followText "set-order")) } : Obj) = ob
  generalize e3 : ({ s2 with heap := s2.heap.push ob } : Shared) = s3
  have h3 : s3.heap = s2.heap.push ob := by rw [← e3]
  have I3 : Inv X pins σ (upd H2 D (SetSO X.w D [])) s3 := by
    rw [← e3]
    refine I2.laid (t' := s2.toks) (fun b o e => Heap.get?_push_of_some _ e) (Nat.le_of_eq hD) (setSO_new (setS_fresh ?_))
    rw [← hD, ← hO]
    exact Heap.get?_push_size _ rfl
  have f3 : ∀ b ∈ fp, FpOk X pins (upd H2 D (SetSO X.w D [])) b ∧ b < s3.heap.objs.size := fun b hb => by
    obtain ⟨o, e, _⟩ := T.obj _ _ st2 b hb
    have lt := Heap.lt_size e
    refine ⟨⟨?_, (f2 b hb).2⟩, by rw [h3, Heap.size_push]; exact Nat.lt_succ_of_lt lt⟩
    rw [upd_ne (by rw [← hD]; exact Nat.ne_of_lt lt)]
    exact (f2 b hb).1
  have st3 : tn 0 s3.heap := T.keep _ _ _ st2 fun b _ o e => by rw [h3]; exact Heap.get?_push_of_some _ e
  have I4 := block_start I3 ok hN f3
  have pg := hg s3 (upd H2 D (SetSO X.w D [])) s3.heap.objs.size (cellsFrom (s3.heap.objs.size + 1) scope.names (cloFrom X.env.cells scope.names [])) fp
  have pt := ht s3 (upd H2 D (SetSO X.w D [])) s3.heap.objs.size (cellsFrom (s3.heap.objs.size + 1) scope.names (cloFrom X.env.cells scope.names [])) fp
  have pe := he s3 (upd H2 D (SetSO X.w D [])) s3.heap.objs.size (cellsFrom (s3.heap.objs.size + 1) scope.names (cloFrom X.env.cells scope.names [])) fp
  show codeAny _ _ (.compStart (.SetComp elt [⟨tg, iter, ifs, 0⟩] scope pos) 0 (.ref it) (.ref D) (compEnvC scope (cellsFrom (s3.heap.objs.size + 1) scope.names (cloFrom X.env.cells scope.names [])) s3.heap.objs.size X.env)) _ { s3 with heap := pushCells (s3.heap.push { cls := .type "dict", data := .dict #[] }) scope.names }
  have nfp : ∀ b ∈ fp, (upd H2 D (SetSO X.w D [])) b = none := fun b hb => (f3 b hb).1.1
  generalize hce : compEnvC scope (cellsFrom (s3.heap.objs.size + 1) scope.names (cloFrom X.env.cells scope.names [])) s3.heap.objs.size X.env = ce at I4 pg pt pe ⊢
  have cL : ce.locals = s3.heap.objs.size := by subst hce; rfl
  generalize hH3 : upd H2 D (SetSO X.w D []) = H3 at I3 I4 pg pt pe w0 nfp f3
  generalize hs4 : ({ s3 with heap := pushCells (s3.heap.push { cls := .type "dict", data := .dict #[] }) scope.names } : Shared) = s4 at I4 ⊢
  have st4 : tn 0 s4.heap := T.keep _ _ _ st3 fun b _ o e => by rw [← hs4]; exact pushCells_keeps _ _ _ _ (Heap.get?_push_of_some _ e)
  have stat : ∀ {σ' : L2.St} {H' : Hp} {s' : Shared}, Inv (X.blk s3 H3 scope ce fp) [] σ' H' s' → (∀ b ∈ fp, H' b = none) → ∀ b ∈ fp, FpOk (X.blk s3 H3 scope ce fp) [] H' b := fun {σ' H' s'} I' hn b hb =>
    ⟨hn b hb, (I'.ok.exf b hb).1, I'.ok.exfs b hb, .inl hb, fun x c e => (I'.ok.exf b hb).2 x c e, fun p hp => absurd (show p ∈ ([] : List (Addr × Obj)) ++ [] from hp) (by simp)⟩
  have loop : codeAny (model X.prog X.w) X.A (.compLoop (.SetComp elt [⟨tg, iter, ifs, 0⟩] scope pos) 0 (.ref it) (.ref D) ce) (compPost (model X.prog X.w) X.A X.xe none (EP X pins σ Q) (.ref D) s3.heap.objs.size) s4 := by
    refine PpSet.compLoopS_any (fun n s' => ∃ i H', Inv (X.blk s3 H3 scope ce fp) [] (wipe σ (own.map (·.2))) H' s' ∧ tn i s'.heap ∧ (∀ b ∈ fp, H' b = none) ∧ W i n H') ?_ m0 ⟨0, H3, I4, st4, nfp, w0⟩
    rintro n s5 ⟨i, H5, I5, st5, n5, w5⟩
    rcases turn i n H5 w5 with ⟨stop, qq⟩ | ⟨go, Nx, hNx, step⟩
    · refine thnF (T.done (X.blk s3 H3 scope ce fp) rfl rfl rfl hc i [] s5 _ H5 (fun _ _ => False) I5 (stat I5 n5) st5 stop) fun r s6 ⟨hr, I6⟩ => ?_
      subst hr
      have I7 : Inv X pins σ H5 s6 := I3.call' (ch := fp) I6.os I6.base I6.hok I6.bare fun b hb => ⟨(f3 b hb).1.2.2.2.1, (f3 b hb).1.2.1, (f3 b hb).1.2.2.2.2.1, (f3 b hb).1.2.2.2.2.2⟩
      have nC : H5 s3.heap.objs.size = none := by
        have z : H5 ce.locals = none := I6.free
        rw [cL] at z
        exact z
      obtain ⟨m, hn, _⟩ := I6.loc
      have hn : s6.heap.Ns ce.locals m := hn
      rw [cL] at hn
      refine ⟨m, hn, fun h'' sb => ?_⟩
      obtain ⟨g0, g1, g2, g3, g4, g5⟩ := I3.fpOk (Nat.le_refl _) nC
      exact ⟨.ref D, H5, I7.turned (t' := s6.toks) (fun b o hb e => (sb.2 b hb).trans e) g0 g1 g3 g4 g5, rfl, qq⟩
    · refine thnF (T.item (X.blk s3 H3 scope ce fp) rfl rfl rfl hc i [] s5 _ H5 (fun _ _ => False) I5 (stat I5 n5) st5 go) fun r s6 ⟨u, hr, h6⟩ => ?_
      subst hr
      refine thnF h6 fun _ s7 ⟨x, H7, I7, r7, y7, st7, n7⟩ => ?_
      refine thnF (pg.run _ s7 _ H7 x u _ (I7.pinned (stat I7 n7) (T.obj _ _ st7)) r7 (step x H7 y7)) fun _ s8 ⟨σ8, H8, I8, hw8, q8⟩ => ?_
      refine thnF (pt.run _ s8 σ8 H8 _ I8 q8) fun b s9 ⟨H9, I9, q9⟩ => ?_
      have fin : ∀ {s' : Shared} {H' : Hp}, Inv (X.blk s3 H3 scope ce fp) ([] ++ pinsAt fp s7.heap) σ8 H' s' → Nx H' → ∃ m, m < n ∧ ∃ i H', Inv (X.blk s3 H3 scope ce fp) [] (wipe σ (own.map (·.2))) H' s' ∧ tn i s'.heap ∧ (∀ b ∈ fp, H' b = none) ∧ W i m H' := fun {s' H'} I' nx => by
        obtain ⟨m', hm, w'⟩ := hNx H' nx
        have pin' : ∀ b ∈ fp, ∀ o, s7.heap.get? b = some o → s'.heap.get? b = some o ∧ H' b = none := fun b hb o e => by
          have z := I'.pin (b, o) (List.mem_append_right _ (List.mem_append_right _ (mem_pinsAt hb e)))
          exact ⟨z.1, z.2.1⟩
        refine ⟨m', hm, i + 1, H', (I'.unpinned (pins := [])).weak (by rw [← hw8, wipe_length]) (fun j v e => by rw [← hw8] at e; exact (wipe_some e).1), T.keep _ _ _ st7 fun b hb o e => (pin' b hb o e).1, fun b hb => ?_, w'⟩
        obtain ⟨o, e, _⟩ := T.obj _ _ st7 b hb
        exact (pin' b hb o e).2
      cases b with
      | false =>
        simp only [Bool.false_eq_true, if_false] at q9 ⊢
        exact fin I9 q9
      | true =>
        simp only [if_true] at q9 ⊢
        refine thnF (pe.run _ s9 σ8 H9 _ I9 q9) fun z s10 ⟨yv, H10, I10, r10, c, l, ey, hD10, hz10, nx⟩ => ?_
        subst ey
        obtain ⟨tk, rfl⟩ := r10
        exact addS_ok (X := X.blk s3 H3 scope ce fp) I10 hD10 hz10 fun s11 I11 => fin I11 nx
  exact PpSet.codeAny_compStart_set loop (T.self X.A 0 _ _ _ st4 loop)
end
section
variable {P : Program} {w : World} {A : Around} {E : Value → Shared → Prop} {s : Shared}
theorem strs_of : ∀ (l : List Value), (∀ v ∈ l, ∃ x t, v = Value.str x t) → ∃ xs, StrsAre l xs
  | [], _ => ⟨[], .nil⟩
  | v :: l, h => by
    obtain ⟨x, t, rfl⟩ := h v List.mem_cons_self
    obtain ⟨xs, g⟩ := strs_of l fun u hu => h u (List.mem_cons_of_mem _ hu)
    exact ⟨x :: xs, .cons x t g⟩
theorem strs_kt {es : List (Int × Value)} (g : ∀ e ∈ es, GT w e) : StrsAre (es.map (·.2)) (es.map kt) := by
  induction es with
  | nil => exact .nil
  | cons e r ih =>
    obtain ⟨x, t, h1, _⟩ := g e List.mem_cons_self
    have hk : kt e = x := by unfold kt; rw [h1]
    rw [List.map_cons, List.map_cons, h1, hk]
    exact .cons x t (ih fun e he => g e (List.mem_cons_of_mem _ he))
def rawS : Value → Str
  | .str x _ => x
  | _ => Str.empty
theorem strs_raw {l : List Value} {xs : List Str} (h : StrsAre l xs) : l.map rawS = xs := by
  induction h with
  | nil => rfl
  | cons x t _ ih => rw [List.map_cons, ih]; rfl
theorem sorted_setS {a : Addr} {l : List Str} {Q : Value → Shared → Prop} (R : SetS w s.heap a l) (hh : A.handled = none)
    (hQ : ∀ s' p (out : Array Value) (c : Nat) (ys : List Str), (∀ b o, s.heap.get? b = some o → s'.heap.get? b = some o) → s'.gens = s.gens → s'.os = s.os → s.heap.objs.size ≤ p →
      s'.heap.get? p = some (seqObj "list" out c) → StrsAre out.toList ys → ys.Perm l → sortedS ys = true → Q (.ref p) s') :
    wpAny (model P w) A (call (.builtin "sorted") [.ref a]) Q E s := by
  obtain ⟨nd, o, es, ep, t, ho, hx, hd, g, pm, T⟩ := R
  refine Calls.call_function_entry kind_sorted plain_sorted entry_sorted (args_sorted1 _) ?_
  unfold Builtin.«sorted»
  refine wpAny_bind (m := checkCount "sorted" 1 1 _) (wpAny_pure ?_)
  refine wpAny_bind (collect_set (A := A.in1) hh ⟨o, ho, hx.1, hd⟩ T.ft T.sm T.ri T.ld fun s1 vs k1 hz g1 o1 pv => ?_)
  have hvl : vs.length = es.size := by rw [pv.length_eq, List.length_map, Array.length_toList]
  obtain ⟨xs, hxs⟩ := strs_of vs fun v hv => by
    obtain ⟨e, he, q⟩ := List.mem_map.mp (pv.mem_iff.mp hv)
    obtain ⟨x, tk, h1, _⟩ := g e he
    exact ⟨x, tk, by rw [← q]; exact h1⟩
  have px : xs.Perm l := by
    rw [← strs_raw hxs]
    refine ((pv.map rawS).trans ?_).trans pm
    rw [strs_raw (strs_kt g)]
  have hvs : vs.length ≤ sizeLine := by rw [hvl]; exact fits_of_scanBound T.sm
  refine wpAny_bind (wpAny_newList ?_ hvs)
  have hoL : (s1.heap.push (seqObj "list" vs.toArray 0)).get? s1.heap.objs.size = some (seqObj "list" vs.toArray 0) := Heap.get?_push_size _ rfl
  refine wpAny_bind (wpAny_holding (wpAny_call_entry slot_list_sort ⟨_, hoL, rfl⟩ entry_list_sort (list_sort_treeKAny strKind_oneLt hoL hxs.keysOf (fun v₁ v₂ rest e => keyKind_strs (by rw [← e]; exact hxs)) hvs fun st' hp hs => ⟨_, rfl, ?_⟩) (args_list_sort _)))
  obtain ⟨ys, h1, h2, h3⟩ := sorted_out_str hxs hp hs
  obtain ⟨c, hc⟩ := sortedHeap_at (vs := vs) hoL
  refine wpAny_pure ⟨_, rfl, hQ _ s1.heap.objs.size _ c ys (fun b u e => ?_) g1 o1 hz hc h1 (h2.trans px) h3⟩
  have q := k1 b u e
  have hlt := Heap.lt_size q
  rw [sortedHeap_old (Nat.ne_of_lt hlt) (by rw [size_push']; exact Nat.lt_succ_of_lt hlt)]
  exact Heap.get?_push_of_some _ q
end
section
variable {X : Cx}
def rSortedSS (w : World) : List V → Hp → VK → Prop := fun vs H Q => ∃ (a : Addr) (l : List Str), vs = [V.ref a] ∧ H a = some (SetSO w a l) ∧
  ∀ (ys : List Str) (p : Addr), ys.Perm l → ys.Nodup → sortedS ys = true → H p = none → Q (.ref p) (upd H p (.lst (ys.map V.str)))
theorem cr_sortedSS (hc : X.calm = true) : CallR X (.builtin "sorted") (rSortedSS X.w) := by
  intro pins s σ H vs us Q I r h
  obtain ⟨a, l, rfl, ha, q⟩ := h
  have R := setSO_get I ha
  rw [Vals.ref1 r]
  have hl : l.length ≤ sizeLine := by
    have ⟨_, o, es, ep, t, _, _, _, _, pm, T⟩ := R
    rw [← pm.length_eq, List.length_map, Array.length_toList]
    exact fits_of_scanBound T.sm
  refine sorted_setS R (I.ok.hd hc) fun s' p out c ys k g o hp hgt hi pm hs => ?_
  have hlen : (ys.map V.str).length ≤ sizeLine := by rw [List.length_map, pm.length_eq]; exact hl
  have hn : H p = none := I.hok.fresh hp
  obtain ⟨h2, g2, d2, t2, o2⟩ := s'
  obtain rfl : o2 = s.os := o
  obtain rfl : g2 = s.gens := g
  have J : Inv X pins σ (upd H p (.lst (ys.map V.str))) ⟨h2, s.gens, d2, t2, s.os⟩ := I.call (d' := d2) (t' := t2) (g' := s.gens) (ch := []) (Un.laid k hp hn) (I.hok.laid k hp ⟨hlen, out.toList, c, vals_of_strs hi, hgt⟩) I.bare (fun _ z => nomatch z)
  exact ⟨.ref p, _, J, rfl, q ys p pm (pm.nodup_iff.mpr R.nd) hs hn⟩
end
end Rd
namespace Rd
open PySem PySem.Spec PyProof.Rows L2
/-- texts put into a set one behind another -/
def putS (l : List Str) : List Str → List Str
  | [] => l
  | x :: r => putS (addS l x) r
theorem addS_mem {l : List Str} {x y : Str} : y ∈ addS l x ↔ y ∈ l ∨ y = x := by
  unfold addS
  split
  · exact ⟨.inl, fun h => h.elim id fun e => by rw [e]; assumption⟩
  · rw [List.mem_cons]
    exact Or.comm
theorem addS_len {l : List Str} {x : Str} : (addS l x).length ≤ l.length + 1 := by
  unfold addS
  split
  · exact Nat.le_succ _
  · exact Nat.le_refl _
theorem putS_mem {y : Str} : ∀ {r l : List Str}, y ∈ putS l r ↔ y ∈ l ∨ y ∈ r
  | [], l => by simp [putS]
  | x :: r, l => by
    rw [putS, putS_mem, addS_mem, List.mem_cons, or_assoc]
theorem putS_len : ∀ {r l : List Str}, (putS l r).length ≤ l.length + r.length
  | [], l => Nat.le_refl _
  | x :: r, l => by
    have h := putS_len (r := r) (l := addS l x)
    have := addS_len (l := l) (x := x)
    rw [putS, List.length_cons]
    omega
theorem putS_app : ∀ {r q l : List Str}, putS l (r ++ q) = putS (putS l r) q
  | [], _, _ => rfl
  | x :: r, q, l => putS_app (r := r) (q := q) (l := addS l x)
end Rd
namespace Rd
open PySem L2
theorem _root_.L2.Room.units65 {k : Nat} {A : Around} (r : Room k A) : A.units + 65 < cLine := by have := r.un; omega
end Rd
namespace Rd
open PySem L2
section
variable {X : Cx} {K : PySem.W.Frag}
theorem kIx {r : PySem.W.Frag → R2} (hK : X.K = K) (h : IxR X (r X.K)) : IxR X (r K) := hK ▸ h
end
end Rd
namespace Rd
open PySem L2
def tCallE (K : PySem.W.Frag) (L : List (Str × Sp)) (tf : TE) (t : TA) : TE := fun σ H Q => tf σ H fun x H1 => ∃ p ∈ L, x = .ref (He.ga K p.1) ∧ t σ H1 fun vs H2 => p.2 vs H2 Q E0
section
variable {X : Cx} {k : Nat} {e f : Expr} {es : List Expr} {tf : TE} {t : TA} {pos : Pos}
theorem pe_callE (L : List (Str × Sp)) (hL : ∀ p ∈ L, ∃ ps, Fk X.prog X.w X.K X.mg X.base CX0 k p.1 ps p.2) (hr : Room k X.A) (hf : PE X f tf) (ha : PA X (e :: es) t)
    (hc : eval (.Call f (e :: es) [] pos) X.env = (do callWith pos (← eval f X.env) [] (backTo pos (starEach (e :: es) X.env)) (backToKw pos (keywordEach [] X.env))) := by rfl)
    (he : starEach (e :: es) X.env = (false, eval e X.env) :: starEach es X.env := by rfl) (hpl : (backTo pos (starEach es X.env)).any (·.1) = false := by rfl) :
    PE X (.Call f (e :: es) [] pos) (tCallE X.K L tf t) := by
  refine ⟨fun pins s σ H Q I h => ?_⟩
  rw [hc]
  refine wpAny_bind (thn (hf.run pins s σ H _ I h) fun u s1 ⟨x, H1, I1, rx, p, hp, ex, q⟩ => ?_)
  subst ex
  obtain rfl : u = Value.ref (He.ga X.K p.1) := rx
  obtain ⟨ps, ⟨fd, F, b⟩, g, kp⟩ := hL p hp
  refine PySem.W.callWith_K (first := []) (h₀ := X.base) I1.ok.mod.kin kp (thn (ha.run pos pins _ σ H1 _ I1 q) fun us s2 ⟨vs, H2, I2, r2, q2⟩ => ⟨I2.kIn, ?_⟩) he hpl
  exact run_fnS (E := fun _ => E0) F hr b at0 I2 r2 q2
end
end Rd
namespace Rd
open PySem PySem.Spec L2
section
variable {X : Cx} {K : PySem.W.Frag}
theorem pe_fldk {e : Expr} {f : Str} {pos : Pos} {ta : TE} (hK : X.K = K) (he : PE X e ta) (hb : attributeBase e f X.env (eval e X.env) = eval e X.env) : PE X (.Attribute e f pos) (tFld K ta f) := by subst hK; exact pe_fld he hb
end
end Rd
namespace Rd
open PySem L2
def strsB : List Value → List Str → Bool
  | [], [] => true
  | .str z _ :: r, x :: s => decide (z = x) && strsB r s
  | _, _ => false
def ktB (K : PySem.W.Frag) (a : Addr) (xs : List Str) : Bool := match K.lookup a with
  | some ⟨.type "tuple", _, .seq its _, _⟩ => strsB its.toList xs && decide (its.size ≤ sizeLine)
  | _ => false
theorem strsB_ok : ∀ {us : List Value} {xs : List Str}, strsB us xs = true → Vals (xs.map V.str) us
  | [], [], _ => .nil
  | .str z t :: r, x :: s, h => by
    obtain ⟨h1, h2⟩ := He.ba h
    cases of_decide_eq_true h1
    exact .cons ⟨t, rfl⟩ (strsB_ok h2)
structure Ktu (K : PySem.W.Frag) (mg : Str → Option Value) (x : Str) (xs : List Str) : Prop where
  g : mg x = some (.ref (He.ga K x))
  tp : ∀ H, SqT K H (He.ga K x) (xs.map V.str)
theorem ktB_ok {K : PySem.W.Frag} {mg : Str → Option Value} {x : Str} {xs : List Str} (g : mg x = some (.ref (He.ga K x))) (h : ktB K (He.ga K x) xs = true) : Ktu K mg x xs := by
  refine ⟨g, fun H => .inr ?_⟩
  unfold ktB at h
  split at h
  · rename_i d its n sl e
    obtain ⟨h1, h2⟩ := He.ba h
    exact ⟨_, its, n, e, rfl, rfl, of_decide_eq_true h2, strsB_ok h1⟩
  · cases h
theorem pe_ktk {X : Cx} {K : PySem.W.Frag} {x : Str} {xs : List Str} {pos : Pos} (hK : X.K = K) (D : Ktu X.K X.mg x xs) (hg : Gl X x := by rfl) (hd : (x == ("__debug__" : Str)) = false := by decide) : PE X (.Name x pos) (tC (.ref (He.ga K x))) := by subst hK; exact pe_glob hg D.g rfl hd
end Rd
namespace PySem
namespace AutoSeq1
end AutoSeq1
end PySem
namespace PySem.W
open Lean Elab Tactic Meta PySem PySem.Calls PyProof.Rows
end PySem.W
namespace Rd
open PySem L2
structure BoD (K : PySem.W.Frag) (c d : Str) (m r : Str) : Prop where
  ne : He.ga K c ≠ He.ga K d
  rc : PySem.W.findIn K (.ref (He.ga K c)) r = some none
  rd : PySem.W.findIn K (.ref (He.ga K d)) r = some none
  sub : PySem.W.subIn K (.ref (He.ga K d)) (.ref (He.ga K c)) = some false
def noneB : Option (Option Value) → Bool
  | some none => true
  | _ => false
theorem noneB_ok {o : Option (Option Value)} (h : noneB o = true) : o = some none := by
  unfold noneB at h
  split at h
  · rfl
  · cases h
def boB (K : PySem.W.Frag) (c d r : Str) : Bool := decide (He.ga K c ≠ He.ga K d) && (noneB (PySem.W.findIn K (.ref (He.ga K c)) r) && (noneB (PySem.W.findIn K (.ref (He.ga K d)) r) && decide (PySem.W.subIn K (.ref (He.ga K d)) (.ref (He.ga K c)) = some false)))
theorem boB_ok {K : PySem.W.Frag} {c d m r : Str} (h : boB K c d r = true) : BoD K c d m r := by
  obtain ⟨h1, h⟩ := He.ba h
  obtain ⟨h2, h⟩ := He.ba h
  obtain ⟨h3, h4⟩ := He.ba h
  exact ⟨of_decide_eq_true h1, noneB_ok h2, noneB_ok h3, of_decide_eq_true h4⟩
end Rd
namespace Rd
open PySem PySem.Spec PyProof.Rows L2
structure KdS (w : World) (K : PySem.W.Frag) (mg : Str → Option Value) (x : Str) (kvs : List (Str × Str)) : Prop where
  g : mg x = some (.ref (He.ga K x))
  kd : ∃ es n, KDict K w (He.ga K x) es n
  ys : ∀ p ∈ kvs, ∃ t, PySem.W.nsIn K (He.ga K x) p.1 = some (some (.str p.2 t))
def kdsB (K : PySem.W.Frag) (a : Addr) (kvs : List (Str × Str)) : Bool := kvs.all fun p => (match PySem.W.nsIn K a p.1 with
    | some (some (.str i _)) => decide (i = p.2)
    | _ => false)
theorem kds_ok {w : World} {K : PySem.W.Frag} {mg : Str → Option Value} {x : Str} {kvs : List (Str × Str)} (g : mg x = some (.ref (He.ga K x))) (kd : ∃ es n, KDict K w (He.ga K x) es n) (h : kdsB K (He.ga K x) kvs = true) : KdS w K mg x kvs := by
  refine ⟨g, kd, fun p hp => ?_⟩
  have h3 := List.all_eq_true.mp h p hp
  split at h3
  · rename_i i t e
    rw [e]
    exact ⟨t, by rw [of_decide_eq_true h3]⟩
  · cases h3
section
variable {X : Cx} {x : Str} {kvs : List (Str × Str)} {pos : Pos}
theorem pe_kdS (D : KdS X.w X.K X.mg x kvs) (hg : Gl X x := by rfl) (hd : (x == ("__debug__" : Str)) = false := by decide) : PE X (.Name x pos) (tC (.ref (He.ga X.K x))) := pe_glob hg D.g rfl hd
def rIxKS (K : PySem.W.Frag) (x : Str) (kvs : List (Str × Str)) : R2 := fun a b H Q => ∃ p ∈ kvs, a = .ref (He.ga K x) ∧ b = .str p.1 ∧ Q (.str p.2) H
theorem ix_KS (D : KdS X.w X.K X.mg x kvs) : IxR X (rIxKS X.K x kvs) := by
  intro value slice pins s σ H a b v u Q I ra rb h hs
  obtain ⟨p, hp, rfl, rfl, q⟩ := h
  obtain ⟨es, n, kd⟩ := D.kd
  obtain ⟨t, e⟩ := D.ys p hp
  exact ix_kdict value slice pins s σ H _ _ v u Q I ra rb ⟨_, _, V.str p.2, rfl, rfl, ⟨es, n, _, kd.at_, kd.lit, e, ⟨t, rfl⟩⟩, q⟩ hs
/-- None in a list of data of any depth -/
def rInNone (K : PySem.W.Frag) : R2 := fun x y H Q => ∃ ds, x = .non ∧ Dp K H y (.list ds) ∧ PyData.canLayAll0 ds = true ∧ Q (.bl (ds.any fun z => PyData.eqv z .none)) H
theorem op_inNone (hu : X.A.units + 65 < cLine) : OpR X (compareOp .In) (rInNone X.K) := by
  intro pins s σ H x y v u Q I rx ry h
  obtain ⟨ds, rfl, he, se, q⟩ := h
  obtain ⟨as, r1⟩ := Dp.reads I .none .non v .non rx
  obtain ⟨bs, r2⟩ := Dp.reads I (.list ds) y u he ry
  exact SeqAt.in_list_reads r2 r1 se (by rfl) (by show X.A.units + 1 + min (PyData.depthAll ds) 0 < cLine; omega) ⟨.bl _, H, I, rfl, q⟩
end
end Rd
namespace Rd
open PySem PySem.Spec PyProof.Rows L2
section
variable {X : Cx}
/-- == and != of data of any depth up to 500 -/
def LayW (d : PyData) : Prop := d.canLay0 = true ∧ d.depth ≤ 500
def rEqW (K : PySem.W.Frag) : R2 := fun x y H Q => ∃ d e, Dp K H x d ∧ Dp K H y e ∧ LayW d ∧ LayW e ∧ Q (.bl (PyData.eqv d e)) H
def rNeW (K : PySem.W.Frag) : R2 := fun x y H Q => ∃ d e, Dp K H x d ∧ Dp K H y e ∧ LayW d ∧ LayW e ∧ Q (.bl (!PyData.eqv d e)) H
theorem op_eqW (hu : X.A.units + 500 < cLine) : OpR X (compareOp .Eq) (rEqW X.K) := by
  intro pins s σ H x y v u Q I rx ry h
  obtain ⟨d, e, hd, he, sd, se, q⟩ := h
  obtain ⟨as, r1⟩ := Dp.reads I d x v hd rx
  obtain ⟨bs, r2⟩ := Dp.reads I e y u he ry
  exact SeqAt.compareEq_reads r1 r2 sd.1 se.1 (by have := sd.2; omega) ⟨.bl _, H, I, rfl, q⟩
theorem op_neW (hu : X.A.units + 500 < cLine) : OpR X (compareOp .NotEq) (rNeW X.K) := by
  intro pins s σ H x y v u Q I rx ry h
  obtain ⟨d, e, hd, he, sd, se, q⟩ := h
  obtain ⟨as, r1⟩ := Dp.reads I d x v hd rx
  obtain ⟨bs, r2⟩ := Dp.reads I e y u he ry
  exact SeqAt.compareNe_reads r1 r2 sd.1 se.1 (by have := sd.2; omega) ⟨.bl _, H, I, rfl, q⟩
end
theorem units500 {k : Nat} {A : Around} (r : Room k A) (h : 20 ≤ k) : A.units + 500 < cLine := by have := r.un; omega
end Rd
namespace Rd
open PySem PySem.Spec PyProof.Rows L2
theorem tracedZ_sameBut {h h' base : Heap} {e L : Addr} {Z : Obj → Prop} {fl : Value} {m : Str → Option Value} (x : HandSPX.TracedZ h base e Z fl) (hn : h.Ns L m) (hs : Heap.SameBut L h h') : HandSPX.TracedZ h' base e Z fl := by
  obtain ⟨oe, vs, T, oT, ts, he, hc, hd, h1, hnT, hTe, hT, hdT, h3⟩ := x
  obtain ⟨oL, es, ep, hoL, hdL, _⟩ := hn
  have neE : e ≠ L := fun q => by
    rw [q, hoL] at he
    have z := Option.some.inj he
    rw [← z, hdL] at hd
    cases hd
  have neT : T ≠ L := fun q => by
    rw [q, hoL] at hT
    have z := Option.some.inj hT
    rw [← z, hdL] at hdT
    cases hdT
  exact ⟨oe, vs, T, oT, ts, (hs.2 e neE).trans he, hc, hd, h1, hnT, hTe, (hs.2 T neT).trans hT, hdT, h3⟩
theorem compFails_heldZ {M : Model} {A : Around} {E : Value → Shared → Prop} {s' : Shared} {base : Heap} {cenv : Env} {l : List Env} {e L : Addr} {Z : Obj → Prop} {m : Str → Option Value}
    (hf : cenv.frame = some L) (hbC : base.get? cenv.locals = none) (hn : s'.heap.Ns cenv.locals m) (hh : HandSPX.HeldZ base l e Z L s'.heap)
    (hQ : ∀ h' h₂, HandSPX.HeldZ base l e Z L h' → Heap.SameBut cenv.locals s'.heap h₂ → h₂.UpToSlots h' → E (.ref e) { s' with heap := h' }) : CompFails M A E cenv (.ref e) s' := by
  refine ⟨m, hn, fun h₂ m₂ hn₂ hs₂ => ?_⟩
  obtain ⟨b1, b0, f1, t1⟩ := hh
  have b2 : base.StaysIn h₂ := fun b o hb => (hs₂.2 b fun q => by rw [q, hbC] at hb; cases hb).trans (b1 b o hb)
  have f2 : h₂.FunFrames base l := Heap.FunFrames.sameBut hs₂ hn₂ f1
  have t2 := tracedZ_sameBut t1 hn hs₂
  obtain ⟨oe, vs, T, oT, ts, he, hz, hd, h1, r⟩ := t2
  unfold PySem.passOn
  refine wpAny_bind (wpAny_field he hd h1 ?_)
  rw [if_neg (show ¬ ((Value.ref T == Value.none) = true) from by simp)]
  rw [hf]
  refine wpAny_bind (HandSPX.setFlight_anyZ (fr := some L) b2 f2 ⟨oe, vs, T, oT, ts, he, hz, hd, h1, r⟩ fun h₃ b3 f3 t3 k3 => ?_)
  refine wpAny_throw ?_
  exact hQ h₃ h₂ ⟨b3, b0, f3, t3⟩ hs₂ k3
section
variable {X : Cx} {pins : List (Addr × Obj)} {σ : L2.St} {H : Hp} {s s' : Shared} {E : XK}
theorem call_parts (I : Inv X pins σ H s) {u : Value} (c : L2N.CX X.prog X.w X.stack H s E u s') : ∃ (a : Addr) (B : Heap) (sI : Shared) (H' : Hp) (cls : Value) (d : Option Addr), u = .ref a ∧ Inv X pins σ H' sI ∧ (∀ b o, sI.heap.get? b = some o → b ∉ frs X.stack → B.get? b = some o) ∧ sI.heap.UpToSlots s'.heap ∧
    HandSPX.FlyingZ B X.stack a (L2N.Zn cls d) s'.heap ∧ H' a = none ∧ s'.os = sI.os ∧ AllBare s'.gens ∧ E cls d H' := by
  obtain ⟨a, B, H', cls, d, rfl, fl, hok, ub, na, os, ag, hE⟩ := c
  obtain ⟨G, g1, g2⟩ := L2.restrict s'.heap fun b => (B.get? b).isSome || decide (b ∈ frs X.stack)
  have st : B.StaysIn s'.heap := fl.1
  have gB : ∀ b o, B.get? b = some o → G.get? b = some o := fun b o e => by
    rw [g1 b (by simp [e])]
    exact st b o e
  have gF : ∀ b, b ∈ frs X.stack → G.get? b = s'.heap.get? b := fun b hb => g1 b (by simp [hb])
  have og : ∀ b o, G.get? b = some o → s'.heap.get? b = some o ∧ ((B.get? b).isSome = true ∨ b ∈ frs X.stack) := fun b o e => by
    cases q : ((B.get? b).isSome || decide (b ∈ frs X.stack)) with
    | false => rw [g2 b q] at e; cases e
    | true =>
      rw [g1 b q] at e
      exact ⟨e, by simpa [Bool.or_eq_true] using q⟩
  refine ⟨a, B, { s with heap := G, gens := s'.gens, drawn := s'.drawn, toks := s'.toks }, H', cls, d, rfl, ?_, fun b o e hb => ?_, Heap.UpToSlots.of_keeps fun b o e => (og b o e).1, fl, na, os, ag, hE⟩
  · refine I.call (ch := []) ⟨fun b o e n hb _ => gB b o (ub.keep b o e n hb), fun b o e n hb _ => ?_, fun b o e n _ => ub.free b o e n, fun b o e _ => ?_, ub.tups, ub.frzs, ub.tbls⟩ (hok.kept gB) ag (fun _ z => nomatch z)
    · obtain ⟨sl, q⟩ := ub.slot b o e hb
      exact ⟨sl, by rw [gF b hb]; exact q⟩
    · by_cases hb : b ∈ frs X.stack
      · obtain ⟨sl, q⟩ := ub.slot b o e hb
        exact ⟨_, by rw [gF b hb]; exact q⟩
      · obtain ⟨o', q⟩ := ub.there b o e hb
        exact ⟨o', gB b o' q⟩
  · obtain ⟨e', h⟩ := og b o e
    rcases h with h | h
    · obtain ⟨o', q⟩ := Option.isSome_iff_exists.mp h
      have z := st b o' q
      rw [e'] at z; cases z
      exact q
    · exact absurd h hb
theorem funFrames_less {h B B2 : Heap} (hb : ∀ b, B.get? b = none → B2.get? b = none) : ∀ {l : List Env}, h.FunFrames B l → h.FunFrames B2 l
  | [], _ => trivial
  | _ :: _, ⟨hk, ⟨L, o, hf, h0, h1, h2⟩, r⟩ => ⟨hk, ⟨L, o, hf, hb L h0, h1, h2⟩, funFrames_less hb r⟩
/-- an exception of a call within a comprehension's block leaves the comprehension -/
theorem blk_fails {W : L2.WX} (hs : X.stack = X.env :: X.outer) (hfX : X.env.frame = some X.env.locals) (tk : L2N.Takes X W) {H3 : Hp} {s3 : Shared} (I3 : Inv X pins σ H3 s3) {scope : Scope} {ce : Env} {fp : List Addr} (hce : ce.frame = X.env.frame) (cL : ce.locals = s3.heap.objs.size)
    (f3 : ∀ b ∈ fp, FpOk X pins H3 b ∧ b < s3.heap.objs.size) (hW : ∀ cls d H', E cls d H' → W cls d σ H') {xe : Value → Shared → Prop} {pinsB : List (Addr × Obj)} {σB : L2.St} {H9 : Hp} {s9 : Shared} (I9 : Inv ((X.blk s3 H3 scope ce fp).tr [] xe) pinsB σB H9 s9) {u : Value} (c : L2N.CX X.prog X.w X.stack H9 s9 E u s') :
    notedBy (model X.prog X.w) X.A ce (CompFails (model X.prog X.w) X.A X.xe ce) u s' := by
  obtain ⟨a, B, sI, H', cls, d, rfl, J, nb, up, fl, na, os, ag, hE⟩ := call_parts I9 c
  have hfr : X.A.frames = some (X.env :: X.outer) := by rw [I3.ok.frames, hs]
  have fl : HandSPX.FlyingZ B (X.env :: X.outer) a (L2N.Zn cls d) s'.heap := by rw [← hs]; exact fl
  show wpAny _ _ (noteFrame (.ref a) ce) _ _ s'
  rw [noteFrame_env _ hce]
  refine PXN.looks_onZ L2N.Zn.steady hfr hfX fl fun h1 hH1 up1 => ?_
  obtain ⟨B2, g1, g2⟩ := L2.restrict B fun b => decide (b ≠ ce.locals)
  have gC : B2.get? ce.locals = none := g2 _ (by simp)
  have gN : ∀ b, b ≠ ce.locals → B2.get? b = B.get? b := fun b hb => g1 b (by simp [hb])
  have gsub : ∀ b o, B2.get? b = some o → B.get? b = some o := fun b o e => by
    by_cases hb : b = ce.locals
    · rw [hb, gC] at e; cases e
    · rw [gN b hb] at e; exact e
  have gnone : ∀ b, B.get? b = none → B2.get? b = none := fun b e => by
    by_cases hb : b = ce.locals
    · rw [hb]; exact gC
    · rw [gN b hb]; exact e
  obtain ⟨k1, k2, k3, oe, vs, T, oT, ts, he, hz, hd, hv1, hnT, r⟩ := hH1
  have hH2 : HandSPX.HeldZ B2 (X.env :: X.outer) a (L2N.Zn cls d) X.env.locals h1 := ⟨fun b o e => k1 b o (gsub b o e), gnone _ k2, funFrames_less gnone k3, oe, vs, T, oT, ts, he, hz, hd, hv1, gnone _ hnT, r⟩
  obtain ⟨m, hn, _⟩ := J.loc
  have hn : sI.heap.Ns ce.locals m := hn
  have hk1 : ∀ b o, sI.heap.get? b = some o → (∀ vs, o.data ≠ .fields vs) → ∃ sl, h1.get? b = some { o with slots := sl } := fun b o e hnf => by
    obtain ⟨sl, e1⟩ := up b o e hnf
    obtain ⟨sl2, e2⟩ := up1 b _ e1 hnf
    exact ⟨sl2, e2⟩
  have nC : H' s3.heap.objs.size = none := by
    have z : H' ce.locals = none := J.free
    rw [cL] at z
    exact z
  have IX : Inv X pins σ H' sI := I3.call' (ch := fp) J.os J.base J.hok J.bare fun b hb => ⟨(f3 b hb).1.2.2.2.1, (f3 b hb).1.2.1, (f3 b hb).1.2.2.2.2.1, (f3 b hb).1.2.2.2.2.2⟩
  obtain ⟨f0, f1, f2, f4, f5, f6⟩ := I3.fpOk (Nat.le_refl _) nC
  refine compFails_heldZ (s' := { s' with heap := h1 }) (hce.trans hfX) gC (hn.upToSlots hk1) hH2 fun h3 h2 hh sb up3 => ?_
  obtain ⟨G2, q1, q2⟩ := L2.restrict sI.heap fun b => decide (b ≠ ce.locals)
  have G2n : ∀ b o, G2.get? b = some o → b ≠ ce.locals ∧ sI.heap.get? b = some o := fun b o e => by
    by_cases hb : b = ce.locals
    · rw [q2 b (by simp [hb])] at e; cases e
    · rw [q1 b (by simp [hb])] at e; exact ⟨hb, e⟩
  have IX2 : Inv X pins σ H' { sI with heap := G2, toks := sI.toks } := IX.turned (it := s3.heap.objs.size) (fun b o hb e => by rw [q1 b (by simp [cL, hb])]; exact e) f0 f1 f4 f5 f6
  refine tk _ _ ⟨a, B2, { sI with heap := G2, toks := sI.toks }, pins, σ, H', cls, d, rfl, IX2, fun b o e hb => ?_, fun b o e hnf => ?_, .inr (.inr (by rw [hs]; exact hh)), na, os, ag, hW _ _ _ hE⟩
  · obtain ⟨hb2, e2⟩ := G2n b o e
    rw [gN b hb2]
    exact nb b o e2 hb
  · obtain ⟨hb2, e2⟩ := G2n b o e
    obtain ⟨sl, e3⟩ := hk1 b o e2 hnf
    have e4 : h2.get? b = some { o with slots := sl } := (sb.2 b hb2).trans e3
    obtain ⟨sl2, e5⟩ := up3 b _ e4 hnf
    exact ⟨sl2, e5⟩
end
section
variable {X : Cx}
theorem lcx_core {W0 : XK} {pins : List (Addr × Obj)} {s : Shared} {σ : L2.St} {H : Hp} {Q : VK} {elt tg iter : Expr} {ifs : List Expr} {scope : Scope} {own : List (Str × Nat)} {pos pos' : Pos} {wi : TI} {g : TG} {tt : TT} {te : TE} {use : Option (Value → Sem Unit)} {Qf : Value → Shared → Prop}
    (hst : X.stack = X.env :: X.outer) (hfX : X.env.frame = some X.env.locals) (tk : L2N.Takes X fun cls d _ H => W0 cls d H) (hc : X.calm = true) (hN : X.N.Nodup) (I : Inv X pins σ H s) (hi : PI X tg iter wi) (ok : BlkOk X.N X.env.scope scope own)
    (hg : ∀ (s : Shared) (H : Hp) (C : Addr) (cl : List (Str × Addr)) (fp : List Addr) (xe : Value → Shared → Prop), PG ((X.blk s H scope (compEnvC scope cl C X.env) fp).tr [] xe) tg g) (ht : ∀ (s : Shared) (H : Hp) (C : Addr) (cl : List (Str × Addr)) (fp : List Addr) (xe : Value → Shared → Prop), PTs ((X.blk s H scope (compEnvC scope cl C X.env) fp).tr [] xe) ifs tt)
    (he : ∀ (s : Shared) (H : Hp) (C : Addr) (cl : List (Str × Addr)) (fp : List Addr) (xe : Value → Shared → Prop), (∀ E : XK, (∀ cls d H', E cls d H' → W0 cls d H') → Passes (L2N.CX X.prog X.w) ((X.blk s H scope (compEnvC scope cl C X.env) fp).tr [] xe) E) → PE ((X.blk s H scope (compEnvC scope cl C X.env) fp).tr [] xe) elt te) (hs : ∀ x, foldedSetIterable iter X.env x = pure x)
    (h : tLc wi g tt te (own.map (·.2)) σ H Q)
    (hRR : ∀ D (ce : Env) s' m H', Inv X pins σ H' s' → Q (.ref D) H' → s'.heap.Ns ce.locals m → FpOk X pins H' ce.locals → compEnds (model X.prog X.w) X.A X.xe use Qf (.ref D) ce (.ok .next) s') :
    wpAny (model X.prog X.w) X.A (comprehension (.ListComp elt [⟨tg, iter, ifs, 0⟩] scope pos) scope X.env pos' (newList []) false (eval iter X.env) use) Qf X.xe s := by
  have hfree : ∀ y ∈ scope.names, y.2 = .free → ∃ c, X.env.cells.lookup y.1 = some c := fun y hy e => by
    rcases ok.free y hy e with k | k
    · exact I.ok.has _ (.inl k)
    · exact I.ok.has _ (.inr k)
  refine comprehension_at (use := use) rfl hs (closure_ok hfree) ok.kind (fun y hy e => by rw [ok.uniq y hy, e])
    (thn (hi.run pins s σ H _ I h) fun xv s1 hx => thn hx fun itv s2 h2 => ?_)
  obtain ⟨it, fp, tn, J, H2, e, I2, T, st2, f2, q⟩ := h2
  subst e
  refine wpAny_newObj_type (newEnv_comp ?_) (by show 0 ≤ sizeLine; decide)
  generalize hD : s2.heap.objs.size = D
  have hDn : H2 D = none := I2.hok.fresh (Nat.le_of_eq hD)
  obtain ⟨W, ⟨m0, w0⟩, turn⟩ := q D hDn
  -- the new list
  generalize hs3 : ({ s2 with heap := s2.heap.push { cls := .type "list", data := .seq ([] : List Value).toArray } } : Shared) = s3
  have I3 : Inv X pins σ (upd H2 D (.lst [])) s3 := by
    rw [← hs3]
    refine I2.laid (t' := s2.toks) (fun b o e => Heap.get?_push_of_some _ e) (Nat.le_of_eq hD) ⟨Nat.zero_le _, [], 0, .nil, ?_⟩
    rw [← hD]
    exact Heap.get?_push_size _ rfl
  have h3 : s3.heap = s2.heap.push { cls := .type "list", data := .seq ([] : List Value).toArray } := by rw [← hs3]
  have sz : ∀ b ∈ fp, b < s2.heap.objs.size := fun b hb => by
    obtain ⟨o, e, _⟩ := T.obj _ _ st2 b hb
    exact Heap.lt_size e
  have f3 : ∀ b ∈ fp, FpOk X pins (upd H2 D (.lst [])) b ∧ b < s3.heap.objs.size := fun b hb => by
    have hlt := sz b hb
    refine ⟨⟨?_, (f2 b hb).2⟩, by rw [h3, Heap.size_push]; exact Nat.lt_succ_of_lt hlt⟩
    rw [upd_ne (by rw [← hD]; exact Nat.ne_of_lt hlt)]
    exact (f2 b hb).1
  have st3 : tn 0 s3.heap := T.keep _ _ _ st2 fun b _ o e => by rw [h3]; exact Heap.get?_push_of_some _ e
  have I4 := block_start I3 ok hN f3
  have hcf : (compEnvC scope (cellsFrom (s3.heap.objs.size + 1) scope.names (cloFrom X.env.cells scope.names [])) s3.heap.objs.size X.env).frame = X.env.frame := rfl
  have pg := hg s3 (upd H2 D (.lst [])) s3.heap.objs.size (cellsFrom (s3.heap.objs.size + 1) scope.names (cloFrom X.env.cells scope.names [])) fp
  have pt := ht s3 (upd H2 D (.lst [])) s3.heap.objs.size (cellsFrom (s3.heap.objs.size + 1) scope.names (cloFrom X.env.cells scope.names [])) fp
  have pe := he s3 (upd H2 D (.lst [])) s3.heap.objs.size (cellsFrom (s3.heap.objs.size + 1) scope.names (cloFrom X.env.cells scope.names [])) fp
  show codeAny _ _ (.compStart (.ListComp elt [⟨tg, iter, ifs, 0⟩] scope pos) 0 (.ref it) (.ref D) (compEnvC scope (cellsFrom (s3.heap.objs.size + 1) scope.names (cloFrom X.env.cells scope.names [])) s3.heap.objs.size X.env)) (compEnds (model X.prog X.w) X.A X.xe use Qf (.ref D) (compEnvC scope (cellsFrom (s3.heap.objs.size + 1) scope.names (cloFrom X.env.cells scope.names [])) s3.heap.objs.size X.env)) { s3 with heap := pushCells (s3.heap.push { cls := .type "dict", data := .dict #[] }) scope.names }
  have nfp : ∀ b ∈ fp, (upd H2 D (.lst [])) b = none := fun b hb => (f3 b hb).1.1
  generalize hce : compEnvC scope (cellsFrom (s3.heap.objs.size + 1) scope.names (cloFrom X.env.cells scope.names [])) s3.heap.objs.size X.env = ce at I4 pg pt pe hcf ⊢
  have cL : ce.locals = s3.heap.objs.size := by subst hce; rfl
  generalize hH3 : upd H2 D (.lst []) = H3 at I3 I4 pg pt pe w0 nfp f3
  generalize hs4 : ({ s3 with heap := pushCells (s3.heap.push { cls := .type "dict", data := .dict #[] }) scope.names } : Shared) = s4 at I4 ⊢
  have st4 : tn 0 s4.heap := T.keep _ _ _ st3 fun b _ o e => by rw [← hs4]; exact pushCells_keeps _ _ _ _ (Heap.get?_push_of_some _ e)
  obtain ⟨xe0, hxe0⟩ : ∃ xe0 : Value → Shared → Prop, xe0 = notedBy (model X.prog X.w) X.A ce fun e s' => compEnds (model X.prog X.w) X.A X.xe use Qf (.ref D) ce (.error e) s' := ⟨_, rfl⟩
  have I4 : Inv ((X.blk s3 H3 scope ce fp).tr [] xe0) [] (wipe σ (own.map (·.2))) H3 s4 := I4.toTry xe0
  have pass : ∀ E : XK, (∀ cls d H', E cls d H' → W0 cls d H') → Passes (L2N.CX X.prog X.w) ((X.blk s3 H3 scope ce fp).tr [] xe0) E := fun E hE pinsB σB H9 s9 e s' I9 c => by
    have z := blk_fails (W := fun cls d _ H => W0 cls d H) hst hfX tk I3 hcf cL f3 (fun cls d H' h => hE cls d H' h) I9 c
    show xe0 e s'
    rw [hxe0]
    cases use <;> exact z
  have stat : ∀ {σ' : L2.St} {H' : Hp} {s' : Shared}, Inv ((X.blk s3 H3 scope ce fp).tr [] xe0) [] σ' H' s' → (∀ b ∈ fp, H' b = none) → ∀ b ∈ fp, FpOk ((X.blk s3 H3 scope ce fp).tr [] xe0) [] H' b := fun {σ' H' s'} I' hn b hb =>
    ⟨hn b hb, (I'.ok.exf b hb).1, I'.ok.exfs b hb, .inl hb, fun x c e => (I'.ok.exf b hb).2 x c e, fun p hp => absurd (show p ∈ ([] : List (Addr × Obj)) ++ [] from hp) (by simp)⟩
  have loop : codeAny (model X.prog X.w) X.A (.compLoop (.ListComp elt [⟨tg, iter, ifs, 0⟩] scope pos) 0 (.ref it) (.ref D) ce) (compEnds (model X.prog X.w) X.A X.xe use Qf (.ref D) ce) s4 := by
    refine compLoop_any (fun n s' => ∃ i H', Inv ((X.blk s3 H3 scope ce fp).tr [] xe0) [] (wipe σ (own.map (·.2))) H' s' ∧ tn i s'.heap ∧ (∀ b ∈ fp, H' b = none) ∧ W i n H') ?_ m0 ⟨0, H3, I4, st4, nfp, w0⟩
    rintro n s5 ⟨i, H5, I5, st5, n5, w5⟩
    rcases turn i n H5 w5 with ⟨stop, qq⟩ | ⟨go, Nx, hNx, step⟩
    · have td := T.done ((X.blk s3 H3 scope ce fp).tr [] xe0) rfl rfl rfl hc i [] s5 _ H5 (fun _ _ => False) I5 (stat I5 n5) st5 stop
      refine thnF td fun r s6 ⟨hr, I6⟩ => ?_
      subst hr
      -- back in the def's context
      have I7 : Inv X pins σ H5 s6 := I3.call' (ch := fp) I6.os I6.base I6.hok I6.bare fun b hb => ⟨(f3 b hb).1.2.2.2.1, (f3 b hb).1.2.1, (f3 b hb).1.2.2.2.2.1, (f3 b hb).1.2.2.2.2.2⟩
      have nC : H5 s3.heap.objs.size = none := by
        have z : H5 ce.locals = none := I6.free
        rw [cL] at z
        exact z
      obtain ⟨m, hn, _⟩ := I6.loc
      have hn : s6.heap.Ns ce.locals m := hn
      exact hRR D ce s6 m H5 I7 qq hn (by rw [cL]; exact I3.fpOk (Nat.le_refl _) nC)
    · have ti := T.item ((X.blk s3 H3 scope ce fp).tr [] xe0) rfl rfl rfl hc i [] s5 _ H5 (fun _ _ => False) I5 (stat I5 n5) st5 go
      refine thnF ti fun r s6 ⟨u, hr, h6⟩ => ?_
      subst hr
      refine thnF h6 fun _ s7 ⟨x, H7, I7, r7, y7, st7, n7⟩ => ?_
      have I7' := I7.pinned (stat I7 n7) (T.obj _ _ st7)
      rw [← hxe0]
      refine thn ((pg _).run _ s7 _ H7 x u _ I7' r7 (step x H7 y7)) fun _ s8 ⟨σ8, H8, I8, hw8, q8⟩ => ?_
      refine thn ((pt _).run _ s8 σ8 H8 _ I8 q8) fun b s9 ⟨H9, I9, q9⟩ => ?_
      -- the turn's end
      have fin : ∀ {s' : Shared} {H' : Hp}, Inv ((X.blk s3 H3 scope ce fp).tr [] xe0) ([] ++ pinsAt fp s7.heap) σ8 H' s' → Nx H' → ∃ m, m < n ∧ ∃ i H', Inv ((X.blk s3 H3 scope ce fp).tr [] xe0) [] (wipe σ (own.map (·.2))) H' s' ∧ tn i s'.heap ∧ (∀ b ∈ fp, H' b = none) ∧ W i m H' := fun {s' H'} I' nx => by
        obtain ⟨m', hm, w'⟩ := hNx H' nx
        have pin' : ∀ b ∈ fp, ∀ o, s7.heap.get? b = some o → s'.heap.get? b = some o ∧ H' b = none := fun b hb o e =>
          let z := I'.pin (b, o) (List.mem_append_right _ (List.mem_append_right _ (mem_pinsAt hb e)))
          ⟨z.1, z.2.1⟩
        have hl : (wipe σ (own.map (·.2))).length = σ8.length := by rw [← hw8, wipe_length]
        refine ⟨m', hm, i + 1, H', (I'.unpinned (pins := [])).weak hl (fun j v e => ?_), T.keep _ _ _ st7 fun b hb o e => (pin' b hb o e).1, fun b hb => ?_, w'⟩
        · rw [← hw8] at e
          exact (wipe_some e).1
        · obtain ⟨o, e, _⟩ := T.obj _ _ st7 b hb
          exact (pin' b hb o e).2
      cases b with
      | false =>
        simp only [Bool.false_eq_true, if_false] at q9 ⊢
        exact fin I9 q9
      | true =>
        simp only [if_true] at q9 ⊢
        refine thn ((pe _ pass).run _ s9 σ8 H9 _ I9 q9) fun z s10 ⟨yv, H10, I10, r10, acc, hD10, hz10, nx⟩ => ?_
        exact app_ok (X := (X.blk s3 H3 scope ce fp).tr [] xe0) I10 hD10 hz10 r10 fun s11 I11 => fin I11 nx
  exact codeAny_compStart_list loop (T.self X.A 0 _ _ _ st4 loop)
theorem ps_setLcx {W0 : XK} {i : Nat} {y : Str} {py : Pos} {elt tg iter : Expr} {ifs : List Expr} {scope : Scope} {own : List (Str × Nat)} {pos spos : Pos} {wi : TI} {g : TG} {tt : TT} {te : TE} (hst : X.stack = X.env :: X.outer) (hfX : X.env.frame = some X.env.locals) (tk : L2N.Takes X fun cls d _ H => W0 cls d H) (hc : X.calm = true) (hN : X.N.Nodup) (hy : X.N[i]? = some y) (hyl : X.env.scope.names.lookup y = some .local)
    (hsw : swapsWith (.ListComp elt [⟨tg, iter, ifs, 0⟩] scope pos) (some (.Name y py)) spos.line X.env = pure true) (hi : PI X tg iter wi) (ok : BlkOk X.N X.env.scope scope own)
    (hg : ∀ (s : Shared) (H : Hp) (C : Addr) (cl : List (Str × Addr)) (fp : List Addr) (xe : Value → Shared → Prop), PG ((X.blk s H scope (compEnvC scope cl C X.env) fp).tr [] xe) tg g) (ht : ∀ (s : Shared) (H : Hp) (C : Addr) (cl : List (Str × Addr)) (fp : List Addr) (xe : Value → Shared → Prop), PTs ((X.blk s H scope (compEnvC scope cl C X.env) fp).tr [] xe) ifs tt)
    (he : ∀ (s : Shared) (H : Hp) (C : Addr) (cl : List (Str × Addr)) (fp : List Addr) (xe : Value → Shared → Prop), (∀ E : XK, (∀ cls d H', E cls d H' → W0 cls d H') → Passes (L2N.CX X.prog X.w) ((X.blk s H scope (compEnvC scope cl C X.env) fp).tr [] xe) E) → PE ((X.blk s H scope (compEnvC scope cl C X.env) fp).tr [] xe) elt te) (hs : ∀ x, foldedSetIterable iter X.env x = pure x := by intro _; rfl) :
    PS X (.Assign [.Name y py] (.ListComp elt [⟨tg, iter, ifs, 0⟩] scope pos) spos) (tAsg (tLc wi g tt te (own.map (·.2))) (gName i)) := by
  refine ⟨fun pins s σ H D I h => ?_⟩
  rw [exec_Assign_Name_used _ _ _ _ hsw]
  refine wpAny_bind (wpAny_standAt (wpAny_bind ?_))
  show wpAny _ X.A (do let _ ← comprehension (.ListComp elt [⟨tg, iter, ifs, 0⟩] scope pos) scope X.env (firstIterPos [⟨tg, iter, ifs, 0⟩] pos) (newList []) false (eval iter X.env) (some (assign (.Name y py) X.env))) _ _ s
  have h : tLc wi g tt te (own.map (·.2)) σ H (fun x H1 => gName i x σ H1 D.nx) := h
  refine wpAny_bind (thn (lcx_core (Qf := fun _ s' => SP X pins D .next s') hst hfX tk hc hN I hi ok hg ht he hs h fun L ce s' m H' I' q hn f => ?_) fun _ s' hq => wpAny_pure (wpAny_pure hq))
  show wpAny _ _ (assign (.Name y py) X.env (.ref L)) _ _ _
  refine wpAny_assign_Name (store_ok2 (v := V.ref L) I' hN hy (.inl hyl) rfl (fun s2 I2 ⟨a, sb, ha⟩ => ?_) (.inr hyl))
  obtain ⟨f0, f1, f2, f3, f4, f5⟩ := f
  have haC : ce.locals ≠ a := by
    rcases ha with z | z
    · rw [z]; exact f1
    · exact fun e => f4 y a z e.symm
  refine ⟨m, hn.sameBut sb haC, fun h3 sb3 => ?_⟩
  exact ⟨_, H', I2.turned (t' := s2.toks) (fun b o hb e => (sb3.2 b hb).trans e) f0 f1 f3 f4 f5, q⟩
end
end Rd
namespace Rd
open PySem PySem.Spec PyProof.Rows L2
theorem excC_kit {K : PySem.W.Frag} {D x : Addr} {ox : Obj} {od : Option Obj} (C : ExcC K D) : PySem.W.KitX K (.ref x) (.ref D) (fun h => PySem.W.InstAt h x ox D od) := by
  have hcl : (PySem.W.clsIn K D).isSome = true := by
    have h := C.hd
    obtain ⟨cd, hc, _⟩ := PySem.W.any_some h
    rw [hc]; rfl
  exact PySem.W.kitx_exc hcl C.hg C.hk C.hs C.ha C.hn C.ht C.hm
/-- isinstance(e, c): e the exception that the suite holds, with a dict -/
def rIsX (K : PySem.W.Frag) (a : Addr) (cls : Value) (d : Option Addr) : List V → Hp → VK → Prop := fun xs H Q => ∃ (D dd : Addr) (fs : List (Str × V)) (c : V) (cv : Value) (b : Bool), xs = [.ref a, c] ∧ cls = .ref D ∧ d = some dd ∧ H dd = some (.xd fs) ∧ ExcC K D ∧ (∀ u, RelV c u → u = cv) ∧ PySem.W.kitOne K (.ref D) cv = some b ∧ Q (.bl b) H
theorem instX {X : Cx} {a D dd : Addr} {oe : Obj} {pn pins : List (Addr × Obj)} {σ : L2.St} {H : Hp} {s : Shared} {fs : List (Str × V)} (I : Inv (X.suite a ((a, oe) :: pn)) pins σ H s) (hz : Zc (.ref D) (some dd) oe) (hf : ∃ vs, oe.data = .fields vs) (ea : H dd = some (.xd fs)) : ∃ od, PySem.W.InstAt s.heap a oe D (some od) := by
  obtain ⟨ha, _⟩ := I.pin (a, oe) (List.mem_append_left _ List.mem_cons_self)
  obtain ⟨vs, hd⟩ := hf
  have hx : ObjOk X.prog X.w H s.heap dd (.xd fs) := I.hok dd _ ea
  obtain ⟨mA, hns, hr⟩ := hx
  obtain ⟨od, ho, hl⟩ := lookIn_ns hns
  exact ⟨od, ha, hz.1, by unfold PySem.W.notCls; rw [hd] <;> rfl, by rw [hz.2]; exact ho⟩
theorem call_isX {X : Cx} {a : Addr} {cls : Value} {d : Option Addr} {oe : Obj} {pn : List (Addr × Obj)} (hz : Zc cls d oe) (hf : ∃ vs, oe.data = .fields vs) : CallR (X.suite a ((a, oe) :: pn)) (.builtin "isinstance") (rIsX X.K a cls d) := by
  intro pins s σ H xs us Q I r h
  obtain ⟨D, dd, fs, c, cv, b, rfl, rfl, rfl, ea, C, hcv, e, q⟩ := h
  cases r with
  | cons rx rr =>
    cases rr with
    | cons rt rr =>
      cases rr
      cases rx
      have ec := hcv _ rt
      subst ec
      obtain ⟨od, J⟩ := instX I hz hf ea
      exact PySem.W.kia_one (excC_kit C) I.kIn J e (fun z => nomatch z) fun tk => ⟨.bl b, H, I.kept (t' := tk) fun _ _ z => z, rfl, q⟩
/-- isinstance(e, (c, c')) -/
def rIsXt (K : PySem.W.Frag) (a : Addr) (cls : Value) (d : Option Addr) : List V → Hp → VK → Prop := fun xs H Q => ∃ (D dd tp : Addr) (fs : List (Str × V)) (cs : List V) (cvs : List Value) (b : Bool), xs = [.ref a, .ref tp] ∧ cls = .ref D ∧ d = some dd ∧ H dd = some (.xd fs) ∧ ExcC K D ∧ H tp = some (.tup cs) ∧ (∀ us, Vals cs us → us = cvs) ∧ PySem.W.kitAny K (.ref D) cvs = some b ∧ Q (.bl b) H
theorem call_isXt {X : Cx} {a : Addr} {cls : Value} {d : Option Addr} {oe : Obj} {pn : List (Addr × Obj)} (hz : Zc cls d oe) (hf : ∃ vs, oe.data = .fields vs) : CallR (X.suite a ((a, oe) :: pn)) (.builtin "isinstance") (rIsXt X.K a cls d) := by
  intro pins s σ H xs us Q I r h
  obtain ⟨D, dd, tp, fs, cs, cvs, b, rfl, rfl, rfl, ea, C, etp, hcv, e, q⟩ := h
  cases r with
  | cons rx rr =>
    cases rr with
    | cons rt rr =>
      cases rr
      cases rx
      cases rt
      obtain ⟨od, J⟩ := instX I hz hf ea
      obtain ⟨_, its, hv, htp⟩ := (show ObjOk X.prog X.w H s.heap tp (.tup cs) from I.hok tp _ etp)
      have ei := hcv _ hv
      subst ei
      obtain ⟨⟨oc, od', oda, osl⟩, ht, hc, n, hd⟩ := htp
      dsimp only at hc hd
      subst hc hd
      exact PySem.W.kia_tup (excC_kit C) I.kIn J ht e (fun z => nomatch z) fun tk => ⟨.bl b, H, I.kept (t' := tk) fun _ _ z => z, rfl, q⟩
def excB (K : PySem.W.Frag) (D : Addr) : Bool := xfB K D && (He.eqO (PySem.W.findIn K (.ref D) "__class__") (some (some (.builtin "object.__class__"))) && (decide (PySem.W.specialIn K (.builtin "object.__class__") "__get__" = some (some (.builtin "getset_descriptor.__get__"))) && (decide (PySem.W.takesIn K (.builtin "object.__class__") = some true) && decide (PySem.W.mroIn K D (.type "object") = some true))))
theorem excB_ok {K : PySem.W.Frag} {D : Addr} (h : excB K D = true) : ExcC K D := by
  obtain ⟨h1, h⟩ := He.ba h
  obtain ⟨h2, h⟩ := He.ba h
  obtain ⟨h3, h⟩ := He.ba h
  obtain ⟨h4, h5⟩ := He.ba h
  have x := xfB_ok h1
  exact ⟨x.ga, x.gg, x.exC, x.hdC, He.eqO_ok h2, of_decide_eq_true h3, of_decide_eq_true h4, of_decide_eq_true h5⟩
/-- the class NoWay as the law asks of it -/
structure Xi (K : PySem.W.Frag) : Prop where
  c : ExcC K (He.ga K "NoWay")
  up : PySem.W.exmOne K (.ref (He.ga K "NoWay")) (.ref (He.ga K "RoadError")) = some true
  one : PySem.W.kitOne K (.ref (He.ga K "NoWay")) (.ref (He.ga K "NoWay")) = some true
  any : PySem.W.kitAny K (.ref (He.ga K "NoWay")) [.ref (He.ga K "BadRecipe"), .ref (He.ga K "BadHeap")] = some false
def xiB (K : PySem.W.Frag) : Bool := excB K (He.ga K "NoWay") && (decide (PySem.W.exmOne K (.ref (He.ga K "NoWay")) (.ref (He.ga K "RoadError")) = some true) && (decide (PySem.W.kitOne K (.ref (He.ga K "NoWay")) (.ref (He.ga K "NoWay")) = some true) && decide (PySem.W.kitAny K (.ref (He.ga K "NoWay")) [.ref (He.ga K "BadRecipe"), .ref (He.ga K "BadHeap")] = some false)))
theorem xiB_ok {K : PySem.W.Frag} (h : xiB K = true) : Xi K := by
  obtain ⟨h1, h⟩ := He.ba h
  obtain ⟨h2, h⟩ := He.ba h
  obtain ⟨h3, h4⟩ := He.ba h
  exact ⟨excB_ok h1, of_decide_eq_true h2, of_decide_eq_true h3, of_decide_eq_true h4⟩
end Rd
namespace Rd
open PySem L2
def top (i : Nat) : Stmt := PySem.Challenge.pw_openroads_k40_recipes_run.main.body.getD i (.Pass ⟨0, 0, 0, 0⟩)
structure Tx (w : World) (K : PySem.W.Frag) (mg : Str → Option Value) : Prop where
  z_len : mg "len" = none
  z_all : mg "all" = none
  z_abs : mg "abs" = none
  z_int : mg "int" = none
  z_list : mg "list" = none
  z_tuple : mg "tuple" = none
  z_range : mg "range" = none
  z_isinstance : mg "isinstance" = none
  z_sorted : mg "sorted" = none
  z_str : mg "str" = none
  z_enumerate : mg "enumerate" = none
  z_bool : mg "bool" = none
  c_SMALL : ∃ t, mg "SMALL" = some (.str "abcdefghijklmnopqrstuvwxyz" t)
  c_GREAT : ∃ t, mg "GREAT" = some (.str "ABCDEFGHIJKLMNOPQRSTUVWXYZ" t)
  c_DIGITS : ∃ t, mg "DIGITS" = some (.str "0123456789" t)
  D_SIGNS : Kd w K mg "SIGNS" [("pair", 2), ("seal", 2), ("lock", 2), ("mark", 1), ("open", 1), ("own", 1)]
  U_SHUT : Ktu K mg "SHUT" ["seal", "lock"]
  D_LENGTHS : Kd w K mg "LENGTHS" [("first", 2), ("second", 2), ("mark", 2), ("open", 2), ("unseal", 3), ("unlock", 3), ("pair", 3), ("seal", 3), ("lock", 3)]
  D_OPENERS : KdS w K mg "OPENERS" [("seal", "unseal"), ("lock", "unlock")]
  F_is_word : Fh K mg "is_word" (top 15)
  F_is_unknown : Fh K mg "is_unknown" (top 16)
  F_is_name : Fh K mg "is_name" (top 17)
  F_atom_tree : Fh K mg "atom_tree" (top 18)
  F_is_atom_form : Fh K mg "is_atom_form" (top 19)
  F_check_form : Fh K mg "check_form" (top 20)
  F_parts_of : Fh K mg "parts_of" (top 21)
  F_atoms_of : Fh K mg "atoms_of" (top 22)
  F_is_plain : Fh K mg "is_plain" (top 27)
  F_partner : Fh K mg "partner" (top 31)
  F_undoing_key : Fh K mg "undoing_key" (top 32)
  F_is_recipe : Fh K mg "is_recipe" (top 39)
  F_run_recipe : Fh K mg "run_recipe" (top 40)
  F_worked : Fh K mg "worked" (top 41)
  F_check_plain : Fh K mg "check_plain" (top 47)
  F__law_cell_at : Fh K mg "_law_cell_at" (top 50)
  F__law_mixed : Fh K mg "_law_mixed" (top 51)
  F__law_row : Fh K mg "_law_row" (top 52)
  F__law_atoms : Fh K mg "_law_atoms" (top 53)
  F__law_form : Fh K mg "_law_form" (top 54)
  F__law_forms : Fh K mg "_law_forms" (top 55)
  F__law_partner : Fh K mg "_law_partner" (top 56)
  F__law_undoing : Fh K mg "_law_undoing" (top 57)
  F__law_heap : Fh K mg "_law_heap" (top 58)
  F__law_told : Fh K mg "_law_told" (top 59)
  F__law_run : Fh K mg "_law_run" (top 60)
  F__law_step : Fh K mg "_law_step" (top 61)
  F__law_recipe : Fh K mg "_law_recipe" (top 62)
  F__law_apart : Fh K mg "_law_apart" (top 63)
  F__law_way : Fh K mg "_law_way" (top 64)
  F__law_built : Fh K mg "_law_built" (top 65)
  F__law_openings : Fh K mg "_law_openings" (top 66)
  F__law_all_ways : Fh K mg "_law_all_ways" (top 67)
  F__law_drawn_heap : Fh K mg "_law_drawn_heap" (top 68)
  F__law_text : Fh K mg "_law_text" (top 69)
  F__law_tuples : Fh K mg "_law_tuples" (top 70)
  F__law_tried : Fh K mg "_law_tried" (top 71)
  F__law_longer : Fh K mg "_law_longer" (top 72)
  g_RoadError : mg "RoadError" = some (.ref (He.ga K "RoadError"))
  r_RoadError : REx K (He.ga K "RoadError")
  X_BadAtom : Xh K mg "BadAtom" "text" "BadAtom.__init__" (inClass (top 3) 0)
  X_BadForm : Xh K mg "BadForm" "path" "BadForm.__init__" (inClass (top 4) 0)
  X_BadHeap : Xh K mg "BadHeap" "index" "BadHeap.__init__" (inClass (top 7) 0)
  g_BadRecipe : mg "BadRecipe" = some (.ref (He.ga K "BadRecipe"))
  X_NoWay : Xh K mg "NoWay" "step" "NoWay.__init__" (inClass (top 9) 0)
  k_Letter : Cls K (He.ga K "Letter")
  n_Letter_tree : NoAttr K (He.ga K "Letter") "tree"
  I_Letter : Ih K mg "Letter" "Letter.__init__" (inClass (top 26) 0) [.non]
  S_Letter_of : Sh K mg "Letter" "of" "Letter.of" (inClass (top 26) 1)
  M_Letter_form : Mh K "Letter" "form" "Letter.form" (inClass (top 26) 3)
  M_Letter_unknowns : Mh K "Letter" "unknowns" "Letter.unknowns" (inClass (top 26) 5)
  k_Heap : Cls K (He.ga K "Heap")
  g_Heap : mg "Heap" = some (.ref (He.ga K "Heap"))
  n_Heap_trees : NoAttr K (He.ga K "Heap") "trees"
  J_Heap : Mk K (He.ga K "Heap") (He.ma K (He.ga K "Heap") "__init__")
  M_Heap_init : Mh K "Heap" "__init__" "Heap.__init__" (inClass (top 48) 0)
  M_Heap_letters : Mh K "Heap" "letters" "Heap.letters" (inClass (top 48) 1)
  M_Heap_run : Mh K "Heap" "run" "Heap.run" (inClass (top 48) 4)
  W_NoWay : Xi K
  B_Heap : BoD K "Heap" "Letter" "__add__" "__radd__"
section
set_option maxHeartbeats 0
def d0 : He.DefD := ⟨("is_word", none), "is_word", "is_word", defArgs (top 15), defBody (top 15), defScope (top 15), [], []⟩
def d1 : He.DefD := ⟨("is_unknown", none), "is_unknown", "is_unknown", defArgs (top 16), defBody (top 16), defScope (top 16), [], []⟩
def d2 : He.DefD := ⟨("is_name", none), "is_name", "is_name", defArgs (top 17), defBody (top 17), defScope (top 17), [], []⟩
def d3 : He.DefD := ⟨("atom_tree", none), "atom_tree", "atom_tree", defArgs (top 18), defBody (top 18), defScope (top 18), [], []⟩
def d4 : He.DefD := ⟨("is_atom_form", none), "is_atom_form", "is_atom_form", defArgs (top 19), defBody (top 19), defScope (top 19), [], []⟩
def d5 : He.DefD := ⟨("check_form", none), "check_form", "check_form", defArgs (top 20), defBody (top 20), defScope (top 20), [], []⟩
def d6 : He.DefD := ⟨("parts_of", none), "parts_of", "parts_of", defArgs (top 21), defBody (top 21), defScope (top 21), [], []⟩
def d7 : He.DefD := ⟨("atoms_of", none), "atoms_of", "atoms_of", defArgs (top 22), defBody (top 22), defScope (top 22), [], []⟩
def d8 : He.DefD := ⟨("is_plain", none), "is_plain", "is_plain", defArgs (top 27), defBody (top 27), defScope (top 27), [], []⟩
def d9 : He.DefD := ⟨("partner", none), "partner", "partner", defArgs (top 31), defBody (top 31), defScope (top 31), [], []⟩
def d10 : He.DefD := ⟨("undoing_key", none), "undoing_key", "undoing_key", defArgs (top 32), defBody (top 32), defScope (top 32), [], []⟩
def d11 : He.DefD := ⟨("is_recipe", none), "is_recipe", "is_recipe", defArgs (top 39), defBody (top 39), defScope (top 39), [], []⟩
def d12 : He.DefD := ⟨("run_recipe", none), "run_recipe", "run_recipe", defArgs (top 40), defBody (top 40), defScope (top 40), [], []⟩
def d13 : He.DefD := ⟨("worked", none), "worked", "worked", defArgs (top 41), defBody (top 41), defScope (top 41), [], []⟩
def d14 : He.DefD := ⟨("check_plain", none), "check_plain", "check_plain", defArgs (top 47), defBody (top 47), defScope (top 47), [], []⟩
def d15 : He.DefD := ⟨("_law_cell_at", none), "_law_cell_at", "_law_cell_at", defArgs (top 50), defBody (top 50), defScope (top 50), [], []⟩
def d16 : He.DefD := ⟨("_law_mixed", none), "_law_mixed", "_law_mixed", defArgs (top 51), defBody (top 51), defScope (top 51), [], []⟩
def d17 : He.DefD := ⟨("_law_row", none), "_law_row", "_law_row", defArgs (top 52), defBody (top 52), defScope (top 52), [], []⟩
def d18 : He.DefD := ⟨("_law_atoms", none), "_law_atoms", "_law_atoms", defArgs (top 53), defBody (top 53), defScope (top 53), [], []⟩
def d19 : He.DefD := ⟨("_law_form", none), "_law_form", "_law_form", defArgs (top 54), defBody (top 54), defScope (top 54), [], []⟩
def d20 : He.DefD := ⟨("_law_forms", none), "_law_forms", "_law_forms", defArgs (top 55), defBody (top 55), defScope (top 55), [], []⟩
def d21 : He.DefD := ⟨("_law_partner", none), "_law_partner", "_law_partner", defArgs (top 56), defBody (top 56), defScope (top 56), [], []⟩
def d22 : He.DefD := ⟨("_law_undoing", none), "_law_undoing", "_law_undoing", defArgs (top 57), defBody (top 57), defScope (top 57), [], []⟩
def d23 : He.DefD := ⟨("_law_heap", none), "_law_heap", "_law_heap", defArgs (top 58), defBody (top 58), defScope (top 58), [], []⟩
def d24 : He.DefD := ⟨("_law_told", none), "_law_told", "_law_told", defArgs (top 59), defBody (top 59), defScope (top 59), [], []⟩
def d25 : He.DefD := ⟨("_law_run", none), "_law_run", "_law_run", defArgs (top 60), defBody (top 60), defScope (top 60), [], []⟩
def d26 : He.DefD := ⟨("_law_step", none), "_law_step", "_law_step", defArgs (top 61), defBody (top 61), defScope (top 61), [], []⟩
def d27 : He.DefD := ⟨("_law_recipe", none), "_law_recipe", "_law_recipe", defArgs (top 62), defBody (top 62), defScope (top 62), [], []⟩
def d28 : He.DefD := ⟨("_law_apart", none), "_law_apart", "_law_apart", defArgs (top 63), defBody (top 63), defScope (top 63), [], []⟩
def d29 : He.DefD := ⟨("_law_way", none), "_law_way", "_law_way", defArgs (top 64), defBody (top 64), defScope (top 64), [], []⟩
def d30 : He.DefD := ⟨("_law_built", none), "_law_built", "_law_built", defArgs (top 65), defBody (top 65), defScope (top 65), [], []⟩
def d31 : He.DefD := ⟨("_law_openings", none), "_law_openings", "_law_openings", defArgs (top 66), defBody (top 66), defScope (top 66), [], []⟩
def d32 : He.DefD := ⟨("_law_all_ways", none), "_law_all_ways", "_law_all_ways", defArgs (top 67), defBody (top 67), defScope (top 67), [], []⟩
def d33 : He.DefD := ⟨("_law_drawn_heap", none), "_law_drawn_heap", "_law_drawn_heap", defArgs (top 68), defBody (top 68), defScope (top 68), [], []⟩
def d34 : He.DefD := ⟨("_law_text", none), "_law_text", "_law_text", defArgs (top 69), defBody (top 69), defScope (top 69), [], []⟩
def d35 : He.DefD := ⟨("_law_tuples", none), "_law_tuples", "_law_tuples", defArgs (top 70), defBody (top 70), defScope (top 70), [], []⟩
def d36 : He.DefD := ⟨("_law_tried", none), "_law_tried", "_law_tried", defArgs (top 71), defBody (top 71), defScope (top 71), [], []⟩
def d37 : He.DefD := ⟨("_law_longer", none), "_law_longer", "_law_longer", defArgs (top 72), defBody (top 72), defScope (top 72), [], []⟩
def d38 : He.DefD := ⟨("law", none), "law", "law", defArgs (top 73), defBody (top 73), defScope (top 73), [], []⟩
def d39 : He.DefD := ⟨("BadAtom", some "__init__"), "__init__", "BadAtom.__init__", defArgs (inClass (top 3) 0), defBody (inClass (top 3) 0), defScope (inClass (top 3) 0), [], []⟩
def d40 : He.DefD := ⟨("BadForm", some "__init__"), "__init__", "BadForm.__init__", defArgs (inClass (top 4) 0), defBody (inClass (top 4) 0), defScope (inClass (top 4) 0), [], []⟩
def d41 : He.DefD := ⟨("BadHeap", some "__init__"), "__init__", "BadHeap.__init__", defArgs (inClass (top 7) 0), defBody (inClass (top 7) 0), defScope (inClass (top 7) 0), [], []⟩
def d42 : He.DefD := ⟨("NoWay", some "__init__"), "__init__", "NoWay.__init__", defArgs (inClass (top 9) 0), defBody (inClass (top 9) 0), defScope (inClass (top 9) 0), [], []⟩
def d43 : He.DefD := ⟨("Letter", some "__init__"), "__init__", "Letter.__init__", defArgs (inClass (top 26) 0), defBody (inClass (top 26) 0), defScope (inClass (top 26) 0), [.non], []⟩
def d44 : He.DefD := ⟨("Letter", some "form"), "form", "Letter.form", defArgs (inClass (top 26) 3), defBody (inClass (top 26) 3), defScope (inClass (top 26) 3), [], []⟩
def d45 : He.DefD := ⟨("Letter", some "unknowns"), "unknowns", "Letter.unknowns", defArgs (inClass (top 26) 5), defBody (inClass (top 26) 5), defScope (inClass (top 26) 5), [], []⟩
def d46 : He.DefD := ⟨("Heap", some "__init__"), "__init__", "Heap.__init__", defArgs (inClass (top 48) 0), defBody (inClass (top 48) 0), defScope (inClass (top 48) 0), [], []⟩
def d47 : He.DefD := ⟨("Heap", some "letters"), "letters", "Heap.letters", defArgs (inClass (top 48) 1), defBody (inClass (top 48) 1), defScope (inClass (top 48) 1), [], []⟩
def d48 : He.DefD := ⟨("Heap", some "run"), "run", "Heap.run", defArgs (inClass (top 48) 4), defBody (inClass (top 48) 4), defScope (inClass (top 48) 4), [], []⟩
def fa0 : List He.Fa := [.free "len", .free "all", .free "abs", .free "int", .free "list", .free "tuple", .free "range", .free "isinstance", .free "sorted", .free "str", .free "enumerate", .free "bool", .str "SMALL" "abcdefghijklmnopqrstuvwxyz", .str "GREAT" "ABCDEFGHIJKLMNOPQRSTUVWXYZ", .str "DIGITS" "0123456789", .glo "SIGNS", .glo "SHUT", .glo "LENGTHS", .glo "OPENERS", .glo "is_word", .glo "is_unknown", .glo "is_name", .glo "atom_tree", .glo "is_atom_form", .glo "check_form", .glo "parts_of", .glo "atoms_of", .glo "is_plain", .glo "partner", .glo "undoing_key"]
def fa1 : List He.Fa := [.glo "is_recipe", .glo "run_recipe", .glo "worked", .glo "check_plain", .glo "_law_cell_at", .glo "_law_mixed", .glo "_law_row", .glo "_law_atoms", .glo "_law_form", .glo "_law_forms", .glo "_law_partner", .glo "_law_undoing", .glo "_law_heap", .glo "_law_told", .glo "_law_run", .glo "_law_step", .glo "_law_recipe", .glo "_law_apart", .glo "_law_way", .glo "_law_built", .glo "_law_openings", .glo "_law_all_ways", .glo "_law_drawn_heap", .glo "_law_text", .glo "_law_tuples", .glo "_law_tried", .glo "_law_longer", .glo "law", .glo "RoadError", .glo "BadAtom"]
def fa2 : List He.Fa := [.exm "BadAtom" "BadAtom" true, .meth "BadAtom" "__init__", .noat "BadAtom" "text", .glo "BadForm", .exm "BadForm" "BadForm" true, .meth "BadForm" "__init__", .noat "BadForm" "path", .glo "BadHeap", .exm "BadHeap" "BadHeap" true, .meth "BadHeap" "__init__", .noat "BadHeap" "index", .glo "BadRecipe", .glo "NoWay", .exm "NoWay" "NoWay" true, .meth "NoWay" "__init__", .noat "NoWay" "step", .glo "Letter", .cls "Letter", .noat "Letter" "tree", .mkr "Letter", .meth "Letter" "form", .meth "Letter" "unknowns", .glo "Heap", .cls "Heap", .noat "Heap" "trees", .meth "Heap" "__init__", .mkr "Heap", .meth "Heap" "letters", .meth "Heap" "run"]
def fa : List He.Fa := fa0 ++ fa1 ++ fa2
def fn0 : List He.DefD := [d0, d1, d2, d3, d4, d5, d6, d7, d8, d9, d10, d11, d12, d13, d14, d15, d16, d17, d18, d19, d20, d21, d22, d23, d24, d25, d26, d27, d28, d29]
def fn1 : List He.DefD := [d30, d31, d32, d33, d34, d35, d36, d37, d38, d39, d40, d41, d42, d43, d44, d45, d46, d47, d48]
def fn : List He.DefD := fn0 ++ fn1
def loo0 : List PySem.Str := ["_wall", "RoadError", "BadAtom", "BadForm", "BadKey", "BadText", "BadHeap", "BadRecipe", "NoWay", "SMALL", "GREAT", "DIGITS", "SIGNS", "is_word", "is_unknown", "is_name", "atom_tree", "is_atom_form", "check_form", "parts_of", "atoms_of", "tree_text", "made_tree", "Reader", "Letter", "is_plain", "MAKEABLE", "SHUT", "partner", "undoing_key"]
def loo1 : List PySem.Str := ["is_made", "halves_of", "opened_parts", "LENGTHS", "OPENERS", "is_recipe", "run_recipe", "worked", "made_recipe", "built_recipe", "add_way", "ways_of", "check_plain", "Heap", "_law_cell_at", "_law_mixed", "_law_row", "_law_atoms", "_law_form", "_law_forms", "_law_partner", "_law_undoing", "_law_heap", "_law_told", "_law_run", "_law_step", "_law_recipe", "_law_apart", "_law_way", "_law_built"]
def loo2 : List PySem.Str := ["_law_openings", "_law_all_ways", "_law_drawn_heap", "_law_text", "_law_tuples", "_law_tried", "_law_longer"]
def loo : List PySem.Str := loo0 ++ loo1 ++ loo2
def e0 : He5.DefA := ⟨fun K => sfn K "Letter" "of", "of", "Letter.of", defArgs (inClass (top 26) 1), defBody (inClass (top 26) 1), defScope (inClass (top 26) 1), [], []⟩
def fs : List He5.DefA := [e0]
def ts : List He.Tab := [(fun K => He.ga K "SIGNS", ["pair", "seal", "lock", "mark", "open", "own"]), (fun K => He.ga K "LENGTHS", ["first", "second", "mark", "open", "unseal", "unlock", "pair", "seal", "lock"]), (fun K => He.ga K "OPENERS", ["seal", "lock"])]
def exl (K : PySem.W.Frag) : List Bool := [kdB K (He.ga K "SIGNS") [("pair", 2), ("seal", 2), ("lock", 2), ("mark", 1), ("open", 1), ("own", 1)], ktB K (He.ga K "SHUT") ["seal", "lock"], kdB K (He.ga K "LENGTHS") [("first", 2), ("second", 2), ("mark", 2), ("open", 2), ("unseal", 3), ("unlock", 3), ("pair", 3), ("seal", 3), ("lock", 3)], kdsB K (He.ga K "OPENERS") [("seal", "unseal"), ("lock", "unlock")], rexB K "RoadError", oexB K "BadAtom", xfB K (He.ga K "BadAtom"), oexB K "BadForm", xfB K (He.ga K "BadForm"), oexB K "BadHeap", xfB K (He.ga K "BadHeap"), oexB K "NoWay", xfB K (He.ga K "NoWay"), statB K "Letter" "of", xiB K, boB K "Heap" "Letter" "__radd__"]
def exq : PySem.W.Frag → Bool := fun K => (exl K).all id
theorem exl_ok {K : PySem.W.Frag} (h : exq K = true) (i : Nat) {b : Bool} (e : (exl K)[i]? = some b) : b = true := List.all_eq_true.mp h b (List.mem_of_getElem? e)
abbrev R : PySem.W.OpenRow := PySem.W.OpenLaw.row PySem.Challenge.rw_openroads_k40_recipes_run
abbrev hk : PySem.W.Hook := hookZ 5 fa fn ts exq fs
def ob (s : PySem.W.SharedT) : AlZ := obsZ 5 fa fn ts exq fs (HandSHeadRun.getT s)
theorem ob_eq (s : PySem.W.SharedT) : ob s = hk.obs s.abs := obsZ_eq (HandSHeadRun.getT_eq s)
abbrev qv : Program := PySem.W.view R.prog [73]
theorem join3 {α β γ δ : Type _} {o : Option α} {f : α → β} {g : α → γ} {h : α → δ} {a : β} {b : γ} {c : δ} (e1 : o.map f = some a) (e2 : o.map g = some b) (e3 : o.map h = some c) : o.map (fun s => (f s, g s, h s)) = some (a, b, c) := by
  cases o with
  | none => cases e1
  | some s =>
    cases e1
    cases e2
    cases e3
    rfl
theorem join3c {α β γ δ : Type _} {o : Option α} {fA fE : α → Bool} {fV : α → β} {fT : α → γ} {fS : α → δ} {b : β} {t : γ} {d : δ} (hA : o.map fA = some true) (hV : o.map (fun s => (fV s, fT s)) = some (b, t)) (hE : o.map (fun s => (fE s, fS s)) = some (true, d)) : o.map (fun s => ((((fA s, fV s), fT s), fE s), fS s)) = some ((((true, b), t), true), d) := by
  cases o with
  | none => cases hA
  | some s =>
    have hA : fA s = true := Option.some.inj hA
    have hV : (fV s, fT s) = (b, t) := Option.some.inj hV
    have hE : (fE s, fS s) = (true, d) := Option.some.inj hE
    show some ((((fA s, fV s), fT s), fE s), fS s) = _
    obtain ⟨h1, h2⟩ := Prod.mk.inj hV
    obtain ⟨h3, h4⟩ := Prod.mk.inj hE
    rw [hA, h1, h2, h3, h4]
open PySem PySem.W PySem.Calls PyProof.Rows HandSHeadRun in
theorem run0a (w : World) (os : OsState) : (HandSHeadRun.endF (HandSHeadRun.stepQ (HandSHeadRun.denQ HandSHeadRun.tabQ) R.prog (w.withFollow "special-get-raises" false)) 6000 R.prog (w.withFollow "special-get-raises" false) os).map (fun s => looksF R.prog (boot_heap (w.withFollow "special-get-raises" false).params) s.abs) = some true := by
  kernel_rfl
open PySem PySem.W PySem.Calls PyProof.Rows HandSHeadRun in
theorem run0b (w : World) (os : OsState) : (HandSHeadRun.endF (HandSHeadRun.stepQ (HandSHeadRun.denQ HandSHeadRun.tabQ) R.prog (w.withFollow "special-get-raises" false)) 6000 R.prog (w.withFollow "special-get-raises" false) os).map (fun s => seenQ qv loo (importedModules R.prog.main.body) (fun s => xlAt qv [] s && recOk R.toRowW.records s) s.abs) = some (openGood qv loo) := by
  kernel_rfl
open PySem PySem.W PySem.Calls PyProof.Rows HandSHeadRun in
theorem run0AB (w : World) (os : OsState) : (HandSHeadRun.endF (HandSHeadRun.stepQ (HandSHeadRun.denQ HandSHeadRun.tabQ) R.prog (w.withFollow "special-get-raises" false)) 6000 R.prog (w.withFollow "special-get-raises" false) os).map (fun s => (fa.all fun f => f.ok (frY 5 (HandSHeadRun.getT s))) && (fn.all fun f => f.ok (frY 5 (HandSHeadRun.getT s)))) = some true := by
  kernel_rfl
open PySem PySem.W PySem.Calls PyProof.Rows HandSHeadRun in
theorem run0V (w : World) (os : OsState) : (HandSHeadRun.endF (HandSHeadRun.stepQ (HandSHeadRun.denQ HandSHeadRun.tabQ) R.prog (w.withFollow "special-get-raises" false)) 6000 R.prog (w.withFollow "special-get-raises" false) os).map (fun s => (fn.map fun d => He.fnW (frY 5 (HandSHeadRun.getT s)) d.at_, ts.map fun t => He.dicW (frY 5 (HandSHeadRun.getT s)) (t.1 (frY 5 (HandSHeadRun.getT s))))) = some (fn.map He.DefD.val, ts.map fun t => some (He.keysIn (w.withFollow "special-get-raises" false).params t.2)) := by
  kernel_rfl
open PySem PySem.W PySem.Calls PyProof.Rows HandSHeadRun in
theorem run0ES (w : World) (os : OsState) : (HandSHeadRun.endF (HandSHeadRun.stepQ (HandSHeadRun.denQ HandSHeadRun.tabQ) R.prog (w.withFollow "special-get-raises" false)) 6000 R.prog (w.withFollow "special-get-raises" false) os).map (fun s => (exq (frY 5 (HandSHeadRun.getT s)), He5.obsA [] fs (frY 5 (HandSHeadRun.getT s)))) = some (true, He5.valA fs) := by
  kernel_rfl
open PySem PySem.W PySem.Calls PyProof.Rows HandSHeadRun in
theorem run0c (w : World) (os : OsState) : (HandSHeadRun.endF (HandSHeadRun.stepQ (HandSHeadRun.denQ HandSHeadRun.tabQ) R.prog (w.withFollow "special-get-raises" false)) 6000 R.prog (w.withFollow "special-get-raises" false) os).map ob = some (hk.val (w.withFollow "special-get-raises" false)) := join3c (run0AB w os) (run0V w os) (run0ES w os)
theorem run0 (w : World) : HandSHeadRun.RunEq R qv hk ob 6000 loo (w.withFollow "special-get-raises" false) := fun os => join3 (run0a w os) (run0b w os) (run0c w os)
open PySem PySem.W PySem.Calls PyProof.Rows HandSHeadRun in
theorem run1a (w : World) (os : OsState) : (HandSHeadRun.endF (HandSHeadRun.stepQ (HandSHeadRun.denQ HandSHeadRun.tabQ) R.prog (w.withFollow "special-get-raises" true)) 6000 R.prog (w.withFollow "special-get-raises" true) os).map (fun s => looksF R.prog (boot_heap (w.withFollow "special-get-raises" true).params) s.abs) = some true := by
  kernel_rfl
open PySem PySem.W PySem.Calls PyProof.Rows HandSHeadRun in
theorem run1b (w : World) (os : OsState) : (HandSHeadRun.endF (HandSHeadRun.stepQ (HandSHeadRun.denQ HandSHeadRun.tabQ) R.prog (w.withFollow "special-get-raises" true)) 6000 R.prog (w.withFollow "special-get-raises" true) os).map (fun s => seenQ qv loo (importedModules R.prog.main.body) (fun s => xlAt qv [] s && recOk R.toRowW.records s) s.abs) = some (openGood qv loo) := by
  kernel_rfl
open PySem PySem.W PySem.Calls PyProof.Rows HandSHeadRun in
theorem run1AB (w : World) (os : OsState) : (HandSHeadRun.endF (HandSHeadRun.stepQ (HandSHeadRun.denQ HandSHeadRun.tabQ) R.prog (w.withFollow "special-get-raises" true)) 6000 R.prog (w.withFollow "special-get-raises" true) os).map (fun s => (fa.all fun f => f.ok (frY 5 (HandSHeadRun.getT s))) && (fn.all fun f => f.ok (frY 5 (HandSHeadRun.getT s)))) = some true := by
  kernel_rfl
open PySem PySem.W PySem.Calls PyProof.Rows HandSHeadRun in
theorem run1V (w : World) (os : OsState) : (HandSHeadRun.endF (HandSHeadRun.stepQ (HandSHeadRun.denQ HandSHeadRun.tabQ) R.prog (w.withFollow "special-get-raises" true)) 6000 R.prog (w.withFollow "special-get-raises" true) os).map (fun s => (fn.map fun d => He.fnW (frY 5 (HandSHeadRun.getT s)) d.at_, ts.map fun t => He.dicW (frY 5 (HandSHeadRun.getT s)) (t.1 (frY 5 (HandSHeadRun.getT s))))) = some (fn.map He.DefD.val, ts.map fun t => some (He.keysIn (w.withFollow "special-get-raises" true).params t.2)) := by
  kernel_rfl
open PySem PySem.W PySem.Calls PyProof.Rows HandSHeadRun in
theorem run1ES (w : World) (os : OsState) : (HandSHeadRun.endF (HandSHeadRun.stepQ (HandSHeadRun.denQ HandSHeadRun.tabQ) R.prog (w.withFollow "special-get-raises" true)) 6000 R.prog (w.withFollow "special-get-raises" true) os).map (fun s => (exq (frY 5 (HandSHeadRun.getT s)), He5.obsA [] fs (frY 5 (HandSHeadRun.getT s)))) = some (true, He5.valA fs) := by
  kernel_rfl
open PySem PySem.W PySem.Calls PyProof.Rows HandSHeadRun in
theorem run1c (w : World) (os : OsState) : (HandSHeadRun.endF (HandSHeadRun.stepQ (HandSHeadRun.denQ HandSHeadRun.tabQ) R.prog (w.withFollow "special-get-raises" true)) 6000 R.prog (w.withFollow "special-get-raises" true) os).map ob = some (hk.val (w.withFollow "special-get-raises" true)) := join3c (run1AB w os) (run1V w os) (run1ES w os)
theorem run1 (w : World) : HandSHeadRun.RunEq R qv hk ob 6000 loo (w.withFollow "special-get-raises" true) := fun os => join3 (run1a w os) (run1b w os) (run1c w os)
theorem run (w : World) : HandSHeadRun.RunEq R qv hk ob 6000 loo w := PySem.W.byRow2 "special-get-raises" (P := fun w => HandSHeadRun.RunEq R qv hk ob 6000 loo w) run0 run1 w
end
end Rd
namespace Rd
open PySem L2
def SMALL : Str := "abcdefghijklmnopqrstuvwxyz"
def GREAT : Str := "ABCDEFGHIJKLMNOPQRSTUVWXYZ"
def DIGITS : Str := "0123456789"
def inS (s : Str) (c : Nat) : Bool := decide (c ∈ s.cps.toList)
def isWord (z : Str) : Bool := decide (1 ≤ z.length) && (decide (z.length ≤ 8) && z.cps.toList.all (inS SMALL))
def isUnk (z : Str) : Bool := isWord z && decide (z.length ≤ 7)
def isName (z : Str) : Bool := decide (1 ≤ (Txt.rstripChars z DIGITS).length) && (decide (z.length ≤ 8) && (Txt.rstripChars z DIGITS).cps.toList.all (inS GREAT))
theorem lineBig : 200000 ≤ sizeLine := by decide
theorem allId (l : List Nat) (p : Nat → Bool) : (l.map p).all id = l.all p := by simp [List.all_map]
theorem decNat {a b : Nat} : decide ((a : Int) ≤ (b : Int)) = decide (a ≤ b) := by
  by_cases h : a ≤ b
  · rw [decide_eq_true h, decide_eq_true (by omega)]
  · rw [decide_eq_false h, decide_eq_false (by omega)]
def spTB (f : Str → Bool) : Sp := fun vs H Q _ => ∃ z : Str, vs = [.str z] ∧ z.length ≤ 200000 ∧ ∀ H', Same H H' → Q (.bl (f z)) H'
section
variable {P : Program} {w : World} {K : PySem.W.Frag} {mg : Str → Option Value} {base : Heap}
abbrev s_is_word : Stmt := top 15
theorem sc_is_word : FnScope ["text", "sign"] ["text"] (defScope s_is_word) := ⟨rfl, rfl, rfl, by decide +kernel, rfl, by decide +kernel, by decide +kernel⟩
theorem ok_is_word (T : Tx w K mg) : Fk P w K mg base CX0 1 "is_word" ["text"] (spTB isWord) := by
  refine T.F_is_word.ok0 sc_is_word (fun _ _ _ _ _ _ us hl => match us, hl with | [_], _ => rfl)
    (fun vs H Q E h => ?_) (fun cdv A outer s H vs Q E hr h => ?_)
  · obtain ⟨z, rfl, _⟩ := h
    rfl
  · obtain ⟨z, rfl, hz, k⟩ := h
    have hl : z.length ≤ sizeLine := Nat.le_trans hz lineBig
    refine ⟨_, (pss_one (ps_ret (pe_and (pe_chain op_le op_le pe_int (pe_callB call_len_str (by rfl) T.z_len (by decide +kernel) (pa_cons (pv 0) pa_nil)) pe_int) (pe_one (pe_callB (cr_all rfl) (by rfl) T.z_all (by decide +kernel) (pa_cons (pe_lc (own := [("sign", 1)]) (g := gName 1) (tt := tYes) (by rfl) sc_is_word.nd (pi_str (pv 0)) (blkOk_by (own := [("sign", 1)]) (N := ["text", "sign"]) (sc := defScope s_is_word) (by decide +kernel)) (fun _ _ _ _ _ => (pg_name (i := 1) sc_is_word.nd rfl (Or.inl rfl))) (fun _ _ _ _ _ => pts_nil) (fun _ _ _ _ _ => (pe_cmpR op_in_sign (pv 1) (pe_gstr T.c_SMALL) (by rfl)))) pa_nil)))))), ?_⟩
    refine ⟨_, rfl, z, rfl, hl, _, _, rfl, rfl, _, rfl, ?_⟩
    refine ite2 (fun h1 => ?_) (fun h1 => ⟨false, rfl, ?_⟩)
    · refine ⟨_, _, rfl, rfl, _, rfl, ?_⟩
      refine ite2 (fun h2 => ?_) (fun h2 => ?_)
      · refine ⟨_, rfl, z, rfl, fun D hD => lcs (f := fun c => V.bl (inS SMALL c)) hl (fun c H Q hc q => ⟨_, rfl, _, _, rfl, rfl, q⟩) ?_⟩
        refine ⟨D, z.cps.toList.map (inS SMALL), rfl, SqL.of (by rw [upd_same, List.map_map]; rfl), ?_⟩
        have e : isWord z = (z.cps.toList.map (inS SMALL)).all id := by
          have a1 : decide (1 ≤ z.length) = true := decide_eq_true (by have := of_decide_eq_true h1; omega)
          have a2 : decide (z.length ≤ 8) = true := decide_eq_true (by have := of_decide_eq_true h2; omega)
          rw [isWord, a1, a2, allId] <;> rfl
        show Q (V.bl ((z.cps.toList.map (inS SMALL)).all id)) _
        rw [← e]
        exact k _ (Rd.Same.upd hD)
      · have e : isWord z = false := by
          have a2 : decide (z.length ≤ 8) = false := decide_eq_false (fun q => h2 (decide_eq_true (by omega)))
          rw [isWord, a2] <;> simp
        show Q (V.bl false) _
        rw [← e]
        exact k _ (Same.refl _)
    · have e : isWord z = false := by
        have a1 : decide (1 ≤ z.length) = false := decide_eq_false (fun q => h1 (decide_eq_true (by omega)))
        rw [isWord, a1] <;> rfl
      show Q (V.bl false) _
      rw [← e]
      exact k _ (Same.refl _)
abbrev s_is_unknown : Stmt := top 16
theorem sc_is_unknown : FnScope ["text"] ["text"] (defScope s_is_unknown) := ⟨rfl, rfl, rfl, by decide +kernel, rfl, by decide +kernel, by decide +kernel⟩
theorem ok_is_unknown (T : Tx w K mg) : Fk P w K mg base CX0 2 "is_unknown" ["text"] (spTB isUnk) := by
  refine T.F_is_unknown.ok0 sc_is_unknown (fun _ _ _ _ _ _ us hl => match us, hl with | [_], _ => rfl)
    (fun vs H Q E h => ?_) (fun cdv A outer s H vs Q E hr h => ?_)
  · obtain ⟨z, rfl, _⟩ := h
    rfl
  · obtain ⟨z, rfl, hz, k⟩ := h
    have hl : z.length ≤ sizeLine := Nat.le_trans hz lineBig
    refine ⟨_, (pss_one (ps_ret (pe_and (pe_fk (ok_is_word T) (hr.mono (by omega)) rfl pass0 (pa_cons (pv 0) pa_nil)) (pe_one (pe_cmpR op_le (pe_callB call_len_str (by rfl) T.z_len (by decide +kernel) (pa_cons (pv 0) pa_nil)) pe_int (nomark _)))))), ?_⟩
    refine ⟨_, rfl, z, rfl, hz, fun H1 s1 => ⟨_, rfl, ?_⟩⟩
    refine ite2 (fun h1 => ?_) (fun h1 => ?_)
    · refine ⟨_, rfl, z, rfl, hl, _, _, rfl, rfl, ?_⟩
      have e : isUnk z = decide ((z.length : Int) ≤ 7) := by
        rw [isUnk, h1]
        exact (decNat (b := 7)).symm
      show Q (V.bl (decide ((z.length : Int) ≤ 7))) _
      rw [← e]
      exact k _ s1
    · have e : isUnk z = false := by
        rw [isUnk, Bool.eq_false_iff.mpr h1] <;> rfl
      show Q (V.bl false) _
      rw [← e]
      exact k _ s1
abbrev s_is_name : Stmt := top 17
theorem sc_is_name : FnScope ["text", "letters", "sign"] ["text"] (defScope s_is_name) := ⟨rfl, rfl, rfl, by decide +kernel, rfl, by decide +kernel, by decide +kernel⟩
theorem ok_is_name (T : Tx w K mg) : Fk P w K mg base CX0 1 "is_name" ["text"] (spTB isName) := by
  refine T.F_is_name.ok0 sc_is_name (fun _ _ _ _ _ _ us hl => match us, hl with | [_], _ => rfl)
    (fun vs H Q E h => ?_) (fun cdv A outer s H vs Q E hr h => ?_)
  · obtain ⟨z, rfl, _⟩ := h
    rfl
  · obtain ⟨z, rfl, hz, k⟩ := h
    have hl : z.length ≤ sizeLine := Nat.le_trans hz lineBig
    refine ⟨_, (pss_cons (ps_set (i := 1) sc_is_name.nd rfl (Or.inl rfl) (pe_bm PySem.F.plainAttrs_str PySem.F.slot_str_rstrip PySem.F.type_str_rstrip mt_rstripChars (pv 0) (pa_cons (pe_gstr T.c_DIGITS) pa_nil)))
  (pss_one (ps_ret (pe_and (pe_cmpR op_le pe_int (pe_callB call_len_str (by rfl) T.z_len (by decide +kernel) (pa_cons (pv 1) pa_nil)) (nomark _)) (pe_and (pe_cmpR op_le (pe_callB call_len_str (by rfl) T.z_len (by decide +kernel) (pa_cons (pv 0) pa_nil)) pe_int (nomark _)) (pe_one (pe_callB (cr_all rfl) (by rfl) T.z_all (by decide +kernel) (pa_cons (pe_lc (own := [("sign", 2)]) (g := gName 2) (tt := tYes) (by rfl) sc_is_name.nd (pi_str (pv 1)) (blkOk_by (own := [("sign", 2)]) (N := ["text", "letters", "sign"]) (sc := defScope s_is_name) (by decide +kernel)) (fun _ _ _ _ _ => (pg_name (i := 2) sc_is_name.nd rfl (Or.inl rfl))) (fun _ _ _ _ _ => pts_nil) (fun _ _ _ _ _ => (pe_cmpR op_in_sign (pv 2) (pe_gstr T.c_GREAT) (by rfl)))) pa_nil)))))))), ?_⟩
    have hl2 : (Txt.rstripChars z DIGITS).length ≤ sizeLine := Nat.le_trans (PyProof.Rows.len_rstripChars z DIGITS) hl
    refine ⟨_, rfl, rfl, z, DIGITS, rfl, rfl, hl, ?_⟩
    refine ⟨_, rfl, _, rfl, hl2, _, _, rfl, rfl, _, rfl, ?_⟩
    refine ite2 (fun h1 => ?_) (fun h1 => ?_)
    · refine ⟨_, rfl, z, rfl, hl, _, _, rfl, rfl, _, rfl, ?_⟩
      refine ite2 (fun h2 => ?_) (fun h2 => ?_)
      · refine ⟨_, rfl, _, rfl, fun D hD => lcs (f := fun c => V.bl (inS GREAT c)) hl2 (fun c H Q hc q => ⟨_, rfl, _, _, rfl, rfl, q⟩) ?_⟩
        refine ⟨D, (Txt.rstripChars z DIGITS).cps.toList.map (inS GREAT), rfl, SqL.of (by rw [upd_same, List.map_map]; rfl), ?_⟩
        have e : isName z = ((Txt.rstripChars z DIGITS).cps.toList.map (inS GREAT)).all id := by
          have a1 : decide (1 ≤ (Txt.rstripChars z DIGITS).length) = true := decide_eq_true (by have := of_decide_eq_true h1; omega)
          have a2 : decide (z.length ≤ 8) = true := decide_eq_true (by have := of_decide_eq_true h2; omega)
          rw [isName, a1, a2, allId] <;> rfl
        show Q (V.bl (((Txt.rstripChars z DIGITS).cps.toList.map (inS GREAT)).all id)) _
        rw [← e]
        exact k _ (Rd.Same.upd hD)
      · have e : isName z = false := by
          have a2 : decide (z.length ≤ 8) = false := decide_eq_false (fun q => h2 (decide_eq_true (by omega)))
          rw [isName, a2] <;> simp
        show Q (V.bl false) _
        rw [← e]
        exact k _ (Same.refl _)
    · have e : isName z = false := by
        have a1 : decide (1 ≤ (Txt.rstripChars z DIGITS).length) = false := decide_eq_false (fun q => h1 (decide_eq_true (by omega)))
        rw [isName, a1] <;> rfl
      show Q (V.bl false) _
      rw [← e]
      exact k _ (Same.refl _)
/-- text[1:] -/
def tailS (z : Str) : Str := cutS z (some 1) none
theorem cutS_from (z : Str) (a : Nat) : (cutS z (some (a : Int)) none).cps.toList = z.cps.toList.drop a := by
  show ((z.cps.toList.drop (HT.sIx z.length 0 (some (a : Int)))).take (z.length - HT.sIx z.length 0 (some (a : Int)))) = _
  have hs : z.cps.toList.length = z.length := by rw [Array.length_toList]; rfl
  rw [HT.sIx_nat, List.take_of_length_le (by rw [List.length_drop, hs]; exact Nat.le_refl _)]
  rcases Nat.le_total a z.length with h | h
  · rw [Nat.min_eq_left h]
  · rw [Nat.min_eq_right h, List.drop_of_length_le (by omega), List.drop_of_length_le (by omega)]
theorem len_list (z : Str) : z.length = z.cps.toList.length := by rw [Array.length_toList]; rfl
theorem tailS_list (z : Str) : (tailS z).cps.toList = z.cps.toList.drop 1 := cutS_from z 1
theorem tailS_len (z : Str) : (tailS z).length ≤ z.length := by
  rw [len_list, len_list, tailS_list, List.length_drop]
  omega
def atomOf (z : Str) : Option (Str × Str) := if isWord z = true then some ("word", z) else if isName z = true then some ("name", z) else if (Txt.startswith z "?" && isUnk (tailS z)) = true then some ("unknown", tailS z) else none
def sp_atom_tree : Sp := fun vs H Q _ => ∃ z : Str, vs = [.str z] ∧ z.length ≤ 200000 ∧ (∀ H', Same H H' → atomOf z = none → Q .non H') ∧ ∀ k x p H', Same H H' → atomOf z = some (k, x) → H p = none → H' p = some (.tup [.str k, .str x]) → Q (.ref p) H'
abbrev s_atom_tree : Stmt := top 18
theorem sc_atom_tree : FnScope ["text"] ["text"] (defScope s_atom_tree) := ⟨rfl, rfl, rfl, by decide +kernel, rfl, by decide +kernel, by decide +kernel⟩
theorem ok_atom_tree (T : Tx w K mg) : Fk P w K mg base CX0 3 "atom_tree" ["text"] sp_atom_tree := by
  refine T.F_atom_tree.ok0 sc_atom_tree (fun _ _ _ _ _ _ us hl => match us, hl with | [_], _ => rfl)
    (fun vs H Q E h => ?_) (fun cdv A outer s H vs Q E hr h => ?_)
  · obtain ⟨z, rfl, _⟩ := h
    rfl
  · obtain ⟨z, rfl, hz, k0, k1⟩ := h
    have hl : z.length ≤ sizeLine := Nat.le_trans hz lineBig
    have hz2 : (tailS z).length ≤ 200000 := Nat.le_trans (tailS_len z) hz
    refine ⟨_, (pss_cons (ps_if (pt_val (pe_fk (ok_is_word T) (hr.mono (by omega)) rfl pass0 (pa_cons (pv 0) pa_nil)))
  (pss_one (ps_ret (pe_tup (pa_cons pe_str (pa_cons (pv 0) pa_nil)))))
  pss_nil)
  (pss_cons (ps_if (pt_val (pe_fk (ok_is_name T) (hr.mono (by omega)) rfl pass0 (pa_cons (pv 0) pa_nil)))
  (pss_one (ps_ret (pe_tup (pa_cons pe_str (pa_cons (pv 0) pa_nil)))))
  pss_nil)
  (pss_cons (ps_if (PW.pt (pw_and (pt_val (pe_bm PySem.F.plainAttrs_str PySem.F.slot_str_startswith PySem.F.type_str_startswith mt_startswith (pv 0) (pa_cons pe_str pa_nil))) (pw_and1 (pt_val (pe_fk (ok_is_unknown T) (hr.mono (by omega)) rfl pass0 (pa_cons (pe_slice sl_str (pv 0) (po_some pe_int) po_none) pa_nil))))))
  (pss_one (ps_ret (pe_tup (pa_cons pe_str (pa_cons (pe_slice sl_str (pv 0) (po_some pe_int) po_none) pa_nil)))))
  pss_nil)
  (pss_one (ps_ret pe_non))))), ?_⟩
    refine ⟨_, rfl, z, rfl, hz, fun H1 s1 => ⟨_, rfl, ite2 (fun h1 => ?_) (fun h1 => ?_)⟩⟩
    · refine ⟨_, rfl, (by show 2 ≤ sizeLine; decide), fun p hp => ?_⟩
      exact k1 _ _ p _ (Rd.Same.upd' s1 hp) (by rw [atomOf, if_pos h1]) (s1.free hp) upd_same
    · refine ⟨_, rfl, z, rfl, hz, fun H2 s2 => ⟨_, rfl, ite2 (fun h2 => ?_) (fun h2 => ?_)⟩⟩
      · refine ⟨_, rfl, (by show 2 ≤ sizeLine; decide), fun p hp => ?_⟩
        exact k1 _ _ p _ (Rd.Same.upd' (s1.trans s2) hp) (by rw [atomOf, if_neg h1, if_pos h2]) ((s1.trans s2).free hp) upd_same
      · refine ⟨_, rfl, rfl, z, "?", rfl, rfl, _, rfl, ite2 (fun h3 => ?_) (fun h3 => ?_)⟩
        · refine ⟨_, rfl, _, rfl, z, rfl, hl, tailS z, rfl, hz2, fun H3 s3 => ⟨_, rfl, ite2 (fun h4 => ?_) (fun h4 => ?_)⟩⟩
          · refine ⟨_, rfl, _, rfl, z, rfl, hl, (by show 2 ≤ sizeLine; decide), fun p hp => ?_⟩
            exact k1 _ _ p _ (Rd.Same.upd' ((s1.trans s2).trans s3) hp) (by rw [atomOf, if_neg h1, if_neg h2, if_pos (by rw [h3, h4]; rfl)]; rfl) (((s1.trans s2).trans s3).free hp) upd_same
          · exact k0 _ ((s1.trans s2).trans s3) (by rw [atomOf, if_neg h1, if_neg h2, if_neg (by rw [Bool.eq_false_iff.mpr h4]; simp)])
        · exact k0 _ (s1.trans s2) (by rw [atomOf, if_neg h1, if_neg h2, if_neg (by rw [Bool.eq_false_iff.mpr h3]; simp)])
end
end Rd
namespace Rd
open PySem L2
theorem str_ext {a b : Str} (h : a.cps.toList = b.cps.toList) : a = b := by
  obtain ⟨⟨a⟩⟩ := a
  obtain ⟨⟨b⟩⟩ := b
  have e : a = b := h
  rw [e]
theorem app_list (a b : Str) : (a ++ b).cps.toList = a.cps.toList ++ b.cps.toList := by
  show (a.cps ++ b.cps).toList = _
  rw [Array.toList_append]
theorem contains_in (s : Str) (c : Nat) : s.cps.contains c = inS s c := by
  unfold inS
  rw [Bool.eq_iff_iff, decide_eq_true_iff, Array.contains_iff_mem]
  exact Array.mem_def
theorem rstrip_list (z s : Str) : (Txt.rstripChars z s).cps.toList = (z.cps.toList.reverse.dropWhile (inS s)).reverse := by
  have e0 : s.cps.contains = inS s := funext (contains_in s)
  show (Txt.stripBy s.cps.contains false true z).cps.toList = _
  rw [PyProof.Rows.stripBy_eq, e0]
  show (z.cps.extract 0 (z.length - ((z.cps.toList.drop 0).reverse.takeWhile (inS s)).length)).toList = _
  rw [List.drop_zero, len_list]
  generalize z.cps = a
  obtain ⟨l⟩ := a
  rw [List.extract_toArray]
  show (l.extract 0 (l.length - (l.reverse.takeWhile (inS s)).length)) = (l.reverse.dropWhile (inS s)).reverse
  rw [List.extract_eq_drop_take, List.drop_zero, Nat.sub_zero]
  have e1 : l.reverse = l.reverse.takeWhile (inS s) ++ l.reverse.dropWhile (inS s) := (List.takeWhile_append_dropWhile).symm
  have e2 : l = (l.reverse.dropWhile (inS s)).reverse ++ (l.reverse.takeWhile (inS s)).reverse := by
    have := congrArg List.reverse e1
    rw [List.reverse_reverse, List.reverse_append] at this
    exact this
  have e3 : l.length = (l.reverse.dropWhile (inS s)).length + (l.reverse.takeWhile (inS s)).length := by
    have := congrArg List.length e2
    rw [List.length_append, List.length_reverse, List.length_reverse] at this
    exact this
  rw [e3, Nat.add_sub_cancel]
  have key : ∀ (A B : List Nat), l = A.reverse ++ B.reverse → l.take A.length = A.reverse := fun A B q => by
    rw [q, List.take_append_of_le_length (by rw [List.length_reverse]; exact Nat.le_refl _), List.take_of_length_le (by rw [List.length_reverse]; exact Nat.le_refl _)]
  exact key _ _ e2
theorem starts_q (z : Str) : Txt.startswith z "?" = true ↔ ∃ r, z.cps.toList = 63 :: r := by
  show (decide (0 + ("?" : Str).length ≤ z.length) && (z.cps.extract 0 (0 + ("?" : Str).length) == ("?" : Str).cps)) = true ↔ _
  have e1 : ("?" : Str).length = 1 := by decide
  have e2 : ("?" : Str).cps = #[63] := by decide +kernel
  rw [e1, e2, len_list]
  generalize z.cps = a
  obtain ⟨l⟩ := a
  cases l with
  | nil => simp
  | cons c r =>
    constructor
    · intro h
      obtain ⟨_, h2⟩ := He.ba h
      have h3 : (⟨c :: r⟩ : Array Nat).extract 0 1 = #[63] := eq_of_beq h2
      have h4 := congrArg Array.toList h3
      simp at h4
      exact ⟨r, by rw [h4]⟩
    · rintro ⟨r', e⟩
      have e' : c :: r = 63 :: r' := e
      injection e' with e3 e4
      subst e3
      simp
theorem disj {c : Nat} (h : inS GREAT c = true) : inS DIGITS c = false := by
  have h1 : c ∈ GREAT.cps.toList := of_decide_eq_true h
  have h2 : GREAT.cps.toList.all (fun c => !inS DIGITS c) = true := by decide +kernel
  have h3 := List.all_eq_true.mp h2 c h1
  simpa using h3
theorem disj2 {c : Nat} (h : inS DIGITS c = true) : inS GREAT c = false := by
  cases e : inS GREAT c with
  | false => rfl
  | true => rw [disj e] at h; cases h
theorem dropAll {p : Nat → Bool} : ∀ (l : List Nat), (∀ c ∈ l, p c = true) → l.dropWhile p = []
  | [], _ => rfl
  | a :: r, h => by
    rw [List.dropWhile_cons, if_pos (h a List.mem_cons_self)]
    exact dropAll r fun c hc => h c (List.mem_cons_of_mem _ hc)
theorem name_iff (l : List Nat) : (1 ≤ ((l.reverse.dropWhile (inS DIGITS)).reverse).length ∧ ((l.reverse.dropWhile (inS DIGITS)).reverse).all (inS GREAT) = true) ↔
    ((0 < (l.filter (inS GREAT)).length ∧ (l.take (l.filter (inS GREAT)).length).all (inS GREAT) = true) ∧ (l.drop (l.filter (inS GREAT)).length).all (inS DIGITS) = true) := by
  have e1 : l.reverse = l.reverse.takeWhile (inS DIGITS) ++ l.reverse.dropWhile (inS DIGITS) := (List.takeWhile_append_dropWhile).symm
  have e2 : l = (l.reverse.dropWhile (inS DIGITS)).reverse ++ (l.reverse.takeWhile (inS DIGITS)).reverse := by
    have := congrArg List.reverse e1
    rw [List.reverse_reverse, List.reverse_append] at this
    exact this
  have hD : ∀ c ∈ (l.reverse.takeWhile (inS DIGITS)).reverse, inS DIGITS c = true := fun c hc => by
    rw [List.mem_reverse] at hc
    have := List.all_takeWhile (p := inS DIGITS) (l := l.reverse)
    exact List.all_eq_true.mp this c hc
  constructor
  · rintro ⟨h1, h2⟩
    generalize (l.reverse.dropWhile (inS DIGITS)).reverse = A at e2 h1 h2
    generalize (l.reverse.takeWhile (inS DIGITS)).reverse = B at e2 hD
    subst e2
    have fA : A.filter (inS GREAT) = A := List.filter_eq_self.mpr fun c hc => List.all_eq_true.mp h2 c hc
    have fB : B.filter (inS GREAT) = [] := List.filter_eq_nil_iff.mpr fun c hc q => by rw [disj2 (hD c hc)] at q; cases q
    rw [List.filter_append, fA, fB, List.append_nil]
    refine ⟨⟨h1, ?_⟩, ?_⟩
    · rw [List.take_append_of_le_length (Nat.le_refl _), List.take_length]
      exact h2
    · rw [List.drop_append_of_le_length (Nat.le_refl _), List.drop_length, List.nil_append]
      exact List.all_eq_true.mpr hD
  · rintro ⟨⟨h1, h2⟩, h3⟩
    have hle := List.length_filter_le (inS GREAT) l
    generalize (l.filter (inS GREAT)).length = n at h1 h2 h3 hle
    have el : l = l.take n ++ l.drop n := (List.take_append_drop n l).symm
    have key : l.reverse.dropWhile (inS DIGITS) = (l.take n).reverse := by
      conv => lhs; rw [el]
      rw [List.reverse_append, List.dropWhile_append]
      have z1 : (l.drop n).reverse.dropWhile (inS DIGITS) = [] := by
        exact dropAll _ fun c hc => by
          rw [List.mem_reverse] at hc
          exact List.all_eq_true.mp h3 c hc
      rw [z1]
      simp only [List.isEmpty_nil, if_true]
      cases hr : (l.take n).reverse with
      | nil => rfl
      | cons c r =>
        have hc : c ∈ l.take n := by
          rw [← List.mem_reverse, hr]
          exact List.mem_cons_self
        rw [List.dropWhile_cons, if_neg]
        rw [disj (List.all_eq_true.mp h2 c hc)]
        decide
    rw [key, List.reverse_reverse, List.length_take]
    exact ⟨by omega, h2⟩
theorem isName_first {z : Str} (h : isName z = true) (q : Txt.startswith z "?" = true) : False := by
  obtain ⟨h1, h2⟩ := He.ba h
  obtain ⟨h3, h4⟩ := He.ba h2
  obtain ⟨r, e⟩ := (starts_q z).mp q
  have h1' := of_decide_eq_true h1
  rw [len_list, rstrip_list] at h1'
  rw [rstrip_list] at h4
  obtain ⟨⟨a1, a2⟩, a3⟩ := (name_iff z.cps.toList).mp ⟨h1', h4⟩
  rw [e] at a1 a2
  have hg : inS GREAT 63 = false := by decide +kernel
  generalize ((63 :: r).filter (inS GREAT)).length = n at a1 a2
  cases n with
  | zero => cases a1
  | succ n =>
    have := List.all_eq_true.mp a2 63 (by rw [List.take_succ_cons]; exact List.mem_cons_self)
    rw [hg] at this
    cases this
end Rd
namespace Rd
open PySem L2
/-- a stream's list, with n draws still in the bound -/
def StL (n : Nat) (xs : List V) : Prop := ∃ a b c : Int, xs = [.int a, .int b, .int c] ∧ 0 ≤ a ∧ 0 ≤ b ∧ b ≤ 1099511627776 ∧ 0 ≤ c ∧ c + n ≤ 1099511627776
theorem StL.mono {n m : Nat} {xs : List V} (h : StL n xs) (hm : m ≤ n) : StL m xs := by
  obtain ⟨a, b, c, e, h1, h2, h3, h4, h5⟩ := h
  exact ⟨a, b, c, e, h1, h2, h3, h4, by omega⟩
end Rd
namespace Rd
open PySem L2
/-- all but p stays -/
def But (p : Addr) (H H' : Hp) : Prop := ∀ b o, b ≠ p → H b = some o → H' b = some o
theorem But.refl {p : Addr} {H : Hp} : But p H H := fun _ _ _ e => e
theorem But.trans {p : Addr} {H H1 H2 : Hp} (a : But p H H1) (b : But p H1 H2) : But p H H2 := fun c o hc h => b c o hc (a c o hc h)
theorem But.of_same {p : Addr} {H H' : Hp} (s : Same H H') : But p H H' := fun b o _ e => s b o e
theorem But.upd {p : Addr} {H : Hp} {o : HO} : But p H (L2.upd H p o) := fun b u hb e => by rw [upd_ne hb]; exact e
theorem But.free {p q : Addr} {H H' : Hp} {xs : List V} (s : But p H H') (hp : H' p = some (.lst xs)) (h : H' q = none) : H q = none := by
  cases e : H q with
  | none => rfl
  | some o =>
    have hq : q ≠ p := fun z => by rw [z, hp] at h; cases h
    rw [s q o hq e] at h
    cases h
def imm (C : Addr) : HO → Bool
  | .tup _ => true
  | .ins C' _ _ => C' == C
  | _ => false
/-- tuples and instances of C stay -/
def Kp (C : Addr) (H H' : Hp) : Prop := ∀ b o, imm C o = true → H b = some o → H' b = some o
theorem Kp.refl {C : Addr} {H : Hp} : Kp C H H := fun _ _ _ e => e
theorem Kp.trans {C : Addr} {H H1 H2 : Hp} (a : Kp C H H1) (b : Kp C H1 H2) : Kp C H H2 := fun c o hc h => b c o hc (a c o hc h)
theorem Kp.of_same {C : Addr} {H H' : Hp} (s : Same H H') : Kp C H H' := fun b o _ e => s b o e
theorem But.kp {C p : Addr} {H H' : Hp} {xs : List V} (s : But p H H') (hp : H p = some (.lst xs)) : Kp C H H' := fun b o hi e => s b o (fun z => by
  rw [z, hp] at e
  cases e
  cases hi) e
theorem Kp.upd_lst {C D : Addr} {H : Hp} {xs ys : List V} (h : H D = some (.lst xs)) : Kp C H (L2.upd H D (.lst ys)) := fun b o hi e => by
  have hb : b ≠ D := fun z => by
    rw [z, h] at e
    cases e
    cases hi
  rw [upd_ne hb]
  exact e
/-- a table of ints at a drawn place -/
theorem atI_of {us : List V} {d : Int} {m : Nat} (h0 : 0 ≤ d) (h1 : d < m) (hm : m = us.length) : ∃ (j : Nat) (v : V), us[j]? = some v ∧ atI us d = some v := by
  have hj : d.toNat < us.length := by omega
  exact ⟨d.toNat, us[d.toNat], List.getElem?_eq_getElem hj, at_of (j := d.toNat) (by omega) (List.getElem?_eq_getElem hj)⟩
/-- signs as Python has them -/
def okS (z : Str) : Prop := ∀ c ∈ z.cps.toList, c < 1114112
theorem okS_by {z : Str} (h : z.cps.toList.all (fun c => decide (c < 1114112)) = true) : okS z := fun c hc => of_decide_eq_true (List.all_eq_true.mp h c hc)
theorem strOk_of {z : Str} (h : okS z) : PySem.PyData.strOk z = true := by
  show z.cps.all (fun c => decide (c < 0x110000)) = true
  rw [Array.all_eq_true']
  intro c hc
  exact decide_eq_true (h c (Array.mem_toList_iff.mpr hc))
/-- a text of these codes -/
def ofC (cs : List Nat) : Str := ⟨cs.toArray⟩
theorem ofC_list (cs : List Nat) : (ofC cs).cps.toList = cs := by show cs.toArray.toList = cs; rw [List.toList_toArray]
theorem word_noname {z : Str} (h : isName z = true) : isWord z = false := by
  cases e : isWord z with
  | false => rfl
  | true =>
    obtain ⟨h1, h2⟩ := He.ba h
    obtain ⟨h3, h4⟩ := He.ba h2
    have h1' := of_decide_eq_true h1
    rw [len_list, rstrip_list] at h1'
    rw [rstrip_list] at h4
    obtain ⟨⟨a1, a2⟩, a3⟩ := (name_iff z.cps.toList).mp ⟨h1', h4⟩
    obtain ⟨w1, w2⟩ := He.ba e
    obtain ⟨w3, w4⟩ := He.ba w2
    obtain ⟨c, hc⟩ := List.exists_mem_of_length_pos a1
    rw [List.mem_filter] at hc
    have s1 := List.all_eq_true.mp w4 c hc.1
    have dj : GREAT.cps.toList.all (fun c => !inS SMALL c) = true := by decide +kernel
    have s2 := List.all_eq_true.mp dj c (of_decide_eq_true hc.2)
    rw [s1] at s2
    cases s2
theorem word_len {z : Str} (h : isWord z = true) : 1 ≤ z.length ∧ z.length ≤ 8 ∧ okS z := by
  obtain ⟨h1, h2⟩ := He.ba h
  obtain ⟨h3, h4⟩ := He.ba h2
  have dj : SMALL.cps.toList.all (fun c => decide (c < 1114112)) = true := by decide +kernel
  exact ⟨of_decide_eq_true h1, of_decide_eq_true h3, fun c hc => of_decide_eq_true (List.all_eq_true.mp dj c (of_decide_eq_true (List.all_eq_true.mp h4 c hc)))⟩
theorem name_len {z : Str} (h : isName z = true) : z.length ≤ 8 ∧ okS z := by
  obtain ⟨h1, h2⟩ := He.ba h
  obtain ⟨h3, h4⟩ := He.ba h2
  have h1' := of_decide_eq_true h1
  rw [len_list, rstrip_list] at h1'
  rw [rstrip_list] at h4
  obtain ⟨⟨a1, a2⟩, a3⟩ := (name_iff z.cps.toList).mp ⟨h1', h4⟩
  have dj : GREAT.cps.toList.all (fun c => decide (c < 1114112)) = true := by decide +kernel
  have dk : DIGITS.cps.toList.all (fun c => decide (c < 1114112)) = true := by decide +kernel
  refine ⟨of_decide_eq_true h3, fun c hc => ?_⟩
  rw [← List.take_append_drop (z.cps.toList.filter (inS GREAT)).length z.cps.toList] at hc
  rcases List.mem_append.mp hc with q | q
  · exact of_decide_eq_true (List.all_eq_true.mp dj c (of_decide_eq_true (List.all_eq_true.mp a2 c q)))
  · exact of_decide_eq_true (List.all_eq_true.mp dk c (of_decide_eq_true (List.all_eq_true.mp a3 c q)))
end Rd
namespace Rd
open PySem L2
inductive Tr where
  | am (k x : Str)
  | un (s : Str) (a : Tr)
  | bi (s : Str) (a b : Tr)
  deriving DecidableEq
def Tr.dep : Tr → Nat
  | .am _ _ => 0
  | .un _ a => a.dep + 1
  | .bi _ a b => max a.dep b.dep + 1
def Tr.nod : Tr → Nat
  | .am _ _ => 0
  | .un _ a => a.nod + 1
  | .bi _ a b => a.nod + b.nod + 1
/-- how large a drawn form is -/
def Tr.unkIn (us : List V) : Tr → Prop
  | .am k x => k = "unknown" → V.str x ∈ us
  | .un _ a => a.unkIn us
  | .bi _ a b => a.unkIn us ∧ b.unkIn us
def dpN (d : Nat) (us : List V) (t : Tr) : Prop := t.dep ≤ 2 * d ∧ t.nod + 2 ≤ 2 ^ (d + 1) ∧ t.unkIn us
theorem dpN.am {d : Nat} {us : List V} {k x : Str} (h : k = "unknown" → V.str x ∈ us) : dpN d us (.am k x) := by
  refine ⟨Nat.zero_le _, ?_, h⟩
  show 0 + 2 ≤ 2 ^ (d + 1)
  rw [Nat.pow_succ]
  have := Nat.pow_pos (n := d) (show 0 < 2 by decide)
  omega
theorem dpN.un {d : Nat} {us : List V} {s : Str} {a : Tr} (h : dpN d us a) : dpN (d + 1) us (.un s a) := by
  obtain ⟨h1, h2, h3⟩ := h
  have e : 2 ^ (d + 1 + 1) = 2 * 2 ^ (d + 1) := by rw [Nat.pow_succ]; omega
  refine ⟨?_, ?_, h3⟩
  · show a.dep + 1 ≤ 2 * (d + 1)
    omega
  · show a.nod + 1 + 2 ≤ 2 ^ (d + 1 + 1)
    omega
theorem dpN.bi {d : Nat} {us : List V} {s : Str} {a b : Tr} (h : dpN d us a) (g : dpN d us b) : dpN (d + 1) us (.bi s a b) := by
  obtain ⟨h1, h2, h3⟩ := h
  obtain ⟨g1, g2, g3⟩ := g
  have e : 2 ^ (d + 1 + 1) = 2 * 2 ^ (d + 1) := by rw [Nat.pow_succ]; omega
  refine ⟨?_, ?_, h3, g3⟩
  · show max a.dep b.dep + 1 ≤ 2 * (d + 1)
    omega
  · show a.nod + b.nod + 1 + 2 ≤ 2 ^ (d + 1 + 1)
    omega
theorem dpN.lk {d : Nat} {us : List V} {s s' : Str} {a b : Tr} (h : dpN d us a) (g : dpN d us b) : dpN (d + 1) us (.bi s a (.un s' b)) := by
  obtain ⟨h1, h2, h3⟩ := h
  obtain ⟨g1, g2, g3⟩ := g
  have e : 2 ^ (d + 1 + 1) = 2 * 2 ^ (d + 1) := by rw [Nat.pow_succ]; omega
  refine ⟨?_, ?_, h3, g3⟩
  · show max a.dep (b.dep + 1) + 1 ≤ 2 * (d + 1)
    omega
  · show a.nod + (b.nod + 1) + 1 + 2 ≤ 2 ^ (d + 1 + 1)
    omega
def kindOk (k x : Str) : Prop := (k = "word" ∧ isWord x = true) ∨ (k = "name" ∧ isName x = true) ∨ (k = "unknown" ∧ isUnk x = true)
inductive Wf : Tr → Prop
  | am {k x : Str} : kindOk k x → Wf (.am k x)
  | un {s : Str} {a : Tr} : s ∈ (["mark", "open", "own"] : List Str) → Wf a → Wf (.un s a)
  | bi {s : Str} {a b : Tr} : s ∈ (["pair", "seal"] : List Str) → Wf a → Wf b → Wf (.bi s a b)
  | lk {s : Str} {a b : Tr} : s ∈ (["open", "own"] : List Str) → Wf a → Wf b → Wf (.bi "lock" a (.un s b))
def IsT (H : Hp) : Tr → V → Prop
  | .am k x, v => ∃ p, v = .ref p ∧ H p = some (.tup [.str k, .str x])
  | .un s a, v => ∃ p u, v = .ref p ∧ H p = some (.tup [.str s, u]) ∧ IsT H a u
  | .bi s a b, v => ∃ p u1 u2, v = .ref p ∧ H p = some (.tup [.str s, u1, u2]) ∧ IsT H a u1 ∧ IsT H b u2
theorem IsT.mono {C : Addr} {H H' : Hp} (k : Kp C H H') : ∀ {t : Tr} {v : V}, IsT H t v → IsT H' t v
  | .am _ _, _, ⟨p, e, h⟩ => ⟨p, e, k p _ rfl h⟩
  | .un _ _, _, ⟨p, u, e, h, h1⟩ => ⟨p, u, e, k p _ rfl h, IsT.mono k h1⟩
  | .bi _ _ _, _, ⟨p, u1, u2, e, h, h1, h2⟩ => ⟨p, u1, u2, e, k p _ rfl h, IsT.mono k h1, IsT.mono k h2⟩
theorem IsT.same {H H' : Hp} {t : Tr} {v : V} (s : Same H H') (h : IsT H t v) : IsT H' t v := h.mono (C := 0) (Kp.of_same s)
theorem IsT.but {p : Addr} {H H' : Hp} {xs : List V} {t : Tr} {v : V} (s : But p H H') (hp : H p = some (.lst xs)) (h : IsT H t v) : IsT H' t v := h.mono (C := 0) (s.kp hp)
theorem IsT.ref {H : Hp} {t : Tr} {v : V} (h : IsT H t v) : ∃ p, v = .ref p := by
  cases t with
  | am k x => obtain ⟨p, e, _⟩ := h; exact ⟨p, e⟩
  | un s a => obtain ⟨p, u, e, _⟩ := h; exact ⟨p, e⟩
  | bi s a b => obtain ⟨p, u, u2, e, _⟩ := h; exact ⟨p, e⟩
theorem unk_len {z : Str} (h : isUnk z = true) : z.length ≤ 7 ∧ 1 ≤ z.length ∧ okS z := by
  obtain ⟨h1, h2⟩ := He.ba h
  obtain ⟨a, b, c⟩ := word_len h1
  exact ⟨of_decide_eq_true h2, a, c⟩
def dr (d : Nat) : Nat := 40 * 3 ^ d
theorem eqv_nil (ds : List PyData) : PyData.eqv (.list ds) (.list []) = ds.isEmpty := by cases ds <;> rfl
end Rd
namespace Rd
open PySem L2
section
variable {P : Program} {w : World} {K : PySem.W.Frag} {mg : Str → Option Value} {base : Heap}
abbrev s_BadAtom_init : Stmt := inClass (top 3) 0
theorem sc_BadAtom_init : FnScope ["self", "text"] ["self", "text"] (defScope s_BadAtom_init) := ⟨rfl, rfl, rfl, by decide +kernel, rfl, by decide +kernel, by decide +kernel⟩
theorem ok_BadAtom (T : Tx w K mg) : Fm P w K mg base CX0 1 "BadAtom" "__init__" ["self", "text"] (spX1 K "text") := by
  refine T.X_BadAtom.init.ok0 sc_BadAtom_init (fun _ _ _ _ _ _ us hl => match us, hl with | [_, _], _ => rfl)
    (fun vs H Q E h => ?_) (fun cdv A outer s H vs Q E hr h => ?_)
  · obtain ⟨a, C, v, rfl, _⟩ := h
    rfl
  · obtain ⟨a, C, v, rfl, TC, no, ha, k⟩ := h
    refine ⟨_, (pss_cons (ps_expr (pe_reinit rfl T.g_RoadError T.r_RoadError (pa_cons (pv 0) (pa_cons pe_str pa_nil))))
  (pss_one (ps_ost (pv 0) (pv 1)))), ?_⟩
    refine ⟨_, rfl, a, C, [.str "no atom"], rfl, (by show 1 ≤ 1000; decide), TC, ha, _, rfl, _, rfl, a, C, rfl, TC, no, .inl ⟨ha, fun dx hdx ne => k dx hdx ne⟩⟩
/-- Letter(text), Letter("", tree) -/
def sp_Linit (K : PySem.W.Frag) : Sp := fun vs H Q E => ∃ (x dx : Addr) (z : Str) (v : V), vs = [.ref x, .str z, v] ∧ H x = some (.ins (He.ga K "Letter") dx []) ∧
  ((v ≠ .non ∧ Q .non (upd H x (.ins (He.ga K "Letter") dx [("tree", v)]))) ∨
   (v = .non ∧ z.length ≤ 200000 ∧ (∀ k y p H', But x H H' → atomOf z = some (k, y) → H p = none → H' p = some (.tup [.str k, .str y]) → H' x = some (.ins (He.ga K "Letter") dx [("tree", .ref p)]) → Q .non H') ∧
     ∀ d H', But x H H' → atomOf z = none → H d = none → H' d = some (.xd [("text", .str z)]) → E (.ref (He.ga K "BadAtom")) (some d) H'))
theorem look1 (v : V) : ([("tree", v)] : List (Str × V)).lookup ("tree" : Str) = some v := by simp [List.lookup]
theorem putTree (v u : V) : putF "tree" u ([("tree", v)] : List (Str × V)) = ([("tree", u)] : List (Str × V)) := by
  show (if ("tree" : Str) = "tree" then ([(("tree" : Str), u)] : List (Str × V)) else _) = _
  rw [if_pos rfl]
abbrev s_Letter_init : Stmt := inClass (top 26) 0
theorem sc_Letter_init : FnScope ["self", "atom", "tree"] ["self", "atom", "tree"] (defScope s_Letter_init) := ⟨rfl, rfl, rfl, by decide +kernel, rfl, by decide +kernel, by decide +kernel⟩
theorem ok_Letter (T : Tx w K mg) : Fi P w K mg base (L2N.CX P w) 4 "Letter" ["self", "atom", "tree"] (sp_Linit K) .non := by
  refine T.I_Letter.ok (n := 2) sc_Letter_init rfl (fun _ _ _ _ _ _ _ us its hu hi => match us, its, hu, hi with | [_, _], [_], _, _ => ⟨_, rfl, rfl⟩) (fun _ _ _ _ _ _ _ us its hu hi => match us, its, hu, hi with | [_, _, _], [_], _, _ => ⟨_, rfl, rfl⟩)
    (fun vs H Q E h => ?_) (fun cdv A outer s H vs Q E hr h => ?_)
  · obtain ⟨x, dx, z, v, rfl, _⟩ := h
    rfl
  · obtain ⟨x, dx, z, v, rfl, hx, hv⟩ := h
    refine ⟨_, (pss_cons (ps_fld (pv 0) (pv 2) rfl)
  (pss_one (ps_if (pt_cmpR op_isN (pv 2) pe_non (nomark _))
  (pss_cons (ps_fld (pv 0) (pe_fk (ok_atom_tree T) (hr.mono (by omega)) rfl pass0 (pa_cons (pv 1) pa_nil)) rfl)
  (pss_one (ps_if (pt_cmpR op_isN (pe_fld (pv 0) rfl) pe_non (nomark _))
  (pss_one (L2N.ps_raise rfl (L2N.takes_of rfl rfl rfl rfl) (pmk_xN T.X_BadAtom (ok_BadAtom T) (hr.mono (by omega)) rfl (pa_cons (pv 1) pa_nil))))
  pss_nil)))
  pss_nil))), ?_⟩
    refine ⟨_, rfl, _, rfl, x, _, dx, [], rfl, hx, T.k_Letter, T.n_Letter_tree, (by show 0 < 1000; decide), ?_⟩
    refine ⟨_, rfl, rfl, _, rfl, ?_⟩
    rcases hv with ⟨hne, q⟩ | ⟨rfl, hz, k1, k0⟩
    · exact ite2 (fun h => absurd (of_decide_eq_true h) hne) (fun _ => q)
    refine ite2 (fun _ => ?_) (fun h => absurd (decide_eq_true rfl) h)
    have b0 : But x H (upd H x (.ins (He.ga K "Letter") dx [("tree", .non)])) := But.upd
    refine ⟨_, rfl, z, rfl, hz, fun H1 s1 en => ?_, fun k y p H1 s1 es hp hp1 => ?_⟩
    · have hx1 : H1 x = some (.ins (He.ga K "Letter") dx [("tree", .non)]) := s1 x _ upd_same
      refine ⟨_, rfl, x, _, dx, _, rfl, hx1, T.k_Letter, T.n_Letter_tree, (by show 1 < 1000; decide), ?_⟩
      refine ⟨_, rfl, x, _, dx, _, .non, rfl, upd_same, T.k_Letter, T.n_Letter_tree, (by rw [putTree]; exact look1 _), rfl, _, rfl, ite2 (fun _ => ?_) (fun h => absurd (decide_eq_true rfl) h)⟩
      refine ⟨_, rfl, rd_raise1 T.X_BadAtom.oex T.X_BadAtom.no fun d H' s' nd hd => k0 d H' ?_ en ?_ hd⟩
      · exact ((b0.trans (But.of_same s1)).trans But.upd).trans (But.of_same s')
      · have nx : d ≠ x := fun e => by rw [e, upd_same] at nd; cases nd
        rw [upd_ne nx] at nd
        have n2 := s1.free nd
        rw [upd_ne nx] at n2
        exact n2
    · have hx1 : H1 x = some (.ins (He.ga K "Letter") dx [("tree", .non)]) := s1 x _ upd_same
      have npx : p ≠ x := fun e => by rw [e, hx1] at hp1; cases hp1
      refine ⟨_, rfl, x, _, dx, _, rfl, hx1, T.k_Letter, T.n_Letter_tree, (by show 1 < 1000; decide), ?_⟩
      refine ⟨_, rfl, x, _, dx, _, .ref p, rfl, upd_same, T.k_Letter, T.n_Letter_tree, (by rw [putTree]; exact look1 _), rfl, _, rfl, ite2 (fun h => absurd (of_decide_eq_true h) (fun e => by cases e)) (fun _ => ?_)⟩
      refine k1 k y p _ ((b0.trans (But.of_same s1)).trans But.upd) es ?_ (by rw [upd_ne npx]; exact hp1) (by rw [upd_same, putTree])
      rw [upd_ne npx] at hp
      exact hp
abbrev s_Letter_form : Stmt := inClass (top 26) 3
theorem sc_Letter_form : FnScope ["self"] ["self"] (defScope s_Letter_form) := ⟨rfl, rfl, rfl, by decide +kernel, rfl, by decide +kernel, by decide +kernel⟩
/-- a letter at a: its field -/
def IsL (K : PySem.W.Frag) (H : Hp) (a : Addr) (v : V) : Prop := ∃ dx, H a = some (.ins (He.ga K "Letter") dx [("tree", v)])
def sp_form (K : PySem.W.Frag) : Sp := fun vs H Q _ => ∃ (a : Addr) (v : V), vs = [.ref a] ∧ IsL K H a v ∧ Q v H
theorem ok_form (T : Tx w K mg) : Fm P w K mg base CX0 1 "Letter" "form" ["self"] (sp_form K) := by
  refine T.M_Letter_form.ok0 sc_Letter_form (fun _ _ _ _ _ _ us hl => match us, hl with | [_], _ => rfl)
    (fun vs H Q E h => ?_) (fun cdv A outer s H vs Q E hr h => ?_)
  · obtain ⟨a, v, rfl, _⟩ := h
    rfl
  · obtain ⟨a, v, rfl, ⟨dx, ha⟩, k⟩ := h
    refine ⟨_, (pss_one (ps_ret (pe_fld (pv 0) rfl))), ?_⟩
    exact ⟨_, rfl, a, _, dx, _, v, rfl, ha, T.k_Letter, T.n_Letter_tree, look1 _, k⟩
end
end Rd
namespace Rd
open PySem L2
theorem lookT {m : Str} {v : V} (h : (m == ("tree" : Str)) = false) : ([("tree", v)] : List (Str × V)).lookup m = none := by simp [List.lookup, h]
theorem lookX {f : Str} (v : V) : ([(f, v)] : List (Str × V)).lookup f = some v := by simp [List.lookup]
theorem IsL.mono {K : PySem.W.Frag} {H H' : Hp} {a : Addr} {v : V} (k : Kp (He.ga K "Letter") H H') (h : IsL K H a v) : IsL K H' a v := by
  obtain ⟨dx, e⟩ := h
  exact ⟨dx, k a _ (by show ((He.ga K "Letter") == (He.ga K "Letter")) = true; exact beq_self_eq_true _) e⟩
theorem IsL.same {K : PySem.W.Frag} {H H' : Hp} {a : Addr} {v : V} (k : Same H H') (h : IsL K H a v) : IsL K H' a v := h.mono (Kp.of_same k)
/-- a letter with a form -/
def IsLet (K : PySem.W.Frag) (H : Hp) (t : Tr) (v : V) : Prop := ∃ a u, v = .ref a ∧ IsL K H a u ∧ IsT H t u
theorem IsLet.mono {K : PySem.W.Frag} {H H' : Hp} {t : Tr} {v : V} (k : Kp (He.ga K "Letter") H H') (h : IsLet K H t v) : IsLet K H' t v := by
  obtain ⟨a, u, e, h1, h2⟩ := h
  exact ⟨a, u, e, h1.mono k, h2.mono k⟩
theorem IsLet.same {K : PySem.W.Frag} {H H' : Hp} {t : Tr} {v : V} (k : Same H H') (h : IsLet K H t v) : IsLet K H' t v := h.mono (Kp.of_same k)
def Tr.head : Tr → Str
  | .am k _ => k
  | .un s _ => s
  | .bi s _ _ => s
theorem IsT.hd {H : Hp} {t : Tr} {v : V} (h : IsT H t v) : ∃ p us, v = .ref p ∧ H p = some (.tup (.str t.head :: us)) := by
  cases t with
  | am k x => obtain ⟨p, e, h⟩ := h; exact ⟨p, _, e, h⟩
  | un s a => obtain ⟨p, u, e, h, _⟩ := h; exact ⟨p, _, e, h⟩
  | bi s a b => obtain ⟨p, u, u2, e, h, _⟩ := h; exact ⟨p, _, e, h⟩
/-- Letter("", tree) behind its arguments -/
theorem rd_mkL {K : PySem.W.Frag} {H1 : Hp} {q : Addr} {Q : VK} {E : XK} {xs : List V} (hq : H1 q = some (.tup xs))
    (k : ∀ x H', Same H1 H' → IsL K H' x (.ref q) → Q (.ref x) H') :
    ∀ x dx, H1 x = none → H1 dx = none → dx ≠ x → sp_Linit K (.ref x :: ([.str "", .ref q] ++ [])) (upd (upd H1 dx (.own x)) x (.ins (He.ga K "Letter") dx [])) (fun v H2 => v = .non ∧ Q (.ref x) H2) E := fun x dx nx ndx ne => by
  refine ⟨x, dx, "", .ref q, rfl, upd_same, .inl ⟨(fun e => by cases e), rfl, k x _ (fun b o e => ?_) ⟨dx, upd_same⟩⟩⟩
  rw [upd_ne (ne_of_none e nx), upd_ne (ne_of_none e nx), upd_ne (ne_of_none e ndx)]
  exact e
end Rd
namespace Rd
open PySem L2
theorem SqT.kept {K : PySem.W.Frag} {H H' : Hp} {a : Addr} {xs : List V} (h : SqT K H a xs) (s : Same H H') : SqT K H' a xs := by
  rcases h with (h | ⟨n, h⟩) | h
  · exact .inl (.inl (s _ _ h))
  · exact .inl (.inr ⟨n, s _ _ h⟩)
  · exact .inr h
theorem iteN {c A B : Prop} [Decidable c] (h : ¬ c) (b : B) : if c then A else B := ite2 (fun q => absurd q h) fun _ => b
theorem iteP {c A B : Prop} [Decidable c] (h : c) (a : A) : if c then A else B := ite2 (fun _ => a) fun q => absurd h q
def Tr.parts : Tr → List Tr
  | .am _ _ => []
  | .un _ a => [a]
  | .bi _ a b => [a, b]
theorem mem_to {l m : List Str} {z : Str} (h : l.all (fun y => decide (y ∈ m)) = true) (hz : z ∈ l) : z ∈ m := of_decide_eq_true (List.all_eq_true.mp h z hz)
theorem Wf.sign {t : Tr} (h : Wf t) (hn : t.parts ≠ []) : t.head ∈ (["mark", "open", "own", "pair", "seal", "lock"] : List Str) ∧ (∀ u ∈ t.parts, Wf u ∧ u.dep + 1 ≤ t.dep) := by
  cases h with
  | am => exact absurd rfl hn
  | @un s a hs w =>
    refine ⟨mem_to (by decide +kernel) hs, fun u hu => ?_⟩
    rw [List.mem_singleton.mp hu]
    exact ⟨w, Nat.le_refl _⟩
  | @bi s a b hs wa wb =>
    refine ⟨mem_to (by decide +kernel) hs, fun u hu => ?_⟩
    have e : (Tr.bi s a b).dep = max a.dep b.dep + 1 := rfl
    rcases List.mem_cons.mp hu with rfl | hu
    · exact ⟨wa, by omega⟩
    · rw [List.mem_singleton.mp hu]
      exact ⟨wb, by omega⟩
  | @lk s a b hs wa wb =>
    have hs' : s ∈ (["mark", "open", "own"] : List Str) := List.mem_cons_of_mem _ hs
    refine ⟨mem_to (l := ["lock"]) (by decide +kernel) List.mem_cons_self, fun u hu => ?_⟩
    have e : (Tr.bi "lock" a (.un s b)).dep = max a.dep (Tr.un s b).dep + 1 := rfl
    rcases List.mem_cons.mp hu with rfl | hu
    · exact ⟨wa, by omega⟩
    · rw [List.mem_singleton.mp hu]
      exact ⟨.un hs' wb, by omega⟩
theorem IsT.parts {H : Hp} {t : Tr} {v : V} (h : IsT H t v) (hn : t.parts ≠ []) : ∃ p us, v = .ref p ∧ H p = some (.tup (.str t.head :: us)) ∧ us.length = t.parts.length ∧ us.length ≤ 2 ∧ us ≠ [] ∧ ∀ (i : Nat) u, us[i]? = some u → ∃ r, t.parts[i]? = some r ∧ IsT H r u := by
  cases t with
  | am k x => exact absurd rfl hn
  | un s a =>
    obtain ⟨p, u, e, h, h1⟩ := h
    refine ⟨p, [u], e, h, rfl, (by show 1 ≤ 2; decide), (fun e => by cases e), fun i v hv => ?_⟩
    cases i with
    | zero => cases hv; exact ⟨a, rfl, h1⟩
    | succ i => cases i <;> cases hv
  | bi s a b =>
    obtain ⟨p, u, u2, e, h, h1, h2⟩ := h
    refine ⟨p, [u, u2], e, h, rfl, Nat.le_refl _, (fun e => by cases e), fun i v hv => ?_⟩
    cases i with
    | zero => cases hv; exact ⟨a, rfl, h1⟩
    | succ i =>
      cases i with
      | zero => cases hv; exact ⟨b, rfl, h2⟩
      | succ i => cases i <;> cases hv
theorem cut1 {x : V} {us : List V} : cutV (x :: us) (some 1) none = us := by
  unfold cutV
  have e : HT.sIx (x :: us).length 0 (some 1) = 1 := by
    rw [show (1 : Int) = ((1 : Nat) : Int) from rfl, HT.sIx_nat, List.length_cons]
    omega
  have e2 : HT.sIx (x :: us).length (x :: us).length none = us.length + 1 := rfl
  rw [e, e2]
  show us.take (us.length + 1 - 1) = us
  rw [Nat.add_sub_cancel, List.take_length]
/-- [e for x in a tuple], each item's value by R -/
theorem lct {K : PySem.W.Frag} {C a D : Addr} {xs : List V} {te : TE} {i0 : Nat} {σ : St} {H1 : Hp} {Qd : Hp → Prop} (R : Nat → Hp → V → Prop) (rm : ∀ i H H' v, Kp C H H' → R i H v → R i H' v) (hS : SqT K H1 a xs) (hl : xs.length ≤ 100000) (hD : H1 D = none)
    (hte : ∀ (i : Nat) (x : V) (H : Hp) (Q : VK), xs[i]? = some x → Same H1 H → (∀ v H', Same H H' → R i H' v → Q v H') → te ((wipe σ [i0]).set i0 (some x)) H Q)
    (hq : ∀ vs H', Same H1 H' → H' D = some (.lst vs) → vs.length = xs.length → (∀ (i : Nat) v, vs[i]? = some v → R i H' v) → Qd H') :
    ∃ W : Nat → Nat → Hp → Prop, (∃ m, W 0 m (L2.upd H1 D (.lst []))) ∧ ∀ i m H, W i m H →
      ((Itt K a).stop i H ∧ Qd H) ∨ ((Itt K a).go i H ∧ ∃ Nx : Hp → Prop, (∀ H', Nx H' → ∃ m', m' < m ∧ W (i + 1) m' H') ∧ ∀ x H', (Itt K a).yld i H x H' → gName i0 x (wipe σ [i0]) H' fun σ2 H2 => wipe σ2 [i0] = wipe σ [i0] ∧ tYes σ2 H2 fun b H3 =>
        if b = true then te σ2 H3 fun y H4 => ∃ acc, H4 D = some (.lst acc) ∧ acc.length < sizeLine ∧ Nx (L2.upd H4 D (.lst (acc ++ [y]))) else Nx H3) := by
  refine lc_tup (K := K) (a := a) (xs := xs) (fun i H => ∃ vs, Same H1 H ∧ H D = some (.lst vs) ∧ vs.length = i ∧ (∀ (j : Nat) v, vs[j]? = some v → R j H v)) ?_ ?_ ?_ ?_
  · exact ⟨[], Rd.Same.upd hD, upd_same, rfl, fun j v h => by simp at h⟩
  · rintro i H hi ⟨vs, s, _⟩
    exact SqT.kept hS s
  · rintro i x H hx ⟨vs, s, hDv, hlv, hg⟩
    refine ⟨by simp [wipe], hte i x H _ hx s fun v H' s' hv => ⟨vs, s' _ _ hDv, ?_, ?_⟩⟩
    · have : 100000 < sizeLine := by decide
      have := (List.getElem?_eq_some_iff.mp hx).1
      omega
    · have hDv' := s' _ _ hDv
      refine ⟨vs ++ [v], fun c o e => ?_, upd_same, by rw [List.length_append, hlv]; rfl, fun j v' hv' => ?_⟩
      · rw [upd_ne (ne_of_none e hD)]
        exact s' c o (s c o e)
      · have kp := Kp.upd_lst (C := C) (ys := vs ++ [v]) hDv'
        by_cases hj : j < vs.length
        · rw [List.getElem?_append_left hj] at hv'
          exact rm _ _ _ _ kp (rm _ _ _ _ (Kp.of_same s') (hg j v' hv'))
        · have e : j = vs.length := by
            have := (List.getElem?_eq_some_iff.mp hv').1
            rw [List.length_append, List.length_singleton] at this
            omega
          subst e
          rw [List.getElem?_append_right (Nat.le_refl _), Nat.sub_self] at hv'
          have e2 : v = v' := Option.some.inj hv'
          rw [← e2, hlv]
          exact rm _ _ _ _ kp hv
  · rintro H ⟨vs, s, hDv, hlv, hg⟩
    exact hq vs H s hDv hlv hg
theorem q_starts (x : Str) : Txt.startswith ("?" ++ x) "?" = true := by
  rw [starts_q, app_list]
  have e2 : ("?" : Str).cps.toList = [63] := by decide +kernel
  exact ⟨_, by rw [e2]; rfl⟩
theorem q_tail2 (x : Str) : tailS ("?" ++ x) = x := by
  refine str_ext ?_
  rw [tailS_list, app_list]
  have e2 : ("?" : Str).cps.toList = [63] := by decide +kernel
  rw [e2]
  rfl
theorem atomOf_word {x : Str} (h : isWord x = true) : atomOf x = some (("word" : Str), x) := by rw [atomOf, if_pos h]
theorem atomOf_name {x : Str} (h : isName x = true) : atomOf x = some (("name" : Str), x) := by rw [atomOf, if_neg (by rw [word_noname h]; decide), if_pos h]
theorem atomOf_unk {x : Str} (h : isUnk x = true) : atomOf ("?" ++ x) = some (("unknown" : Str), x) := by
  have hw : ¬ isWord ("?" ++ x) = true := fun q => by
    obtain ⟨_, h2⟩ := He.ba q
    obtain ⟨_, h4⟩ := He.ba h2
    have e2 : ("?" : Str).cps.toList = [63] := by decide +kernel
    have := List.all_eq_true.mp h4 63 (by rw [app_list, e2]; exact List.mem_cons_self)
    have e3 : inS SMALL 63 = false := by decide +kernel
    rw [e3] at this
    cases this
  rw [atomOf, if_neg hw, if_neg (fun q => isName_first q (q_starts x)), q_starts, q_tail2, h]
  rfl
end Rd
namespace Rd
open PySem L2
def dat : Tr → PyData
  | .am k x => .tuple [.str k, .str x]
  | .un s a => .tuple [.str s, dat a]
  | .bi s a b => .tuple [.str s, dat a, dat b]
theorem IsT.dp {K : PySem.W.Frag} {H : Hp} : ∀ {t : Tr} {v : V}, IsT H t v → Dp K H v (dat t)
  | .am _ _, _, ⟨p, e, h⟩ => by subst e; exact .tup (SqT.of h) (.cons (.str _) (.cons (.str _) .nil))
  | .un _ _, _, ⟨p, u, e, h, h1⟩ => by subst e; exact .tup (SqT.of h) (.cons (.str _) (.cons (IsT.dp h1) .nil))
  | .bi _ _ _, _, ⟨p, u1, u2, e, h, h1, h2⟩ => by subst e; exact .tup (SqT.of h) (.cons (.str _) (.cons (IsT.dp h1) (.cons (IsT.dp h2) .nil)))
def Tr.fine : Tr → Prop
  | .am k x => okS k ∧ okS x
  | .un s a => okS s ∧ a.fine
  | .bi s a b => okS s ∧ a.fine ∧ b.fine
theorem okS_of {l : List Str} {z : Str} (h : l.all (fun y => y.cps.toList.all (fun c => decide (c < 1114112))) = true) (hz : z ∈ l) : okS z := by
  exact okS_by (List.all_eq_true.mp h z hz)
theorem dat_lay : ∀ {t : Tr}, t.fine → (dat t).canLay0 = true
  | .am k x, ⟨h1, h2⟩ => by
    show (PySem.PyData.strOk k && (PySem.PyData.strOk x && true)) = true
    rw [strOk_of h1, strOk_of h2]
    rfl
  | .un s a, ⟨h1, h2⟩ => by
    show (PySem.PyData.strOk s && ((dat a).canLay0 && true)) = true
    rw [strOk_of h1, dat_lay h2]
    rfl
  | .bi s a b, ⟨h1, h2, h3⟩ => by
    show (PySem.PyData.strOk s && ((dat a).canLay0 && ((dat b).canLay0 && true))) = true
    rw [strOk_of h1, dat_lay h2, dat_lay h3]
    rfl
theorem dat_dep : ∀ {t : Tr}, (dat t).depth ≤ t.dep + 1
  | .am k x => by show max 0 (max 0 0) + 1 ≤ 0 + 1; decide
  | .un s a => by
    show max 0 (max (dat a).depth 0) + 1 ≤ a.dep + 1 + 1
    have := dat_dep (t := a)
    omega
  | .bi s a b => by
    show max 0 (max (dat a).depth (max (dat b).depth 0)) + 1 ≤ max a.dep b.dep + 1 + 1
    have := dat_dep (t := a)
    have := dat_dep (t := b)
    omega
theorem kindOk.fine {k x : Str} (h : kindOk k x) : okS k ∧ okS x := by
  rcases h with ⟨rfl, h⟩ | ⟨rfl, h⟩ | ⟨rfl, h⟩
  · exact ⟨okS_of (l := ["word"]) (by decide +kernel) List.mem_cons_self, (word_len h).2.2⟩
  · exact ⟨okS_of (l := ["name"]) (by decide +kernel) List.mem_cons_self, (name_len h).2⟩
  · exact ⟨okS_of (l := ["unknown"]) (by decide +kernel) List.mem_cons_self, (unk_len h).2.2⟩
theorem Wf.fine {t : Tr} (h : Wf t) : t.fine := by
  induction h with
  | am h => exact h.fine
  | un hs _ ih => exact ⟨okS_of (by decide +kernel) hs, ih⟩
  | bi hs _ _ ih1 ih2 => exact ⟨okS_of (by decide +kernel) hs, ih1, ih2⟩
  | lk hs _ _ ih1 ih2 => exact ⟨okS_of (l := ["lock"]) (by decide +kernel) List.mem_cons_self, ih1, okS_of (by decide +kernel) hs, ih2⟩
theorem seqJoin {s1 rest : TS} {D : Ends} {σ : St} {H : Hp} (R : St → Hp → Prop) (h : ∀ K : St → Hp → Prop, (∀ σ' H', R σ' H' → K σ' H') → s1 { D with nx := K } σ H) (hR : ∀ σ' H', R σ' H' → rest D σ' H') : tSeq s1 rest D σ H := h _ hR
theorem But.fresh {p : Addr} {H0 H H' : Hp} (s : Same H0 H) (n : H0 p = none) (b : But p H H') : Same H0 H' := fun c o e => b c o (ne_of_none e n) (s c o e)
theorem SqL.kept {K : PySem.W.Frag} {H H' : Hp} {a : Addr} {xs : List V} (h : SqL K H a xs) (s : Same H H') : SqL K H' a xs := by
  rcases h with (h | ⟨n, h⟩) | h
  · exact .inl (.inl (s _ _ h))
  · exact .inl (.inr ⟨n, s _ _ h⟩)
  · exact .inr h
end Rd
namespace Rd
open PySem L2
theorem Wf.parts_wf {t : Tr} (h : Wf t) : ∀ u ∈ t.parts, Wf u := by
  by_cases hp : t.parts ≠ []
  · exact fun u hu => ((h.sign hp).2 u hu).1
  · intro u hu
    cases t with
    | am => cases hu
    | un => exact absurd (fun e => by cases e) hp
    | bi => exact absurd (fun e => by cases e) hp
def Tr.all : Tr → List Tr
  | .am k x => [.am k x]
  | .un s a => .un s a :: a.all
  | .bi s a b => .bi s a b :: (a.all ++ b.all)
theorem all_len : ∀ t : Tr, t.all.length + 1 ≤ 2 ^ (t.dep + 1)
  | .am k x => by show 1 + 1 ≤ 2 ^ 1; decide
  | .un s a => by
    have := all_len a
    show a.all.length + 1 + 1 ≤ 2 ^ (a.dep + 1 + 1)
    rw [Nat.pow_succ]
    have : 1 ≤ 2 ^ (a.dep + 1) := Nat.one_le_two_pow
    omega
  | .bi s a b => by
    have h1 := all_len a
    have h2 := all_len b
    show (a.all ++ b.all).length + 1 + 1 ≤ 2 ^ (max a.dep b.dep + 1 + 1)
    rw [List.length_append, Nat.pow_succ]
    have e1 : 2 ^ (a.dep + 1) ≤ 2 ^ (max a.dep b.dep + 1) := Nat.pow_le_pow_right (by decide) (by omega)
    have e2 : 2 ^ (b.dep + 1) ≤ 2 ^ (max a.dep b.dep + 1) := Nat.pow_le_pow_right (by decide) (by omega)
    omega
theorem all_parts (t : Tr) : t.all = t :: t.parts.flatMap Tr.all := by
  cases t with
  | am k x => rfl
  | un s a => show _ :: a.all = _ :: (a.all ++ []); rw [List.append_nil]
  | bi s a b => show _ :: (a.all ++ b.all) = _ :: (a.all ++ (b.all ++ [])); rw [List.append_nil]
theorem all_wf {t : Tr} (h : Wf t) : ∀ u ∈ t.all, Wf u ∧ u.dep ≤ t.dep := by
  induction t with
  | am k x => intro u hu; rw [List.mem_singleton.mp hu]; exact ⟨h, Nat.le_refl _⟩
  | un s a ih =>
    intro u hu
    rcases List.mem_cons.mp hu with rfl | hu
    · exact ⟨h, Nat.le_refl _⟩
    · have := ih (h.parts_wf a List.mem_cons_self) u hu
      exact ⟨this.1, by show _ ≤ a.dep + 1; omega⟩
  | bi s a b iha ihb =>
    intro u hu
    rcases List.mem_cons.mp hu with rfl | hu
    · exact ⟨h, Nat.le_refl _⟩
    · rcases List.mem_append.mp hu with hu | hu
      · have := iha (h.parts_wf a List.mem_cons_self) u hu
        exact ⟨this.1, by show _ ≤ max a.dep b.dep + 1; omega⟩
      · have := ihb (h.parts_wf b (List.mem_cons_of_mem _ List.mem_cons_self)) u hu
        exact ⟨this.1, by show _ ≤ max a.dep b.dep + 1; omega⟩
/-- values that are the forms ts, one behind another -/
structure TsAt (H : Hp) (ts : List Tr) (vs : List V) : Prop where
  len : vs.length = ts.length
  get : ∀ (i : Nat) t v, ts[i]? = some t → vs[i]? = some v → IsT H t v
theorem TsAt.mono {C : Addr} {H H' : Hp} {ts : List Tr} {vs : List V} (k : Kp C H H') (h : TsAt H ts vs) : TsAt H' ts vs := ⟨h.len, fun i t v h1 h2 => (h.get i t v h1 h2).mono k⟩
theorem TsAt.same {H H' : Hp} {ts : List Tr} {vs : List V} (s : Same H H') (h : TsAt H ts vs) : TsAt H' ts vs := h.mono (C := 0) (Kp.of_same s)
theorem TsAt.one {H : Hp} {t : Tr} {v : V} (h : IsT H t v) : TsAt H [t] [v] := ⟨rfl, fun i t' v' h1 h2 => by
  cases i with
  | zero => cases h1; cases h2; exact h
  | succ i => cases i <;> cases h1⟩
theorem TsAt.app {H : Hp} {ts us : List Tr} {vs ws : List V} (h : TsAt H ts vs) (g : TsAt H us ws) : TsAt H (ts ++ us) (vs ++ ws) := ⟨by rw [List.length_append, List.length_append, h.len, g.len], fun i t v h1 h2 => by
  by_cases hi : i < ts.length
  · rw [List.getElem?_append_left hi] at h1
    rw [List.getElem?_append_left (by rw [h.len]; exact hi)] at h2
    exact h.get i t v h1 h2
  · rw [List.getElem?_append_right (by omega)] at h1
    rw [List.getElem?_append_right (by rw [h.len]; omega), h.len] at h2
    exact g.get _ t v h1 h2⟩
theorem TsAt.at_ {H : Hp} {ts : List Tr} {vs : List V} (h : TsAt H ts vs) {i : Nat} {v : V} (hv : vs[i]? = some v) : ∃ t, ts[i]? = some t ∧ IsT H t v := by
  have hl := (List.getElem?_eq_some_iff.mp hv).1
  rw [h.len] at hl
  exact ⟨_, List.getElem?_eq_getElem hl, h.get i _ v (List.getElem?_eq_getElem hl) hv⟩
def sp_parts (d : Nat) : Sp := fun vs H Q _ => ∃ (v : V) (t : Tr), vs = [v] ∧ IsT H t v ∧ Wf t ∧ t.dep ≤ d ∧ d ≤ 12 ∧ ∀ p ws H', Same H H' → H p = none → H' p = some (.lst ws) → TsAt H' t.all ws → Q (.ref p) H'
def spPR : Nat → Sp
  | 0 => fun _ _ _ _ => False
  | d + 1 => sp_parts d
/-- the loop over a form's parts: p holds what is found, p2 the parts -/
structure PInv (H0 : Hp) (p p2 : Addr) (us : List V) (t : Tr) (i : Nat) (H : Hp) : Prop where
  same : Same H0 H
  free : H0 p = none
  tup : H p2 = some (.tup us)
  found : ∃ ws, H p = some (.lst ws) ∧ TsAt H (t :: (t.parts.take i).flatMap Tr.all) ws
theorem take_flat {l : List Tr} {i : Nat} {r : Tr} (h : l[i]? = some r) : (l.take (i + 1)).flatMap Tr.all = (l.take i).flatMap Tr.all ++ r.all := by
  rw [List.take_add_one, h, List.flatMap_append]
  simp
theorem flat_le {t : Tr} (i : Nat) : ((t.parts.take i).flatMap Tr.all).length + 1 ≤ t.all.length := by
  rw [all_parts t, List.length_cons]
  have e : t.parts.flatMap Tr.all = (t.parts.take i).flatMap Tr.all ++ (t.parts.drop i).flatMap Tr.all := by rw [← List.flatMap_append, List.take_append_drop]
  rw [e, List.length_append]
  omega
/-- [e for x in a list], each item's value by R -/
theorem lcl {K : PySem.W.Frag} {C a D : Addr} {xs : List V} {te : TE} {i0 : Nat} {σ : St} {H1 : Hp} {Qd : Hp → Prop} (R : Nat → Hp → V → Prop) (rm : ∀ i H H' v, Kp C H H' → R i H v → R i H' v) (hS : SqL K H1 a xs) (hl : xs.length ≤ 100000) (hD : H1 D = none)
    (hte : ∀ (i : Nat) (x : V) (H : Hp) (Q : VK), xs[i]? = some x → Same H1 H → (∀ v H', Same H H' → R i H' v → Q v H') → te ((wipe σ [i0]).set i0 (some x)) H Q)
    (hq : ∀ vs H', Same H1 H' → H' D = some (.lst vs) → vs.length = xs.length → (∀ (i : Nat) v, vs[i]? = some v → R i H' v) → Qd H') :
    ∃ W : Nat → Nat → Hp → Prop, (∃ m, W 0 m (L2.upd H1 D (.lst []))) ∧ ∀ i m H, W i m H →
      ((Itl K a).stop i H ∧ Qd H) ∨ ((Itl K a).go i H ∧ ∃ Nx : Hp → Prop, (∀ H', Nx H' → ∃ m', m' < m ∧ W (i + 1) m' H') ∧ ∀ x H', (Itl K a).yld i H x H' → gName i0 x (wipe σ [i0]) H' fun σ2 H2 => wipe σ2 [i0] = wipe σ [i0] ∧ tYes σ2 H2 fun b H3 =>
        if b = true then te σ2 H3 fun y H4 => ∃ acc, H4 D = some (.lst acc) ∧ acc.length < sizeLine ∧ Nx (L2.upd H4 D (.lst (acc ++ [y]))) else Nx H3) := by
  refine lc_list (K := K) (a := a) (xs := xs) (fun i H => ∃ vs, Same H1 H ∧ H D = some (.lst vs) ∧ vs.length = i ∧ (∀ (j : Nat) v, vs[j]? = some v → R j H v)) ?_ ?_ ?_ ?_
  · exact ⟨[], Rd.Same.upd hD, upd_same, rfl, fun j v h => by simp at h⟩
  · rintro i H hi ⟨vs, s, _⟩
    exact SqL.kept hS s
  · rintro i x H hx ⟨vs, s, hDv, hlv, hg⟩
    refine ⟨by simp [wipe], hte i x H _ hx s fun v H' s' hv => ⟨vs, s' _ _ hDv, ?_, ?_⟩⟩
    · have : 100000 < sizeLine := by decide
      have := (List.getElem?_eq_some_iff.mp hx).1
      omega
    · have hDv' := s' _ _ hDv
      refine ⟨vs ++ [v], fun c o e => ?_, upd_same, by rw [List.length_append, hlv]; rfl, fun j v' hv' => ?_⟩
      · rw [upd_ne (ne_of_none e hD)]
        exact s' c o (s c o e)
      · have kp := Kp.upd_lst (C := C) (ys := vs ++ [v]) hDv'
        by_cases hj : j < vs.length
        · rw [List.getElem?_append_left hj] at hv'
          exact rm _ _ _ _ kp (rm _ _ _ _ (Kp.of_same s') (hg j v' hv'))
        · have e : j = vs.length := by
            have := (List.getElem?_eq_some_iff.mp hv').1
            rw [List.length_append, List.length_singleton] at this
            omega
          subst e
          rw [List.getElem?_append_right (Nat.le_refl _), Nat.sub_self] at hv'
          have e2 : v = v' := Option.some.inj hv'
          rw [← e2, hlv]
          exact rm _ _ _ _ kp hv
  · rintro H ⟨vs, s, hDv, hlv, hg⟩
    exact hq vs H s hDv hlv hg
end Rd
namespace Rd
open PySem L2
theorem eqv_dat : ∀ t u : Tr, PyData.eqv (dat t) (dat u) = decide (t = u)
  | .am k x, .am k' x' => by
    show ((k == k') && ((x == x') && true)) = _
    by_cases h : k = k'
    · subst h
      by_cases h2 : x = x'
      · subst h2
        simp
      · simp [h2]
    · simp [h]
  | .am k x, .un s a => by
    have e : PyData.eqv (.str x) (dat a) = false := by cases a <;> rfl
    show ((k == s) && (PyData.eqv (.str x) (dat a) && true)) = _
    rw [e]
    simp
  | .am k x, .bi s a b => by
    show ((k == s) && (PyData.eqv (.str x) (dat a) && false)) = _
    simp
  | .un s a, .am k x => by
    have e : PyData.eqv (dat a) (.str x) = false := by cases a <;> rfl
    show ((s == k) && (PyData.eqv (dat a) (.str x) && true)) = _
    rw [e]
    simp
  | .un s a, .un s' a' => by
    show ((s == s') && (PyData.eqv (dat a) (dat a') && true)) = _
    rw [eqv_dat a a']
    by_cases h : s = s'
    · subst h
      by_cases h2 : a = a'
      · subst h2
        simp
      · simp [h2]
    · simp [h]
  | .un s a, .bi s' a' b' => by
    show ((s == s') && (PyData.eqv (dat a) (dat a') && false)) = _
    simp
  | .bi s a b, .am k x => by
    show ((s == k) && (PyData.eqv (dat a) (.str x) && false)) = _
    simp
  | .bi s a b, .un s' a' => by
    show ((s == s') && (PyData.eqv (dat a) (dat a') && false)) = _
    simp
  | .bi s a b, .bi s' a' b' => by
    show ((s == s') && (PyData.eqv (dat a) (dat a') && (PyData.eqv (dat b) (dat b') && true))) = _
    rw [eqv_dat a a', eqv_dat b b']
    by_cases h : s = s'
    · subst h
      by_cases h2 : a = a'
      · subst h2
        by_cases h3 : b = b'
        · subst h3
          simp
        · simp [h3]
      · simp [h2]
    · simp [h]
theorem dpAll_ts {K : PySem.W.Frag} {H : Hp} : ∀ {ts : List Tr} {vs : List V}, TsAt H ts vs → DpAll K H vs (ts.map dat)
  | [], [], _ => .nil
  | [], _ :: _, h => by cases h.len
  | _ :: _, [], h => by cases h.len
  | t :: ts, v :: vs, h => .cons (h.get 0 t v rfl rfl).dp (dpAll_ts (ts := ts) ⟨Nat.succ.inj h.len, fun i t' v' h1 h2 => h.get (i + 1) t' v' h1 h2⟩)
theorem layAll_ts : ∀ {ts : List Tr}, (∀ t ∈ ts, t.fine) → PyData.canLayAll0 (ts.map dat) = true
  | [], _ => rfl
  | t :: ts, h => by
    show ((dat t).canLay0 && PyData.canLayAll0 (ts.map dat)) = true
    rw [dat_lay (h t List.mem_cons_self), layAll_ts fun u hu => h u (List.mem_cons_of_mem _ hu)]
    rfl
theorem depAll_ts {n : Nat} : ∀ {ts : List Tr}, (∀ t ∈ ts, t.dep ≤ n) → PyData.depthAll (ts.map dat) ≤ n + 1
  | [], _ => Nat.zero_le _
  | t :: ts, h => by
    show max (dat t).depth (PyData.depthAll (ts.map dat)) ≤ n + 1
    have h1 := dat_dep (t := t)
    have h2 := h t List.mem_cons_self
    have h3 := depAll_ts (n := n) fun u hu => h u (List.mem_cons_of_mem _ hu)
    omega
theorem ts_shaped {ts : List Tr} (h : ∀ t ∈ ts, t.fine ∧ t.dep ≤ 60) : SeqAt.shaped (.list (ts.map dat)) = true := by
  have h1 := layAll_ts fun t ht => (h t ht).1
  have h2 := depAll_ts fun t ht => (h t ht).2
  show (PyData.canLayAll0 (ts.map dat) && decide (PyData.depthAll (ts.map dat) + 1 ≤ 64)) = true
  rw [h1, decide_eq_true (by omega)]
  rfl
end Rd
namespace Rd
open PySem L2
/-- the dict at a holds the forms m -/
def DTr (H : Hp) (a : Addr) (m : Str → Option Tr) : Prop := ∃ kvs, L2.Rd H a (.dK kvs) ∧ (∀ x t, m x = some t → ∃ v, valV kvs (.inr x) = some v ∧ IsT H t v) ∧ ∀ x, m x = none → valV kvs (.inr x) = none
theorem DTr.same {H H' : Hp} {a : Addr} {m : Str → Option Tr} (s : Same H H') (h : DTr H a m) : DTr H' a m := by
  obtain ⟨kvs, h1, h2, h3⟩ := h
  refine ⟨kvs, ?_, fun x t e => ?_, h3⟩
  · rcases h1 with h | ⟨o, h⟩
    · exact .inl (s _ _ h)
    · exact .inr ⟨o, s _ _ h⟩
  · obtain ⟨v, e1, e2⟩ := h2 x t e
    exact ⟨v, e1, e2.same s⟩
theorem DTr.get {H : Hp} {a : Addr} {m : Str → Option Tr} {x : Str} (h : DTr H a m) : ∃ o, DGet H a (.str x) o ∧ (∀ t, m x = some t → ∃ v, o = some v ∧ IsT H t v) ∧ (m x = none → o = none) := by
  obtain ⟨kvs, h1, h2, h3⟩ := h
  exact ⟨valV kvs (.inr x), .inl ⟨kvs, .inr x, h1, rfl, rfl⟩, fun t e => h2 x t e, h3 x⟩
def Al (R : Hp → Tr → V → Prop) (H : Hp) : List (Str × Tr) → List (Key × V) → Prop
  | [], [] => True
  | (x, t) :: l, (k, v) :: kvs => k = .inr x ∧ R H t v ∧ Al R H l kvs
  | _, _ => False
def look (l : List (Str × Tr)) (x : Str) : Option Tr := (l.find? fun p => decide (p.1 = x)).map (·.2)
theorem Al.len {R : Hp → Tr → V → Prop} {H : Hp} : ∀ {l : List (Str × Tr)} {kvs : List (Key × V)}, Al R H l kvs → kvs.length = l.length
  | [], [], _ => rfl
  | (x, t) :: l, (k, v) :: kvs, h => congrArg (· + 1) (Al.len h.2.2)
theorem Al.mono {R S : Hp → Tr → V → Prop} {H H' : Hp} (m : ∀ t v, R H t v → S H' t v) : ∀ {l : List (Str × Tr)} {kvs : List (Key × V)}, Al R H l kvs → Al S H' l kvs
  | [], [], _ => trivial
  | (x, t) :: l, (k, v) :: kvs, h => ⟨h.1, m _ _ h.2.1, Al.mono m h.2.2⟩
theorem Al.get {R : Hp → Tr → V → Prop} {H : Hp} : ∀ {l : List (Str × Tr)} {kvs : List (Key × V)} {i : Nat} {k : Key} {v : V}, Al R H l kvs → kvs[i]? = some (k, v) → ∃ x t, l[i]? = some (x, t) ∧ k = .inr x ∧ R H t v
  | (x, t) :: l, (k, v) :: kvs, 0, _, _, h, e => by
    cases e
    exact ⟨x, t, rfl, h.1, h.2.1⟩
  | (x, t) :: l, (k, v) :: kvs, i + 1, _, _, h, e => by
    obtain ⟨y, u, e1, e2, e3⟩ := Al.get (l := l) (kvs := kvs) (i := i) h.2.2 (by simpa using e)
    exact ⟨y, u, by simpa using e1, e2, e3⟩
  | [], [], _, _, _, _, e => by simp at e
theorem Al.snoc {R : Hp → Tr → V → Prop} {H : Hp} {x : Str} {t : Tr} {v : V} (r : R H t v) : ∀ {l : List (Str × Tr)} {kvs : List (Key × V)}, Al R H l kvs → Al R H (l ++ [(x, t)]) (kvs ++ [(.inr x, v)])
  | [], [], _ => ⟨rfl, r, trivial⟩
  | (y, u) :: l, (k, z) :: kvs, h => ⟨h.1, h.2.1, Al.snoc r h.2.2⟩
theorem Al.look {R : Hp → Tr → V → Prop} {H : Hp} {x : Str} : ∀ {l : List (Str × Tr)} {kvs : List (Key × V)}, Al R H l kvs → (∀ t, look l x = some t → ∃ v, valV kvs (.inr x) = some v ∧ R H t v) ∧ (look l x = none → valV kvs (.inr x) = none)
  | [], [], _ => ⟨fun t e => (by cases e), fun _ => rfl⟩
  | (y, u) :: l, (k, z) :: kvs, h => by
    obtain ⟨rfl, h2, h3⟩ := h
    by_cases e : y = x
    · subst e
      refine ⟨fun t e => ?_, fun e => ?_⟩
      · rw [show Rd.look ((y, u) :: l) y = some u by simp [Rd.look]] at e
        cases e
        exact ⟨z, valV_pos rfl, h2⟩
      · rw [show Rd.look ((y, u) :: l) y = some u by simp [Rd.look]] at e
        cases e
    · have e1 : Rd.look ((y, u) :: l) x = Rd.look l x := by simp [Rd.look, e]
      rw [e1, valV_neg (fun q => e (by cases q; rfl))]
      exact Al.look h3
def Pq (H : Hp) : List Addr → List (Key × V) → Prop
  | [], [] => True
  | p :: ps, kv :: kq => H p = some (.tup [kV kv.1, kv.2]) ∧ Pq H ps kq
  | _, _ => False
theorem Pq.mono {C : Addr} {H H' : Hp} (k : Kp C H H') : ∀ {ps : List Addr} {kq : List (Key × V)}, Pq H ps kq → Pq H' ps kq
  | [], [], _ => trivial
  | _ :: _, _ :: _, h => ⟨k _ _ rfl h.1, Pq.mono k h.2⟩
theorem Pq.snoc {H : Hp} {p : Addr} {kv : Key × V} (e : H p = some (.tup [kV kv.1, kv.2])) : ∀ {ps : List Addr} {kq : List (Key × V)}, Pq H ps kq → Pq H (ps ++ [p]) (kq ++ [kv])
  | [], [], _ => ⟨e, trivial⟩
  | _ :: _, _ :: _, h => ⟨h.1, Pq.snoc e h.2⟩
theorem Pq.len {H : Hp} : ∀ {ps : List Addr} {kq : List (Key × V)}, Pq H ps kq → ps.length = kq.length
  | [], [], _ => rfl
  | _ :: _, _ :: _, h => congrArg (· + 1) (Pq.len h.2)
section
variable {X : Cx} {CX : CXT} {k : Nat} {c m : Str} {ps : List Str} {sp : Sp} {o : Expr} {ta : TE} {E : XK} {apos pos : Pos} {K : PySem.W.Frag}
theorem pe_fm0k {pl : Sem Bool} (hK : X.K = K) (he : PE X o ta) (cl : Cls X.K (He.ga X.K c)) (F : Fm X.prog X.w X.K X.mg X.base CX k c m ps sp) (hr : Room k X.A) (hx : Passes CX X E)
    (ht : eval (.Call (.Attribute o m apos) [] [] pos) X.env = (do
      let ov ← eval o X.env
      standAt apos.atName
      let (f, first) ← holding [ov] (getMethod ov m pl)
      callWith pos f first (backTo pos (starEach [] X.env)) (backToKw pos (keywordEach [] X.env))) := by rfl) :
    PE X (.Call (.Attribute o m apos) [] [] pos) (tMeth (He.ga K c) m sp [] E ta tNil) := by subst hK; exact pe_fm0 he cl F hr hx ht
end
end Rd
namespace Rd
open PySem L2
def ltS (a b : Str) : Bool := PySem.Spec.ltCps a.cps.toList b.cps.toList
theorem ltC_irr : ∀ a : List Nat, PySem.Spec.ltCps a a = false
  | [] => rfl
  | a :: r => by
    show (decide (a < a) || (a == a && PySem.Spec.ltCps r r)) = false
    rw [ltC_irr r]
    simp
theorem ltC_trans : ∀ {a b c : List Nat}, PySem.Spec.ltCps a b = true → PySem.Spec.ltCps b c = true → PySem.Spec.ltCps a c = true
  | [], [], _, h, _ => by cases h
  | [], _ :: _, [], _, h => by cases h
  | [], _ :: _, _ :: _, _, _ => rfl
  | _ :: _, [], _, h, _ => by cases h
  | _ :: _, _ :: _, [], _, h => by cases h
  | a :: r, b :: s, c :: t, h1, h2 => by
    have g1 : (decide (a < b) || (a == b && PySem.Spec.ltCps r s)) = true := h1
    have g2 : (decide (b < c) || (b == c && PySem.Spec.ltCps s t)) = true := h2
    show (decide (a < c) || (a == c && PySem.Spec.ltCps r t)) = true
    rw [Bool.or_eq_true, Bool.and_eq_true, decide_eq_true_eq, beq_iff_eq] at g1 g2 ⊢
    rcases g1 with g1 | ⟨e1, g1⟩
    · rcases g2 with g2 | ⟨e2, g2⟩
      · exact .inl (Nat.lt_trans g1 g2)
      · exact .inl (by omega)
    · rcases g2 with g2 | ⟨e2, g2⟩
      · exact .inl (by omega)
      · exact .inr ⟨by omega, ltC_trans g1 g2⟩
theorem ltC_tot : ∀ {a b : List Nat}, PySem.Spec.ltCps a b = false → PySem.Spec.ltCps b a = false → a = b
  | [], [], _, _ => rfl
  | [], _ :: _, h, _ => by cases h
  | _ :: _, [], _, h => by cases h
  | a :: r, b :: s, h1, h2 => by
    have h1 : (decide (a < b) || (a == b && PySem.Spec.ltCps r s)) = false := h1
    have h2 : (decide (b < a) || (b == a && PySem.Spec.ltCps s r)) = false := h2
    rw [Bool.or_eq_false_iff, decide_eq_false_iff_not] at h1 h2
    have e : a = b := by omega
    subst e
    rw [beq_self_eq_true, Bool.true_and] at h1 h2
    rw [ltC_tot h1.2 h2.2]
theorem ltS_irr (a : Str) : ltS a a = false := ltC_irr _
theorem ltS_trans {a b c : Str} (h1 : ltS a b = true) (h2 : ltS b c = true) : ltS a c = true := ltC_trans h1 h2
theorem ltS_tot {a b : Str} (h1 : ltS a b = false) (h2 : ltS b a = false) : a = b := by
  have e := ltC_tot h1 h2
  cases a; cases b
  exact congrArg Str.mk (Array.toList_inj.mp e)
def asc (l : List Str) : Prop := l.Pairwise fun a b => ltS a b = true
theorem asc_of : ∀ {l : List Str}, PyProof.Rows.sortedS l = true → l.Nodup → asc l
  | [], _, _ => List.Pairwise.nil
  | [x], _, _ => List.pairwise_singleton _ _
  | x :: y :: r, h, n => by
    have h : (!ltS y x && PyProof.Rows.risingS y r) = true := h
    rw [Bool.and_eq_true, Bool.not_eq_true'] at h
    have ih : asc (y :: r) := asc_of (l := y :: r) h.2 (List.nodup_cons.mp n).2
    have ne : x ≠ y := fun e => (List.nodup_cons.mp n).1 (by rw [e]; exact List.mem_cons_self)
    have xy : ltS x y = true := by
      cases e : ltS x y with
      | true => rfl
      | false => exact absurd (ltS_tot e h.1) ne
    refine List.pairwise_cons.mpr ⟨fun z hz => ?_, ih⟩
    rcases List.mem_cons.mp hz with rfl | hz
    · exact xy
    · exact ltS_trans xy ((List.pairwise_cons.mp ih).1 z hz)
theorem asc_uniq : ∀ {l m : List Str}, asc l → asc m → (∀ x, x ∈ l ↔ x ∈ m) → l = m
  | [], [], _, _, _ => rfl
  | [], y :: m, _, _, h => by cases (h y).2 List.mem_cons_self
  | x :: l, [], _, _, h => by cases (h x).1 List.mem_cons_self
  | x :: l, y :: m, hl, hm, h => by
    obtain ⟨l1, l2⟩ := List.pairwise_cons.mp hl
    obtain ⟨m1, m2⟩ := List.pairwise_cons.mp hm
    have e : x = y := by
      rcases List.mem_cons.mp ((h x).1 List.mem_cons_self) with e | e
      · exact e
      · rcases List.mem_cons.mp ((h y).2 List.mem_cons_self) with e' | e'
        · exact e'.symm
        · have a := ltS_trans (m1 x e) (l1 y e')
          rw [ltS_irr] at a
          cases a
    subst e
    rw [asc_uniq l2 m2 fun z => ?_]
    constructor
    · intro hz
      rcases List.mem_cons.mp ((h z).1 (List.mem_cons_of_mem _ hz)) with e | e
      · have a := l1 z hz
        rw [e, ltS_irr] at a
        cases a
      · exact e
    · intro hz
      rcases List.mem_cons.mp ((h z).2 (List.mem_cons_of_mem _ hz)) with e | e
      · have a := m1 z hz
        rw [e, ltS_irr] at a
        cases a
      · exact e
def insS (x : Str) : List Str → List Str
  | [] => [x]
  | y :: r => if x = y then y :: r else if ltS x y = true then x :: y :: r else y :: insS x r
def uniS : List Str → List Str
  | [] => []
  | x :: r => insS x (uniS r)
theorem insS_mem {x z : Str} : ∀ {l : List Str}, z ∈ insS x l ↔ z = x ∨ z ∈ l
  | [] => by simp [insS]
  | y :: r => by
    unfold insS
    split
    · rename_i e
      subst e
      exact ⟨.inr, fun h => h.elim (fun e => by rw [e]; exact List.mem_cons_self) id⟩
    · split
      · exact List.mem_cons
      · rw [List.mem_cons, insS_mem, List.mem_cons]
        constructor
        · rintro (a | a | a)
          · exact .inr (.inl a)
          · exact .inl a
          · exact .inr (.inr a)
        · rintro (a | a | a)
          · exact .inr (.inl a)
          · exact .inl a
          · exact .inr (.inr a)
theorem insS_asc {x : Str} : ∀ {l : List Str}, asc l → asc (insS x l)
  | [], _ => List.pairwise_singleton _ _
  | y :: r, h => by
    obtain ⟨h1, h2⟩ := List.pairwise_cons.mp h
    unfold insS
    split
    · exact h
    · rename_i ne
      split
      · rename_i lt
        refine List.pairwise_cons.mpr ⟨fun z hz => ?_, h⟩
        rcases List.mem_cons.mp hz with rfl | hz
        · exact lt
        · exact ltS_trans lt (h1 z hz)
      · rename_i lt
        have yx : ltS y x = true := by
          cases e : ltS y x with
          | true => rfl
          | false => exact absurd (ltS_tot (by simpa using lt) e) ne
        refine List.pairwise_cons.mpr ⟨fun z hz => ?_, insS_asc h2⟩
        rcases insS_mem.mp hz with rfl | hz
        · exact yx
        · exact h1 z hz
theorem uniS_mem {z : Str} : ∀ {l : List Str}, z ∈ uniS l ↔ z ∈ l
  | [] => Iff.rfl
  | x :: r => by rw [uniS, insS_mem, uniS_mem, List.mem_cons]
theorem uniS_asc : ∀ {l : List Str}, asc (uniS l)
  | [] => List.Pairwise.nil
  | x :: r => insS_asc uniS_asc
theorem uniS_of {l ys : List Str} (h1 : ys.Nodup) (h2 : PyProof.Rows.sortedS ys = true) (h : ∀ x, x ∈ ys ↔ x ∈ l) : ys = uniS l :=
  asc_uniq (asc_of h2 h1) uniS_asc fun x => (h x).trans uniS_mem.symm
/-- the texts of a form's atoms of one kind, as often as they stand -/
def Tr.txt (k : Str) : Tr → List Str
  | .am k' x => if k' = k then [x] else []
  | .un _ a => a.txt k
  | .bi _ a b => a.txt k ++ b.txt k
def txt1 (k : Str) : Tr → List Str
  | .am k' x => if k' = k then [x] else []
  | _ => []
theorem txt_all (k : Str) : ∀ t : Tr, t.all.flatMap (txt1 k) = t.txt k
  | .am k' x => by
    show txt1 k (.am k' x) ++ [] = _
    rw [List.append_nil]
    rfl
  | .un s a => by
    show txt1 k (.un s a) ++ a.all.flatMap (txt1 k) = a.txt k
    rw [txt_all k a]
    rfl
  | .bi s a b => by
    show txt1 k (.bi s a b) ++ (a.all ++ b.all).flatMap (txt1 k) = a.txt k ++ b.txt k
    rw [List.flatMap_append, txt_all k a, txt_all k b]
    rfl
end Rd
namespace Rd
open PySem L2
def txt : Tr → List Nat
  | .am k x => if k = "unknown" then 63 :: x.cps.toList else x.cps.toList
  | .un s a => s.cps.toList ++ 40 :: (txt a ++ [41])
  | .bi s a b => s.cps.toList ++ 40 :: (txt a ++ 44 :: 32 :: (txt b ++ [41]))
def textOf (t : Tr) : Str := ofC (txt t)
theorem sign_len {s : Str} (h : s ∈ (["mark", "open", "own", "pair", "seal", "lock"] : List Str)) : s.cps.toList.length ≤ 4 := by
  have : ∀ z ∈ (["mark", "open", "own", "pair", "seal", "lock"] : List Str), z.cps.toList.length ≤ 4 := by decide +kernel
  exact this s h
theorem txt_len {t : Tr} (h : Wf t) : (txt t).length ≤ 16 * t.all.length := by
  induction t with
  | am k x =>
    cases h with
    | am ko =>
      have hx : x.length ≤ 8 := by
        rcases ko with ⟨rfl, h⟩ | ⟨rfl, h⟩ | ⟨rfl, h⟩
        · exact (word_len h).2.1
        · exact (name_len h).1
        · have := (unk_len h).1; omega
      have e := len_list x
      show (if k = "unknown" then 63 :: x.cps.toList else x.cps.toList).length ≤ 16 * 1
      split
      · rw [List.length_cons]; omega
      · omega
  | un s a ih =>
    have hs := sign_len (h.sign (fun e => by cases e)).1
    have hs : s.cps.toList.length ≤ 4 := hs
    have := ih (h.parts_wf a List.mem_cons_self)
    show (s.cps.toList ++ 40 :: (txt a ++ [41])).length ≤ 16 * (a.all.length + 1)
    rw [List.length_append, List.length_cons, List.length_append, List.length_singleton]
    omega
  | bi s a b iha ihb =>
    have hs := sign_len (h.sign (fun e => by cases e)).1
    have hs : s.cps.toList.length ≤ 4 := hs
    have h1 := iha (h.parts_wf a List.mem_cons_self)
    have h2 := ihb (h.parts_wf b (List.mem_cons_of_mem _ List.mem_cons_self))
    show (s.cps.toList ++ 40 :: (txt a ++ 44 :: 32 :: (txt b ++ [41]))).length ≤ 16 * ((a.all ++ b.all).length + 1)
    rw [List.length_append, List.length_cons, List.length_append, List.length_cons, List.length_cons, List.length_append, List.length_singleton, List.length_append]
    omega
theorem txt_small {t : Tr} (h : Wf t) (hd : t.dep ≤ 12) : (txt t).length ≤ 131072 := by
  have h1 := txt_len h
  have h2 := all_len t
  have h3 : 2 ^ (t.dep + 1) ≤ 2 ^ 13 := Nat.pow_le_pow_right (by decide) (by omega)
  have h4 : 2 ^ 13 = 8192 := by decide
  omega
theorem text_len {t : Tr} : (textOf t).length = (txt t).length := by rw [len_list, textOf, ofC_list]
def sp_text (d : Nat) : Sp := fun vs H Q _ => ∃ (v : V) (t : Tr), vs = [v] ∧ IsT H t v ∧ Wf t ∧ t.dep ≤ d ∧ d ≤ 12 ∧ ∀ H', Same H H' → Q (.str (textOf t)) H'
def spTR : Nat → Sp
  | 0 => fun _ _ _ _ => False
  | d + 1 => sp_text d
theorem join1 (a : Str) : Txt.join ", " [a] = a := by
  show Builtin.Str.glued ", " [a] = a
  rw [PySem.StrLaws.glued_eq_join]
  rfl
theorem join2 (a b : Str) : Txt.join ", " [a, b] = a ++ ", " ++ b := by
  show Builtin.Str.glued ", " [a, b] = a ++ ", " ++ b
  rw [PySem.StrLaws.glued_eq_join]
  rfl
end Rd
namespace Rd
open PySem L2
theorem texts_eq {ts : List Tr} {vs : List V} (hl : vs.length = ts.length) (h : ∀ (i : Nat) v, vs[i]? = some v → ∃ r, ts[i]? = some r ∧ v = .str (textOf r)) : vs = (ts.map textOf).map V.str := by
  refine List.ext_getElem? fun i => ?_
  rw [List.getElem?_map, List.getElem?_map]
  cases e : vs[i]? with
  | none =>
    have := List.getElem?_eq_none_iff.mp e
    rw [List.getElem?_eq_none (by omega)]
    rfl
  | some v =>
    obtain ⟨r, h1, h2⟩ := h i v e
    rw [h1, h2]
    rfl
theorem parts_text {t : Tr} (hp : t.parts ≠ []) : (txt t) = t.head.cps.toList ++ 40 :: ((Txt.join ", " (t.parts.map textOf)).cps.toList ++ [41]) := by
  cases t with
  | am k x => exact absurd rfl hp
  | un s a =>
    show s.cps.toList ++ 40 :: (txt a ++ [41]) = s.cps.toList ++ 40 :: ((Txt.join ", " [textOf a]).cps.toList ++ [41])
    rw [join1, textOf, ofC_list]
  | bi s a b =>
    show s.cps.toList ++ 40 :: (txt a ++ 44 :: 32 :: (txt b ++ [41])) = s.cps.toList ++ 40 :: ((Txt.join ", " [textOf a, textOf b]).cps.toList ++ [41])
    have e : (", " : Str).cps.toList = [44, 32] := by decide +kernel
    rw [join2, app_list, app_list, textOf, textOf, ofC_list, ofC_list, e]
    simp
theorem join_sum {t : Tr} (wf : Wf t) (hd : t.dep ≤ 12) : ((t.parts.map textOf).map (·.length)).sum + (t.parts.map textOf).length * (", " : Str).length ≤ 16777216 := by
  have e : (", " : Str).length = 2 := by decide +kernel
  rw [e]
  cases t with
  | am k x => show 0 + 0 * 2 ≤ 16777216; decide
  | un s a =>
    have h1 := txt_small (wf.parts_wf a List.mem_cons_self) (by have : a.dep + 1 ≤ 12 := hd; omega)
    show (textOf a).length + 0 + 1 * 2 ≤ 16777216
    rw [text_len]
    omega
  | bi s a b =>
    have hd : max a.dep b.dep + 1 ≤ 12 := hd
    have h1 := txt_small (wf.parts_wf a List.mem_cons_self) (by omega)
    have h2 := txt_small (wf.parts_wf b (List.mem_cons_of_mem _ List.mem_cons_self)) (by omega)
    show (textOf a).length + ((textOf b).length + 0) + 2 * 2 ≤ 16777216
    rw [text_len, text_len]
    omega
theorem join_len {t : Tr} (hp : t.parts ≠ []) : (Txt.join ", " (t.parts.map textOf)).length + 2 + t.head.length = (txt t).length := by
  rw [parts_text hp, List.length_append, List.length_cons, List.length_append, List.length_singleton, len_list, len_list]
  omega
theorem text_parts {t : Tr} (hp : t.parts ≠ []) {a : Str} (h : a.cps.toList = t.head.cps.toList ++ 40 :: ((Txt.join ", " (t.parts.map textOf)).cps.toList ++ [41])) : a = textOf t := str_ext (by rw [h, ← parts_text hp, textOf, ofC_list])
theorem text_am {k x : Str} (h : k ≠ "unknown") : textOf (.am k x) = x := str_ext (by rw [textOf, ofC_list]; show (if k = "unknown" then _ else _) = _; rw [if_neg h])
theorem text_unk {x : Str} : textOf (.am "unknown" x) = "?" ++ x := by
  refine str_ext ?_
  have e : ("?" : Str).cps.toList = [63] := by decide +kernel
  rw [textOf, ofC_list, app_list, e]
  show (if ("unknown" : Str) = "unknown" then _ else _) = _
  rw [if_pos rfl]
  rfl
end Rd
namespace Rd
open PySem L2
def nb (c : Nat) : Bool := !decide (c ∈ (("(), " : Str).cps.toList))
def wd (cs : List Nat) : List Nat := cs.takeWhile nb
/-- the rest begins by a sign that ends a word -/
def Brk (rs : List Nat) : Prop := rs = [] ∨ ∃ c r, rs = c :: r ∧ nb c = false ∧ c ≠ 40
theorem wd_app {w rs : List Nat} (hw : w.all nb = true) (hr : rs = [] ∨ ∃ c r, rs = c :: r ∧ nb c = false) : wd (w ++ rs) = w := by
  unfold wd
  induction w with
  | nil =>
    rcases hr with rfl | ⟨c, r, rfl, hc⟩
    · rfl
    · show (c :: r).takeWhile nb = []
      simp [List.takeWhile, hc]
  | cons a w ih =>
    rw [List.all_cons, Bool.and_eq_true] at hw
    show (a :: (w ++ rs)).takeWhile nb = a :: w
    rw [List.takeWhile_cons, hw.1, if_pos rfl, ih hw.2]
theorem word_nb {z : Str} (h : isWord z = true) : z.cps.toList.all nb = true := by
  obtain ⟨h1, h2⟩ := He.ba h
  obtain ⟨h3, h4⟩ := He.ba h2
  have dj : SMALL.cps.toList.all nb = true := by decide +kernel
  exact List.all_eq_true.mpr fun c hc => List.all_eq_true.mp dj c (of_decide_eq_true (List.all_eq_true.mp h4 c hc))
theorem name_nb {z : Str} (h : isName z = true) : z.cps.toList.all nb = true := by
  obtain ⟨h1, h2⟩ := He.ba h
  obtain ⟨h3, h4⟩ := He.ba h2
  have h1' := of_decide_eq_true h1
  rw [len_list, rstrip_list] at h1'
  rw [rstrip_list] at h4
  obtain ⟨⟨a1, a2⟩, a3⟩ := (name_iff z.cps.toList).mp ⟨h1', h4⟩
  have dj : GREAT.cps.toList.all nb = true := by decide +kernel
  have dk : DIGITS.cps.toList.all nb = true := by decide +kernel
  refine List.all_eq_true.mpr fun c hc => ?_
  rw [← List.take_append_drop (z.cps.toList.filter (inS GREAT)).length z.cps.toList] at hc
  rcases List.mem_append.mp hc with q | q
  · exact List.all_eq_true.mp dj c (of_decide_eq_true (List.all_eq_true.mp a2 c q))
  · exact List.all_eq_true.mp dk c (of_decide_eq_true (List.all_eq_true.mp a3 c q))
theorem am_text {k x : Str} (h : kindOk k x) : (txt (.am k x)).all nb = true ∧ atomOf (ofC (txt (.am k x))) = some (k, x) := by
  have e : ofC (txt (.am k x)) = textOf (.am k x) := rfl
  rcases h with ⟨rfl, h⟩ | ⟨rfl, h⟩ | ⟨rfl, h⟩
  · rw [e, text_am (by decide +kernel), atomOf_word h]
    refine ⟨?_, rfl⟩
    have e2 : txt (.am "word" x) = x.cps.toList := if_neg (by decide +kernel)
    rw [e2]
    exact word_nb h
  · rw [e, text_am (by decide +kernel), atomOf_name h]
    refine ⟨?_, rfl⟩
    have e2 : txt (.am "name" x) = x.cps.toList := if_neg (by decide +kernel)
    rw [e2]
    exact name_nb h
  · rw [e, text_unk, atomOf_unk h]
    refine ⟨?_, rfl⟩
    have e2 : txt (.am "unknown" x) = 63 :: x.cps.toList := if_pos rfl
    rw [e2, List.all_cons, word_nb (He.ba h).1]
    decide +kernel
end Rd
namespace Rd
open PySem L2
theorem Wf.shp {t : Tr} (h : Wf t) : (∃ k x, t = .am k x ∧ kindOk k x) ∨ (∃ s a, t = .un s a ∧ s ∈ (["mark", "open", "own"] : List Str) ∧ Wf a) ∨ ∃ s a b, t = .bi s a b ∧ s ∈ (["pair", "seal", "lock"] : List Str) ∧ Wf a ∧ Wf b := by
  cases h with
  | am ko => exact .inl ⟨_, _, rfl, ko⟩
  | un hs w => exact .inr (.inl ⟨_, _, rfl, hs, w⟩)
  | bi hs w1 w2 => exact .inr (.inr ⟨_, _, _, rfl, mem_to (by decide +kernel) hs, w1, w2⟩)
  | lk hs w1 w2 => exact .inr (.inr ⟨_, _, _, rfl, by decide +kernel, w1, .un (mem_to (by decide +kernel) hs) w2⟩)
theorem sg_nb {s : Str} (h : s ∈ (["mark", "open", "own", "pair", "seal", "lock"] : List Str)) : s.cps.toList.all nb = true := by
  have : ∀ z ∈ (["mark", "open", "own", "pair", "seal", "lock"] : List Str), z.cps.toList.all nb = true := by decide +kernel
  exact this _ h
theorem wd_sg {s : Str} {r : List Nat} (h : s ∈ (["mark", "open", "own", "pair", "seal", "lock"] : List Str)) : wd (s.cps.toList ++ 40 :: r) = s.cps.toList := wd_app (sg_nb h) (.inr ⟨40, r, rfl, by decide +kernel⟩)
theorem Brk.or {r : List Nat} (h : Brk r) : r = [] ∨ ∃ c q, r = c :: q ∧ nb c = false := by
  rcases h with h | ⟨c, q, h1, h2, _⟩
  · exact .inl h
  · exact .inr ⟨c, q, h1, h2⟩
theorem Brk.no40 {r q : List Nat} (h : Brk (40 :: q)) : False := by
  rcases h with h | ⟨c, q, h1, _, h3⟩
  · cases h
  · injection h1 with h1 _
    exact h3 h1.symm
theorem Brk.c {c : Nat} {r : List Nat} (h : nb c = false) (h2 : c ≠ 40) : Brk (c :: r) := .inr ⟨c, r, rfl, h, h2⟩
theorem sgUB {s s' : Str} (h1 : s ∈ (["mark", "open", "own"] : List Str)) (h2 : s' ∈ (["pair", "seal", "lock"] : List Str)) : s ≠ s' := by
  have : ∀ a ∈ (["mark", "open", "own"] : List Str), ∀ b ∈ (["pair", "seal", "lock"] : List Str), a ≠ b := by decide +kernel
  exact this _ h1 _ h2
theorem uT {s : Str} (h : s ∈ (["mark", "open", "own"] : List Str)) : s ∈ (["mark", "open", "own", "pair", "seal", "lock"] : List Str) := mem_to (by decide +kernel) h
theorem bT {s : Str} (h : s ∈ (["pair", "seal", "lock"] : List Str)) : s ∈ (["mark", "open", "own", "pair", "seal", "lock"] : List Str) := mem_to (by decide +kernel) h
theorem txt_un (s : Str) (a : Tr) (r : List Nat) : txt (.un s a) ++ r = s.cps.toList ++ 40 :: (txt a ++ 41 :: r) := by
  show (s.cps.toList ++ 40 :: (txt a ++ [41])) ++ r = _
  simp
theorem txt_bi (s : Str) (a b : Tr) (r : List Nat) : txt (.bi s a b) ++ r = s.cps.toList ++ 40 :: (txt a ++ 44 :: 32 :: (txt b ++ 41 :: r)) := by
  show (s.cps.toList ++ 40 :: (txt a ++ 44 :: 32 :: (txt b ++ [41]))) ++ r = _
  simp
theorem am_no {k x s : Str} {r q : List Nat} (ko : kindOk k x) (hr : Brk r) (hs : s ∈ (["mark", "open", "own", "pair", "seal", "lock"] : List Str)) (e : txt (.am k x) ++ r = s.cps.toList ++ 40 :: q) : False := by
  have h1 : wd (txt (.am k x) ++ r) = txt (.am k x) := wd_app (am_text ko).1 hr.or
  rw [e, wd_sg hs] at h1
  rw [← h1] at e
  have := List.append_cancel_left e
  rw [this] at hr
  exact Brk.no40 (r := []) hr
theorem txt_inj : ∀ (t u : Tr), Wf t → Wf u → ∀ r r' : List Nat, Brk r → Brk r' → txt t ++ r = txt u ++ r' → t = u ∧ r = r' := by
  intro t
  induction t with
  | am k x =>
    intro u wt wu r r' hr hr' e
    rcases wt.shp with ⟨_, _, e0, ko⟩ | ⟨_, _, e0, _⟩ | ⟨_, _, _, e0, _⟩
    · cases e0
      rcases wu.shp with ⟨k', x', rfl, ko'⟩ | ⟨s, a, rfl, hs, _⟩ | ⟨s, a, b, rfl, hs, _⟩
      · have h1 : wd (txt (.am k x) ++ r) = txt (.am k x) := wd_app (am_text ko).1 hr.or
        rw [e, wd_app (am_text ko').1 hr'.or] at h1
        have h2 := (am_text ko).2
        rw [← h1, (am_text ko').2] at h2
        injection h2 with h2
        injection h2 with h3 h4
        subst h3 h4
        exact ⟨rfl, List.append_cancel_left e⟩
      · rw [txt_un] at e
        exact (am_no ko hr (uT hs) e).elim
      · rw [txt_bi] at e
        exact (am_no ko hr (bT hs) e).elim
    · cases e0
    · cases e0
  | un s a ih =>
    intro u wt wu r r' hr hr' e
    rcases wt.shp with ⟨_, _, e0, _⟩ | ⟨_, _, e0, hs, wa⟩ | ⟨_, _, _, e0, _⟩
    · cases e0
    · cases e0
      rw [txt_un] at e
      rcases wu.shp with ⟨k', x', rfl, ko'⟩ | ⟨s', b, rfl, hs', wb⟩ | ⟨s', a', b, rfl, hs', _⟩
      · exact (am_no ko' hr' (uT hs) e.symm).elim
      · rw [txt_un] at e
        have h1 := wd_sg (r := txt a ++ 41 :: r) (uT hs)
        rw [e, wd_sg (uT hs')] at h1
        have h2 : s' = s := str_ext h1
        subst h2
        have h3 := List.append_cancel_left e
        injection h3 with _ h3
        obtain ⟨h4, h5⟩ := ih b wa wb _ _ (Brk.c (by decide +kernel) (by decide)) (Brk.c (by decide +kernel) (by decide)) h3
        injection h5 with _ h5
        exact ⟨by rw [h4], h5⟩
      · rw [txt_bi] at e
        have h1 := wd_sg (r := txt a ++ 41 :: r) (uT hs)
        rw [e, wd_sg (bT hs')] at h1
        exact absurd (str_ext h1).symm (sgUB hs hs')
    · cases e0
  | bi s a b iha ihb =>
    intro u wt wu r r' hr hr' e
    rcases wt.shp with ⟨_, _, e0, _⟩ | ⟨_, _, e0, _⟩ | ⟨_, _, _, e0, hs, wa, wb⟩
    · cases e0
    · cases e0
    · cases e0
      rw [txt_bi] at e
      rcases wu.shp with ⟨k', x', rfl, ko'⟩ | ⟨s', c, rfl, hs', _⟩ | ⟨s', c, d, rfl, hs', wc, wd'⟩
      · exact (am_no ko' hr' (bT hs) e.symm).elim
      · rw [txt_un] at e
        have h1 := wd_sg (r := txt a ++ 44 :: 32 :: (txt b ++ 41 :: r)) (bT hs)
        rw [e, wd_sg (uT hs')] at h1
        exact absurd (str_ext h1) (sgUB hs' hs)
      · rw [txt_bi] at e
        have h1 := wd_sg (r := txt a ++ 44 :: 32 :: (txt b ++ 41 :: r)) (bT hs)
        rw [e, wd_sg (bT hs')] at h1
        have h2 : s' = s := str_ext h1
        subst h2
        have h3 := List.append_cancel_left e
        injection h3 with _ h3
        obtain ⟨h4, h5⟩ := iha c wa wc _ _ (Brk.c (by decide +kernel) (by decide)) (Brk.c (by decide +kernel) (by decide)) h3
        injection h5 with _ h5
        injection h5 with _ h5
        obtain ⟨h6, h7⟩ := ihb d wb wd' _ _ (Brk.c (by decide +kernel) (by decide)) (Brk.c (by decide +kernel) (by decide)) h5
        injection h7 with _ h7
        exact ⟨by rw [h4, h6], h7⟩
theorem text_inj {t u : Tr} (wt : Wf t) (wu : Wf u) (e : textOf t = textOf u) : t = u := by
  have e1 : txt t = txt u := by
    have := congrArg (fun z : Str => z.cps.toList) e
    simpa [textOf, ofC_list] using this
  refine (txt_inj t u wt wu [] [] (.inl rfl) (.inl rfl) (by rw [e1])).1
def mka (O : List Tr) : Tr → Bool
  | .am k x => decide (k = "word") || decide (Tr.am k x ∈ O)
  | .un s a => decide (Tr.un s a ∈ O) || (decide (s ∈ (["mark", "open"] : List Str)) && mka O a)
  | .bi s a b => decide (Tr.bi s a b ∈ O) || (mka O a && mka O b)
theorem mka_mono {O O' : List Tr} (h : ∀ t ∈ O, t ∈ O') : ∀ {t : Tr}, mka O t = true → mka O' t = true
  | .am k x, e => by
    simp only [mka, Bool.or_eq_true, decide_eq_true_eq] at e ⊢
    rcases e with e | e
    · exact .inl e
    · exact .inr (h _ e)
  | .un s a, e => by
    simp only [mka, Bool.or_eq_true, Bool.and_eq_true, decide_eq_true_eq] at e ⊢
    rcases e with e | ⟨e1, e2⟩
    · exact .inl (h _ e)
    · exact .inr ⟨e1, mka_mono h e2⟩
  | .bi s a b, e => by
    simp only [mka, Bool.or_eq_true, Bool.and_eq_true, decide_eq_true_eq] at e ⊢
    rcases e with e | ⟨e1, e2⟩
    · exact .inl (h _ e)
    · exact .inr ⟨mka_mono h e1, mka_mono h e2⟩
theorem mka_congr {O O' : List Tr} (h : ∀ t, t ∈ O ↔ t ∈ O') (t : Tr) : mka O t = mka O' t := by
  cases e : mka O' t with
  | true => exact mka_mono (fun t => (h t).mpr) e
  | false =>
    cases e2 : mka O t with
    | false => rfl
    | true =>
      rw [mka_mono (fun t => (h t).mp) e2] at e
      cases e
def prt (s : Str) : Str := if s = "open" then "own" else "open"
def lkey : Tr → Option Tr
  | .un s k => some (.un (prt s) k)
  | _ => none
def ukey : Tr → Option Tr
  | .bi s _ k => if s = "seal" then some k else if s = "lock" then lkey k else none
  | _ => none
def PCl (O : List Tr) : Prop := ∀ a b, Tr.bi "pair" a b ∈ O → a ∈ O ∧ b ∈ O
def SCl (O O' : List Tr) : Prop := ∀ s c k key, Tr.bi s c k ∈ O → ukey (.bi s c k) = some key → mka O key = true → c ∈ O'
structure IsOpen (ts os : List Tr) : Prop where
  base : ∀ t ∈ ts, t ∈ os
  pcl : PCl os
  scl : SCl os os
  least : ∀ O' : List Tr, (∀ t ∈ ts, t ∈ O') → PCl O' → SCl O' O' → ∀ t ∈ os, t ∈ O'
theorem all_self (t : Tr) : t ∈ t.all := by rw [all_parts]; exact List.mem_cons_self
theorem all_trans : ∀ {t u v : Tr}, u ∈ t.all → v ∈ u.all → v ∈ t.all := by
  intro t
  induction t with
  | am k x =>
    intro u v hu hv
    rw [show (Tr.am k x).all = [.am k x] from rfl, List.mem_singleton] at hu
    subst hu
    exact hv
  | un s a ih =>
    intro u v hu hv
    rw [show (Tr.un s a).all = .un s a :: a.all from rfl] at hu ⊢
    rcases List.mem_cons.mp hu with rfl | hu
    · exact hv
    · exact List.mem_cons_of_mem _ (ih hu hv)
  | bi s a b iha ihb =>
    intro u v hu hv
    rw [show (Tr.bi s a b).all = .bi s a b :: (a.all ++ b.all) from rfl] at hu ⊢
    rcases List.mem_cons.mp hu with rfl | hu
    · exact hv
    · refine List.mem_cons_of_mem _ (List.mem_append.mpr ?_)
      rcases List.mem_append.mp hu with h | h
      · exact .inl (iha h hv)
      · exact .inr (ihb h hv)
theorem all_l {s : Str} {a b : Tr} : a ∈ (Tr.bi s a b).all := List.mem_cons_of_mem _ (List.mem_append_left _ (all_self a))
theorem all_r {s : Str} {a b : Tr} : b ∈ (Tr.bi s a b).all := List.mem_cons_of_mem _ (List.mem_append_right _ (all_self b))
def allOf (ts : List Tr) : List Tr := ts.flatMap Tr.all
theorem allOf_pcl (ts : List Tr) : PCl (allOf ts) := fun a b h => by
  obtain ⟨t, ht, h⟩ := List.mem_flatMap.mp h
  exact ⟨List.mem_flatMap.mpr ⟨t, ht, all_trans h all_l⟩, List.mem_flatMap.mpr ⟨t, ht, all_trans h all_r⟩⟩
theorem allOf_scl (ts : List Tr) : SCl (allOf ts) (allOf ts) := fun s c k key h _ _ => by
  obtain ⟨t, ht, h⟩ := List.mem_flatMap.mp h
  exact List.mem_flatMap.mpr ⟨t, ht, all_trans h all_l⟩
theorem allOf_base (ts : List Tr) : ∀ t ∈ ts, t ∈ allOf ts := fun t h => List.mem_flatMap.mpr ⟨t, h, all_self t⟩
theorem IsOpen.inAll {ts os : List Tr} (h : IsOpen ts os) : ∀ t ∈ os, t ∈ allOf ts := h.least _ (allOf_base ts) (allOf_pcl ts) (allOf_scl ts)
theorem IsOpen.mono {ts us os ps : List Tr} (h : IsOpen ts os) (g : IsOpen us ps) (s : ∀ t ∈ ts, t ∈ us) : ∀ t ∈ os, t ∈ ps := h.least _ (fun t ht => g.base t (s t ht)) g.pcl g.scl
end Rd
namespace Rd
open PySem L2
def sp_partner : Sp := fun vs H Q _ => ∃ (v : V) (s : Str) (a : Tr), vs = [v] ∧ IsT H (.un s a) v ∧ s ∈ (["open", "own"] : List Str) ∧ ∀ u H', Same H H' → IsT H' (.un (prt s) a) u → Q u H'
def sp_ukey : Sp := fun vs H Q _ => ∃ (v : V) (t key : Tr), vs = [v] ∧ IsT H t v ∧ Wf t ∧ ukey t = some key ∧ ∀ u H', Same H H' → IsT H' key u → Q u H'
theorem ukey_seal {c k key : Tr} (h : ukey (.bi "seal" c k) = some key) : key = k := by
  rw [ukey, if_pos rfl] at h
  cases h
  rfl
theorem ukey_inv {t key : Tr} (wf : Wf t) (h : ukey t = some key) : (∃ c, t = .bi "seal" c key) ∨ ∃ c s k, t = .bi "lock" c (.un s k) ∧ s ∈ (["open", "own"] : List Str) ∧ key = .un (prt s) k := by
  cases t with
  | am k x => cases h
  | un s a => cases h
  | bi s c k =>
    by_cases e : s = "seal"
    · subst e
      exact .inl ⟨c, by rw [ukey_seal h]⟩
    · rw [ukey, if_neg e] at h
      by_cases e2 : s = "lock"
      · subst e2
        rw [if_pos rfl] at h
        cases wf with
        | bi hs _ _ => exact absurd hs (by decide +kernel)
        | @lk s' _ k' hs _ _ =>
          cases h
          exact .inr ⟨c, s', k', rfl, hs, rfl⟩
      · rw [if_neg e2] at h
        cases h
def MKL : List Str := ["pair", "seal", "lock", "mark", "open"]
theorem mka_step {ts : List Tr} {t : Tr} (wf : Wf t) : mka ts t = ((decide (t.head = "word") || decide (t ∈ ts)) || (decide (t.head ∈ MKL) && t.parts.all (mka ts))) := by
  rcases wf.shp with ⟨k, x, rfl, ko⟩ | ⟨s, a, rfl, hs, _⟩ | ⟨s, a, b, rfl, hs, _⟩
  · have h : decide ((Tr.am k x).head ∈ MKL) = false := by
      rcases ko with ⟨rfl, _⟩ | ⟨rfl, _⟩ | ⟨rfl, _⟩
      · show decide (("word" : Str) ∈ MKL) = false
        decide +kernel
      · show decide (("name" : Str) ∈ MKL) = false
        decide +kernel
      · show decide (("unknown" : Str) ∈ MKL) = false
        decide +kernel
    rw [h, mka, Bool.false_and, Bool.or_false]
    rfl
  · have h1 : decide ((Tr.un s a).head = "word") = false := by
      have : ∀ z ∈ (["mark", "open", "own"] : List Str), decide (z = "word") = false := by decide +kernel
      exact this s hs
    have h2 : decide ((Tr.un s a).head ∈ MKL) = decide (s ∈ (["mark", "open"] : List Str)) := by
      have : ∀ z ∈ (["mark", "open", "own"] : List Str), decide (z ∈ MKL) = decide (z ∈ (["mark", "open"] : List Str)) := by decide +kernel
      exact this s hs
    rw [h1, h2, mka, Bool.false_or]
    show _ = (decide (Tr.un s a ∈ ts) || (_ && (mka ts a && true)))
    rw [Bool.and_true]
  · have h1 : decide ((Tr.bi s a b).head = "word") = false := by
      have : ∀ z ∈ (["pair", "seal", "lock"] : List Str), decide (z = "word") = false := by decide +kernel
      exact this s hs
    have h2 : decide ((Tr.bi s a b).head ∈ MKL) = true := by
      have : ∀ z ∈ (["pair", "seal", "lock"] : List Str), decide (z ∈ MKL) = true := by decide +kernel
      exact this s hs
    rw [h1, h2, mka, Bool.false_or, Bool.true_and]
    show _ = (decide (Tr.bi s a b ∈ ts) || (mka ts a && (mka ts b && true)))
    rw [Bool.and_true]
theorem decS (a b : Str) : decide (V.str a = V.str b) = decide (a = b) := decide_eq_decide.mpr ⟨V.str.inj, fun e => by rw [e]⟩
section
variable {P : Program} {w : World} {K : PySem.W.Frag} {mg : Str → Option Value} {base : Heap}
abbrev s_partner : Stmt := top 31
theorem sc_partner : FnScope ["key"] ["key"] (defScope s_partner) := ⟨rfl, rfl, rfl, by decide +kernel, rfl, by decide +kernel, by decide +kernel⟩
theorem ok_partner (T : Tx w K mg) : Fk P w K mg base CX0 1 "partner" ["key"] sp_partner := by
  refine T.F_partner.ok0 sc_partner (fun _ _ _ _ _ _ us hl => match us, hl with | [_], _ => rfl)
    (fun vs H Q E h => ?_) (fun cdv A outer s H vs Q E hr h => ?_)
  · obtain ⟨v, s, a, rfl, _⟩ := h
    rfl
  · obtain ⟨v, s, a, rfl, it, hs, k⟩ := h
    refine ⟨_, (pss_cons (ps_if (pt_cmpR op_eq (pe_ix ix_tup (pv 0) pe_int (fun _ _ => rfl)) pe_str (nomark _))
  (pss_one (ps_ret (pe_tup (pa_cons pe_str (pa_cons (pe_ix ix_tup (pv 0) pe_int (fun _ _ => rfl)) pa_nil)))))
  pss_nil)
  (pss_one (ps_ret (pe_tup (pa_cons pe_str (pa_cons (pe_ix ix_tup (pv 0) pe_int (fun _ _ => rfl)) pa_nil)))))), ?_⟩
    obtain ⟨p, u, rfl, hp, iu⟩ := it
    refine ⟨_, rfl, p, _, _, _, rfl, rfl, SqT.of hp, at_of (j := 0) rfl rfl, rfl, _, rfl, ?_⟩
    by_cases e : s = "open"
    · subst e
      refine iteP (by decide +kernel) ⟨_, rfl, p, _, _, _, rfl, rfl, SqT.of hp, at_of (j := 1) rfl rfl, (by show 2 ≤ sizeLine; decide), fun q hq => ?_⟩
      exact k _ _ (Rd.Same.upd hq) ⟨q, u, rfl, upd_same, iu.same (Rd.Same.upd hq)⟩
    · refine iteN (by intro z; exact e (V.str.inj (of_decide_eq_true z))) (nxt ?_)
      try dsimp only
      refine ⟨_, rfl, p, _, _, _, rfl, rfl, SqT.of hp, at_of (j := 1) rfl rfl, (by show 2 ≤ sizeLine; decide), fun q hq => ?_⟩
      refine k _ _ (Rd.Same.upd hq) ⟨q, u, rfl, ?_, iu.same (Rd.Same.upd hq)⟩
      rw [upd_same, prt, if_neg e]
abbrev s_undoing_key : Stmt := top 32
theorem sc_undoing_key : FnScope ["tree"] ["tree"] (defScope s_undoing_key) := ⟨rfl, rfl, rfl, by decide +kernel, rfl, by decide +kernel, by decide +kernel⟩
theorem ok_undoing_key (T : Tx w K mg) : Fk P w K mg base CX0 2 "undoing_key" ["tree"] sp_ukey := by
  refine T.F_undoing_key.ok0 sc_undoing_key (fun _ _ _ _ _ _ us hl => match us, hl with | [_], _ => rfl)
    (fun vs H Q E h => ?_) (fun cdv A outer s H vs Q E hr h => ?_)
  · obtain ⟨v, t, key, rfl, _⟩ := h
    rfl
  · obtain ⟨v, t, key, rfl, it, wf, hk, k⟩ := h
    refine ⟨_, (pss_cons (ps_if (pt_cmpR op_eq (pe_ix ix_tup (pv 0) pe_int (fun _ _ => rfl)) pe_str (nomark _))
  (pss_one (ps_ret (pe_ix ix_tup (pv 0) pe_int (fun _ _ => rfl))))
  pss_nil)
  (pss_one (ps_ret (pe_fk (ok_partner T) (hr.mono (by omega)) rfl pass0 (pa_cons (pe_ix ix_tup (pv 0) pe_int (fun _ _ => rfl)) pa_nil))))), ?_⟩
    rcases ukey_inv wf hk with ⟨c, rfl⟩ | ⟨c, s, k0, rfl, hs, rfl⟩
    · obtain ⟨p, u1, u2, rfl, hp, i1, i2⟩ := it
      refine ⟨_, rfl, p, _, _, _, rfl, rfl, SqT.of hp, at_of (j := 0) rfl rfl, rfl, _, rfl, iteP (by decide +kernel) ?_⟩
      exact ⟨_, rfl, p, _, _, _, rfl, rfl, SqT.of hp, at_of (j := 2) rfl rfl, k _ _ (Same.refl _) i2⟩
    · obtain ⟨p, u1, u2, rfl, hp, i1, i2⟩ := it
      refine ⟨_, rfl, p, _, _, _, rfl, rfl, SqT.of hp, at_of (j := 0) rfl rfl, rfl, _, rfl, iteN (by decide +kernel) (nxt ?_)⟩
      try dsimp only
      exact ⟨_, rfl, p, _, _, _, rfl, rfl, SqT.of hp, at_of (j := 2) rfl rfl, u2, s, k0, rfl, i2, hs, fun u H' s' iu => k _ _ s' iu⟩
end
end Rd
namespace Rd
open PySem L2
theorem nodup_sub {α : Type} : ∀ {l m : List α}, l.Nodup → (∀ x ∈ l, x ∈ m) → l.length ≤ m.length
  | [], _, _, _ => Nat.zero_le _
  | a :: l, m, h, s => by
    obtain ⟨h1, h2⟩ := List.nodup_cons.mp h
    obtain ⟨p, q, rfl⟩ := List.append_of_mem (s a List.mem_cons_self)
    have := nodup_sub (l := l) (m := p ++ q) h2 fun x hx => by
      rcases List.mem_append.mp (s x (List.mem_cons_of_mem _ hx)) with h | h
      · exact List.mem_append_left _ h
      · rcases List.mem_cons.mp h with rfl | h
        · exact absurd hx h1
        · exact List.mem_append_right _ h
    rw [List.length_append] at this ⊢
    simp only [List.length_cons]
    omega
structure Halves (ts hs : List Tr) : Prop where
  nd : hs.Nodup
  base : ∀ t ∈ ts, t ∈ hs
  pcl : PCl hs
  least : ∀ O' : List Tr, (∀ t ∈ ts, t ∈ O') → PCl O' → ∀ t ∈ hs, t ∈ O'
/-- the state of halves_of: found (l), waiting (wt) -/
structure HI (d : Nat) (ts : List Tr) (l : List (Str × Tr)) (wt : List Tr) : Prop where
  key : ∀ p ∈ l, p.1 = textOf p.2
  wl : ∀ p ∈ l, Wf p.2 ∧ p.2.dep ≤ d
  ww : ∀ t ∈ wt, Wf t ∧ t.dep ≤ d
  nd : (l.map (·.1)).Nodup
  base : ∀ t ∈ ts, t ∈ l.map (·.2) ∨ t ∈ wt
  pcl : ∀ a b, Tr.bi "pair" a b ∈ l.map (·.2) → (a ∈ l.map (·.2) ∨ a ∈ wt) ∧ (b ∈ l.map (·.2) ∨ b ∈ wt)
  least : ∀ O' : List Tr, (∀ t ∈ ts, t ∈ O') → PCl O' → (∀ t ∈ l.map (·.2), t ∈ O') ∧ ∀ t ∈ wt, t ∈ O'
def szs (ts : List Tr) : Nat := (ts.map fun t => t.all.length).sum
theorem szs_app (a b : List Tr) : szs (a ++ b) = szs a + szs b := by simp [szs]
theorem szs_one (t : Tr) : szs [t] = t.all.length := by simp [szs]
theorem allOf_len : ∀ ts : List Tr, (allOf ts).length = szs ts
  | [] => rfl
  | t :: ts => by
    show (t.all ++ allOf ts).length = szs ([t] ++ ts)
    rw [List.length_append, allOf_len ts, szs_app, szs_one]
theorem all_pos (t : Tr) : 1 ≤ t.all.length := by cases t <;> simp [Tr.all]
theorem szs_len : ∀ ts : List Tr, ts.length ≤ szs ts
  | [] => Nat.le_refl _
  | t :: ts => by
    have := szs_len ts
    have := all_pos t
    show ts.length + 1 ≤ szs ([t] ++ ts)
    rw [szs_app, szs_one]
    omega
theorem snd_nodup : ∀ {l : List (Str × Tr)}, (∀ p ∈ l, p.1 = textOf p.2) → (l.map (·.1)).Nodup → (l.map (·.2)).Nodup
  | [], _, _ => List.nodup_nil
  | p :: l, hk, h => by
    obtain ⟨h1, h2⟩ := List.nodup_cons.mp h
    refine List.nodup_cons.mpr ⟨fun hm => ?_, snd_nodup (fun q hq => hk q (List.mem_cons_of_mem _ hq)) h2⟩
    obtain ⟨q, hq, e⟩ := List.mem_map.mp hm
    refine h1 (List.mem_map.mpr ⟨q, hq, ?_⟩)
    show q.1 = p.1
    have e : q.2 = p.2 := e
    rw [hk q (List.mem_cons_of_mem _ hq), hk p List.mem_cons_self, e]
theorem HI.len {d : Nat} {ts wt : List Tr} {l : List (Str × Tr)} (h : HI d ts l wt) : l.length ≤ (allOf ts).length := by
  have := nodup_sub (snd_nodup h.key h.nd) (h.least _ (allOf_base ts) (allOf_pcl ts)).1
  rwa [List.length_map] at this
theorem HI.init {d : Nat} {ts : List Tr} (h : ∀ t ∈ ts, Wf t ∧ t.dep ≤ d) : HI d ts [] ts := ⟨(fun p hp => by cases hp), (fun p hp => by cases hp), h, List.nodup_nil, fun t ht => .inr ht, (fun a b hp => by cases hp), fun O' h1 _ => ⟨fun t ht => (by cases ht), h1⟩⟩
end Rd
namespace Rd
open PySem L2
open Ob (RcOp lexAt lexAt_succ lexAt_zero)
def Tr.its : Tr → List PyData
  | .am k x => [.str k, .str x]
  | .un s a => [.str s, dat a]
  | .bi s a b => [.str s, dat a, dat b]
theorem IsT.all {K : PySem.W.Frag} {H : Hp} {t : Tr} {v : V} (h : IsT H t v) : ∃ p us, v = .ref p ∧ H p = some (.tup (.str t.head :: us)) ∧ DpAll K H (.str t.head :: us) t.its := by
  cases t with
  | am k x => obtain ⟨p, e, h⟩ := h; exact ⟨p, _, e, h, .cons (.str _) (.cons (.str _) .nil)⟩
  | un s a => obtain ⟨p, u, e, h, h1⟩ := h; exact ⟨p, _, e, h, .cons (.str _) (.cons h1.dp .nil)⟩
  | bi s a b => obtain ⟨p, u, u2, e, h, h1, h2⟩ := h; exact ⟨p, _, e, h, .cons (.str _) (.cons h1.dp (.cons h2.dp .nil))⟩
end Rd
namespace Rd
open PySem L2
theorem TsAt.cons {H : Hp} {ts : List Tr} {t : Tr} {v : V} {vs : List V} (h : IsT H t v) (g : TsAt H ts vs) : TsAt H (t :: ts) (v :: vs) := TsAt.app (ts := [t]) (vs := [v]) (TsAt.one h) g
def opn (O : List Tr) (t : Tr) : Bool := match ukey t with
  | some key => mka O key
  | none => false
def cnt1 : Tr → Tr
  | .bi _ c _ => c
  | t => t
def inn (O : List Tr) : List Tr := (O.filter (opn O)).map cnt1
structure OI (ts o : List Tr) : Prop where
  nd : o.Nodup
  base : ∀ t ∈ ts, t ∈ o
  pcl : PCl o
  least : ∀ O' : List Tr, (∀ t ∈ ts, t ∈ O') → PCl O' → SCl O' O' → ∀ t ∈ o, t ∈ O'
theorem OI.inAll {ts os : List Tr} (h : OI ts os) : ∀ t ∈ os, t ∈ allOf ts := h.least _ (allOf_base ts) (allOf_pcl ts) (allOf_scl ts)
theorem OI.len {ts os : List Tr} (h : OI ts os) : os.length ≤ (allOf ts).length := nodup_sub h.nd h.inAll
theorem inn_sub {O O' : List Tr} (h : ∀ t ∈ O, t ∈ O') (sc : SCl O' O') : ∀ t ∈ inn O, t ∈ O' := fun t ht => by
  obtain ⟨r, hr, rfl⟩ := List.mem_map.mp ht
  obtain ⟨hr1, hr2⟩ := List.mem_filter.mp hr
  unfold opn at hr2
  cases e : ukey r with
  | none => rw [e] at hr2; cases hr2
  | some key =>
    rw [e] at hr2
    cases r with
    | am k x => cases e
    | un s a => cases e
    | bi s c k => exact sc s c k key (h _ hr1) e (mka_mono h hr2)
theorem OI.next {ts o o' : List Tr} (h : OI ts o) (g : Halves (o ++ inn o) o') : OI ts o' ∧ ∀ t ∈ o, t ∈ o' :=
  ⟨⟨g.nd, fun t ht => g.base t (List.mem_append_left _ (h.base t ht)), g.pcl, fun O' a b c => g.least O' (fun t ht => by
    rcases List.mem_append.mp ht with q | q
    · exact h.least O' a b c t q
    · exact inn_sub (h.least O' a b c) c t q) b⟩, fun t ht => g.base t (List.mem_append_left _ ht)⟩
theorem nodup_full {α : Type} [DecidableEq α] : ∀ {l m : List α}, l.Nodup → (∀ x ∈ l, x ∈ m) → m.length ≤ l.length → ∀ x ∈ m, x ∈ l
  | [], m, _, _, h3, x, hx => by
    rw [List.length_eq_zero_iff.mp (Nat.le_zero.mp h3)] at hx
    exact hx
  | a :: l, m, h1, h2, h3, x, hx => by
    obtain ⟨n1, n2⟩ := List.nodup_cons.mp h1
    obtain ⟨p, q, rfl⟩ := List.append_of_mem (h2 a List.mem_cons_self)
    by_cases e : x = a
    · rw [e]; exact List.mem_cons_self
    · refine List.mem_cons_of_mem _ (nodup_full (l := l) (m := p ++ q) n2 (fun y hy => ?_) ?_ x ?_)
      · rcases List.mem_append.mp (h2 y (List.mem_cons_of_mem _ hy)) with z | z
        · exact List.mem_append_left _ z
        · rcases List.mem_cons.mp z with rfl | z
          · exact absurd hy n1
          · exact List.mem_append_right _ z
      · rw [List.length_append, List.length_cons] at h3
        rw [List.length_append]
        simp only [List.length_cons] at h3
        omega
      · rcases List.mem_append.mp hx with z | z
        · exact List.mem_append_left _ z
        · rcases List.mem_cons.mp z with rfl | z
          · exact absurd rfl e
          · exact List.mem_append_right _ z
theorem OI.done {ts o o' : List Tr} (h : OI ts o) (g : Halves (o ++ inn o) o') (e : o'.length ≤ o.length) : IsOpen ts o' := by
  obtain ⟨h1, h2⟩ := h.next g
  have h3 := nodup_full h.nd h2 e
  refine ⟨h1.base, h1.pcl, fun s c k key a b c' => ?_, h1.least⟩
  have a' := h3 _ a
  have m' : mka o key = true := by rw [mka_congr (fun t => ⟨h2 t, h3 t⟩)]; exact c'
  refine g.base _ (List.mem_append_right _ (List.mem_map.mpr ⟨_, List.mem_filter.mpr ⟨a', ?_⟩, rfl⟩))
  unfold opn
  rw [b]
  exact m'
theorem szs_le {S : Nat} : ∀ {l : List Tr}, (∀ t ∈ l, t.all.length ≤ S) → szs l ≤ l.length * S
  | [], _ => Nat.zero_le _
  | t :: l, h => by
    have h1 := szs_le (l := l) fun t ht => h t (List.mem_cons_of_mem _ ht)
    have h2 := h t List.mem_cons_self
    show szs ([t] ++ l) ≤ (l.length + 1) * S
    rw [szs_app, szs_one, Nat.add_mul, Nat.one_mul]
    omega
theorem shut_iff {t : Tr} (wf : Wf t) : decide (t.head ∈ (["seal", "lock"] : List Str)) = (ukey t).isSome := by
  rcases wf.shp with ⟨k, x, rfl, ko⟩ | ⟨s, a, rfl, hs, _⟩ | ⟨s, a, b, rfl, hs, _⟩
  · rcases ko with ⟨rfl, _⟩ | ⟨rfl, _⟩ | ⟨rfl, _⟩
    · show decide (("word" : Str) ∈ (["seal", "lock"] : List Str)) = false
      decide +kernel
    · show decide (("name" : Str) ∈ (["seal", "lock"] : List Str)) = false
      decide +kernel
    · show decide (("unknown" : Str) ∈ (["seal", "lock"] : List Str)) = false
      decide +kernel
  · have : ∀ z ∈ (["mark", "open", "own"] : List Str), decide (z ∈ (["seal", "lock"] : List Str)) = false := by decide +kernel
    exact this s hs
  · cases wf with
    | bi hs' _ _ =>
      have : ∀ z ∈ (["pair", "seal"] : List Str), decide (z ∈ (["seal", "lock"] : List Str)) = decide (z = "seal") ∧ z ≠ "lock" := by decide +kernel
      obtain ⟨h1, h2⟩ := this s hs'
      show decide (s ∈ (["seal", "lock"] : List Str)) = _
      rw [h1]
      show _ = (if s = "seal" then some b else if s = "lock" then lkey b else none).isSome
      by_cases e : s = "seal"
      · rw [if_pos e, decide_eq_true e]; rfl
      · rw [if_neg e, if_neg h2, decide_eq_false e]; rfl
    | lk hs' _ _ =>
      show decide (("lock" : Str) ∈ (["seal", "lock"] : List Str)) = true
      decide +kernel
theorem ukey_wf {t key : Tr} (wf : Wf t) (h : ukey t = some key) : Wf key ∧ key.dep ≤ t.dep := by
  rcases ukey_inv wf h with ⟨c, rfl⟩ | ⟨c, s, k, rfl, hs, rfl⟩
  · rcases wf.shp with ⟨_, _, e, _⟩ | ⟨_, _, e, _⟩ | ⟨_, _, _, e, _, _, w⟩
    · cases e
    · cases e
    · cases e
      exact ⟨w, by show key.dep ≤ max c.dep key.dep + 1; omega⟩
  · have hp : prt s ∈ (["open", "own"] : List Str) := by
      have : ∀ z ∈ (["open", "own"] : List Str), prt z ∈ (["open", "own"] : List Str) := by decide +kernel
      exact this s hs
    cases wf with
    | bi hs' _ _ => exact absurd hs' (by decide +kernel)
    | lk hs' _ w => exact ⟨.un (mem_to (by decide +kernel) hp) w, by show k.dep + 1 ≤ max c.dep (k.dep + 1) + 1; omega⟩
end Rd
namespace Rd
open PySem L2
theorem take_flat1 {τ α : Type} {f : τ → List α} {l : List τ} {i : Nat} {r : τ} (h : l[i]? = some r) : (l.take (i + 1)).flatMap f = (l.take i).flatMap f ++ f r := by
  rw [List.take_add_one, h, List.flatMap_append]
  simp
theorem flat1_le {τ α : Type} {f : τ → List α} (hf : ∀ t, (f t).length ≤ 1) : ∀ l : List τ, (l.flatMap f).length ≤ l.length
  | [] => Nat.le_refl _
  | t :: l => by
    rw [List.flatMap_cons, List.length_append, List.length_cons]
    have := hf t
    have := flat1_le hf l
    omega
/-- {text for x in a list if ..}: f tells of each item no text or one -/
theorem scl {w : World} {K : PySem.W.Frag} {a D : Addr} {xs : List V} {τ : Type} {ts : List τ} {tt : TT} {te : TE} {i0 : Nat} {σ : St} {H1 : Hp} {Qd : Hp → Prop} (f : τ → List Str) (hf : ∀ t, (f t).length ≤ 1) (hS : SqL K H1 a xs) (he : xs.length = ts.length) (hl : xs.length + 1 < scanBound) (hD : H1 D = none)
    (hte : ∀ (i : Nat) (x : V) (t : τ) (H : Hp) (Q : VK), xs[i]? = some x → ts[i]? = some t → Same H1 H → (f t = [] → tt ((wipe σ [i0]).set i0 (some x)) H fun b H' => b = false ∧ H' = H) ∧ ∀ c, f t = [c] → (tt ((wipe σ [i0]).set i0 (some x)) H fun b H' => b = true ∧ H' = H) ∧ (Q (.str c) H → te ((wipe σ [i0]).set i0 (some x)) H Q))
    (tm : ∀ (σ : St) (H : Hp) (P Q : Bool → Hp → Prop), (∀ b H', P b H' → Q b H') → tt σ H P → tt σ H Q)
    (hq : ∀ H', Same H1 H' → H' D = some (SetSO w D (putS [] (ts.flatMap f))) → Qd H') :
    ∃ W : Nat → Nat → Hp → Prop, (∃ m, W 0 m (L2.upd H1 D (SetSO w D []))) ∧ ∀ i m H, W i m H →
      ((Itl K a).stop i H ∧ Qd H) ∨ ((Itl K a).go i H ∧ ∃ Nx : Hp → Prop, (∀ H', Nx H' → ∃ m', m' < m ∧ W (i + 1) m' H') ∧ ∀ x H', (Itl K a).yld i H x H' → gName i0 x (wipe σ [i0]) H' fun σ2 H2 => wipe σ2 [i0] = wipe σ [i0] ∧ tt σ2 H2 fun b H3 =>
        if b = true then te σ2 H3 fun y H4 => ∃ (c : Str) (l : List Str), y = .str c ∧ H4 D = some (SetSO w D l) ∧ l.length + 1 < scanBound ∧ Nx (L2.upd H4 D (SetSO w D (addS l c))) else Nx H3) := by
  refine ⟨fun i m H => m = xs.length - i ∧ i ≤ xs.length ∧ Same H1 H ∧ H D = some (SetSO w D (putS [] ((ts.take i).flatMap f))), ⟨xs.length, by simp, Nat.zero_le _, Rd.Same.upd hD, upd_same⟩, ?_⟩
  rintro i m H ⟨rfl, hi, sm, hd⟩
  have q := SqL.kept hS sm
  by_cases hlt : i < xs.length
  · refine .inr ⟨⟨xs, xs[i], q, by simp [hlt]⟩, fun H' => Same H1 H' ∧ H' D = some (SetSO w D (putS [] ((ts.take (i + 1)).flatMap f))), fun H' p' => ⟨xs.length - (i + 1), by omega, rfl, hlt, p'⟩, fun x H' y => ?_⟩
    obtain ⟨e, y⟩ := y
    subst e
    have hx := y xs q
    have ht : ts[i]? = some ts[i] := List.getElem?_eq_getElem (by omega)
    refine gName_k ⟨by simp [wipe], ?_⟩
    cases hft : f ts[i] with
    | nil =>
      refine tm _ _ _ _ (fun b H2 z => ?_) ((hte i x ts[i] H' (fun _ _ => True) hx ht sm).1 hft)
      obtain ⟨rfl, rfl⟩ := z
      refine iteF ⟨sm, ?_⟩
      rw [take_flat1 ht, hft, List.append_nil]
      exact hd
    | cons c r =>
      have hr : r = [] := by
        have := hf ts[i]
        rw [hft, List.length_cons] at this
        exact List.eq_nil_of_length_eq_zero (by omega)
      subst hr
      refine tm _ _ _ _ (fun b H2 z => ?_) ((hte i x ts[i] H' (fun _ _ => True) hx ht sm).2 c hft).1
      obtain ⟨rfl, rfl⟩ := z
      refine iteT (((hte i x ts[i] _ _ hx ht sm).2 c hft).2 ⟨c, _, rfl, hd, ?_, fun b o e => ?_, ?_⟩)
      · have h1 := putS_len (l := []) (r := (ts.take i).flatMap f)
        have h2 := flat1_le hf (ts.take i)
        rw [List.length_take] at h2
        rw [List.length_nil] at h1
        omega
      · rw [upd_ne (ne_of_none e hD)]
        exact sm _ _ e
      · rw [upd_same, take_flat1 ht, hft, putS_app]
        rfl
  · have e : i = xs.length := by omega
    subst e
    refine .inl ⟨⟨xs, q, Nat.le_refl _⟩, hq H sm ?_⟩
    rw [he, List.take_length] at hd
    exact hd
theorem txt1_le (k : Str) : ∀ t : Tr, (txt1 k t).length ≤ 1
  | .am k' x => by
    show (if k' = k then [x] else []).length ≤ 1
    split
    · exact Nat.le_refl _
    · exact Nat.zero_le _
  | .un _ _ => Nat.zero_le _
  | .bi _ _ _ => Nat.zero_le _
end Rd
namespace Rd
open PySem L2
def sgns : List Str := ([("pair", 2), ("seal", 2), ("lock", 2), ("mark", 1), ("open", 1), ("own", 1)] : List (Str × Int)).map (·.1)
theorem sgn_yes {t : Tr} (wf : Wf t) (h : t.parts ≠ []) : decide (t.head ∈ sgns) = true := by
  have : ∀ z ∈ (["mark", "open", "own", "pair", "seal", "lock"] : List Str), decide (z ∈ sgns) = true := by decide +kernel
  exact this _ (wf.sign h).1
theorem sgn_no {k x : Str} (ko : kindOk k x) : decide ((Tr.am k x).head ∈ sgns) = false := by
  rcases ko with ⟨rfl, _⟩ | ⟨rfl, _⟩ | ⟨rfl, _⟩
  · show decide (("word" : Str) ∈ sgns) = false; decide +kernel
  · show decide (("name" : Str) ∈ sgns) = false; decide +kernel
  · show decide (("unknown" : Str) ∈ sgns) = false; decide +kernel
section
variable {P : Program} {w : World} {K : PySem.W.Frag} {mg : Str → Option Value} {base : Heap}
abbrev s_parts_of : Stmt := top 21
theorem sc_parts_of : FnScope ["tree", "found", "part"] ["tree"] (defScope s_parts_of) := ⟨rfl, rfl, rfl, by decide +kernel, rfl, by decide +kernel, by decide +kernel⟩
theorem partsOf_step (T : Tx w K mg) (d : Nat) (ih : Fk P w K mg base CX0 (d + 1) "parts_of" ["tree"] (spPR d)) : Fk P w K mg base CX0 (d + 2) "parts_of" ["tree"] (sp_parts d) := by
  refine T.F_parts_of.ok0 sc_parts_of (fun _ _ _ _ _ _ us hl => match us, hl with | [_], _ => rfl)
    (fun vs H Q E h => ?_) (fun cdv A outer s H vs Q E hr h => ?_)
  · obtain ⟨v, t, rfl, _⟩ := h
    rfl
  · obtain ⟨v, t, rfl, it, wf, dp, d12, k⟩ := h
    obtain ⟨pf, vs0, rfl, hpv⟩ := it.hd
    refine ⟨_, (pss_cons (ps_set (i := 1) sc_parts_of.nd rfl (Or.inl rfl) (pe_lst (pa_cons (pv 0) pa_nil)))
  (pss_cons (ps_if (pt_cmpR (op_inK T.D_SIGNS) (pe_ix ix_tup (pv 0) pe_int (fun _ _ => rfl)) (pe_kd T.D_SIGNS) (by rfl))
  (pss_one (ps_for PassesOwn.never rfl (pi_tup (pe_slice sl_tup (pv 0) (po_some pe_int) po_none)) (pg_name (i := 2) sc_parts_of.nd rfl (Or.inl rfl))
  (pss_one (ps_expr (pe_bm PySem.F.plainAttrs_list PySem.F.slot_list_extend PySem.F.type_list_extend mt_extend (pv 1) (pa_cons (pe_fk ih (hr.mono (by omega)) rfl pass0 (pa_cons (pv 2) pa_nil)) pa_nil))))))
  pss_nil)
  (pss_one (ps_ret (pv 1))))), ?_⟩
    refine ⟨_, rfl, (by show 1 ≤ sizeLine; decide), fun p np => ?_⟩
    refine gName_k ?_
    try dsimp only
    have s1 := Rd.Same.upd (o := .lst [.ref pf]) np
    refine ⟨_, rfl, pf, _, _, _, rfl, rfl, SqT.of (s1 _ _ hpv), at_of (j := 0) rfl rfl, _, rfl, rfl, _, rfl, ?_⟩
    show if decide (t.head ∈ sgns) = true then _ else _
    by_cases hpt : t.parts ≠ []
    · obtain ⟨hsg, hws⟩ := wf.sign hpt
      obtain ⟨p', us, e, hpu, hlu, hl2, hne, hus⟩ := it.parts hpt
      cases e
      refine iteP (sgn_yes wf hpt) ?_
      refine ⟨_, rfl, _, rfl, pf, _, rfl, SqT.of (s1 _ _ hpu), ?_, fun p2 hp2 => ?_⟩
      · rintro ⟨z, _⟩
        rw [show (1 : Int) = ((1 : Nat) : Int) from rfl, HT.sIx_nat, List.length_cons] at z
        omega
      rw [cut1]
      have s2 := Rd.Same.upd (o := .tup us) hp2
      refine ⟨p2, rfl, ⟨_, SqT.of upd_same⟩, ?_⟩
      refine for_tup (xs := us) (fun i σ H' => PInv H p p2 us t i H' ∧ ∃ t2, σ = [some (.ref pf), some (.ref p), t2]) ⟨⟨s1.trans s2, np, upd_same, [.ref pf], s2 _ _ upd_same, TsAt.one (it.same (s1.trans s2))⟩, _, rfl⟩ ?_ ?_ ?_
      · rintro i σ H' hi ⟨hI, _⟩
        exact SqT.of hI.tup
      · rintro i x σ H1 hx ⟨⟨sm, _, htu, ws, hws1, hts⟩, t2, rfl⟩
        refine gName_k ?_
        try dsimp only
        obtain ⟨r, hr1, hr2⟩ := hus i x hx
        obtain ⟨w1, w2⟩ := hws r (List.mem_of_getElem? hr1)
        cases d with
        | zero => exact absurd dp (by omega)
        | succ d =>
          refine ⟨_, rfl, .inl ⟨rfl, _, SqL.of hws1⟩, _, rfl, x, r, rfl, hr2.same sm, w1, (by omega), (by omega), fun b zs H2 sm2 nb hb htz => ?_⟩
          have hl1 := all_len t
          have hf := flat_le (t := t) (i + 1)
          rw [take_flat hr1, List.length_append] at hf
          have hpw : 2 ^ (t.dep + 1) ≤ 2 ^ 13 := Nat.pow_le_pow_right (by decide) (by omega)
          have h13 : 2 ^ 13 ≤ sizeLine := by decide
          have e1 := hts.len
          have e2 := htz.len
          rw [List.length_cons] at e1
          refine ⟨p, b, ws, zs, rfl, rfl, sm2 _ _ hws1, hb, (by omega), ?_⟩
          have kp := Kp.upd_lst (C := 0) (ys := ws ++ zs) (sm2 _ _ hws1)
          have nbp : b ≠ p := fun z => by rw [z, hws1] at nb; cases nb
          refine ⟨⟨fun c o e => ?_, np, ?_, ws ++ zs, upd_same, ?_⟩, _, rfl⟩
          · rw [upd_ne (ne_of_none e np)]
            exact sm2 _ _ (sm _ _ e)
          · rw [upd_ne (fun z => by rw [z, hws1] at htu; cases htu)]
            exact sm2 _ _ htu
          · rw [take_flat hr1, ← List.cons_append]
            exact ((hts.same sm2).mono kp).app (htz.mono kp)
      · rintro σ H1 ⟨⟨sm, _, htu, ws, hws1, hts⟩, t2, rfl⟩
        refine ⟨_, rfl, k p ws H1 sm np hws1 ?_⟩
        rw [all_parts]
        rw [hlu, List.take_length] at hts
        exact hts
    · cases wf with
      | @am k0 x0 ko =>
        rw [sgn_no ko]
        exact iteF ⟨_, rfl, k p _ _ s1 np upd_same (TsAt.one (it.same s1))⟩
      | _ => exact absurd (fun e => by cases e) hpt
theorem partsOf_none (T : Tx w K mg) : Fk P w K mg base CX0 1 "parts_of" ["tree"] (spPR 0) := by
  refine T.F_parts_of.ok0 sc_parts_of (fun _ _ _ _ _ _ us hl => match us, hl with | [_], _ => rfl) (fun vs H Q E h => h.elim) (fun cdv A outer s H vs Q E hr h => h.elim)
theorem ok_parts_of (T : Tx w K mg) : ∀ d : Nat, Fk P w K mg base CX0 (d + 2) "parts_of" ["tree"] (sp_parts d)
  | 0 => partsOf_step T 0 (partsOf_none T)
  | d + 1 => partsOf_step T (d + 1) (ok_parts_of T d)
/-- the texts of the atoms of one kind, ascending, each once, in a new list -/
def sp_atoms (d : Nat) : Sp := fun vs H Q _ => ∃ (v : V) (t : Tr) (kd : Str), vs = [v, .str kd] ∧ IsT H t v ∧ Wf t ∧ t.dep ≤ d ∧ d ≤ 10 ∧ ∀ p H', Same H H' → H p = none → H' p = some (.lst ((uniS (t.txt kd)).map V.str)) → Q (.ref p) H'
/-- part[0] == kind, part[1] of a form's part -/
theorem txt_at {H : Hp} {t : Tr} {v : V} {kd : Str} (it : IsT H t v) (wf : Wf t) : ∃ p us, v = .ref p ∧ H p = some (.tup (.str t.head :: us)) ∧ (txt1 kd t = [] → t.head ≠ kd ∨ ∃ u, us[0]? = some u ∧ ¬ ∃ z, u = .str z) ∧ ∀ c, txt1 kd t = [c] → t.head = kd ∧ us = [.str c] := by
  cases t with
  | am k x =>
    obtain ⟨p, rfl, h⟩ := it
    refine ⟨p, [.str x], rfl, h, fun e => .inl fun z => ?_, fun c e => ?_⟩
    · have e : (if k = kd then [x] else []) = [] := e
      rw [if_pos (show k = kd from z)] at e
      cases e
    · have e : (if k = kd then [x] else []) = [c] := e
      by_cases z : k = kd
      · rw [if_pos z] at e
        cases e
        exact ⟨z, rfl⟩
      · rw [if_neg z] at e
        cases e
  | un s a =>
    obtain ⟨p, u, rfl, h, i1⟩ := it
    refine ⟨p, [u], rfl, h, fun _ => .inr ⟨u, rfl, fun ⟨z, e⟩ => ?_⟩, fun c e => by cases e⟩
    obtain ⟨q, e'⟩ := i1.ref
    rw [e'] at e
    cases e
  | bi s a b =>
    obtain ⟨p, u, u2, rfl, h, i1, i2⟩ := it
    refine ⟨p, [u, u2], rfl, h, fun _ => .inr ⟨u, rfl, fun ⟨z, e⟩ => ?_⟩, fun c e => by cases e⟩
    obtain ⟨q, e'⟩ := i1.ref
    rw [e'] at e
    cases e
def kinds : List Str := ["word", "name", "unknown"]
theorem head_kd {t : Tr} {kd : Str} (wf : Wf t) (hk : kd ∈ kinds) (h : txt1 kd t = []) : t.head ≠ kd := fun e => by
  by_cases hp : t.parts ≠ []
  · have a := (wf.sign hp).1
    have : ∀ z ∈ (["mark", "open", "own", "pair", "seal", "lock"] : List Str), z ∉ kinds := by decide +kernel
    exact this _ a (by rw [e]; exact hk)
  · cases t with
    | am k x =>
      have h : (if k = kd then [x] else []) = [] := h
      rw [if_pos (show k = kd from e)] at h
      cases h
    | un s a => exact hp (fun e => by cases e)
    | bi s a b => exact hp (fun e => by cases e)
abbrev s_atoms_of : Stmt := top 22
theorem sc_atoms_of : FnScope ["tree", "kind", "part"] ["tree", "kind"] (defScope s_atoms_of) := ⟨rfl, rfl, rfl, by decide +kernel, rfl, by decide +kernel, by decide +kernel⟩
theorem ok_atoms_of (T : Tx w K mg) (d : Nat) : Fk P w K mg base CX0 (d + 3) "atoms_of" ["tree", "kind"] (fun vs H Q E => sp_atoms d vs H Q E ∧ ∃ kd ∈ kinds, vs[1]? = some (.str kd)) := by
  refine T.F_atoms_of.ok0 sc_atoms_of (fun _ _ _ _ _ _ us hl => match us, hl with | [_, _], _ => rfl)
    (fun vs H Q E h => ?_) (fun cdv A outer s H vs Q E hr h => ?_)
  · obtain ⟨⟨v, t, kd, rfl, _⟩, _⟩ := h
    rfl
  · obtain ⟨⟨v, t, kd, rfl, it, wf, dp, d10, k⟩, kd', hk, e⟩ := h
    obtain rfl : kd = kd' := by cases e; rfl
    refine ⟨_, (pss_one (ps_ret (pe_callB (cr_sortedSS rfl) (by rfl) T.z_sorted (by decide +kernel) (pa_cons (pe_scS (own := [("part", 2)]) (g := gName 2)  (by rfl) sc_atoms_of.nd (pi_list (pe_fk (ok_parts_of T d) (hr.mono (by omega)) rfl pass0 (pa_cons (pv 0) pa_nil))) (blkOk_by (own := [("part", 2)]) (N := ["tree", "kind", "part"]) (sc := defScope s_atoms_of) (by decide +kernel)) (fun _ _ _ _ _ => (pg_name (i := 2) sc_atoms_of.nd rfl (Or.inl rfl))) (fun _ _ _ _ _ => (pts_one (pt_cmpR op_eq (pe_ix (kIx (r := rIxT) (K := K) rfl ix_tup) (pv 2) pe_int (fun _ _ => rfl)) (pv 1) (nomark _)))) (fun _ _ _ _ _ => (pe_ix (kIx (r := rIxT) (K := K) rfl ix_tup) (pv 2) pe_int (fun _ _ => rfl)))) pa_nil)))), ?_⟩
    refine ⟨_, rfl, v, t, rfl, it, wf, dp, (by omega), fun p ws H1 s1 np hp htz => ?_⟩
    refine ⟨p, rfl, ⟨_, SqL.of hp⟩, fun D hD => ?_⟩
    have hl1 := all_len t
    have hpw : 2 ^ (t.dep + 1) ≤ 2 ^ 11 := Nat.pow_le_pow_right (by decide) (by omega)
    have h13 : 2 ^ 11 + 1 < scanBound := by decide
    refine scl (txt1 kd) (txt1_le kd) (SqL.of hp) htz.len (by rw [htz.len]; omega) hD (fun i x t1 H2 Q2 hx ht s2 => ?_) (fun σ H P Q h z => ?_) fun H2 s2 hD2 => ?_
    · have i1 := (htz.get i t1 x ht hx).same s2
      have w1 := (all_wf wf t1 (List.mem_of_getElem? ht)).1
      obtain ⟨q, us, rfl, hq, _, h1⟩ := txt_at (kd := kd) i1 w1
      refine ⟨fun e => ?_, fun c e => ⟨?_, fun z => ?_⟩⟩
      · exact ⟨_, rfl, q, _, _, _, rfl, rfl, SqT.of hq, at_of (j := 0) rfl rfl, _, rfl, rfl, _, rfl, decide_eq_false (fun z => head_kd w1 hk e (by cases z; rfl)), rfl⟩
      · exact ⟨_, rfl, q, _, _, _, rfl, rfl, SqT.of hq, at_of (j := 0) rfl rfl, _, rfl, rfl, _, rfl, decide_eq_true (by rw [(h1 c e).1]), rfl⟩
      · rw [(h1 c e).2] at hq
        exact ⟨_, rfl, q, _, _, _, rfl, rfl, SqT.of hq, at_of (j := 1) rfl rfl, z⟩
    · obtain ⟨_, h1, q, a, b, c, h2, h3, h4, h5, d, h6, h7, e, h8, h9⟩ := z
      exact ⟨_, h1, q, a, b, c, h2, h3, h4, h5, d, h6, h7, e, h8, h _ _ h9⟩
    · refine ⟨D, _, rfl, hD2, fun ys q pm nd so hq => ?_⟩
      have e : ys = uniS (t.txt kd) := uniS_of nd so fun z => by rw [pm.mem_iff, putS_mem, txt_all]; simp
      rw [e]
      exact k q _ ((s1.trans s2).trans (Rd.Same.upd hq)) ((s1.trans s2).free hq) upd_same
def sp_txts (K : PySem.W.Frag) (d : Nat) (kd : Str) : Sp := fun vs H Q _ => ∃ (a : Addr) (v : V) (t : Tr), vs = [.ref a] ∧ IsL K H a v ∧ IsT H t v ∧ Wf t ∧ t.dep ≤ d ∧ d ≤ 10 ∧ ∀ p H', Same H H' → H p = none → H' p = some (.lst ((uniS (t.txt kd)).map V.str)) → Q (.ref p) H'
abbrev s_Letter_unknowns : Stmt := inClass (top 26) 5
theorem sc_Letter_unknowns : FnScope ["self"] ["self"] (defScope s_Letter_unknowns) := ⟨rfl, rfl, rfl, by decide +kernel, rfl, by decide +kernel, by decide +kernel⟩
theorem ok_unknowns (T : Tx w K mg) (d : Nat) : Fm P w K mg base CX0 (d + 4) "Letter" "unknowns" ["self"] (sp_txts K d "unknown") := by
  refine T.M_Letter_unknowns.ok0 sc_Letter_unknowns (fun _ _ _ _ _ _ us hl => match us, hl with | [_], _ => rfl)
    (fun vs H Q E h => ?_) (fun cdv A outer s H vs Q E hr h => ?_)
  · obtain ⟨a, v, t, rfl, _⟩ := h
    rfl
  · obtain ⟨a, v, t, rfl, ⟨dx, ha⟩, it, wf, dp, d10, k⟩ := h
    refine ⟨_, (pss_one (ps_ret (pe_fk (ok_atoms_of T d) (hr.mono (by omega)) rfl pass0 (pa_cons (pe_fld (pv 0) rfl) (pa_cons pe_str pa_nil))))), ?_⟩
    exact ⟨_, rfl, a, _, dx, _, v, rfl, ha, T.k_Letter, T.n_Letter_tree, look1 _, ⟨v, t, "unknown", rfl, it, wf, dp, d10, k⟩, "unknown", (by decide +kernel), rfl⟩
end
end Rd
namespace Rd
open PySem L2
inductive Th where
  | non
  | int (n : Int)
  | str (s : Str)
  | tup (l : List Th)
  | lst (l : List Th)
/-- at most n deep -/
def Th.le : Nat → Th → Prop
  | _, .non => True
  | _, .int _ => True
  | _, .str _ => True
  | 0, .tup l => l = []
  | 0, .lst l => l = []
  | n + 1, .tup l => ∀ u ∈ l, u.le n
  | n + 1, .lst l => ∀ u ∈ l, u.le n
/-- such a thing at v; q is none of its objects -/
inductive IsTh (q : Addr) (H : Hp) : Th → V → Prop
  | non : IsTh q H .non .non
  | int (n : Int) : IsTh q H (.int n) (.int n)
  | str (s : Str) : IsTh q H (.str s) (.str s)
  | tup {p : Addr} {us : List V} {l : List Th} : p ≠ q → H p = some (.tup us) → us.length = l.length → (∀ (i : Nat) t u, l[i]? = some t → us[i]? = some u → IsTh q H t u) → IsTh q H (.tup l) (.ref p)
  | lst {p : Addr} {us : List V} {l : List Th} : p ≠ q → H p = some (.lst us) → us.length = l.length → (∀ (i : Nat) t u, l[i]? = some t → us[i]? = some u → IsTh q H t u) → IsTh q H (.lst l) (.ref p)
theorem IsTh.but {q : Addr} {H H' : Hp} {t : Th} {v : V} (b : But q H H') (h : IsTh q H t v) : IsTh q H' t v := by
  induction h with
  | non => exact .non
  | int n => exact .int n
  | str s => exact .str s
  | tup hq hp hl _ ih => exact .tup hq (b _ _ hq hp) hl ih
  | lst hq hp hl _ ih => exact .lst hq (b _ _ hq hp) hl ih
theorem IsTh.same {q : Addr} {H H' : Hp} {t : Th} {v : V} (s : Same H H') (h : IsTh q H t v) : IsTh q H' t v := h.but (But.of_same s)
/-- a form as a thing -/
def Tr.th : Tr → Th
  | .am k x => .tup [.str k, .str x]
  | .un s a => .tup [.str s, a.th]
  | .bi s a b => .tup [.str s, a.th, b.th]
theorem get2 {α β : Type} {R : α → β → Prop} {a1 a2 : α} {b1 b2 : β} (h1 : R a1 b1) (h2 : R a2 b2) : ∀ (i : Nat) a b, [a1, a2][i]? = some a → [b1, b2][i]? = some b → R a b
  | 0, _, _, e, e' => by cases e; cases e'; exact h1
  | 1, _, _, e, e' => by cases e; cases e'; exact h2
  | _ + 2, _, _, e, _ => by simp at e
theorem get3 {α β : Type} {R : α → β → Prop} {a1 a2 a3 : α} {b1 b2 b3 : β} (h1 : R a1 b1) (h2 : R a2 b2) (h3 : R a3 b3) : ∀ (i : Nat) a b, [a1, a2, a3][i]? = some a → [b1, b2, b3][i]? = some b → R a b
  | 0, _, _, e, e' => by cases e; cases e'; exact h1
  | 1, _, _, e, e' => by cases e; cases e'; exact h2
  | 2, _, _, e, e' => by cases e; cases e'; exact h3
  | _ + 3, _, _, e, _ => by simp at e
theorem IsT.th {q : Addr} {H : Hp} {t : Tr} {v : V} (hq : ∀ us, H q ≠ some (.tup us)) (h : IsT H t v) : IsTh q H t.th v := by
  have ne : ∀ {p : Addr} {us : List V}, H p = some (.tup us) → p ≠ q := fun {p us} e z => hq us (by rw [← z]; exact e)
  induction t generalizing v with
  | am k x =>
    obtain ⟨p, rfl, h⟩ := h
    exact .tup (ne h) h rfl (get2 (.str _) (.str _))
  | un s a ih =>
    obtain ⟨p, u, rfl, h, h1⟩ := h
    exact .tup (ne h) h rfl (get2 (.str _) (ih h1))
  | bi s a b iha ihb =>
    obtain ⟨p, u, u2, rfl, h, h1, h2⟩ := h
    exact .tup (ne h) h rfl (get3 (.str _) (iha h1) (ihb h2))
theorem Tr.th_le : ∀ {t : Tr} {n : Nat}, t.dep + 1 ≤ n → t.th.le n
  | .am k x, n + 1, _ => fun u hu => by
    rcases List.mem_cons.mp hu with rfl | hu
    · cases n <;> exact trivial
    · rw [List.mem_singleton.mp hu]
      cases n <;> exact trivial
  | .un s a, n + 1, h => fun u hu => by
    have h : a.dep + 1 + 1 ≤ n + 1 := h
    rcases List.mem_cons.mp hu with rfl | hu
    · cases n <;> exact trivial
    · rw [List.mem_singleton.mp hu]
      exact Tr.th_le (t := a) (by omega)
  | .bi s a b, n + 1, h => fun u hu => by
    have h : max a.dep b.dep + 1 + 1 ≤ n + 1 := h
    rcases List.mem_cons.mp hu with rfl | hu
    · cases n <;> exact trivial
    rcases List.mem_cons.mp hu with rfl | hu
    · exact Tr.th_le (t := a) (by omega)
    · rw [List.mem_singleton.mp hu]
      exact Tr.th_le (t := b) (by omega)
def kindL : List Str := ["word", "name", "unknown"]
def kOk (h x : Str) : Bool := if h = "word" then isWord x else if h = "name" then isName x else isUnk x
def atOk (h : Str) : List Th → Bool
  | [.str x] => kOk h x
  | _ => false
def sgv : List (Str × Int) := [("pair", 2), ("seal", 2), ("lock", 2), ("mark", 1), ("open", 1), ("own", 1)]
def keyTh : List Th → Bool
  | _ :: .tup (.str h :: _) :: _ => decide (h ∈ (["open", "own"] : List Str))
  | _ => false
def fltL (f : Th → Option (List Int)) : Int → List Th → Option (List Int)
  | _, [] => none
  | k, t :: r => match f t with
    | some p => some (k :: p)
    | none => fltL f (k + 1) r
def flt : Nat → Th → Option (List Int)
  | 0, _ => some []
  | n + 1, .tup (.str h :: r) =>
    if h ∈ kindL then (if atOk h r = true then none else some [])
    else match sgv.lookup h with
      | none => some []
      | some m => if (r.length : Int) ≠ m then some [] else match fltL (flt n) 1 r with
        | some p => some p
        | none => if h = "lock" ∧ keyTh r = false then some [] else none
  | _ + 1, _ => some []
theorem kOk_of {k x : Str} (h : kindOk k x) : k ∈ kindL ∧ kOk k x = true := by
  rcases h with ⟨rfl, h⟩ | ⟨rfl, h⟩ | ⟨rfl, h⟩
  · exact ⟨by decide +kernel, by rw [kOk, if_pos rfl]; exact h⟩
  · exact ⟨by decide +kernel, by rw [kOk, if_neg (by decide +kernel), if_pos rfl]; exact h⟩
  · exact ⟨by decide +kernel, by rw [kOk, if_neg (by decide +kernel), if_neg (by decide +kernel)]; exact h⟩
theorem flt_form : ∀ {t : Tr}, Wf t → ∀ n, t.dep + 1 ≤ n → flt n t.th = none
  | .am k x, wf, n + 1, _ => by
    cases wf with
    | am ko =>
      obtain ⟨h1, h2⟩ := kOk_of ko
      show (if k ∈ kindL then (if kOk k x = true then none else some []) else _) = none
      rw [if_pos h1, if_pos h2]
  | .un s a, wf, n + 1, h => by
    cases wf with
    | un hs wa =>
      have h : a.dep + 1 + 1 ≤ n + 1 := h
      have ih := flt_form wa n (by omega)
      have h1 : ∀ z ∈ (["mark", "open", "own"] : List Str), z ∉ kindL ∧ sgv.lookup z = some 1 ∧ z ≠ "lock" := by decide +kernel
      obtain ⟨a1, a2, a3⟩ := h1 s hs
      show (if s ∈ kindL then _ else match sgv.lookup s with | none => some [] | some m => if (([a.th] : List Th).length : Int) ≠ m then some [] else match fltL (flt n) 1 [a.th] with | some p => some p | none => if s = "lock" ∧ keyTh [a.th] = false then some [] else none) = none
      rw [if_neg a1, a2]
      simp only [List.length_singleton, fltL, ih]
      rw [if_neg (fun z => z rfl), if_neg (fun z => a3 z.1)]
  | .bi s a b, wf, n + 1, h => by
    have h : max a.dep b.dep + 1 + 1 ≤ n + 1 := h
    cases wf with
    | bi hs wa wb =>
      have ia := flt_form wa n (by omega)
      have ib := flt_form wb n (by omega)
      have h1 : ∀ z ∈ (["pair", "seal"] : List Str), z ∉ kindL ∧ sgv.lookup z = some 2 ∧ z ≠ "lock" := by decide +kernel
      obtain ⟨a1, a2, a3⟩ := h1 s hs
      show (if s ∈ kindL then _ else match sgv.lookup s with | none => some [] | some m => if (([a.th, b.th] : List Th).length : Int) ≠ m then some [] else match fltL (flt n) 1 [a.th, b.th] with | some p => some p | none => if s = "lock" ∧ keyTh [a.th, b.th] = false then some [] else none) = none
      rw [if_neg a1, a2]
      simp only [fltL, ia, ib]
      rw [if_neg (fun z => z rfl), if_neg (fun z => a3 z.1)]
    | @lk s' _ b' hs wa wb =>
      have ia := flt_form wa n (by omega)
      have hs' : s' ∈ (["mark", "open", "own"] : List Str) := List.mem_cons_of_mem _ hs
      have ib := flt_form (t := .un s' b') (.un hs' wb) n (by omega)
      have a1 : ("lock" : Str) ∉ kindL := by decide +kernel
      have a2 : sgv.lookup ("lock" : Str) = some 2 := by decide +kernel
      show (if ("lock" : Str) ∈ kindL then _ else match sgv.lookup ("lock" : Str) with | none => some [] | some m => if (([a.th, (Tr.un s' b').th] : List Th).length : Int) ≠ m then some [] else match fltL (flt n) 1 [a.th, (Tr.un s' b').th] with | some p => some p | none => if ("lock" : Str) = "lock" ∧ keyTh [a.th, (Tr.un s' b').th] = false then some [] else none) = none
      rw [if_neg a1, a2]
      simp only [fltL, ia, ib]
      rw [if_neg (fun z => z rfl), if_neg]
      rintro ⟨_, z⟩
      have z : decide (s' ∈ (["open", "own"] : List Str)) = false := z
      rw [decide_eq_true hs] at z
      cases z
end Rd
namespace Rd
open PySem L2
theorem look_mem {β : Type} {k : Str} {v : β} : ∀ {l : List (Str × β)}, l.lookup k = some v → (k, v) ∈ l
  | [], h => by cases h
  | (a, b) :: l, h => by
    rw [List.lookup_cons] at h
    cases e : k == a with
    | true =>
      rw [e] at h
      cases h
      rw [eq_of_beq e]
      exact List.mem_cons_self
    | false =>
      rw [e] at h
      exact List.mem_cons_of_mem _ (look_mem h)
theorem fltL_none {f : Th → Option (List Int)} : ∀ {r : List Th} {k : Int}, (∀ (j : Nat) t, r[j]? = some t → f t = none) → fltL f k r = none
  | [], _, _ => rfl
  | t :: r, k, h => by
    rw [fltL, h 0 t rfl]
    exact fltL_none fun j t h' => h (j + 1) t h'
theorem fltL_at {f : Th → Option (List Int)} {rel : List Int} {u : Th} : ∀ {r : List Th} {k : Int} {i : Nat}, (∀ (j : Nat) t, j < i → r[j]? = some t → f t = none) → r[i]? = some u → f u = some rel → fltL f k r = some ((k + i) :: rel)
  | [], _, _, _, h, _ => by cases h
  | t :: r, k, 0, _, h, e => by
    cases h
    rw [fltL, e]
    show some (k :: rel) = some ((k + 0) :: rel)
    rw [Int.add_zero]
  | t :: r, k, i + 1, h, h1, e => by
    rw [fltL, h 0 t (Nat.succ_pos _) rfl]
    have ih := fltL_at (r := r) (k := k + 1) (i := i) (fun j t hj h' => h (j + 1) t (Nat.succ_lt_succ hj) h') h1 e
    rw [show k + ((i + 1 : Nat) : Int) = k + 1 + i by omega]
    exact ih
theorem flt_sg {n : Nat} {h : Str} {r : List Th} {m : Int} (hk : h ∉ kindL) (hm : sgv.lookup h = some m) (hl : ¬ (r.length : Int) ≠ m) :
    (∀ rel, fltL (flt n) 1 r = some rel → flt (n + 1) (.tup (.str h :: r)) = some rel) ∧ (fltL (flt n) 1 r = none → flt (n + 1) (.tup (.str h :: r)) = if h = "lock" ∧ keyTh r = false then some [] else none) := by
  refine ⟨fun rel e => ?_, fun e => ?_⟩
  · rw [flt, if_neg hk, hm]
    dsimp only
    rw [if_neg hl, e]
  · rw [flt, if_neg hk, hm]
    dsimp only
    rw [if_neg hl, e]
theorem flt_hd {n : Nat} {t : Th} (h : flt n t = none) : ∃ s r, t = .tup (.str s :: r) := by
  cases n with
  | zero => cases h
  | succ n =>
    cases t with
    | tup l =>
      cases l with
      | nil => cases h
      | cons x r =>
        cases x with
        | str s => exact ⟨s, r, rfl⟩
        | _ => cases h
    | _ => cases h
def spAF : Sp := fun vs H Q _ => ∃ (v : V) (q : Addr) (h : Str) (r : List Th), vs = [v] ∧ IsTh q H (.tup (.str h :: r)) v ∧ h ∈ kindL ∧ (∀ x, r = [.str x] → x.length ≤ 200000) ∧ ∀ H', Same H H' → Q (.bl (atOk h r)) H'
def lookL : List (Str × Sp) := [("is_word", spTB isWord), ("is_name", spTB isName), ("is_unknown", spTB isUnk)]
theorem IsTh.tup_inv {q : Addr} {H : Hp} {l : List Th} {v : V} (h : IsTh q H (.tup l) v) : ∃ p us, v = .ref p ∧ H p = some (.tup us) ∧ us.length = l.length ∧ (∀ (i : Nat) t u, l[i]? = some t → us[i]? = some u → IsTh q H t u) := by
  cases h with
  | tup hq hp hl hi => exact ⟨_, _, rfl, hp, hl, hi⟩
theorem IsTh.str_inv {q : Addr} {H : Hp} {s : Str} {v : V} (h : IsTh q H (.str s) v) : v = .str s := by
  cases h
  rfl
/-- the built-in type of a thing -/
def Th.ty : Th → String
  | .non => "NoneType"
  | .int _ => "int"
  | .str _ => "str"
  | .tup _ => "tuple"
  | .lst _ => "list"
theorem IsTh.tyx {K : PySem.W.Frag} {q : Addr} {H : Hp} {t : Th} {v : V} (h : IsTh q H t v) : TyX K H v (.type t.ty) := by
  cases h with
  | non => exact .base .non
  | int n => exact .base (.int n)
  | str s => exact .base (.str s)
  | tup _ hp _ _ => exact .base (.tup hp)
  | lst _ hp _ _ => exact .base (.lst hp)
theorem isi_th {K : PySem.W.Frag} {t : Th} {n : String} (hn : n = "tuple" ∨ n = "str") : PySem.W.kitOne K (.type t.ty) (.type n) = some (decide (t.ty = n)) := by
  have h1 : ∀ m ∈ (["NoneType", "int", "str", "tuple", "list"] : List String), kitB m "tuple" = some (decide (m = "tuple")) ∧ kitB m "str" = some (decide (m = "str")) := by decide +kernel
  have h2 : t.ty ∈ (["NoneType", "int", "str", "tuple", "list"] : List String) := by cases t <;> simp [Th.ty]
  rcases hn with rfl | rfl
  · exact kit_ty (h1 _ h2).1
  · exact kit_ty (h1 _ h2).2
section
variable {P : Program} {w : World} {K : PySem.W.Frag} {mg : Str → Option Value} {base : Heap}
theorem lookL_ok (T : Tx w K mg) : ∀ p ∈ lookL, ∃ ps, Fk P w K mg base CX0 2 p.1 ps p.2 := by
  intro p hp
  rcases List.mem_cons.mp hp with rfl | hp
  · exact ⟨_, (ok_is_word T).mono (by decide)⟩
  rcases List.mem_cons.mp hp with rfl | hp
  · exact ⟨_, (ok_is_name T).mono (by decide)⟩
  rw [List.mem_singleton.mp hp]
  exact ⟨_, ok_is_unknown T⟩
abbrev s_is_atom_form : Stmt := top 19
theorem sc_is_atom_form : FnScope ["form", "looks"] ["form"] (defScope s_is_atom_form) := ⟨rfl, rfl, rfl, by decide +kernel, rfl, by decide +kernel, by decide +kernel⟩
theorem ok_is_atom_form (T : Tx w K mg) : Fk P w K mg base CX0 3 "is_atom_form" ["form"] spAF := by
  refine T.F_is_atom_form.ok0 sc_is_atom_form (fun _ _ _ _ _ _ us hl => match us, hl with | [_], _ => rfl)
    (fun vs H Q E h => ?_) (fun cdv A outer s H vs Q E hr h => ?_)
  · obtain ⟨v, q, h, r, rfl, _⟩ := h
    rfl
  · obtain ⟨v, q, h, r, rfl, it, hk, hs, k⟩ := h
    obtain ⟨p, us, rfl, hp, hl, hi⟩ := it.tup_inv
    refine ⟨_, (pss_cons (ps_set (i := 1) sc_is_atom_form.nd rfl (Or.inl rfl) (pe_disp (pps_cons pe_str (pe_gcls rfl T.F_is_word.g) (pps_cons pe_str (pe_gcls rfl T.F_is_name.g) (pps_cons pe_str (pe_gcls rfl T.F_is_unknown.g) pps_nil))) (by rfl) (by rfl) (fun z => by cases z) (by decide)))
  (pss_one (ps_ret (pe_and (pe_cmpR op_eq (pe_callB call_len_seq (by rfl) T.z_len (by decide +kernel) (pa_cons (pv 0) pa_nil)) pe_int (nomark _)) (pe_and (pe_callB call_isi (by rfl) T.z_isinstance (by decide +kernel) (pa_cons (pe_ix ix_tup (pv 0) pe_int (fun _ _ => rfl)) (pa_cons (pe_bltn (v := .ty "str") (u := .type "str") rfl T.z_str (by decide +kernel) rfl) pa_nil))) (pe_one (pe_callE lookL (lookL_ok T) (hr.mono (by omega)) (pe_dget (hu_of hr) (pv 1) (pe_ix ix_tup (pv 0) pe_int (fun _ _ => rfl)) (fun _ _ => rfl)) (pa_cons (pe_ix ix_tup (pv 0) pe_int (fun _ _ => rfl)) pa_nil)))))))), ?_⟩
    refine fun dp hdp => ⟨upd_same, [(.inr "word", .ref (He.ga K "is_word")), (.inr "name", .ref (He.ga K "is_name")), (.inr "unknown", .ref (He.ga K "is_unknown"))], rfl, (by show 3 ≤ 15; decide), ?_⟩
    refine gName_k ?_
    try dsimp only
    rw [upd_upd]
    have s1 := Rd.Same.upd (o := .dK (mergeK [] [(.inr "word", .ref (He.ga K "is_word")), (.inr "name", .ref (He.ga K "is_name")), (.inr "unknown", .ref (He.ga K "is_unknown"))])) hdp
    have hd1 : upd H dp (.dK (mergeK [] [(.inr "word", .ref (He.ga K "is_word")), (.inr "name", .ref (He.ga K "is_name")), (.inr "unknown", .ref (He.ga K "is_unknown"))])) dp = _ := upd_same
    generalize upd H dp (.dK (mergeK [] [(.inr "word", .ref (He.ga K "is_word")), (.inr "name", .ref (He.ga K "is_name")), (.inr "unknown", .ref (He.ga K "is_unknown"))])) = H1 at s1 hd1 ⊢
    have hp1 := s1 _ _ hp
    refine ⟨_, rfl, p, _, rfl, .inr (SqT.of hp1), rfl, _, rfl, ?_⟩
    match us, r, hl, hi, it, hp, hp1, hs, k with
    | [u0], [], _, _, _, _, _, _, k => exact iteN (by show ¬ decide (V.int 1 = V.int 2) = true; decide) (k _ s1)
    | [u0, u1], [x1], _, hi, _, _, hp1, hs, k =>
      refine iteP (by show decide (V.int 2 = V.int 2) = true; decide) ?_
      have i1 := (hi 1 x1 u1 rfl rfl).same s1
      refine ⟨_, rfl, p, _, _, _, rfl, rfl, SqT.of hp1, at_of (j := 1) rfl rfl, u1, .ty "str", _, _, _, rfl, .ty "str", i1.tyx, isi_th (.inr rfl), _, rfl, ?_⟩
      cases x1 with
      | str x =>
        refine iteP (by show decide (("str" : String) = "str") = true; decide) ?_
        obtain rfl := i1.str_inv
        obtain rfl := (hi 0 (.str h) u0 rfl rfl).str_inv
        have hx := hs x rfl
        obtain ⟨f, g, hf, e1, e2⟩ : ∃ f g, ((f, spTB g) ∈ lookL) ∧ valV (mergeK [] [(.inr "word", .ref (He.ga K "is_word")), (.inr "name", .ref (He.ga K "is_name")), (.inr "unknown", .ref (He.ga K "is_unknown"))]) (.inr h) = some (.ref (He.ga K f)) ∧ kOk h x = g x := by
          unfold mergeK
          simp only [List.foldl]
          rcases List.mem_cons.mp hk with rfl | hk
          · exact ⟨"is_word", isWord, List.mem_cons_self, by rw [valV_put, if_neg (by decide +kernel), valV_put, if_neg (by decide +kernel), valV_put, if_pos rfl], by rw [kOk, if_pos rfl]⟩
          rcases List.mem_cons.mp hk with rfl | hk
          · exact ⟨"is_name", isName, List.mem_cons_of_mem _ List.mem_cons_self, by rw [valV_put, if_neg (by decide +kernel), valV_put, if_pos rfl], by rw [kOk, if_neg (by decide +kernel), if_pos rfl]⟩
          cases List.mem_singleton.mp hk
          exact ⟨"is_unknown", isUnk, List.mem_cons_of_mem _ (List.mem_cons_of_mem _ List.mem_cons_self), by rw [valV_put, if_pos rfl], by rw [kOk, if_neg (by decide +kernel), if_neg (by decide +kernel)]⟩
        have dg := DGet.k (k := .inr h) hd1
        rw [e1] at dg
        refine ⟨_, rfl, _, rfl, p, _, _, _, rfl, rfl, SqT.of hp1, at_of (j := 0) rfl rfl, dp, _, rfl, dg, (f, spTB g), hf, rfl, _, rfl, p, _, _, _, rfl, rfl, SqT.of hp1, at_of (j := 1) rfl rfl, x, rfl, hx, fun H2 s2 => ?_⟩
        have e3 : atOk h [.str x] = g x := e2
        rw [← e3]
        exact k _ (s1.trans s2)
      | non => exact iteN (by show ¬ decide (("NoneType" : String) = "str") = true; decide) (k _ s1)
      | int n => exact iteN (by show ¬ decide (("int" : String) = "str") = true; decide) (k _ s1)
      | tup l => exact iteN (by show ¬ decide (("tuple" : String) = "str") = true; decide) (k _ s1)
      | lst l => exact iteN (by show ¬ decide (("list" : String) = "str") = true; decide) (k _ s1)
    | u0 :: u1 :: u2 :: us, x1 :: x2 :: r, hl, _, _, _, _, _, k =>
      have e0 : atOk h (x1 :: x2 :: r) = false := by cases x1 <;> rfl
      rw [e0] at k
      refine iteN (fun z => ?_) (k _ s1)
      have z := of_decide_eq_true z
      rw [V.int.injEq, List.length_cons, List.length_cons, List.length_cons] at z
      omega
abbrev s_BadForm_init : Stmt := inClass (top 4) 0
theorem sc_BadForm_init : FnScope ["self", "path"] ["self", "path"] (defScope s_BadForm_init) := ⟨rfl, rfl, rfl, by decide +kernel, rfl, by decide +kernel, by decide +kernel⟩
theorem ok_BadForm (T : Tx w K mg) : Fm P w K mg base CX0 1 "BadForm" "__init__" ["self", "path"] (spX1 K "path") := by
  refine T.X_BadForm.init.ok0 sc_BadForm_init (fun _ _ _ _ _ _ us hl => match us, hl with | [_, _], _ => rfl)
    (fun vs H Q E h => ?_) (fun cdv A outer s H vs Q E hr h => ?_)
  · obtain ⟨a, C, v, rfl, _⟩ := h
    rfl
  · obtain ⟨a, C, v, rfl, TC, no, ha, k⟩ := h
    refine ⟨_, (pss_cons (ps_expr (pe_reinit rfl T.g_RoadError T.r_RoadError (pa_cons (pv 0) (pa_cons pe_str pa_nil))))
  (pss_one (ps_ost (pv 0) (pv 1)))), ?_⟩
    refine ⟨_, rfl, a, C, [.str "no form"], rfl, (by show 1 ≤ 1000; decide), TC, ha, _, rfl, _, rfl, a, C, rfl, TC, no, .inl ⟨ha, fun dx hdx ne => k dx hdx ne⟩⟩
/-- texts in a thing are not too long -/
def Th.short : Nat → Th → Prop
  | _, .str s => s.length ≤ 200000
  | n + 1, .tup l => l.length ≤ 1000 ∧ ∀ u ∈ l, u.short n
  | 0, .tup l => l.length ≤ 1000
  | _, _ => True
def sp_chk (K : PySem.W.Frag) (n : Nat) : Sp := fun vs H Q E => ∃ (v : V) (t : Th) (q0 q : Addr) (pth : List Int), vs = [v, .ref q] ∧ IsTh q0 H t v ∧ t.le n ∧ t.short n ∧ SqT K H q (pth.map V.int) ∧ pth.length + n ≤ 100 ∧
  (flt (n + 1) t = none → ∀ H', Same H H' → Q .non H') ∧
  ∀ rel, flt (n + 1) t = some rel → ∀ d r H', Same H H' → H' d = some (.xd [("path", .ref r)]) → SqT K H' r ((pth ++ rel).map V.int) → E (.ref (He.ga K "BadForm")) (some d) H'
def spCR (K : PySem.W.Frag) : Nat → Sp
  | 0 => fun _ _ _ _ => False
  | n + 1 => sp_chk K n
abbrev s_check_form : Stmt := top 20
theorem sc_check_form : FnScope ["form", "path", "k"] ["form", "path"] (defScope s_check_form) := ⟨rfl, rfl, rfl, by decide +kernel, rfl, by decide +kernel, by decide +kernel⟩
theorem chk_step (T : Tx w K mg) (n : Nat) (ih : Fk P w K mg base (L2N.CX P w) (n + 4) "check_form" ["form", "path"] (spCR K n)) : Fk P w K mg base (L2N.CX P w) (n + 5) "check_form" ["form", "path"] (sp_chk K n) := by
  refine T.F_check_form.ok sc_check_form (fun _ _ _ _ _ _ us hl => match us, hl with | [_, _], _ => rfl)
    (fun vs H Q E h => ?_) (fun cdv A outer s H vs Q E hr h => ?_)
  · obtain ⟨v, t, q0, q, pth, rfl, _⟩ := h
    rfl
  · obtain ⟨v, t, q0, q, pth, rfl, it, le, sh, hq, hl, k1, k0⟩ := h
    refine ⟨_, (pss_cons (ps_if (PW.pt (pw_or (pt_not (pt_val (pe_callB call_isi (by rfl) T.z_isinstance (by decide +kernel) (pa_cons (pv 0) (pa_cons (pe_bltn (v := .ty "tuple") (u := .type "tuple") rfl T.z_tuple (by decide +kernel) rfl) pa_nil))))) (pw_or (pt_cmpR op_eq (pe_callB call_len_seq (by rfl) T.z_len (by decide +kernel) (pa_cons (pv 0) pa_nil)) pe_int (nomark _)) (pw_or1 (pt_not (pt_val (pe_callB call_isi (by rfl) T.z_isinstance (by decide +kernel) (pa_cons (pe_ix ix_tup (pv 0) pe_int (fun _ _ => rfl)) (pa_cons (pe_bltn (v := .ty "str") (u := .type "str") rfl T.z_str (by decide +kernel) rfl) pa_nil)))))))))
  (pss_one (L2N.ps_raise rfl (L2N.takes_of rfl rfl rfl rfl) (pmk_xN T.X_BadForm (ok_BadForm T) (hr.mono (by omega)) rfl (pa_cons (pv 1) pa_nil))))
  pss_nil)
  (pss_one (ps_if (pt_cmpR op_inT (pe_ix ix_tup (pv 0) pe_int (fun _ _ => rfl)) (pe_tup (pa_cons pe_str (pa_cons pe_str (pa_cons pe_str pa_nil)))) (by rfl))
  (pss_one (ps_if (pt_not (pt_val (pe_fk (ok_is_atom_form T) (hr.mono (by omega)) rfl pass0 (pa_cons (pv 0) pa_nil))))
  (pss_one (L2N.ps_raise rfl (L2N.takes_of rfl rfl rfl rfl) (pmk_xN T.X_BadForm (ok_BadForm T) (hr.mono (by omega)) rfl (pa_cons (pv 1) pa_nil))))
  pss_nil))
  (pss_one (ps_if (PW.pt (pw_or (pt_cmpR (op_notInK T.D_SIGNS) (pe_ix ix_tup (pv 0) pe_int (fun _ _ => rfl)) (pe_kd T.D_SIGNS) (by rfl)) (pw_or1 (pt_cmpR op_ne (pe_callB call_len_seq (by rfl) T.z_len (by decide +kernel) (pa_cons (pv 0) pa_nil)) (pe_op op_add (pe_ix (ix_K T.D_SIGNS) (pe_kd T.D_SIGNS) (pe_ix ix_tup (pv 0) pe_int (fun _ _ => rfl)) (fun _ _ => rfl)) pe_int) (nomark _)))))
  (pss_one (L2N.ps_raise rfl (L2N.takes_of rfl rfl rfl rfl) (pmk_xN T.X_BadForm (ok_BadForm T) (hr.mono (by omega)) rfl (pa_cons (pv 1) pa_nil))))
  (pss_cons (ps_for (passes_of rfl) rfl (pi_range2 rfl T.z_range (pa_cons pe_int (pa_cons (pe_callB call_len_seq (by rfl) T.z_len (by decide +kernel) (pa_cons (pv 0) pa_nil)) pa_nil))) (pg_name (i := 2) sc_check_form.nd rfl (Or.inl rfl))
  (pss_one (ps_expr (pe_fk ih (hr.mono (by omega)) rfl (L2N.passes_call (L2N.takes_of rfl rfl rfl rfl) (fun _ _ _ _ h => h)) (pa_cons (pe_ix ix_tup (pv 0) (pv 2) (fun _ _ => rfl)) (pa_cons (pe_op op_catA (pv 1) (pe_tup (pa_cons (pv 2) pa_nil))) pa_nil))))))
  (pss_one (ps_if (PW.pt (pw_and (pt_cmpR op_eq (pe_ix ix_tup (pv 0) pe_int (fun _ _ => rfl)) pe_str (nomark _)) (pw_and1 (pt_cmpR op_notInT (pe_ix ix_tup (pe_ix ix_tup (pv 0) pe_int (fun _ _ => rfl)) pe_int (fun _ _ => rfl)) (pe_tup (pa_cons pe_str (pa_cons pe_str pa_nil))) (by rfl)))))
  (pss_one (L2N.ps_raise rfl (L2N.takes_of rfl rfl rfl rfl) (pmk_xN T.X_BadForm (ok_BadForm T) (hr.mono (by omega)) rfl (pa_cons (pv 1) pa_nil))))
  pss_nil)))))))), ?_⟩
    have rz : ∀ {H1 : Hp} {σ : St}, Same H H1 → flt (n + 1) t = some [] → σ[1]? = some (some (.ref q)) → tMkO (He.ga K "BadForm") (spX1 K "path") [] (tCons (tVar 1) tNil) σ H1 (fun cls d H' => E cls d H') := fun {H1 σ} s1 e e1 => by
      refine ⟨_, e1, rd_raise1 T.X_BadForm.oex T.X_BadForm.no fun d H' s' nd hd => k0 [] e d q H' (s1.trans s') hd ?_⟩
      rw [List.append_nil]
      exact SqT.kept hq (s1.trans s')
    cases t with
    | tup l =>
      cases l with
      | nil =>
        obtain ⟨p, us, rfl, hp, hl2, hi⟩ := it.tup_inv
        refine seqIf (b := true) (tb_or (b := false) (c := true) (tb_not (b := true) fun Q2 kq => ⟨_, rfl, .ref p, .ty "tuple", _, _, _, rfl, .ty "tuple", it.tyx, isi_th (.inl rfl), _, rfl, kq _ (Same.refl _)⟩) (fun H2 s2 _ => tb_or (b := true) (c := true) (fun Q2 kq => ⟨_, rfl, p, _, rfl, .inr (SqT.of (s2 _ _ hp)), rfl, _, rfl, ?_⟩) (fun _ _ h => by cases h))) fun H1 s1 => iteT (rz s1 (by rfl) rfl)
        rw [hl2]
        exact kq _ (Same.refl _)
      | cons x r =>
        obtain ⟨p, us, rfl, hp, hl2, hi⟩ := it.tup_inv
        cases us with
        | nil => cases hl2
        | cons u us =>
          have i0 := hi 0 x u rfl rfl
          cases x with
          | str h =>
            obtain rfl := i0.str_inv
            refine seqIf (tb_or (b := false) (c := (false || !true)) (tb_not (b := true) fun Q2 kq => ⟨_, rfl, .ref p, .ty "tuple", _, _, _, rfl, .ty "tuple", it.tyx, isi_th (.inl rfl), _, rfl, kq _ (Same.refl _)⟩) (fun H2 s2 _ => tb_or (b := false) (c := !true) (fun Q2 kq => ⟨_, rfl, p, _, rfl, .inr (SqT.of (s2 _ _ hp)), rfl, _, rfl, (by
              rw [decide_eq_false (fun z => by
                rw [V.int.injEq, List.length_cons] at z
                omega)]
              exact kq _ (Same.refl _))⟩) (fun H3 s3 _ => tb_not (b := true) fun Q2 kq => ⟨_, rfl, p, _, _, _, rfl, rfl, SqT.of (s3 _ _ (s2 _ _ hp)), at_of (j := 0) rfl rfl, _, .ty "str", _, _, _, rfl, .ty "str", (i0.same (s2.trans s3)).tyx, isi_th (.inr rfl), _, rfl, (by rw [show decide (_ = ("str" : String)) = true from (by show decide (("str" : String) = "str") = true; decide)]; exact kq _ (Same.refl _))⟩))) fun H1 s1 => iteF (nxt ?_)
            try dsimp only
            refine ⟨_, rfl, p, _, _, _, rfl, rfl, SqT.of (s1 _ _ hp), at_of (j := 0) rfl rfl, (by show 3 ≤ sizeLine; decide), fun q1 hq1 => ⟨_, q1, ["word", "name", "unknown"], rfl, rfl, SqT.of upd_same, _, rfl, ?_⟩⟩
            have s2 := s1.trans (Rd.Same.upd (o := .tup [.str "word", .str "name", .str "unknown"]) hq1)
            generalize upd H1 q1 (.tup [.str "word", .str "name", .str "unknown"]) = H2 at s2 ⊢
            have shr : r.length + 1 ≤ 1000 := by
              cases n with
              | zero => exact sh
              | succ n => exact sh.1
            by_cases hk : h ∈ kindL
            · refine iteP (decide_eq_true hk) ?_
              refine ⟨_, rfl, .ref p, q0, h, r, rfl, it.same s2, hk, (fun x e => ?_), fun H3 s3 => ⟨_, rfl, ?_⟩⟩
              · cases n with
                | zero => cases le
                | succ n =>
                  subst e
                  have z := sh.2 (.str x) (List.mem_cons_of_mem _ List.mem_cons_self)
                  cases n <;> exact z
              · have e : flt (n + 1) (.tup (.str h :: r)) = if atOk h r = true then none else some [] := by rw [flt, if_pos hk]
                cases ha : atOk h r with
                | true =>
                  rw [if_pos ha] at e
                  exact iteF (nxt (k1 e H3 (s2.trans s3)))
                | false =>
                  rw [if_neg (by rw [ha]; decide)] at e
                  exact iteT (rz (s2.trans s3) e rfl)
            · refine iteN (fun z => hk (of_decide_eq_true z)) ?_
              cases hm : sgv.lookup h with
              | none =>
                have e : flt (n + 1) (.tup (.str h :: r)) = some [] := by
                  rw [flt, if_neg hk, hm]
                have nin : h ∉ sgv.map (·.1) := fun z => by
                  have : ∀ y ∈ sgv.map (·.1), sgv.lookup y ≠ none := by decide +kernel
                  exact this h z hm
                refine oneIf (b := true) (tb_or (b := true) (c := true) (fun Q2 kq => ⟨_, rfl, p, _, _, _, rfl, rfl, SqT.of (s2 _ _ hp), at_of (j := 0) rfl rfl, _, rfl, rfl, _, rfl, ?_⟩) (fun _ _ z => by cases z)) fun H3 s3 => iteT (rz (s2.trans s3) e rfl)
                rw [show decide (h ∈ ([("pair", 2), ("seal", 2), ("lock", 2), ("mark", 1), ("open", 1), ("own", 1)] : List (Str × Int)).map (·.1)) = false from decide_eq_false nin]
                exact kq _ (Same.refl _)
              | some m =>
                have mem := look_mem hm
                have hin : h ∈ sgv.map (·.1) := List.mem_map.mpr ⟨_, mem, rfl⟩
                refine oneIf (b := (false || decide ((r.length : Int) ≠ m))) (tb_or (b := false) (c := decide ((r.length : Int) ≠ m)) (fun Q2 kq => ⟨_, rfl, p, _, _, _, rfl, rfl, SqT.of (s2 _ _ hp), at_of (j := 0) rfl rfl, _, rfl, rfl, _, rfl, ?_⟩) (fun H3 s3 _ Q2 kq => ⟨_, rfl, p, _, rfl, .inr (SqT.of (s3 _ _ (s2 _ _ hp))), _, rfl, p, _, _, _, rfl, rfl, SqT.of (s3 _ _ (s2 _ _ hp)), at_of (j := 0) rfl rfl, (h, m), mem, rfl, rfl, _, _, rfl, rfl, rfl, _, rfl, ?_⟩)) fun H3 s3 => ?_
                · rw [show decide (h ∈ ([("pair", 2), ("seal", 2), ("lock", 2), ("mark", 1), ("open", 1), ("own", 1)] : List (Str × Int)).map (·.1)) = true from decide_eq_true hin]
                  exact kq _ (Same.refl _)
                · have e : (!decide (V.int ((V.str h :: us).length : Int) = V.int (m + 1))) = decide ((r.length : Int) ≠ m) := by
                    have hl3 : us.length = r.length := Nat.succ.inj hl2
                    rw [List.length_cons, hl3]
                    by_cases z : (r.length : Int) = m
                    · rw [decide_eq_true (show V.int ((r.length + 1 : Nat) : Int) = V.int (m + 1) by rw [← z]; rfl)]
                      simp [z]
                    · rw [decide_eq_false (show ¬ V.int ((r.length + 1 : Nat) : Int) = V.int (m + 1) from fun y => z (by rw [V.int.injEq] at y; omega))]
                      simp [z]
                  show Q2 (!decide (V.int ((V.str h :: us).length : Int) = V.int (m + 1))) H3
                  rw [e]
                  exact kq _ (Same.refl _)
                rw [Bool.false_or]
                have hl3 : us.length = r.length := Nat.succ.inj hl2
                have s23 := s2.trans s3
                by_cases hlen : (r.length : Int) ≠ m
                · refine iteP (decide_eq_true hlen) (rz s23 ?_ rfl)
                  rw [flt, if_neg hk, hm]
                  show (if _ then _ else _) = _
                  rw [if_pos hlen]
                · refine iteN (fun z => hlen (of_decide_eq_true z)) ?_
                  obtain ⟨ef1, ef0⟩ := flt_sg (n := n) hk hm hlen
                  cases n with
                  | zero => cases le
                  | succ n =>
                    refine ⟨_, rfl, p, _, rfl, .inr (SqT.of (s23 _ _ hp)), _, _, rfl, ⟨(by decide), (by decide), (by rw [List.length_cons]; omega), (by rw [List.length_cons]; omega)⟩, for_range (lo := 1) (fun i σ Hc => Same H Hc ∧ (∀ (j : Nat) t, j < i → r[j]? = some t → flt (n + 1) t = none) ∧ ∃ t2, σ = [some (.ref p), some (.ref q), t2]) ⟨s23, (fun j t hj => by omega), _, rfl⟩ ?_ ?_⟩
                    · rintro i σ Hc hi2 ⟨sc, hno, t2, rfl⟩
                      refine gName_k ?_
                      try dsimp only
                      have hi3 : i < r.length := by
                        rw [List.length_cons] at hi2
                        omega
                      have hr1 : r[i]? = some r[i] := List.getElem?_eq_getElem hi3
                      have hu1 : us[i]? = some us[i] := List.getElem?_eq_getElem (by omega)
                      have iu := (hi (i + 1) r[i] us[i] hr1 hu1).same sc
                      have hle : r[i].le n := le r[i] (List.mem_cons_of_mem _ (List.getElem_mem hi3))
                      have hsh : r[i].short n := sh.2 r[i] (List.mem_cons_of_mem _ (List.getElem_mem hi3))
                      have fin : ∀ {q2 : Addr} {H4 : Hp}, Same H H4 → SqT K H4 q2 ((pth ++ [1 + (i : Int)]).map V.int) → sp_chk K n [us[i], .ref q2] H4 (fun _ H5 => Same H H5 ∧ (∀ (j : Nat) t, j < i + 1 → r[j]? = some t → flt (n + 1) t = none) ∧ ∃ t2, ([some (.ref p), some (.ref q), some (.int (1 + (i : Int)))] : St) = [some (.ref p), some (.ref q), t2]) E := fun {q2 H4} s4 hq2 => by
                        refine ⟨us[i], r[i], q0, q2, pth ++ [1 + (i : Int)], rfl, (hi (i + 1) r[i] us[i] hr1 hu1).same s4, hle, hsh, hq2, (by rw [List.length_append, List.length_singleton]; omega), fun e H5 s5 => ⟨s4.trans s5, fun j t hj ht => ?_, _, rfl⟩, fun rel e d r2 H5 s5 hd hr2 => ?_⟩
                        · by_cases hji : j < i
                          · exact hno j t hji ht
                          · have : j = i := by omega
                            subst this
                            rw [hr1] at ht
                            cases ht
                            exact e
                        · have e1 := ef1 _ (fltL_at (k := 1) hno hr1 e)
                          refine k0 _ e1 d r2 H5 (s4.trans s5) hd ?_
                          rw [List.append_assoc] at hr2
                          exact hr2
                      refine ⟨_, rfl, _, rfl, p, _, _, us[i], rfl, rfl, SqT.of (sc _ _ hp), (by rw [show (1 + (i : Int)) = ((i + 1 : Nat) : Int) by omega]; exact atI_nat hu1), ?_⟩
                      refine ⟨_, rfl, _, rfl, (by show 1 ≤ sizeLine; decide), fun q1 hq1 => ?_⟩
                      have s4 := sc.trans (Rd.Same.upd (o := .tup [.int (1 + (i : Int))]) hq1)
                      refine ⟨q, q1, _, _, rfl, rfl, SqT.kept hq s4, SqT.of upd_same, (by rw [List.length_map, List.length_singleton]; have : 1000 ≤ sizeLine := by decide
                                                                                          omega), fun e => fin s4 ?_, (fun _ e => by cases e), fun _ _ q2 hq2 => fin (s4.trans (Rd.Same.upd hq2)) ?_⟩
                      · have e : pth = [] := List.map_eq_nil_iff.mp e
                        subst e
                        exact SqT.of upd_same
                      · rw [List.map_append]
                        exact SqT.of upd_same
                    · rintro σ Hc ⟨sc, hno, t2, rfl⟩
                      have hall : ∀ (j : Nat) t, r[j]? = some t → flt (n + 1) t = none := fun j t ht => by
                        have := (List.getElem?_eq_some_iff.mp ht).1
                        exact hno j t (by rw [List.length_cons]; omega) ht
                      have ef2 := ef0 (fltL_none hall)
                      have hpc := sc _ _ hp
                      try dsimp only
                      by_cases hlk : h = "lock"
                      · subst hlk
                        have em : m = 2 := by
                          have z : sgv.lookup ("lock" : Str) = some 2 := by decide +kernel
                          rw [z] at hm
                          exact (Option.some.inj hm).symm
                        subst em
                        have hr2 : r.length = 2 := by omega
                        obtain ⟨x1, x2, rfl⟩ : ∃ x1 x2, r = [x1, x2] := by
                          match r, hr2 with
                          | [x1, x2], _ => exact ⟨x1, x2, rfl⟩
                        obtain ⟨u1, u2, rfl⟩ : ∃ u1 u2, us = [u1, u2] := by
                          match us, hl3 with
                          | [u1, u2], _ => exact ⟨u1, u2, rfl⟩
                        · skip
                          obtain ⟨h2, r2, rfl⟩ := flt_hd (hall 1 x2 rfl)
                          obtain ⟨p2, us2, rfl, hp2, hl4, hi4⟩ := ((hi 2 _ u2 rfl rfl).same sc).tup_inv
                          cases us2 with
                          | nil => cases hl4
                          | cons u3 us2 =>
                            obtain rfl := (hi4 0 (.str h2) u3 rfl rfl).str_inv
                            refine oneIf (b := (true && !decide (h2 ∈ (["open", "own"] : List Str)))) (tb_and (b := true) (c := !decide (h2 ∈ (["open", "own"] : List Str))) (fun Q2 kq => ⟨_, rfl, p, _, _, _, rfl, rfl, SqT.of hpc, at_of (j := 0) rfl rfl, rfl, _, rfl, kq _ (Same.refl _)⟩) (fun H3 s3 _ Q2 kq => ⟨_, rfl, p, _, _, _, rfl, rfl, SqT.of (s3 _ _ hpc), at_of (j := 2) rfl rfl, p2, _, _, _, rfl, rfl, SqT.of (s3 _ _ hp2), at_of (j := 0) rfl rfl, (by show 2 ≤ sizeLine; decide), fun q3 hq3 => ⟨_, q3, ["open", "own"], rfl, rfl, SqT.of upd_same, _, rfl, kq _ (Rd.Same.upd hq3)⟩⟩)) fun H3 s3 => ?_
                            have ek : keyTh [x1, .tup (.str h2 :: r2)] = decide (h2 ∈ (["open", "own"] : List Str)) := rfl
                            rw [← ek]
                            cases hky : keyTh [x1, .tup (.str h2 :: r2)] with
                            | true =>
                              rw [if_neg (fun z => by rw [hky] at z; cases z.2)] at ef2
                              exact iteF (nxt (k1 ef2 H3 (sc.trans s3)))
                            | false =>
                              rw [if_pos ⟨rfl, hky⟩] at ef2
                              exact iteT (rz (sc.trans s3) ef2 rfl)
                      · rw [if_neg (fun z => hlk z.1)] at ef2
                        refine oneIf (b := false) (tb_and (b := false) (c := false) (fun Q2 kq => ⟨_, rfl, p, _, _, _, rfl, rfl, SqT.of hpc, at_of (j := 0) rfl rfl, rfl, _, rfl, ?_⟩) (fun _ _ z => by cases z)) fun H3 s3 => iteF (nxt (k1 ef2 H3 (sc.trans s3)))
                        rw [decide_eq_false (fun z => hlk (by cases z; rfl))]
                        exact kq _ (Same.refl _)
          | non => exact seqIf (tb_or (b := false) (c := (false || !false)) (tb_not (b := true) fun Q2 kq => ⟨_, rfl, .ref p, .ty "tuple", _, _, _, rfl, .ty "tuple", it.tyx, isi_th (.inl rfl), _, rfl, kq _ (Same.refl _)⟩) (fun H2 s2 _ => tb_or (b := false) (c := !false) (fun Q2 kq => ⟨_, rfl, p, _, rfl, .inr (SqT.of (s2 _ _ hp)), rfl, _, rfl, (by
              rw [decide_eq_false (fun z => by
                rw [V.int.injEq, List.length_cons] at z
                omega)]
              exact kq _ (Same.refl _))⟩) (fun H3 s3 _ => tb_not (b := false) fun Q2 kq => ⟨_, rfl, p, _, _, _, rfl, rfl, SqT.of (s3 _ _ (s2 _ _ hp)), at_of (j := 0) rfl rfl, _, .ty "str", _, _, _, rfl, .ty "str", (i0.same (s2.trans s3)).tyx, isi_th (.inr rfl), _, rfl, (by rw [show decide (_ = ("str" : String)) = false from (by show decide (("NoneType" : String) = "str") = false; decide)]; exact kq _ (Same.refl _))⟩))) fun H1 s1 => iteT (rz s1 (by rfl) rfl)
          | int m => exact seqIf (tb_or (b := false) (c := (false || !false)) (tb_not (b := true) fun Q2 kq => ⟨_, rfl, .ref p, .ty "tuple", _, _, _, rfl, .ty "tuple", it.tyx, isi_th (.inl rfl), _, rfl, kq _ (Same.refl _)⟩) (fun H2 s2 _ => tb_or (b := false) (c := !false) (fun Q2 kq => ⟨_, rfl, p, _, rfl, .inr (SqT.of (s2 _ _ hp)), rfl, _, rfl, (by
              rw [decide_eq_false (fun z => by
                rw [V.int.injEq, List.length_cons] at z
                omega)]
              exact kq _ (Same.refl _))⟩) (fun H3 s3 _ => tb_not (b := false) fun Q2 kq => ⟨_, rfl, p, _, _, _, rfl, rfl, SqT.of (s3 _ _ (s2 _ _ hp)), at_of (j := 0) rfl rfl, _, .ty "str", _, _, _, rfl, .ty "str", (i0.same (s2.trans s3)).tyx, isi_th (.inr rfl), _, rfl, (by rw [show decide (_ = ("str" : String)) = false from (by show decide (("int" : String) = "str") = false; decide)]; exact kq _ (Same.refl _))⟩))) fun H1 s1 => iteT (rz s1 (by rfl) rfl)
          | tup m => exact seqIf (tb_or (b := false) (c := (false || !false)) (tb_not (b := true) fun Q2 kq => ⟨_, rfl, .ref p, .ty "tuple", _, _, _, rfl, .ty "tuple", it.tyx, isi_th (.inl rfl), _, rfl, kq _ (Same.refl _)⟩) (fun H2 s2 _ => tb_or (b := false) (c := !false) (fun Q2 kq => ⟨_, rfl, p, _, rfl, .inr (SqT.of (s2 _ _ hp)), rfl, _, rfl, (by
              rw [decide_eq_false (fun z => by
                rw [V.int.injEq, List.length_cons] at z
                omega)]
              exact kq _ (Same.refl _))⟩) (fun H3 s3 _ => tb_not (b := false) fun Q2 kq => ⟨_, rfl, p, _, _, _, rfl, rfl, SqT.of (s3 _ _ (s2 _ _ hp)), at_of (j := 0) rfl rfl, _, .ty "str", _, _, _, rfl, .ty "str", (i0.same (s2.trans s3)).tyx, isi_th (.inr rfl), _, rfl, (by rw [show decide (_ = ("str" : String)) = false from (by show decide (("tuple" : String) = "str") = false; decide)]; exact kq _ (Same.refl _))⟩))) fun H1 s1 => iteT (rz s1 (by rfl) rfl)
          | lst m => exact seqIf (tb_or (b := false) (c := (false || !false)) (tb_not (b := true) fun Q2 kq => ⟨_, rfl, .ref p, .ty "tuple", _, _, _, rfl, .ty "tuple", it.tyx, isi_th (.inl rfl), _, rfl, kq _ (Same.refl _)⟩) (fun H2 s2 _ => tb_or (b := false) (c := !false) (fun Q2 kq => ⟨_, rfl, p, _, rfl, .inr (SqT.of (s2 _ _ hp)), rfl, _, rfl, (by
              rw [decide_eq_false (fun z => by
                rw [V.int.injEq, List.length_cons] at z
                omega)]
              exact kq _ (Same.refl _))⟩) (fun H3 s3 _ => tb_not (b := false) fun Q2 kq => ⟨_, rfl, p, _, _, _, rfl, rfl, SqT.of (s3 _ _ (s2 _ _ hp)), at_of (j := 0) rfl rfl, _, .ty "str", _, _, _, rfl, .ty "str", (i0.same (s2.trans s3)).tyx, isi_th (.inr rfl), _, rfl, (by rw [show decide (_ = ("str" : String)) = false from (by show decide (("list" : String) = "str") = false; decide)]; exact kq _ (Same.refl _))⟩))) fun H1 s1 => iteT (rz s1 (by rfl) rfl)
    | _ =>
      refine seqIf (b := true) (tb_or (b := true) (c := true) (tb_not (b := false) fun Q2 kq => ⟨_, rfl, v, .ty "tuple", _, _, _, rfl, .ty "tuple", it.tyx, isi_th (.inl rfl), _, rfl, kq _ (Same.refl _)⟩) (fun _ _ h => by cases h)) fun H1 s1 => iteT (rz s1 (by rfl) rfl)
theorem chk_none (T : Tx w K mg) : Fk P w K mg base (L2N.CX P w) 1 "check_form" ["form", "path"] (spCR K 0) := by
  refine T.F_check_form.ok sc_check_form (fun _ _ _ _ _ _ us hl => match us, hl with | [_, _], _ => rfl) (fun vs H Q E h => h.elim) (fun cdv A outer s H vs Q E hr h => h.elim)
theorem ok_check_form (T : Tx w K mg) : ∀ n : Nat, Fk P w K mg base (L2N.CX P w) (n + 5) "check_form" ["form", "path"] (sp_chk K n)
  | 0 => chk_step T 0 ((chk_none T).mono (by decide))
  | n + 1 => chk_step T (n + 1) (ok_check_form T n)
/-- Letter.of(form) -/
def sp_of (K : PySem.W.Frag) (n : Nat) : Sp := fun vs H Q E => ∃ (v : V) (t : Th) (q0 : Addr), vs = [v] ∧ IsTh q0 H t v ∧ t.le n ∧ t.short n ∧ n ≤ 100 ∧
  (flt (n + 1) t = none → ∀ x H', Same H H' → IsL K H' x v → Q (.ref x) H') ∧
  ∀ rel, flt (n + 1) t = some rel → ∀ d r H', Same H H' → H' d = some (.xd [("path", .ref r)]) → SqT K H' r (rel.map V.int) → E (.ref (He.ga K "BadForm")) (some d) H'
abbrev s_Letter_of : Stmt := inClass (top 26) 1
theorem sc_Letter_of : FnScope ["form"] ["form"] (defScope s_Letter_of) := ⟨rfl, rfl, rfl, by decide +kernel, rfl, by decide +kernel, by decide +kernel⟩
theorem ok_of (T : Tx w K mg) (d : Nat) : Fs P w K mg base (L2N.CX P w) (d + 6) "Letter" "of" "Letter.of" (inClass (top 26) 1) ["form"] (sp_of K d) := by
  refine T.S_Letter_of.ok sc_Letter_of (fun _ _ _ _ _ _ us hl => match us, hl with | [_], _ => rfl)
    (fun vs H Q E h => ?_) (fun cdv A outer s H vs Q E hr h => ?_)
  · obtain ⟨v, t, q0, rfl, _⟩ := h
    rfl
  · obtain ⟨v, t, q0, rfl, it, le, sh, hn, k1, k0⟩ := h
    refine ⟨_, (pss_cons (ps_expr (pe_fk (ok_check_form T d) (hr.mono (by omega)) rfl (L2N.passes_call (L2N.takes_of rfl rfl rfl rfl) (fun _ _ _ _ h => h)) (pa_cons (pv 0) (pa_cons (pe_tup pa_nil) pa_nil))))
  (pss_one (ps_ret (pe_mk2 (ok_Letter T) (hr.mono (by omega)) (by rfl) passN (pa_cons pe_str (pa_cons (pv 0) pa_nil)))))), ?_⟩
    refine ⟨_, rfl, (by show 0 ≤ sizeLine; decide), fun q hq => ?_⟩
    have s1 := Rd.Same.upd (o := .tup []) hq
    refine ⟨v, t, q0, q, [], rfl, it.same s1, le, sh, SqT.of upd_same, (by show 0 + d ≤ 100; omega), fun e H2 s2 => ?_, fun rel e dd r H2 s2 hd hr2 => k0 rel e dd r H2 (s1.trans s2) hd hr2⟩
    obtain ⟨s0, r0, rfl⟩ := flt_hd e
    obtain ⟨p, us, rfl, hp, _⟩ := it.tup_inv
    exact ⟨_, rfl, rd_mkL ((s1.trans s2) _ _ hp) fun x H' s' hl' => k1 e x H' ((s1.trans s2).trans s') hl'⟩
end
end Rd
namespace Rd
open PySem L2
section
variable {P : Program} {w : World} {K : PySem.W.Frag} {mg : Str → Option Value} {base : Heap}
theorem bls_of {vs : List V} {b : Bool} (h : ∀ (i : Nat) v, vs[i]? = some v → v = .bl b) : vs = (List.replicate vs.length b).map V.bl := by
  refine List.ext_getElem? fun i => ?_
  rw [List.getElem?_map]
  by_cases hi : i < vs.length
  · rw [List.getElem?_eq_getElem hi, h i _ (List.getElem?_eq_getElem hi), List.getElem?_replicate, if_pos hi]
    rfl
  · rw [List.getElem?_eq_none (by omega), List.getElem?_replicate, if_neg hi]
    rfl
theorem Wf.short {t : Tr} (w : Wf t) : ∀ n, t.dep + 1 ≤ n → t.th.short n := by
  have kd : ∀ {k x : Str}, kindOk k x → k.length ≤ 200000 ∧ x.length ≤ 200000 := fun {k x} h => by
    rcases h with ⟨rfl, h⟩ | ⟨rfl, h⟩ | ⟨rfl, h⟩
    · exact ⟨by decide, by have := (word_len h).2.1; omega⟩
    · exact ⟨by decide, by have := (name_len h).1; omega⟩
    · exact ⟨by decide, by have := (unk_len h).1; omega⟩
  have st : ∀ {n : Nat} {s : Str}, s.length ≤ 200000 → (Th.str s).short n := fun {n s} h => by cases n <;> exact h
  have sg : ∀ {s : Str} {l : List Str}, s ∈ l → l.all (fun z => decide (z.length ≤ 200000)) = true → s.length ≤ 200000 := fun {s l} h e => of_decide_eq_true (List.all_eq_true.mp e s h)
  induction w with
  | @am k x ko =>
    intro n h
    cases n with
    | zero => omega
    | succ n =>
      refine ⟨(by show 2 ≤ 1000; decide), fun u hu => ?_⟩
      rcases List.mem_cons.mp hu with rfl | hu
      · exact st (kd ko).1
      · rw [List.mem_singleton.mp hu]
        exact st (kd ko).2
  | @un s a hs _ ih =>
    intro n h
    have h : a.dep + 1 + 1 ≤ n := h
    cases n with
    | zero => omega
    | succ n =>
      refine ⟨(by show 2 ≤ 1000; decide), fun u hu => ?_⟩
      rcases List.mem_cons.mp hu with rfl | hu
      · exact st (sg hs (by decide))
      · rw [List.mem_singleton.mp hu]
        exact ih n (by omega)
  | @bi s a b hs _ _ iha ihb =>
    intro n h
    have h : max a.dep b.dep + 1 + 1 ≤ n := h
    cases n with
    | zero => omega
    | succ n =>
      refine ⟨(by show 3 ≤ 1000; decide), fun u hu => ?_⟩
      rcases List.mem_cons.mp hu with rfl | hu
      · exact st (sg hs (by decide))
      rcases List.mem_cons.mp hu with rfl | hu
      · exact iha n (by omega)
      · rw [List.mem_singleton.mp hu]
        exact ihb n (by omega)
  | @lk s a b hs _ _ iha ihb =>
    intro n h
    have h : max a.dep (b.dep + 1) + 1 + 1 ≤ n := h
    cases n with
    | zero => omega
    | succ n =>
      refine ⟨(by show 3 ≤ 1000; decide), fun u hu => ?_⟩
      rcases List.mem_cons.mp hu with rfl | hu
      · exact st (by decide)
      rcases List.mem_cons.mp hu with rfl | hu
      · exact iha n (by omega)
      · rw [List.mem_singleton.mp hu]
        cases n with
        | zero => omega
        | succ n =>
          refine ⟨(by show 2 ≤ 1000; decide), fun u hu => ?_⟩
          rcases List.mem_cons.mp hu with rfl | hu
          · exact st (sg hs (by decide))
          · rw [List.mem_singleton.mp hu]
            exact ihb n (by omega)
end
end Rd
namespace Rd
open PySem L2
theorem pe_new {X : Cx} {CX : CXT} {k : Nat} {c : Str} {ps : List Str} {sp : Sp} {e : Expr} {es : List Expr} {t : TA} {p pos : Pos} {E : XK} (M : Mk X.K (He.ga X.K c) (He.ma X.K (He.ga X.K c) "__init__")) (g : X.mg c = some (.ref (He.ga X.K c))) (F : Fm X.prog X.w X.K X.mg X.base CX k c "__init__" ps sp) (hr : Room (k + 1) X.A) (hg : Gl X c) (hx : Passes CX X E) (ha : PA X (e :: es) t)
    (hdb : (c == ("__debug__" : Str)) = false := by decide) (he : starEach (e :: es) X.env = (false, eval e X.env) :: starEach es X.env := by rfl) (hpl : (backTo pos (starEach es X.env)).any (·.1) = false := by rfl) :
    PE X (.Call (.Name c p) (e :: es) [] pos) (tMake (He.ga X.K c) sp [] E t) := by
  obtain ⟨⟨fd, a, b⟩, me⟩ := F
  exact pe_make M a hr hg g b .nil hx ha hdb he hpl
section
variable {X : Cx} {CX : CXT} {k : Nat} {ps : List Str} {sp : Sp} {E : XK} {c : Str} {p pos : Pos} {e : Expr} {es : List Expr} {t : TA} {v : V} {K : PySem.W.Frag}
theorem pe_mk2k (hK : X.K = K) (F : Fi X.prog X.w X.K X.mg X.base CX k c ps sp v) (hr : Room (k + 1) X.A) (hg : Gl X c) (hx : Passes CX X E)
    (ha : PA X (e :: es) t) (hdb : (c == ("__debug__" : Str)) = false := by decide) (he : starEach (e :: es) X.env = (false, eval e X.env) :: starEach es X.env := by rfl) (hpl : (backTo pos (starEach es X.env)).any (·.1) = false := by rfl) :
    PE X (.Call (.Name c p) (e :: es) [] pos) (tMake (He.ga K c) sp [] E t) := by subst hK; exact pe_mk2 F hr hg hx ha hdb he hpl
end
/-- a list of letters -/
structure LsAt (K : PySem.W.Frag) (H : Hp) (ts : List Tr) (vs : List V) : Prop where
  len : vs.length = ts.length
  get : ∀ (i : Nat) t v, ts[i]? = some t → vs[i]? = some v → IsLet K H t v
theorem LsAt.mono {K : PySem.W.Frag} {H H' : Hp} {ts : List Tr} {vs : List V} (k : Kp (He.ga K "Letter") H H') (h : LsAt K H ts vs) : LsAt K H' ts vs := ⟨h.len, fun i t v h1 h2 => (h.get i t v h1 h2).mono k⟩
theorem LsAt.same {K : PySem.W.Frag} {H H' : Hp} {ts : List Tr} {vs : List V} (s : Same H H') (h : LsAt K H ts vs) : LsAt K H' ts vs := h.mono (Kp.of_same s)
theorem LsAt.one {K : PySem.W.Frag} {H : Hp} {t : Tr} {v : V} (h : IsLet K H t v) : LsAt K H [t] [v] := ⟨rfl, fun i t' v' h1 h2 => by
  cases i with
  | zero => cases h1; cases h2; exact h
  | succ i => cases i <;> cases h1⟩
theorem LsAt.app {K : PySem.W.Frag} {H : Hp} {ts us : List Tr} {vs ws : List V} (h : LsAt K H ts vs) (g : LsAt K H us ws) : LsAt K H (ts ++ us) (vs ++ ws) := ⟨by rw [List.length_append, List.length_append, h.len, g.len], fun i t v h1 h2 => by
  by_cases hi : i < ts.length
  · rw [List.getElem?_append_left hi] at h1
    rw [List.getElem?_append_left (by rw [h.len]; exact hi)] at h2
    exact h.get i t v h1 h2
  · rw [List.getElem?_append_right (by omega)] at h1
    rw [List.getElem?_append_right (by rw [h.len]; omega), h.len] at h2
    exact g.get _ t v h1 h2⟩
theorem LsAt.of {K : PySem.W.Frag} {H : Hp} {ts : List Tr} {vs : List V} (hl : vs.length = ts.length) (h : ∀ (i : Nat) v, vs[i]? = some v → ∃ t, ts[i]? = some t ∧ IsLet K H t v) : LsAt K H ts vs := ⟨hl, fun i t v h1 h2 => by
  obtain ⟨t', e, q⟩ := h i v h2
  rw [h1] at e
  cases e
  exact q⟩
theorem TsAt.of {H : Hp} {ts : List Tr} {vs : List V} (hl : vs.length = ts.length) (h : ∀ (i : Nat) v, vs[i]? = some v → ∃ t, ts[i]? = some t ∧ IsT H t v) : TsAt H ts vs := ⟨hl, fun i t v h1 h2 => by
  obtain ⟨t', e, q⟩ := h i v h2
  rw [h1] at e
  cases e
  exact q⟩
/-- the heap at h holds the forms ts -/
def IsHp (K : PySem.W.Frag) (H : Hp) (h : Addr) (ts : List Tr) : Prop := ∃ dx q ws, H h = some (.ins (He.ga K "Heap") dx [("trees", .ref q)]) ∧ H q = some (.lst ws) ∧ TsAt H ts ws
theorem IsHp.same {K : PySem.W.Frag} {H H' : Hp} {h : Addr} {ts : List Tr} (s : Same H H') (x : IsHp K H h ts) : IsHp K H' h ts := by
  obtain ⟨dx, q, ws, a, b, c⟩ := x
  exact ⟨dx, q, ws, s _ _ a, s _ _ b, c.same s⟩
theorem lookTr (v : V) : ([("trees", v)] : List (Str × V)).lookup ("trees" : Str) = some v := by simp [List.lookup]
theorem lookTn {m : Str} {v : V} (h : (m == ("trees" : Str)) = false) : ([("trees", v)] : List (Str × V)).lookup m = none := by simp [List.lookup, h]
def plainT (t : Tr) : Prop := t.txt "unknown" = []
def sp_isPlain (K : PySem.W.Frag) (d : Nat) : Sp := fun vs H Q _ => ∃ (a : Addr) (v : V) (t : Tr), vs = [.ref a] ∧ IsL K H a v ∧ IsT H t v ∧ Wf t ∧ t.dep ≤ d ∧ d ≤ 10 ∧ plainT t ∧ ∀ H', Same H H' → Q (.bl true) H'
def sp_chkPlain (K : PySem.W.Frag) (d : Nat) : Sp := fun vs H Q _ => ∃ (a : Addr) (v i : V) (t : Tr), vs = [.ref a, i] ∧ IsL K H a v ∧ IsT H t v ∧ Wf t ∧ t.dep ≤ d ∧ d ≤ 10 ∧ plainT t ∧ ∀ H', Same H H' → Q .non H'
def okTs (d : Nat) (ts : List Tr) : Prop := ts.length ≤ 1000 ∧ ∀ t ∈ ts, Wf t ∧ t.dep ≤ d ∧ plainT t
def sp_Hinit (K : PySem.W.Frag) (d : Nat) : Sp := fun vs H Q _ => ∃ (x dx a : Addr) (ws : List V) (ts : List Tr), vs = [.ref x, .ref a] ∧ H x = some (.ins (He.ga K "Heap") dx []) ∧ H a = some (.lst ws) ∧ LsAt K H ts ws ∧ okTs d ts ∧ d ≤ 10 ∧
  ∀ q us H', But x H H' → H q = none → H' x = some (.ins (He.ga K "Heap") dx [("trees", .ref q)]) → H' q = some (.lst us) → TsAt H' ts us → Q .non H'
def sp_letters (K : PySem.W.Frag) : Sp := fun vs H Q _ => ∃ (h : Addr) (ts : List Tr), vs = [.ref h] ∧ IsHp K H h ts ∧ ts.length ≤ 1000 ∧ ∀ q us H', Same H H' → H q = none → H' q = some (.lst us) → LsAt K H' ts us → Q (.ref q) H'
def bigTs (d : Nat) (ts : List Tr) : Prop := ∃ S, (∀ t ∈ ts, Wf t ∧ t.dep ≤ d ∧ t.all.length ≤ S) ∧ 2 * ((allOf ts).length * S) ≤ 100000 ∧ (allOf ts).length ≤ 50000
/-- Heap(letters) behind its argument -/
theorem rd_mkH {K : PySem.W.Frag} {H1 : Hp} {a : Addr} {ws : List V} {ts : List Tr} {d : Nat} {Q : VK} {E : XK} (ha : H1 a = some (.lst ws)) (hl : LsAt K H1 ts ws) (ok : okTs d ts) (hd : d ≤ 10)
    (k : ∀ h H', Same H1 H' → IsHp K H' h ts → Q (.ref h) H') :
    ∀ x dx, H1 x = none → H1 dx = none → dx ≠ x → sp_Hinit K d (.ref x :: ([.ref a] ++ [])) (upd (upd H1 dx (.own x)) x (.ins (He.ga K "Heap") dx [])) (fun v H2 => v = .non ∧ Q (.ref x) H2) E := fun x dx nx ndx ne => by
  have s0 : Same H1 (upd (upd H1 dx (.own x)) x (.ins (He.ga K "Heap") dx [])) := fun b o e => by
    rw [upd_ne (ne_of_none e nx), upd_ne (ne_of_none e ndx)]
    exact e
  exact ⟨x, dx, a, ws, ts, rfl, upd_same, s0 _ _ ha, hl.same s0, ok, hd, fun q us H' b nq hx hq ht => ⟨rfl, k x H' (fun c o e => b c o (ne_of_none e nx) (s0 _ _ e)) ⟨dx, q, us, hx, hq, ht⟩⟩⟩
section
variable {P : Program} {w : World} {K : PySem.W.Frag} {mg : Str → Option Value} {base : Heap}
abbrev s_is_plain : Stmt := top 27
theorem sc_is_plain : FnScope ["letter"] ["letter"] (defScope s_is_plain) := ⟨rfl, rfl, rfl, by decide +kernel, rfl, by decide +kernel, by decide +kernel⟩
theorem ok_is_plain (T : Tx w K mg) (d : Nat) : Fk P w K mg base CX0 (d + 5) "is_plain" ["letter"] (sp_isPlain K d) := by
  refine T.F_is_plain.ok0 sc_is_plain (fun _ _ _ _ _ _ us hl => match us, hl with | [_], _ => rfl)
    (fun vs H Q E h => ?_) (fun cdv A outer s H vs Q E hr h => ?_)
  · obtain ⟨a, v, t, rfl, _⟩ := h
    rfl
  · obtain ⟨a, v, t, rfl, ⟨dx, ha⟩, it, wf, dp, d10, hp, k⟩ := h
    refine ⟨_, (pss_one (ps_ret (pe_cmpR (op_eqD hr.units) (pe_fm0 (pv 0) T.k_Letter (ok_unknowns T d) (hr.mono (by omega)) pass0) (pe_lst pa_nil) (nomark _)))), ?_⟩
    refine ⟨_, rfl, a, dx, _, rfl, ha, lookT (by decide +kernel), a, v, t, rfl, ⟨dx, ha⟩, it, wf, dp, d10, fun p H1 s1 np hp1 => ?_⟩
    have hp : t.txt "unknown" = [] := hp
    rw [hp] at hp1
    refine ⟨Nat.zero_le _, fun q hq => ?_⟩
    have sq := Rd.Same.upd (o := .lst []) hq
    exact ⟨.list [], .list [], .lst (SqL.of (sq _ _ hp1)) .nil, .lst (SqL.of upd_same) .nil, rfl, rfl, k _ (s1.trans sq)⟩
abbrev s_check_plain : Stmt := top 47
theorem sc_check_plain : FnScope ["letter", "index"] ["letter", "index"] (defScope s_check_plain) := ⟨rfl, rfl, rfl, by decide +kernel, rfl, by decide +kernel, by decide +kernel⟩
theorem ok_check_plain (T : Tx w K mg) (d : Nat) : Fk P w K mg base CX0 (d + 6) "check_plain" ["letter", "index"] (sp_chkPlain K d) := by
  refine T.F_check_plain.ok0 sc_check_plain (fun _ _ _ _ _ _ us hl => match us, hl with | [_, _], _ => rfl)
    (fun vs H Q E h => ?_) (fun cdv A outer s H vs Q E hr h => ?_)
  · obtain ⟨a, v, i, t, rfl, _⟩ := h
    rfl
  · obtain ⟨a, v, i, t, rfl, hL, it, wf, dp, d10, hp, k⟩ := h
    refine ⟨_, (pss_one (ps_if (pt_not (pt_val (pe_fk (ok_is_plain T d) (hr.mono (by omega)) rfl pass0 (pa_cons (pv 0) pa_nil)))) pss_never pss_nil)), ?_⟩
    exact ⟨_, rfl, a, v, t, rfl, hL, it, wf, dp, d10, hp, fun H1 s1 => ⟨_, rfl, iteN (by decide) (k _ s1)⟩⟩
abbrev s_Heap_init : Stmt := inClass (top 48) 0
theorem sc_Heap_init : FnScope ["self", "letters", "index", "letter"] ["self", "letters"] (defScope s_Heap_init) := ⟨rfl, rfl, rfl, by decide +kernel, rfl, by decide +kernel, by decide +kernel⟩
theorem ok_Hinit (T : Tx w K mg) (d : Nat) : Fm P w K mg base CX0 (d + 7) "Heap" "__init__" ["self", "letters"] (sp_Hinit K d) := by
  refine T.M_Heap_init.ok0 sc_Heap_init (fun _ _ _ _ _ _ us hl => match us, hl with | [_, _], _ => rfl)
    (fun vs H Q E h => ?_) (fun cdv A outer s H vs Q E hr h => ?_)
  · obtain ⟨x, dx, a, ws, ts, rfl, _⟩ := h
    rfl
  · obtain ⟨x, dx, a, ws, ts, rfl, hx, ha, hl, ok, d10, k⟩ := h
    refine ⟨_, (pss_cons (ps_for PassesOwn.never rfl (pi_enum rfl T.z_enumerate (pa_cons (pv 1) pa_nil)) (pg_tup rfl (pgs_cons (pg_name (i := 2) sc_Heap_init.nd rfl (Or.inl rfl)) (pgs_cons (pg_name (i := 3) sc_Heap_init.nd rfl (Or.inl rfl)) pgs_nil)))
  (pss_one (ps_expr (pe_fk (ok_check_plain T d) (hr.mono (by omega)) rfl pass0 (pa_cons (pv 3) (pa_cons (pv 2) pa_nil))))))
  (pss_one (ps_fld (pv 0) (pe_lc (own := [("letter", 3)]) (g := gName 3) (tt := tYes) (by rfl) sc_Heap_init.nd (pi_list (pv 1)) (blkOk_by (own := [("letter", 3)]) (N := ["self", "letters", "index", "letter"]) (sc := defScope s_Heap_init) (by decide +kernel)) (fun _ _ _ _ _ => (pg_name (i := 3) sc_Heap_init.nd rfl (Or.inl rfl))) (fun _ _ _ _ _ => pts_nil) (fun _ _ _ _ _ => (pe_fldk (K := K) rfl (pv 3) rfl))) rfl))), ?_⟩
    have big : 16777216 ≤ sizeLine := by decide
    have hll := hl.len
    have hlo := ok.1
    refine ⟨_, rfl, a, ws, rfl, SqL.of ha, ?_⟩
    refine ⟨fun i m σ Hc => m = ws.length - i ∧ i ≤ ws.length ∧ (∃ t2 t3 : Option V, σ = [some (.ref x), some (.ref a), t2, t3]) ∧ Same H Hc, ⟨_, rfl, Nat.zero_le _, ⟨_, _, rfl⟩, Same.refl _⟩, ?_⟩
    rintro i m σ Hc ⟨rfl, hi, ⟨t2, t3, rfl⟩, sc⟩
    by_cases hlt : i < ws.length
    · refine .inr ⟨⟨ws, ws[i], SqL.of (sc _ _ ha), List.getElem?_eq_getElem hlt⟩, fun σ H' => (∃ t2 t3 : Option V, σ = [some (.ref x), some (.ref a), t2, t3]) ∧ Same H H', fun σ' H' h => ⟨ws.length - (i + 1), by omega, rfl, hlt, h⟩, ?_⟩
      rintro _ _ ⟨Tq, v, rfl, hT, rfl, gx⟩
      have ex := gx _ (SqL.of (sc _ _ ha))
      have ht : ts[i]? = some ts[i] := List.getElem?_eq_getElem (by omega)
      obtain ⟨w1, w2, w3⟩ := ok.2 _ (List.mem_of_getElem? ht)
      obtain ⟨b, u, rfl, hb, iu⟩ := hl.get i _ v ht ex
      have sT := sc.trans (Rd.Same.upd (o := .tup [.int (i : Nat), .ref b]) hT)
      refine ⟨Tq, [.int (i : Nat), .ref b], rfl, SqT.of upd_same, rfl, _, _, rfl, _, _, rfl, rfl, ?_⟩
      exact ⟨_, rfl, _, rfl, b, u, _, ts[i], rfl, hb.same sT, iu.same sT, w1, w2, d10, w3, fun H2 s2 => ⟨⟨_, _, rfl⟩, sT.trans s2⟩⟩
    · refine .inl ⟨⟨ws, SqL.of (sc _ _ ha), by omega⟩, ?_⟩
      try dsimp only
      refine ⟨_, rfl, a, rfl, ⟨_, SqL.of (sc _ _ ha)⟩, fun D hD => ?_⟩
      refine lcl (C := He.ga K "Letter") (fun i H v => ∃ t, ts[i]? = some t ∧ IsT H t v) (fun i H H' v kp ⟨t, e, h⟩ => ⟨t, e, h.mono kp⟩) (SqL.of (sc _ _ ha)) (by omega) hD (fun i y H2 Q2 hy s2 k2 => ?_) fun vs H2 s2 hD2 hv2 hvs => ?_
      · have hil := (List.getElem?_eq_some_iff.mp hy).1
        have ht : ts[i]? = some ts[i] := List.getElem?_eq_getElem (by omega)
        obtain ⟨b, u, rfl, ⟨db, hb⟩, iu⟩ := hl.get i _ y ht hy
        have sT := sc.trans s2
        exact ⟨_, rfl, b, _, db, _, u, rfl, sT _ _ hb, T.k_Letter, T.n_Letter_tree, look1 _, k2 _ _ (Same.refl _) ⟨_, ht, iu.same sT⟩⟩
      · have sT := sc.trans s2
        refine ⟨_, rfl, x, _, dx, [], rfl, sT _ _ hx, T.k_Heap, T.n_Heap_trees, (by show 0 < 1000; decide), ?_⟩
        have nDx : D ≠ x := fun z => by rw [z, sc _ _ hx] at hD; cases hD
        have nDH : H D = none := sc.free hD
        have kp : Kp (He.ga K "Letter") H2 (upd H2 x (.ins (He.ga K "Heap") dx [("trees", .ref D)])) := fun c o hi e => by
          rw [upd_ne (fun z => by rw [z, sT _ _ hx] at e; cases e; exact T.B_Heap.ne (of_decide_eq_true hi))]
          exact e
        exact k D vs _ (fun c o hc e => by rw [upd_ne hc]; exact sT _ _ e) nDH upd_same (by rw [upd_ne nDx]; exact hD2) ((TsAt.of (hv2.trans hll) hvs).mono kp)
abbrev s_Heap_letters : Stmt := inClass (top 48) 1
theorem sc_Heap_letters : FnScope ["self", "tree"] ["self"] (defScope s_Heap_letters) := ⟨rfl, rfl, rfl, by decide +kernel, rfl, by decide +kernel, by decide +kernel⟩
theorem ok_letters (T : Tx w K mg) : Fm P w K mg base CX0 6 "Heap" "letters" ["self"] (sp_letters K) := by
  refine T.M_Heap_letters.ok0 sc_Heap_letters (fun _ _ _ _ _ _ us hl => match us, hl with | [_], _ => rfl)
    (fun vs H Q E h => ?_) (fun cdv A outer s H vs Q E hr h => ?_)
  · obtain ⟨h, ts, rfl, _⟩ := h
    rfl
  · obtain ⟨h, ts, rfl, ⟨dx, q, ws, hh, hq, hts⟩, hl, k⟩ := h
    refine ⟨_, (pss_one (ps_ret (pe_lc (own := [("tree", 1)]) (g := gName 1) (tt := tYes) (by rfl) sc_Heap_letters.nd (pi_list (pe_fld (pv 0) rfl)) (blkOk_by (own := [("tree", 1)]) (N := ["self", "tree"]) (sc := defScope s_Heap_letters) (by decide +kernel)) (fun _ _ _ _ _ => (pg_name (i := 1) sc_Heap_letters.nd rfl (Or.inl rfl))) (fun _ _ _ _ _ => pts_nil) (fun _ _ _ _ _ => (pe_mk2k (K := K) rfl (ok_Letter T) (hr.mono (by omega)) (by rfl) passN (pa_cons pe_str (pa_cons (pv 1) pa_nil))))))), ?_⟩
    have htl := hts.len
    refine ⟨_, rfl, h, _, dx, _, _, rfl, hh, T.k_Heap, T.n_Heap_trees, lookTr _, q, rfl, ⟨_, SqL.of hq⟩, fun D hD => ?_⟩
    refine lcl (C := He.ga K "Letter") (fun i H v => ∃ t, ts[i]? = some t ∧ IsLet K H t v) (fun i H H' v kp ⟨t, e, h⟩ => ⟨t, e, h.mono kp⟩) (SqL.of hq) (by omega) hD (fun i y H2 Q2 hy s2 k2 => ?_) fun vs H2 s2 hD2 hv2 hvs => ?_
    · have hil := (List.getElem?_eq_some_iff.mp hy).1
      have ht : ts[i]? = some ts[i] := List.getElem?_eq_getElem (by omega)
      have iu := (hts.get i _ y ht hy).same s2
      obtain ⟨p, us, rfl, hp⟩ := iu.hd
      exact ⟨_, rfl, rd_mkL hp fun x' H' s' hl' => k2 _ H' s' ⟨_, ht, x', _, rfl, hl', iu.same s'⟩⟩
    · exact k D vs H2 s2 hD hD2 (LsAt.of (hv2.trans htl) hvs)
end
end Rd
namespace Rd
open PySem L2
def sp_cell (K : PySem.W.Frag) : Sp := fun vs H Q _ => ∃ (a : Addr) (ns : List Int) (k : Int), vs = [.ref a, .int k] ∧ SqL K H a (ns.map V.int) ∧ ns.length ≤ 63 ∧ 0 ≤ k ∧ ∀ c : Int, Q (.int c) H
def sp_mixed : Sp := fun vs H Q _ => ∃ (c k : Int), vs = [.int c, .int k] ∧ 0 ≤ k ∧ k ≤ 1000 ∧ ∀ r : Int, 0 ≤ r → Q (.int r) H
def rowOk (m : Nat) (ds : List Int) : Prop := ds.length = m ∧ ∀ d ∈ ds, 0 ≤ d ∧ d < 1000
def sp_row : Sp := fun vs H Q _ => ∃ (c : Int) (m : Nat), vs = [.int c, .int m] ∧ m ≤ 1000 ∧ ∀ q ds H', Same H H' → H q = none → H' q = some (.lst (ds.map V.int)) → rowOk m ds → Q (.ref q) H'
def sp_apart : Sp := fun vs H Q _ => ∃ (c k : Int), vs = [.int c, .int k] ∧ ∀ r : Int, Q (.int r) H
section
variable {P : Program} {w : World} {K : PySem.W.Frag} {mg : Str → Option Value} {base : Heap}
abbrev s__law_cell_at : Stmt := top 50
theorem sc__law_cell_at : FnScope ["_law_script", "_law_k"] ["_law_script", "_law_k"] (defScope s__law_cell_at) := ⟨rfl, rfl, rfl, by decide +kernel, rfl, by decide +kernel, by decide +kernel⟩
theorem ok__law_cell_at (T : Tx w K mg) : Fk P w K mg base CX0 1 "_law_cell_at" ["_law_script", "_law_k"] (sp_cell K) := by
  refine T.F__law_cell_at.ok0 sc__law_cell_at (fun _ _ _ _ _ _ us hl => match us, hl with | [_, _], _ => rfl)
    (fun vs H Q E h => ?_) (fun cdv A outer s H vs Q E hr h => ?_)
  · obtain ⟨a, ns, k, rfl, _⟩ := h
    rfl
  · obtain ⟨a, ns, k, rfl, hS, hn, hk, kk⟩ := h
    refine ⟨_, (pss_cons (ps_if (pt_cmpR op_lt (pv 1) (pe_callB call_len_seq (by rfl) T.z_len (by decide +kernel) (pa_cons (pv 0) pa_nil)) (nomark _))
  (pss_one (ps_ret (pe_ix ix_list (pv 0) (pv 1) (fun _ _ => rfl))))
  pss_nil)
  (pss_one (ps_ret pe_int))), ?_⟩
    refine ⟨_, rfl, _, rfl, a, _, rfl, .inl hS, _, _, rfl, rfl, _, rfl, ite2 (fun h1 => ?_) (fun h1 => ?_)⟩
    · have hk : k.toNat < ns.length := by
        have := of_decide_eq_true h1
        rw [List.length_map] at this
        omega
      have ea : atI (ns.map V.int) k = some (V.int (ns[k.toNat]'hk)) := at_of (j := k.toNat) (by omega) (by rw [List.getElem?_map, List.getElem?_eq_getElem hk]; rfl)
      exact ⟨_, rfl, _, rfl, a, _, _, _, rfl, rfl, hS, ea, kk _⟩
    · exact kk 0
abbrev s__law_mixed : Stmt := top 51
theorem sc__law_mixed : FnScope ["_law_cell", "_law_k", "_law_spread"] ["_law_cell", "_law_k"] (defScope s__law_mixed) := ⟨rfl, rfl, rfl, by decide +kernel, rfl, by decide +kernel, by decide +kernel⟩
theorem ok__law_mixed (T : Tx w K mg) : Fk P w K mg base CX0 1 "_law_mixed" ["_law_cell", "_law_k"] sp_mixed := by
  refine T.F__law_mixed.ok0 sc__law_mixed (fun _ _ _ _ _ _ us hl => match us, hl with | [_, _], _ => rfl)
    (fun vs H Q E h => ?_) (fun cdv A outer s H vs Q E hr h => ?_)
  · obtain ⟨c, k, rfl, _⟩ := h
    rfl
  · obtain ⟨c, k, rfl, hk0, hk1, kk⟩ := h
    refine ⟨_, (pss_cons (ps_set (i := 2) sc__law_mixed.nd rfl (Or.inl rfl) (pe_op op_mod (pe_callTy call_int1 (by rfl) T.z_int (by decide +kernel) (pa_cons (pe_op op_pow (pe_op op_add (pe_op op_add (pe_op op_mod (pe_callTy call_int1 (by rfl) T.z_int (by decide +kernel) (pa_cons (pv 0) pa_nil)) pe_int) (pe_op op_mul pe_int (pv 1))) pe_int) pe_int) pa_nil)) pe_int))
  (pss_one (ps_ret (pe_op op_mod (pe_callTy call_int1 (by rfl) T.z_int (by decide +kernel) (pa_cons (pe_op op_mul (pe_op op_add (pv 2) (pv 1)) pe_int) pa_nil)) pe_int)))), ?_⟩
    have m0 : 0 ≤ c % 2147483647 := Int.emod_nonneg _ (by decide)
    have m1 : c % 2147483647 < 2147483647 := Int.emod_lt_of_pos _ (by decide)
    refine ⟨_, rfl, .inl ⟨_, rfl, _, _, rfl, rfl, (by show (0 : Int) < 2147483647; decide), _, rfl, _, _, rfl, rfl, .inl ⟨by decide, by decide⟩, _, _, rfl, rfl, _, _, rfl, rfl, _, _, rfl, rfl, ⟨by decide, by decide, ?_⟩, .inl ⟨_, rfl, _, _, rfl, rfl, (by show (0 : Int) < 2147483647; decide), ?_⟩⟩⟩
    · show (c % 2147483647 + 7919 * k + 104729).natAbs < 18446744073709551616
      omega
    have s0 : 0 ≤ (c % 2147483647 + 7919 * k + 104729) ^ Int.toNat 5 % 2147483647 := Int.emod_nonneg _ (by decide)
    have s1 : (c % 2147483647 + 7919 * k + 104729) ^ Int.toNat 5 % 2147483647 < 2147483647 := Int.emod_lt_of_pos _ (by decide)
    refine ⟨_, rfl, _, rfl, _, _, rfl, rfl, _, _, rfl, rfl, .inl ⟨?_, ?_⟩, .inl ⟨_, rfl, _, _, rfl, rfl, (by show (0 : Int) < 2147483629; decide), ?_⟩⟩
    · show -(18446744073709551616 : Int) < (c % 2147483647 + 7919 * k + 104729) ^ Int.toNat 5 % 2147483647 + k
      generalize (c % 2147483647 + 7919 * k + 104729) ^ Int.toNat 5 % 2147483647 = sp at s0 s1 ⊢
      omega
    · show (c % 2147483647 + 7919 * k + 104729) ^ Int.toNat 5 % 2147483647 + k < (18446744073709551616 : Int)
      generalize (c % 2147483647 + 7919 * k + 104729) ^ Int.toNat 5 % 2147483647 = sp at s0 s1 ⊢
      omega
    · exact kk _ (Int.emod_nonneg _ (by decide))
abbrev s__law_apart : Stmt := top 63
theorem sc__law_apart : FnScope ["_law_cell", "_law_k"] ["_law_cell", "_law_k"] (defScope s__law_apart) := ⟨rfl, rfl, rfl, by decide +kernel, rfl, by decide +kernel, by decide +kernel⟩
theorem ok__law_apart (T : Tx w K mg) : Fk P w K mg base CX0 1 "_law_apart" ["_law_cell", "_law_k"] sp_apart := by
  refine T.F__law_apart.ok0 sc__law_apart (fun _ _ _ _ _ _ us hl => match us, hl with | [_, _], _ => rfl)
    (fun vs H Q E h => ?_) (fun cdv A outer s H vs Q E hr h => ?_)
  · obtain ⟨c, k, rfl, _⟩ := h
    rfl
  · obtain ⟨c, k, rfl, kk⟩ := h
    refine ⟨_, (pss_cons (ps_if (pt_cmpR op_ge (pe_callB call_abs (by rfl) T.z_abs (by decide +kernel) (pa_cons (pv 0) pa_nil)) (pe_op op_pow pe_int pe_int) (nomark _))
  (pss_one (ps_ret (pv 0)))
  pss_nil)
  (pss_one (ps_ret (pe_op op_add (pv 0) (pe_op op_mul pe_int (pv 1)))))), ?_⟩
    refine ⟨_, rfl, _, rfl, _, _, rfl, rfl, ⟨by decide, by decide, by decide⟩, _, _, rfl, rfl, _, rfl, ite2 (fun h1 => ?_) (fun h1 => ?_)⟩
    · exact ⟨_, rfl, kk _⟩
    · refine ⟨_, rfl, _, rfl, _, _, rfl, rfl, .inl ⟨by decide, by decide⟩, _, _, rfl, rfl, kk _⟩
abbrev s__law_row : Stmt := top 52
theorem sc__law_row : FnScope ["_law_cell", "_law_many", "_law_rest", "_law_row_here", "_law_k"] ["_law_cell", "_law_many"] (defScope s__law_row) := ⟨rfl, rfl, rfl, by decide +kernel, rfl, by decide +kernel, by decide +kernel⟩
theorem ok__law_row (T : Tx w K mg) : Fk P w K mg base CX0 2 "_law_row" ["_law_cell", "_law_many"] sp_row := by
  refine T.F__law_row.ok0 sc__law_row (fun _ _ _ _ _ _ us hl => match us, hl with | [_, _], _ => rfl)
    (fun vs H Q E h => ?_) (fun cdv A outer s H vs Q E hr h => ?_)
  · obtain ⟨c, m, rfl, _⟩ := h
    rfl
  · obtain ⟨c, m, rfl, hm, kk⟩ := h
    refine ⟨_, (pss_cons (ps_set (i := 2) sc__law_row.nd rfl (Or.inl rfl) (pe_ifExp (pt_cmpR op_ge (pe_callB call_abs (by rfl) T.z_abs (by decide +kernel) (pa_cons (pv 0) pa_nil)) (pe_op op_pow pe_int pe_int) (nomark _)) (pe_callB call_abs (by rfl) T.z_abs (by decide +kernel) (pa_cons (pv 0) pa_nil)) pe_int))
  (pss_cons (ps_set (i := 3) sc__law_row.nd rfl (Or.inl rfl) (pe_lst pa_nil))
  (pss_cons (ps_for PassesOwn.never rfl (pi_range1 rfl T.z_range (pa_cons (pv 1) pa_nil)) (pg_name (i := 4) sc__law_row.nd rfl (Or.inl rfl))
  (pss_cons (ps_expr (pe_bm PySem.F.plainAttrs_list PySem.F.slot_list_append PySem.F.type_list_append mt_append (pv 3) (pa_cons (pe_op op_mod (pe_callTy call_int1 (by rfl) T.z_int (by decide +kernel) (pa_cons (pe_ifExp (pt_cmpR op_gt (pv 2) pe_int (nomark _)) (pv 2) (pe_fk (ok__law_mixed T) (hr.mono (by omega)) rfl pass0 (pa_cons (pv 0) (pa_cons (pv 4) pa_nil)))) pa_nil)) pe_int) pa_nil)))
  (pss_one (ps_set (i := 2) sc__law_row.nd rfl (Or.inl rfl) (pe_op op_fdiv (pv 2) pe_int)))))
  (pss_one (ps_ret (pv 3)))))), ?_⟩
    have big : 16777216 ≤ sizeLine := by decide
    refine seqJoin (fun σ' H' => H' = H ∧ ∃ (r : Int), 0 ≤ r ∧ σ' = [some (.int c), some (.int m), some (.int r), none, none]) (fun KK hK => ?_) ?_
    · refine ⟨_, rfl, _, rfl, _, _, rfl, rfl, ⟨by decide, by decide, by decide⟩, _, _, rfl, rfl, _, rfl, ite2 (fun h1 => ?_) (fun h1 => ?_)⟩
      · refine ⟨_, rfl, _, rfl, ?_⟩
        refine gName_k ?_
        exact hK _ _ ⟨rfl, _, by split <;> omega, rfl⟩
      · refine gName_k ?_
        exact hK _ _ ⟨rfl, 0, Int.le_refl _, rfl⟩
    rintro σ' H ⟨rfl, r0, hr0, rfl⟩
    refine seqAsg ⟨Nat.zero_le _, fun p hp => ?_⟩
    refine gName_k ?_
    try dsimp only
    refine ⟨_, rfl, m, rfl, by omega, by omega, for_range (n := m) (fun i σ Hc => ∃ (ds : List Int) (r : Int) (t4 : Option V), σ = [some (.int c), some (.int m), some (.int r), some (.ref p), t4] ∧ 0 ≤ r ∧ Same H Hc ∧ Hc p = some (.lst (ds.map V.int)) ∧ rowOk i ds) ⟨[], r0, _, rfl, hr0, Rd.Same.upd hp, upd_same, rfl, fun d hd => by cases hd⟩ ?_ ?_⟩
    · rintro i σ Hc hi ⟨ds, r, t4, rfl, hr0, sc, hpc, hds⟩
      refine gName_k ?_
      try dsimp only
      have hdl := hds.1
      have nxt1 : ∀ x : Int, ∃ l xs y, V.ref p = .ref l ∧ [V.int (x % 1000)] = [y] ∧ Hc l = some (.lst xs) ∧ xs.length < sizeLine ∧ (tAsg (tOp (rI CDiv fun i j => V.int (i / j)) (tVar 2) (tC (V.int 1000))) (gName 2)) { nx := fun σ Hc => ∃ (ds : List Int) (r : Int) (t4 : Option V), σ = [some (.int c), some (.int m), some (.int r), some (.ref p), t4] ∧ 0 ≤ r ∧ Same H Hc ∧ Hc p = some (.lst (ds.map V.int)) ∧ rowOk (i + 1) ds, rt := Q, bk := fun _ _ => False, ct := fun _ _ => False } [some (.int c), some (.int m), some (.int r), some (.ref p), some (.int (0 + (i : Int)))] (upd Hc l (.lst (xs ++ [y]))) := fun x => by
        refine ⟨p, ds.map V.int, _, rfl, rfl, hpc, by rw [List.length_map]; omega, _, rfl, _, _, rfl, rfl, ⟨by decide, by decide⟩, ?_⟩
        refine gName_k ?_
        refine ⟨ds ++ [x % 1000], r / 1000, _, rfl, Int.ediv_nonneg hr0 (by decide), fun c o e => by rw [upd_ne (ne_of_none e hp)]; exact sc _ _ e, by rw [upd_same, List.map_append]; rfl, by rw [List.length_append, hdl]; rfl, fun d hd => ?_⟩
        rcases List.mem_append.mp hd with q | q
        · exact hds.2 d q
        · rw [List.mem_singleton.mp q]
          exact ⟨Int.emod_nonneg _ (by decide), Int.emod_lt_of_pos _ (by decide)⟩
      refine ⟨_, rfl, .inl ⟨rfl, _, SqL.of hpc⟩, _, rfl, _, _, rfl, rfl, _, rfl, ite2 (fun _ => ?_) (fun _ => ?_)⟩
      · refine ⟨_, rfl, .inl ⟨_, rfl, _, _, rfl, rfl, (by show (0 : Int) < 1000; decide), nxt1 _⟩⟩
      · refine ⟨_, rfl, _, rfl, _, _, rfl, by omega, by omega, fun r1 _ => .inl ⟨_, rfl, _, _, rfl, rfl, (by show (0 : Int) < 1000; decide), nxt1 _⟩⟩
    · rintro σ Hc ⟨ds, r, t4, rfl, hr0, sc, hpc, hds⟩
      exact ⟨_, rfl, kk p ds Hc sc hp hpc hds⟩
end
end Rd
namespace Rd
open PySem L2
def atomT (t : Tr) : Prop := ∃ k x, t = .am k x ∧ kindOk k x ∧ k ≠ "unknown"
def atomsOk (ts : List Tr) : Prop := ts.length = 6 ∧ ∀ t ∈ ts, atomT t
def sp_atoms6 : Sp := fun vs H Q _ => ∃ (a : Addr) (d0 d1 : Int), vs = [.ref a] ∧ H a = some (.lst [.int d0, .int d1]) ∧ ∀ q ws ts H', Same H H' → H q = none → H' q = some (.lst ws) → TsAt H' ts ws → atomsOk ts → Q (.ref q) H'
def NMS : List (List Str) := [["K", "L", "M"], ["A", "B", "K"], ["NAME", "ZZZZZZZZ", "A"], ["A1", "A", "B22"]]
def WDS : List (List Str) := [["a", "yes", "no"], ["k", "open", "zzzzzzzz"], ["pair", "a", "b"]]
theorem nms_ok {l : List Str} (h : l ∈ NMS) : l.length = 3 ∧ ∀ x ∈ l, isName x = true := by
  have : ∀ l ∈ NMS, l.length = 3 ∧ ∀ x ∈ l, isName x = true := by decide +kernel
  exact this l h
theorem wds_ok {l : List Str} (h : l ∈ WDS) : l.length = 3 ∧ ∀ x ∈ l, isWord x = true := by
  have : ∀ l ∈ WDS, l.length = 3 ∧ ∀ x ∈ l, isWord x = true := by decide +kernel
  exact this l h
section
variable {P : Program} {w : World} {K : PySem.W.Frag} {mg : Str → Option Value} {base : Heap}
abbrev s__law_atoms : Stmt := top 53
theorem sc__law_atoms : FnScope ["_law_draws", "_law_names", "_law_words", "_law_name", "_law_word"] ["_law_draws"] (defScope s__law_atoms) := ⟨rfl, rfl, rfl, by decide +kernel, rfl, by decide +kernel, by decide +kernel⟩
theorem ok__law_atoms (T : Tx w K mg) : Fk P w K mg base CX0 1 "_law_atoms" ["_law_draws"] sp_atoms6 := by
  refine T.F__law_atoms.ok0 sc__law_atoms (fun _ _ _ _ _ _ us hl => match us, hl with | [_], _ => rfl)
    (fun vs H Q E h => ?_) (fun cdv A outer s H vs Q E hr h => ?_)
  · obtain ⟨a, d0, d1, rfl, _⟩ := h
    rfl
  · obtain ⟨a, d0, d1, rfl, ha, k⟩ := h
    refine ⟨_, (pss_cons (ps_set (i := 1) sc__law_atoms.nd rfl (Or.inl rfl) (pe_ix ix_list (pe_lst (pa_cons (pe_lst (pa_cons pe_str (pa_cons pe_str (pa_cons pe_str pa_nil)))) (pa_cons (pe_lst (pa_cons pe_str (pa_cons pe_str (pa_cons pe_str pa_nil)))) (pa_cons (pe_lst (pa_cons pe_str (pa_cons pe_str (pa_cons pe_str pa_nil)))) (pa_cons (pe_lst (pa_cons pe_str (pa_cons pe_str (pa_cons pe_str pa_nil)))) pa_nil))))) (pe_op op_mod (pe_callTy call_int1 (by rfl) T.z_int (by decide +kernel) (pa_cons (pe_ix ix_list (pv 0) pe_int (fun _ _ => rfl)) pa_nil)) pe_int) (fun _ _ => rfl)))
  (pss_cons (ps_set (i := 2) sc__law_atoms.nd rfl (Or.inl rfl) (pe_ix ix_list (pe_lst (pa_cons (pe_lst (pa_cons pe_str (pa_cons pe_str (pa_cons pe_str pa_nil)))) (pa_cons (pe_lst (pa_cons pe_str (pa_cons pe_str (pa_cons pe_str pa_nil)))) (pa_cons (pe_lst (pa_cons pe_str (pa_cons pe_str (pa_cons pe_str pa_nil)))) pa_nil)))) (pe_op op_mod (pe_callTy call_int1 (by rfl) T.z_int (by decide +kernel) (pa_cons (pe_ix ix_list (pv 0) pe_int (fun _ _ => rfl)) pa_nil)) pe_int) (fun _ _ => rfl)))
  (pss_one (ps_ret (pe_op op_cat (pe_lc (own := [("_law_name", 3)]) (g := gName 3) (tt := tYes) (by rfl) sc__law_atoms.nd (pi_list (pv 1)) (blkOk_by (own := [("_law_name", 3)]) (N := ["_law_draws", "_law_names", "_law_words", "_law_name", "_law_word"]) (sc := defScope s__law_atoms) (by decide +kernel)) (fun _ _ _ _ _ => (pg_name (i := 3) sc__law_atoms.nd rfl (Or.inl rfl))) (fun _ _ _ _ _ => pts_nil) (fun _ _ _ _ _ => (pe_tup (pa_cons pe_str (pa_cons (pv 3) pa_nil))))) (pe_lc (own := [("_law_word", 4)]) (g := gName 4) (tt := tYes) (by rfl) sc__law_atoms.nd (pi_list (pv 2)) (blkOk_by (own := [("_law_word", 4)]) (N := ["_law_draws", "_law_names", "_law_words", "_law_name", "_law_word"]) (sc := defScope s__law_atoms) (by decide +kernel)) (fun _ _ _ _ _ => (pg_name (i := 4) sc__law_atoms.nd rfl (Or.inl rfl))) (fun _ _ _ _ _ => pts_nil) (fun _ _ _ _ _ => (pe_tup (pa_cons pe_str (pa_cons (pv 4) pa_nil)))))))))), ?_⟩
    have three : 3 ≤ sizeLine := by decide
    refine seqJoin (fun σ' H' => ∃ (q : Addr) (l : List Str), l ∈ NMS ∧ Same H H' ∧ H' q = some (.lst (l.map V.str)) ∧ σ' = [some (.ref a), some (.ref q), none, none, none]) (fun KK hK => ?_) ?_
    · refine ⟨three, fun q0 hq0 => ?_⟩
      have s0 := Rd.Same.upd (o := .lst [V.str "K", V.str "L", V.str "M"]) hq0
      have h0 : upd H q0 (.lst [V.str "K", V.str "L", V.str "M"]) q0 = some (.lst ((["K", "L", "M"] : List Str).map V.str)) := upd_same
      generalize upd H q0 (.lst [V.str "K", V.str "L", V.str "M"]) = T0 at s0 h0 ⊢
      refine ⟨three, fun q1 hq1 => ?_⟩
      have s1 := Rd.Same.upd (o := .lst [V.str "A", V.str "B", V.str "K"]) hq1
      have h1 : upd T0 q1 (.lst [V.str "A", V.str "B", V.str "K"]) q1 = some (.lst ((["A", "B", "K"] : List Str).map V.str)) := upd_same
      generalize upd T0 q1 (.lst [V.str "A", V.str "B", V.str "K"]) = T1 at s1 h1 ⊢
      refine ⟨three, fun q2 hq2 => ?_⟩
      have s2 := Rd.Same.upd (o := .lst [V.str "NAME", V.str "ZZZZZZZZ", V.str "A"]) hq2
      have h2 : upd T1 q2 (.lst [V.str "NAME", V.str "ZZZZZZZZ", V.str "A"]) q2 = some (.lst ((["NAME", "ZZZZZZZZ", "A"] : List Str).map V.str)) := upd_same
      generalize upd T1 q2 (.lst [V.str "NAME", V.str "ZZZZZZZZ", V.str "A"]) = T2 at s2 h2 ⊢
      refine ⟨three, fun q3 hq3 => ?_⟩
      have s3 := Rd.Same.upd (o := .lst [V.str "A1", V.str "A", V.str "B22"]) hq3
      have h3 : upd T2 q3 (.lst [V.str "A1", V.str "A", V.str "B22"]) q3 = some (.lst ((["A1", "A", "B22"] : List Str).map V.str)) := upd_same
      generalize upd T2 q3 (.lst [V.str "A1", V.str "A", V.str "B22"]) = T3 at s3 h3 ⊢
      refine ⟨(by show 4 ≤ sizeLine; decide), fun q9 hq9 => ?_⟩
      have s9 := Rd.Same.upd (o := .lst [V.ref q0, V.ref q1, V.ref q2, V.ref q3]) hq9
      have h9 : upd T3 q9 (.lst [V.ref q0, V.ref q1, V.ref q2, V.ref q3]) q9 = some (.lst [V.ref q0, V.ref q1, V.ref q2, V.ref q3]) := upd_same
      generalize upd T3 q9 (.lst [V.ref q0, V.ref q1, V.ref q2, V.ref q3]) = T9 at s9 h9 ⊢
      have S := (((s0.trans s1).trans s2).trans s3).trans s9
      have m0 : 0 ≤ d0 % 4 := Int.emod_nonneg _ (by decide)
      have m1 : d0 % 4 < (4 : Nat) := Int.emod_lt_of_pos _ (by decide)
      obtain ⟨j, z, hj, ea⟩ := atI_of (us := [V.ref q0, V.ref q1, V.ref q2, V.ref q3]) (m := 4) m0 m1 rfl
      refine ⟨_, rfl, a, _, _, _, rfl, rfl, SqL.of (S _ _ ha), at_of (j := 0) rfl rfl, .inl ⟨_, rfl, _, _, rfl, rfl, (by show (0 : Int) < 4; decide), q9, _, _, z, rfl, rfl, SqL.of h9, ea, ?_⟩⟩
      refine gName_k ?_
      match j, hj with
      | 0, hj =>
        cases hj
        exact hK _ _ ⟨q0, _, (by show [("K" : Str), ("L" : Str), ("M" : Str)] ∈ NMS; decide +kernel), S, s9 _ _ (s3 _ _ (s2 _ _ (s1 _ _ (h0)))), rfl⟩
      | 1, hj =>
        cases hj
        exact hK _ _ ⟨q1, _, (by show [("A" : Str), ("B" : Str), ("K" : Str)] ∈ NMS; decide +kernel), S, s9 _ _ (s3 _ _ (s2 _ _ (h1))), rfl⟩
      | 2, hj =>
        cases hj
        exact hK _ _ ⟨q2, _, (by show [("NAME" : Str), ("ZZZZZZZZ" : Str), ("A" : Str)] ∈ NMS; decide +kernel), S, s9 _ _ (s3 _ _ (h2)), rfl⟩
      | 3, hj =>
        cases hj
        exact hK _ _ ⟨q3, _, (by show [("A1" : Str), ("A" : Str), ("B22" : Str)] ∈ NMS; decide +kernel), S, s9 _ _ (h3), rfl⟩
      | j + 4, hj => cases hj
    rintro σ' Hn ⟨qn, ln, hln, sn, hqn, rfl⟩
    refine seqJoin (fun σ' H' => ∃ (q : Addr) (l : List Str), l ∈ WDS ∧ Same H H' ∧ H' q = some (.lst (l.map V.str)) ∧ H' qn = some (.lst (ln.map V.str)) ∧ σ' = [some (.ref a), some (.ref qn), some (.ref q), none, none]) (fun KK hK => ?_) ?_
    · refine ⟨three, fun q0 hq0 => ?_⟩
      have s0 := Rd.Same.upd (o := .lst [V.str "a", V.str "yes", V.str "no"]) hq0
      have h0 : upd Hn q0 (.lst [V.str "a", V.str "yes", V.str "no"]) q0 = some (.lst ((["a", "yes", "no"] : List Str).map V.str)) := upd_same
      generalize upd Hn q0 (.lst [V.str "a", V.str "yes", V.str "no"]) = T0 at s0 h0 ⊢
      refine ⟨three, fun q1 hq1 => ?_⟩
      have s1 := Rd.Same.upd (o := .lst [V.str "k", V.str "open", V.str "zzzzzzzz"]) hq1
      have h1 : upd T0 q1 (.lst [V.str "k", V.str "open", V.str "zzzzzzzz"]) q1 = some (.lst ((["k", "open", "zzzzzzzz"] : List Str).map V.str)) := upd_same
      generalize upd T0 q1 (.lst [V.str "k", V.str "open", V.str "zzzzzzzz"]) = T1 at s1 h1 ⊢
      refine ⟨three, fun q2 hq2 => ?_⟩
      have s2 := Rd.Same.upd (o := .lst [V.str "pair", V.str "a", V.str "b"]) hq2
      have h2 : upd T1 q2 (.lst [V.str "pair", V.str "a", V.str "b"]) q2 = some (.lst ((["pair", "a", "b"] : List Str).map V.str)) := upd_same
      generalize upd T1 q2 (.lst [V.str "pair", V.str "a", V.str "b"]) = T2 at s2 h2 ⊢
      refine ⟨(by show 3 ≤ sizeLine; decide), fun q9 hq9 => ?_⟩
      have s9 := Rd.Same.upd (o := .lst [V.ref q0, V.ref q1, V.ref q2]) hq9
      have h9 : upd T2 q9 (.lst [V.ref q0, V.ref q1, V.ref q2]) q9 = some (.lst [V.ref q0, V.ref q1, V.ref q2]) := upd_same
      generalize upd T2 q9 (.lst [V.ref q0, V.ref q1, V.ref q2]) = T9 at s9 h9 ⊢
      have S := ((s0.trans s1).trans s2).trans s9
      have m0 : 0 ≤ d1 % 3 := Int.emod_nonneg _ (by decide)
      have m1 : d1 % 3 < (3 : Nat) := Int.emod_lt_of_pos _ (by decide)
      obtain ⟨j, z, hj, ea⟩ := atI_of (us := [V.ref q0, V.ref q1, V.ref q2]) (m := 3) m0 m1 rfl
      refine ⟨_, rfl, a, _, _, _, rfl, rfl, SqL.of (S _ _ (sn _ _ ha)), at_of (j := 1) rfl rfl, .inl ⟨_, rfl, _, _, rfl, rfl, (by show (0 : Int) < 3; decide), q9, _, _, z, rfl, rfl, SqL.of h9, ea, ?_⟩⟩
      refine gName_k ?_
      match j, hj with
      | 0, hj =>
        cases hj
        exact hK _ _ ⟨q0, _, (by show [("a" : Str), ("yes" : Str), ("no" : Str)] ∈ WDS; decide +kernel), sn.trans S, s9 _ _ (s2 _ _ (s1 _ _ (h0))), S _ _ hqn, rfl⟩
      | 1, hj =>
        cases hj
        exact hK _ _ ⟨q1, _, (by show [("k" : Str), ("open" : Str), ("zzzzzzzz" : Str)] ∈ WDS; decide +kernel), sn.trans S, s9 _ _ (s2 _ _ (h1)), S _ _ hqn, rfl⟩
      | 2, hj =>
        cases hj
        exact hK _ _ ⟨q2, _, (by show [("pair" : Str), ("a" : Str), ("b" : Str)] ∈ WDS; decide +kernel), sn.trans S, s9 _ _ (h2), S _ _ hqn, rfl⟩
      | j + 3, hj => cases hj
    rintro σ' Hw ⟨qw, lw, hlw, sw, hqw, hqn', rfl⟩
    obtain ⟨ln3, hnn⟩ := nms_ok hln
    obtain ⟨lw3, hww⟩ := wds_ok hlw
    refine ⟨_, rfl, qn, rfl, ⟨_, SqL.of hqn'⟩, fun D1 hD1 => ?_⟩
    refine lcl (C := 0) (fun i H v => ∃ t, (ln.map (Tr.am "name"))[i]? = some t ∧ IsT H t v) (fun i H H' v kp ⟨t, e, h⟩ => ⟨t, e, h.mono kp⟩) (SqL.of hqn') (by rw [List.length_map]; omega) hD1 (fun i y H2 Q2 hy s2 k2 => ?_) fun vs1 H2 s2 hD2 hv2 hvs2 => ?_
    · rw [List.getElem?_map] at hy
      obtain ⟨z, hz, rfl⟩ := Option.map_eq_some_iff.mp hy
      refine ⟨_, rfl, (by show 2 ≤ sizeLine; decide), fun q hq => ?_⟩
      exact k2 _ _ (Rd.Same.upd hq) ⟨.am "name" z, by rw [List.getElem?_map, hz]; rfl, q, rfl, upd_same⟩
    have t1 := TsAt.of (ts := ln.map (Tr.am "name")) (by rw [hv2, List.length_map, List.length_map]) hvs2
    refine ⟨_, rfl, qw, rfl, ⟨_, SqL.of (s2 _ _ hqw)⟩, fun D2 hD2' => ?_⟩
    refine lcl (C := 0) (fun i H v => ∃ t, (lw.map (Tr.am "word"))[i]? = some t ∧ IsT H t v) (fun i H H' v kp ⟨t, e, h⟩ => ⟨t, e, h.mono kp⟩) (SqL.of (s2 _ _ hqw)) (by rw [List.length_map]; omega) hD2' (fun i y H3 Q3 hy s3 k3 => ?_) fun vs2 H3 s3 hD3 hv3 hvs3 => ?_
    · rw [List.getElem?_map] at hy
      obtain ⟨z, hz, rfl⟩ := Option.map_eq_some_iff.mp hy
      refine ⟨_, rfl, (by show 2 ≤ sizeLine; decide), fun q hq => ?_⟩
      exact k3 _ _ (Rd.Same.upd hq) ⟨.am "word" z, by rw [List.getElem?_map, hz]; rfl, q, rfl, upd_same⟩
    have t2 := TsAt.of (ts := lw.map (Tr.am "word")) (by rw [hv3, List.length_map, List.length_map]) hvs3
    rw [List.length_map] at hv2 hv3
    have big : 1000 ≤ sizeLine := by decide
    refine ⟨D1, D2, vs1, vs2, rfl, rfl, s3 _ _ hD2, hD3, by omega, fun q4 hq4 => ?_⟩
    have s4 := Rd.Same.upd (o := .lst (vs1 ++ vs2)) hq4
    have S4 := (sw.trans (s2.trans s3)).trans s4
    refine k q4 _ (ln.map (Tr.am "name") ++ lw.map (Tr.am "word")) _ S4 ((sw.trans (s2.trans s3)).free hq4) upd_same (((t1.same s3).app t2).same s4) ⟨by rw [List.length_append, List.length_map, List.length_map, ln3, lw3], fun t ht => ?_⟩
    rcases List.mem_append.mp ht with h | h
    · obtain ⟨z, hz, rfl⟩ := List.mem_map.mp h
      exact ⟨_, _, rfl, .inr (.inl ⟨rfl, hnn z hz⟩), by decide +kernel⟩
    · obtain ⟨z, hz, rfl⟩ := List.mem_map.mp h
      exact ⟨_, _, rfl, .inl ⟨rfl, hww z hz⟩, by decide +kernel⟩
end
end Rd
namespace Rd
open PySem L2
def NodeAt : Nat → Int → Prop
  | 0, n => 7 ≤ n ∧ n ≤ 14
  | 1, n => 3 ≤ n ∧ n ≤ 6
  | 2, n => 1 ≤ n ∧ n ≤ 2
  | _, n => n = 0
theorem NodeAt.le {d : Nat} {n : Int} (h : NodeAt d n) : 0 ≤ n ∧ n ≤ 14 := by
  match d, h with
  | 0, h => exact ⟨by have := h.1; omega, h.2⟩
  | 1, h => exact ⟨by have := h.1; omega, by have := h.2; omega⟩
  | 2, h => exact ⟨by have := h.1; omega, by have := h.2; omega⟩
  | d + 3, h => have h : n = 0 := h; exact ⟨by omega, by omega⟩
theorem NodeAt.kids {d : Nat} {n : Int} (hd : d + 1 ≤ 3) (h : NodeAt (d + 1) n) : NodeAt d (2 * n + 1) ∧ NodeAt d (2 * n + 2) ∧ n ≤ 6 := by
  match d, hd, h with
  | 0, _, h => obtain ⟨h1, h2⟩ := h; exact ⟨⟨by omega, by omega⟩, ⟨by omega, by omega⟩, h2⟩
  | 1, _, h => obtain ⟨h1, h2⟩ := h; exact ⟨⟨by omega, by omega⟩, ⟨by omega, by omega⟩, by omega⟩
  | 2, _, h => have h : n = 0 := h; subst h; exact ⟨⟨by decide, by decide⟩, ⟨by decide, by decide⟩, by decide⟩
structure Fo (d : Nat) (t : Tr) : Prop where
  wf : Wf t
  dep : t.dep ≤ 2 * d
  nod : t.nod + 2 ≤ 2 ^ (d + 1)
  pl : plainT t
theorem Fo.atom {d : Nat} {t : Tr} (h : atomT t) : Fo d t := by
  obtain ⟨k, x, rfl, ko, hk⟩ := h
  refine ⟨.am ko, Nat.zero_le _, ?_, ?_⟩
  · show 0 + 2 ≤ 2 ^ (d + 1)
    rw [Nat.pow_succ]
    have := Nat.pow_pos (n := d) (show 0 < 2 by decide)
    omega
  · show (if k = "unknown" then [x] else []) = []
    rw [if_neg hk]
theorem Fo.un {d : Nat} {s : Str} {a : Tr} (hs : s ∈ (["mark", "open", "own"] : List Str)) (h : Fo d a) : Fo (d + 1) (.un s a) := by
  have e : 2 ^ (d + 1 + 1) = 2 * 2 ^ (d + 1) := by rw [Nat.pow_succ]; omega
  have h1 := h.dep
  have h2 := h.nod
  exact ⟨.un hs h.wf, by show a.dep + 1 ≤ 2 * (d + 1); omega, by show a.nod + 1 + 2 ≤ 2 ^ (d + 1 + 1); omega, h.pl⟩
theorem Fo.bi {d : Nat} {s : Str} {a b : Tr} (hs : s ∈ (["pair", "seal"] : List Str)) (h : Fo d a) (g : Fo d b) : Fo (d + 1) (.bi s a b) := by
  have e : 2 ^ (d + 1 + 1) = 2 * 2 ^ (d + 1) := by rw [Nat.pow_succ]; omega
  have h1 := h.dep
  have h2 := h.nod
  have g1 := g.dep
  have g2 := g.nod
  exact ⟨.bi hs h.wf g.wf, by show max a.dep b.dep + 1 ≤ 2 * (d + 1); omega, by show a.nod + b.nod + 1 + 2 ≤ 2 ^ (d + 1 + 1); omega, by show a.txt "unknown" ++ b.txt "unknown" = []; rw [h.pl, g.pl]; rfl⟩
theorem Fo.lk {d : Nat} {s : Str} {a b : Tr} (hs : s ∈ (["open", "own"] : List Str)) (h : Fo d a) (g : Fo d b) : Fo (d + 1) (.bi "lock" a (.un s b)) := by
  have e : 2 ^ (d + 1 + 1) = 2 * 2 ^ (d + 1) := by rw [Nat.pow_succ]; omega
  have h1 := h.dep
  have h2 := h.nod
  have g1 := g.dep
  have g2 := g.nod
  exact ⟨.lk hs h.wf g.wf, by show max a.dep (b.dep + 1) + 1 ≤ 2 * (d + 1); omega, by show a.nod + (b.nod + 1) + 1 + 2 ≤ 2 ^ (d + 1 + 1); omega, by show a.txt "unknown" ++ b.txt "unknown" = []; rw [h.pl, g.pl]; rfl⟩
/-- what a drawn form is made of -/
structure FoC (Pd : Nat → Tr → Prop) : Prop where
  un : ∀ {d s a}, s ∈ (["mark", "open", "own"] : List Str) → Pd d a → Pd (d + 1) (.un s a)
  bi : ∀ {d s a b}, s ∈ (["pair", "seal"] : List Str) → Pd d a → Pd d b → Pd (d + 1) (.bi s a b)
  lk : ∀ {d s a b}, s ∈ (["open", "own"] : List Str) → Pd d a → Pd d b → Pd (d + 1) (.bi "lock" a (.un s b))
theorem FoC.fo : FoC Fo := ⟨Fo.un, Fo.bi, Fo.lk⟩
/-- with other forms in the atoms' place -/
structure FoG (e d : Nat) (t : Tr) : Prop where
  wf : Wf t
  dep : t.dep ≤ e + 2 * d
  pl : plainT t
theorem FoC.g (e : Nat) : FoC (FoG e) := ⟨fun {d s a} hs h => ⟨.un hs h.wf, by show a.dep + 1 ≤ e + 2 * (d + 1); have := h.dep; omega, h.pl⟩,
  fun {d s a b} hs h g => ⟨.bi hs h.wf g.wf, by show max a.dep b.dep + 1 ≤ e + 2 * (d + 1); have := h.dep; have := g.dep; omega, by show a.txt "unknown" ++ b.txt "unknown" = []; rw [h.pl, g.pl]; rfl⟩,
  fun {d s a b} hs h g => ⟨.lk hs h.wf g.wf, by show max a.dep (b.dep + 1) + 1 ≤ e + 2 * (d + 1); have := h.dep; have := g.dep; omega, by show a.txt "unknown" ++ b.txt "unknown" = []; rw [h.pl, g.pl]; rfl⟩⟩
def sp_foP (d : Nat) : Sp := fun vs H Q _ => ∃ (r a : Addr) (at_ node : Int) (ds : List Int) (ws : List V) (ts : List Tr) (Pd : Nat → Tr → Prop), vs = [.ref r, .int at_, .int node, .ref a] ∧ H r = some (.lst (ds.map V.int)) ∧ (∀ d ∈ ds, 0 ≤ d ∧ d < 1000) ∧ 0 ≤ at_ ∧ NodeAt d node ∧ at_ + 14 < ds.length ∧ H a = some (.lst ws) ∧ TsAt H ts ws ∧ 0 < ts.length ∧ ts.length ≤ 100000 ∧ FoC Pd ∧ (∀ t ∈ ts, ∀ d, Pd d t) ∧ d ≤ 3 ∧
  ∀ t v H', Same H H' → Pd d t → IsT H' t v → Q v H'
def sp_fo (d : Nat) : Sp := fun vs H Q _ => ∃ (r a : Addr) (at_ node : Int) (ds : List Int) (ws : List V) (ts : List Tr), vs = [.ref r, .int at_, .int node, .ref a] ∧ H r = some (.lst (ds.map V.int)) ∧ (∀ d ∈ ds, 0 ≤ d ∧ d < 1000) ∧ 0 ≤ at_ ∧ NodeAt d node ∧ at_ + 14 < ds.length ∧ H a = some (.lst ws) ∧ TsAt H ts ws ∧ 0 < ts.length ∧ ts.length ≤ 1000 ∧ (∀ t ∈ ts, atomT t) ∧ d ≤ 3 ∧
  ∀ t v H', Same H H' → Fo d t → IsT H' t v → Q v H'
def spFoR : Nat → Sp
  | 0 => fun _ _ _ _ => False
  | d + 1 => sp_foP d
section
variable {P : Program} {w : World} {K : PySem.W.Frag} {mg : Str → Option Value} {base : Heap}
abbrev s__law_form : Stmt := top 54
theorem sc__law_form : FnScope ["_law_row_here", "_law_at", "_law_node", "_law_atoms_here", "_law_draw", "_law_way_here", "_law_atom", "_law_one"] ["_law_row_here", "_law_at", "_law_node", "_law_atoms_here"] (defScope s__law_form) := ⟨rfl, rfl, rfl, by decide +kernel, rfl, by decide +kernel, by decide +kernel⟩
theorem fo_step (T : Tx w K mg) (d : Nat) (ih : Fk P w K mg base CX0 (d + 1) "_law_form" ["_law_row_here", "_law_at", "_law_node", "_law_atoms_here"] (spFoR d)) : Fk P w K mg base CX0 (d + 2) "_law_form" ["_law_row_here", "_law_at", "_law_node", "_law_atoms_here"] (sp_foP d) := by
  refine T.F__law_form.ok0 sc__law_form (fun _ _ _ _ _ _ us hl => match us, hl with | [_, _, _, _], _ => rfl)
    (fun vs H Q E h => ?_) (fun cdv A outer s H vs Q E hr h => ?_)
  · obtain ⟨r, a, at_, node, ds, ws, ts, Pd, rfl, _⟩ := h
    rfl
  · obtain ⟨r, a, at_, node, ds, ws, ts, Pd, rfl, hr0, hds, hat, hno, hlen, ha, hts, ht0, ht1, fc, hat1, hd3, k⟩ := h
    refine ⟨_, (pss_cons (ps_set (i := 4) sc__law_form.nd rfl (Or.inl rfl) (pe_callTy call_int1 (by rfl) T.z_int (by decide +kernel) (pa_cons (pe_ix ix_list (pv 0) (pe_op op_add (pv 1) (pv 2)) (fun _ _ => rfl)) pa_nil)))
  (pss_cons (ps_set (i := 5) sc__law_form.nd rfl (Or.inl rfl) (pe_op op_mod (pv 4) pe_int))
  (pss_cons (ps_set (i := 6) sc__law_form.nd rfl (Or.inl rfl) (pe_ix ix_list (pv 3) (pe_op op_mod (pe_op op_fdiv (pv 4) pe_int) (pe_callB call_len_seq (by rfl) T.z_len (by decide +kernel) (pa_cons (pv 3) pa_nil))) (fun _ _ => rfl)))
  (pss_cons (ps_if (PW.pt (pw_or (pt_cmpR op_gt (pv 2) pe_int (nomark _)) (pw_or1 (pt_cmpR op_lt (pv 5) pe_int (nomark _)))))
  (pss_one (ps_ret (pv 6)))
  pss_nil)
  (pss_cons (ps_set (i := 7) sc__law_form.nd rfl (Or.inl rfl) (pe_fk ih (hr.mono (by omega)) rfl pass0 (pa_cons (pv 0) (pa_cons (pv 1) (pa_cons (pe_op op_add (pe_op op_mul pe_int (pv 2)) pe_int) (pa_cons (pv 3) pa_nil))))))
  (pss_cons (ps_if (pt_cmpR op_lt (pv 5) pe_int (nomark _))
  (pss_one (ps_ret (pe_tup (pa_cons pe_str (pa_cons (pv 7) (pa_cons (pe_fk ih (hr.mono (by omega)) rfl pass0 (pa_cons (pv 0) (pa_cons (pv 1) (pa_cons (pe_op op_add (pe_op op_mul pe_int (pv 2)) pe_int) (pa_cons (pv 3) pa_nil))))) pa_nil))))))
  pss_nil)
  (pss_cons (ps_if (pt_cmpR op_lt (pv 5) pe_int (nomark _))
  (pss_one (ps_ret (pe_tup (pa_cons pe_str (pa_cons (pv 7) (pa_cons (pe_fk ih (hr.mono (by omega)) rfl pass0 (pa_cons (pv 0) (pa_cons (pv 1) (pa_cons (pe_op op_add (pe_op op_mul pe_int (pv 2)) pe_int) (pa_cons (pv 3) pa_nil))))) pa_nil))))))
  pss_nil)
  (pss_cons (ps_if (pt_cmpR op_lt (pv 5) pe_int (nomark _))
  (pss_one (ps_ret (pe_tup (pa_cons pe_str (pa_cons (pv 7) (pa_cons (pe_tup (pa_cons (pe_ix ix_list (pe_lst (pa_cons pe_str (pa_cons pe_str pa_nil))) (pe_op op_mod (pe_op op_fdiv (pv 4) pe_int) pe_int) (fun _ _ => rfl)) (pa_cons (pe_fk ih (hr.mono (by omega)) rfl pass0 (pa_cons (pv 0) (pa_cons (pv 1) (pa_cons (pe_op op_add (pe_op op_mul pe_int (pv 2)) pe_int) (pa_cons (pv 3) pa_nil))))) pa_nil))) pa_nil))))))
  pss_nil)
  (pss_one (ps_ret (pe_tup (pa_cons (pe_ix ix_list (pe_lst (pa_cons pe_str (pa_cons pe_str (pa_cons pe_str pa_nil)))) (pe_op op_sub (pv 5) pe_int) (fun _ _ => rfl)) (pa_cons (pv 7) pa_nil))))))))))))), ?_⟩
    obtain ⟨n0, n14⟩ := hno.le
    have hj : (at_ + node).toNat < ds.length := by omega
    obtain ⟨e0, e1⟩ := hds ds[(at_ + node).toNat] (List.getElem_mem hj)
    have ea : atI (ds.map V.int) (at_ + node) = some (V.int (ds[(at_ + node).toNat]'hj)) := at_of (j := (at_ + node).toNat) (by omega) (by rw [List.getElem?_map, List.getElem?_eq_getElem hj]; rfl)
    generalize ds[(at_ + node).toNat]'hj = dv at e0 e1 ea
    refine seqAsg ⟨_, rfl, _, rfl, _, rfl, _, _, rfl, rfl, r, _, _, _, rfl, rfl, SqL.of hr0, ea, .inl ⟨_, rfl, ?_⟩⟩
    refine gName_k ?_
    try dsimp only
    refine seqAsg ⟨_, rfl, _, _, rfl, rfl, (by show (0 : Int) < 14; decide), ?_⟩
    refine gName_k ?_
    try dsimp only
    have hwl := hts.len
    have m0 : 0 ≤ dv / 14 % (ws.length : Int) := Int.emod_nonneg _ (by omega)
    have m1 : dv / 14 % (ws.length : Int) < (ws.length : Nat) := Int.emod_lt_of_pos _ (by omega)
    obtain ⟨j, z, hz, ez⟩ := atI_of (us := ws) (m := ws.length) m0 m1 rfl
    obtain ⟨t0, ht0', it0⟩ := hts.at_ hz
    refine seqAsg ⟨_, rfl, _, rfl, _, _, rfl, rfl, ⟨by decide, by decide⟩, _, rfl, a, ws, rfl, .inl (SqL.of ha), _, _, rfl, rfl, (by show (0 : Int) < ws.length; omega), a, _, _, z, rfl, rfl, SqL.of ha, ez, ?_⟩
    refine gName_k ?_
    try dsimp only
    refine seqIf (tb_or (fun R r => ⟨_, rfl, _, _, rfl, rfl, _, rfl, r _ (Same.refl _)⟩) fun H' s' _ R r => ⟨_, rfl, _, _, rfl, rfl, _, rfl, r _ (Same.refl _)⟩) fun H1 s1 => ite2 (fun _ => ?_) (fun hno1 => nxt ?_)
    · exact ⟨_, rfl, k t0 z H1 s1 (hat1 t0 (List.mem_of_getElem? ht0') _) (it0.same s1)⟩
    try dsimp only
    have hno2 : ¬ (6 < node) ∧ ¬ (dv % 14 < 4) := by
      rw [Bool.or_eq_true, decide_eq_true_eq, decide_eq_true_eq] at hno1
      exact ⟨fun e => hno1 (.inl e), fun e => hno1 (.inr e)⟩
    have w0 : 0 ≤ dv % 14 := Int.emod_nonneg _ (by decide)
    have w1 : dv % 14 < 14 := Int.emod_lt_of_pos _ (by decide)
    cases d with
    | zero => exact absurd hno.1 (by omega)
    | succ d =>
      obtain ⟨k1, k2, _⟩ := NodeAt.kids hd3 hno
      have call : ∀ {n' : Int} {H1 : Hp} {Q1 : VK}, NodeAt d n' → Same H H1 → (∀ t v H', Same H1 H' → Pd d t → IsT H' t v → Q1 v H') → sp_foP d [.ref r, .int at_, .int n', .ref a] H1 Q1 E0 := fun {n' H1 Q1} hn s1 kk => ⟨r, a, at_, n', ds, ws, ts, Pd, rfl, s1 _ _ hr0, hds, hat, hn, hlen, s1 _ _ ha, hts.same s1, ht0, ht1, fc, hat1, by omega, kk⟩
      refine seqAsg ⟨_, rfl, _, rfl, _, rfl, _, _, rfl, rfl, .inl ⟨by decide, by decide⟩, _, _, rfl, rfl, _, rfl, call k1 s1 fun t1 v1 H2 s2 f1 i1 => ?_⟩
      refine gName_k ?_
      try dsimp only
      have S2 := s1.trans s2
      refine ⟨_, rfl, _, _, rfl, rfl, _, rfl, ite2 (fun h7 => ?_) (fun h7 => nxt ?_)⟩
      · refine ⟨_, rfl, _, rfl, _, rfl, _, rfl, _, _, rfl, rfl, .inl ⟨by decide, by decide⟩, _, _, rfl, rfl, _, rfl, call k2 S2 fun t2 v2 H3 s3 f2 i2 => ⟨(by show 3 ≤ sizeLine; decide), fun q hq => ?_⟩⟩
        have sq := Rd.Same.upd (o := .tup [.str "pair", v1, v2]) hq
        exact k (.bi "pair" t1 t2) _ _ ((S2.trans s3).trans sq) (fc.bi (by decide +kernel) f1 f2) ⟨q, v1, v2, rfl, upd_same, (i1.same s3).same sq, i2.same sq⟩
      try dsimp only
      refine ⟨_, rfl, _, _, rfl, rfl, _, rfl, ite2 (fun h9 => ?_) (fun h9 => nxt ?_)⟩
      · refine ⟨_, rfl, _, rfl, _, rfl, _, rfl, _, _, rfl, rfl, .inl ⟨by decide, by decide⟩, _, _, rfl, rfl, _, rfl, call k2 S2 fun t2 v2 H3 s3 f2 i2 => ⟨(by show 3 ≤ sizeLine; decide), fun q hq => ?_⟩⟩
        have sq := Rd.Same.upd (o := .tup [.str "seal", v1, v2]) hq
        exact k (.bi "seal" t1 t2) _ _ ((S2.trans s3).trans sq) (fc.bi (by decide +kernel) f1 f2) ⟨q, v1, v2, rfl, upd_same, (i1.same s3).same sq, i2.same sq⟩
      try dsimp only
      refine ⟨_, rfl, _, _, rfl, rfl, _, rfl, ite2 (fun h11 => ?_) (fun h11 => nxt ?_)⟩
      · refine ⟨_, rfl, (by show 2 ≤ sizeLine; decide), fun qo hqo => ?_⟩
        have so := Rd.Same.upd (o := .lst [.str "open", .str "own"]) hqo
        have p0 : 0 ≤ dv / 14 % 2 := Int.emod_nonneg _ (by decide)
        have p1 : dv / 14 % 2 < (2 : Nat) := Int.emod_lt_of_pos _ (by decide)
        obtain ⟨j2, z2, hj2, ez2⟩ := atI_of (us := [.str "open", .str "own"]) (m := 2) p0 p1 rfl
        obtain ⟨sg, rfl, hsg⟩ : ∃ sg : Str, z2 = .str sg ∧ sg ∈ (["open", "own"] : List Str) := by
          match j2, hj2 with
          | 0, h => cases h; exact ⟨_, rfl, by decide +kernel⟩
          | 1, h => cases h; exact ⟨_, rfl, by decide +kernel⟩
          | j + 2, h => cases h
        refine ⟨_, rfl, _, _, rfl, rfl, ⟨by decide, by decide⟩, _, _, rfl, rfl, (by show (0 : Int) < 2; decide), qo, _, _, _, rfl, rfl, SqL.of upd_same, ez2, ?_⟩
        refine ⟨_, rfl, _, rfl, _, rfl, _, _, rfl, rfl, .inl ⟨by decide, by decide⟩, _, _, rfl, rfl, _, rfl, call k2 (S2.trans so) fun t2 v2 H3 s3 f2 i2 => ⟨(by show 2 ≤ sizeLine; decide), fun q hq => ⟨(by show 3 ≤ sizeLine; decide), fun q2 hq2 => ?_⟩⟩⟩
        have sq := Rd.Same.upd (o := .tup [.str sg, v2]) hq
        have sq2 := Rd.Same.upd (o := .tup [.str "lock", v1, .ref q]) hq2
        have hqq := sq2 _ _ (upd_same (H := H3) (a := q) (o := .tup [.str sg, v2]))
        exact k (.bi "lock" t1 (.un sg t2)) _ _ ((((S2.trans so).trans s3).trans sq).trans sq2) (fc.lk hsg f1 f2) ⟨q2, v1, .ref q, rfl, upd_same, (((i1.same so).same s3).same sq).same sq2, q, v2, rfl, hqq, (i2.same sq).same sq2⟩
      try dsimp only
      refine ⟨(by show 3 ≤ sizeLine; decide), fun qo hqo => ?_⟩
      have so := Rd.Same.upd (o := .lst [.str "mark", .str "open", .str "own"]) hqo
      have h11 : ¬ (dv % 14 < 11) := by simpa using h11
      obtain ⟨j2, z2, hj2, ez2⟩ := atI_of (us := [.str "mark", .str "open", .str "own"]) (m := 3) (d := dv % 14 - 11) (by omega) (by omega) rfl
      obtain ⟨sg, rfl, hsg⟩ : ∃ sg : Str, z2 = .str sg ∧ sg ∈ (["mark", "open", "own"] : List Str) := by
        match j2, hj2 with
        | 0, h => cases h; exact ⟨_, rfl, by decide +kernel⟩
        | 1, h => cases h; exact ⟨_, rfl, by decide +kernel⟩
        | 2, h => cases h; exact ⟨_, rfl, by decide +kernel⟩
        | j + 3, h => cases h
      refine ⟨_, rfl, _, _, rfl, rfl, qo, _, _, _, rfl, rfl, SqL.of upd_same, ez2, _, rfl, (by show 2 ≤ sizeLine; decide), fun q hq => ?_⟩
      have sq := Rd.Same.upd (o := .tup [.str sg, v1]) hq
      exact k (.un sg t1) _ _ ((S2.trans so).trans sq) (fc.un hsg f1) ⟨q, v1, rfl, upd_same, (i1.same so).same sq⟩
theorem fo_none (T : Tx w K mg) : Fk P w K mg base CX0 1 "_law_form" ["_law_row_here", "_law_at", "_law_node", "_law_atoms_here"] (spFoR 0) := by
  refine T.F__law_form.ok0 sc__law_form (fun _ _ _ _ _ _ us hl => match us, hl with | [_, _, _, _], _ => rfl) (fun vs H Q E h => h.elim) (fun cdv A outer s H vs Q E hr h => h.elim)
theorem ok__law_formP (T : Tx w K mg) : ∀ d : Nat, Fk P w K mg base CX0 (d + 2) "_law_form" ["_law_row_here", "_law_at", "_law_node", "_law_atoms_here"] (sp_foP d)
  | 0 => fo_step T 0 (fo_none T)
  | d + 1 => fo_step T (d + 1) (ok__law_formP T d)
theorem ok__law_form (T : Tx w K mg) (d : Nat) : Fk P w K mg base CX0 (d + 2) "_law_form" ["_law_row_here", "_law_at", "_law_node", "_law_atoms_here"] (sp_fo d) := by
  obtain ⟨⟨fd, a, b⟩, c, e⟩ := ok__law_formP (P := P) (base := base) T d
  exact ⟨⟨fd, a.imp fun vs H Q E ⟨r, a, at_, node, ds, ws, ts, h1, h2, h3, h4, h5, h6, h7, h8, h9, h10, h11, h12, k⟩ => ⟨r, a, at_, node, ds, ws, ts, Fo, h1, h2, h3, h4, h5, h6, h7, h8, h9, by omega, FoC.fo, fun t ht d => Fo.atom (h11 t ht), h12, k⟩, b⟩, c, e⟩
end
end Rd
namespace Rd
open PySem L2
def sp_foL : Sp := fun vs H Q _ => ∃ (r a : Addr) (at_ : Int) (m : Nat) (ds : List Int) (ws : List V) (ts : List Tr), vs = [.ref r, .int at_, .int m, .ref a] ∧ H r = some (.lst (ds.map V.int)) ∧ (∀ d ∈ ds, 0 ≤ d ∧ d < 1000) ∧ 0 ≤ at_ ∧ at_ + 16 * m ≤ ds.length ∧ m ≤ 100 ∧ H a = some (.lst ws) ∧ TsAt H ts ws ∧ 0 < ts.length ∧ ts.length ≤ 1000 ∧ (∀ t ∈ ts, atomT t) ∧
  ∀ q us fs H', Same H H' → H q = none → H' q = some (.lst us) → TsAt H' fs us → fs.length = m → (∀ t ∈ fs, Fo 3 t) → Q (.ref q) H'
section
variable {P : Program} {w : World} {K : PySem.W.Frag} {mg : Str → Option Value} {base : Heap}
abbrev s__law_forms : Stmt := top 55
theorem sc__law_forms : FnScope ["_law_row_here", "_law_at", "_law_many", "_law_atoms_here", "_law_found", "_law_k", "_law_draw"] ["_law_row_here", "_law_at", "_law_many", "_law_atoms_here"] (defScope s__law_forms) := ⟨rfl, rfl, rfl, by decide +kernel, rfl, by decide +kernel, by decide +kernel⟩
theorem ok__law_forms (T : Tx w K mg) : Fk P w K mg base CX0 6 "_law_forms" ["_law_row_here", "_law_at", "_law_many", "_law_atoms_here"] sp_foL := by
  refine T.F__law_forms.ok0 sc__law_forms (fun _ _ _ _ _ _ us hl => match us, hl with | [_, _, _, _], _ => rfl)
    (fun vs H Q E h => ?_) (fun cdv A outer s H vs Q E hr h => ?_)
  · obtain ⟨r, a, at_, m, ds, ws, ts, rfl, _⟩ := h
    rfl
  · obtain ⟨r, a, at_, m, ds, ws, ts, rfl, hr0, hds, hat, hlen, hm, ha, hts, ht0, ht1, hat1, k⟩ := h
    refine ⟨_, (pss_cons (ps_set (i := 4) sc__law_forms.nd rfl (Or.inl rfl) (pe_lst pa_nil))
  (pss_cons (ps_for PassesOwn.never rfl (pi_range1 rfl T.z_range (pa_cons (pv 2) pa_nil)) (pg_name (i := 5) sc__law_forms.nd rfl (Or.inl rfl))
  (pss_cons (ps_set (i := 6) sc__law_forms.nd rfl (Or.inl rfl) (pe_callTy call_int1 (by rfl) T.z_int (by decide +kernel) (pa_cons (pe_ix ix_list (pv 0) (pe_op op_add (pv 1) (pe_op op_mul pe_int (pv 5))) (fun _ _ => rfl)) pa_nil)))
  (pss_one (ps_if (PW.pt (pw_and (pt_cmpR op_eq (pe_op op_mod (pv 6) pe_int) pe_int (nomark _)) (pw_and1 (pt_cmpR (op_neD hr.units) (pv 4) (pe_lst pa_nil) (nomark _)))))
  (pss_one (ps_expr (pe_bm PySem.F.plainAttrs_list PySem.F.slot_list_append PySem.F.type_list_append mt_append (pv 4) (pa_cons (pe_ix ix_list (pv 4) (pe_op op_mod (pe_op op_fdiv (pv 6) pe_int) (pe_callB call_len_seq (by rfl) T.z_len (by decide +kernel) (pa_cons (pv 4) pa_nil))) (fun _ _ => rfl)) pa_nil))))
  (pss_one (ps_if (pt_cmpR op_eq (pe_op op_mod (pv 6) pe_int) pe_int (nomark _))
  (pss_one (ps_expr (pe_bm PySem.F.plainAttrs_list PySem.F.slot_list_append PySem.F.type_list_append mt_append (pv 4) (pa_cons (pe_ix ix_list (pv 3) (pe_op op_mod (pe_op op_fdiv (pv 6) pe_int) (pe_callB call_len_seq (by rfl) T.z_len (by decide +kernel) (pa_cons (pv 3) pa_nil))) (fun _ _ => rfl)) pa_nil))))
  (pss_one (ps_expr (pe_bm PySem.F.plainAttrs_list PySem.F.slot_list_append PySem.F.type_list_append mt_append (pv 4) (pa_cons (pe_fk (ok__law_form T 3) (hr.mono (by omega)) rfl pass0 (pa_cons (pv 0) (pa_cons (pe_op op_add (pe_op op_add (pv 1) (pe_op op_mul pe_int (pv 5))) pe_int) (pa_cons pe_int (pa_cons (pv 3) pa_nil))))) pa_nil))))))))))
  (pss_one (ps_ret (pv 4))))), ?_⟩
    have big : 16777216 ≤ sizeLine := by decide
    have hwl := hts.len
    refine seqAsg ⟨Nat.zero_le _, fun p hp => ?_⟩
    refine gName_k ?_
    try dsimp only
    refine ⟨_, rfl, m, rfl, by omega, by omega, for_range (n := m) (fun i σ Hc => ∃ (us : List V) (fs : List Tr) (t5 t6 : Option V), σ = [some (.ref r), some (.int at_), some (.int m), some (.ref a), some (.ref p), t5, t6] ∧ Same H Hc ∧ Hc p = some (.lst us) ∧ TsAt Hc fs us ∧ fs.length = i ∧ ∀ t ∈ fs, Fo 3 t) ⟨[], [], _, _, rfl, Rd.Same.upd hp, upd_same, ⟨rfl, fun i t v h => by simp at h⟩, rfl, fun t ht => by cases ht⟩ ?_ ?_⟩
    · rintro i σ Hc hi ⟨us, fs, t5, t6, rfl, sc, hpc, hfs, hfl, hfo⟩
      refine gName_k ?_
      try dsimp only
      have hul := hfs.len
      have hj : (at_ + 16 * (0 + (i : Int))).toNat < ds.length := by omega
      obtain ⟨e0, e1⟩ := hds ds[(at_ + 16 * (0 + (i : Int))).toNat] (List.getElem_mem hj)
      have ea : atI (ds.map V.int) (at_ + 16 * (0 + (i : Int))) = some (V.int (ds[(at_ + 16 * (0 + (i : Int))).toNat]'hj)) := at_of (j := (at_ + 16 * (0 + (i : Int))).toNat) (by omega) (by rw [List.getElem?_map, List.getElem?_eq_getElem hj]; rfl)
      generalize ds[(at_ + 16 * (0 + (i : Int))).toNat]'hj = dv at e0 e1 ea
      refine seqAsg ⟨_, rfl, _, rfl, _, rfl, _, _, rfl, rfl, .inl ⟨by decide, by decide⟩, _, _, rfl, rfl, r, _, _, _, rfl, rfl, SqL.of (sc _ _ hr0), ea, .inl ⟨_, rfl, ?_⟩⟩
      refine gName_k ?_
      try dsimp only
      have app : ∀ {H1 : Hp} {t : Tr} {v : V}, Same Hc H1 → Fo 3 t → IsT H1 t v → ∃ (us' : List V) (fs' : List Tr) (t5 t6 : Option V), [some (.ref r), some (.int at_), some (.int m), some (.ref a), some (.ref p), some (.int (0 + (i : Int))), some (.int dv)] = [some (.ref r), some (.int at_), some (.int m), some (.ref a), some (.ref p), t5, t6] ∧ Same H (upd H1 p (.lst (us ++ [v]))) ∧ upd H1 p (.lst (us ++ [v])) p = some (.lst us') ∧ TsAt (upd H1 p (.lst (us ++ [v]))) fs' us' ∧ fs'.length = i + 1 ∧ ∀ t ∈ fs', Fo 3 t := fun {H1 t v} s1 f it => by
        have kp := Kp.upd_lst (C := 0) (ys := us ++ [v]) (s1 _ _ hpc)
        refine ⟨us ++ [v], fs ++ [t], _, _, rfl, fun c o e => by rw [upd_ne (ne_of_none e hp)]; exact (sc.trans s1) _ _ e, upd_same, ((hfs.same s1).mono kp).app (TsAt.one (it.mono kp)), by rw [List.length_append, hfl]; rfl, fun u hu => ?_⟩
        rcases List.mem_append.mp hu with q | q
        · exact hfo u q
        · rw [List.mem_singleton.mp q]; exact f
      have fine : ∀ t ∈ fs, t.fine ∧ t.dep ≤ 60 := fun t ht => ⟨(hfo t ht).wf.fine, by have := (hfo t ht).dep; omega⟩
      refine oneIf (tb_and (fun R r => ⟨_, rfl, _, _, rfl, rfl, (by show (0 : Int) < 3; decide), rfl, _, rfl, r _ (Same.refl _)⟩) fun H1 s1 _ R r => ⟨_, rfl, Nat.zero_le _, fun q hq => ⟨.list (fs.map dat), .list [], .lst (SqL.of ((s1.trans (Rd.Same.upd hq)) _ _ hpc)) (dpAll_ts (hfs.same (s1.trans (Rd.Same.upd hq)))), .lst (SqL.of upd_same) .nil, ts_shaped fine, rfl, _, rfl, r _ (Rd.Same.upd hq)⟩⟩) fun H1 s1 => ?_
      rw [eqv_nil]
      have hp1 := s1 _ _ hpc
      refine ite2 (fun h1 => ?_) (fun h1 => ?_)
      · have hne : 0 < us.length := by
          obtain ⟨_, h3⟩ := He.ba h1
          rw [hul]
          cases fs with
          | nil => cases h3
          | cons x y => exact Nat.succ_pos _
        obtain ⟨j, z, hz, ez⟩ := atI_of (us := us) (m := us.length) (d := dv / 3 % (us.length : Int)) (Int.emod_nonneg _ (by omega)) (Int.emod_lt_of_pos _ (by omega)) rfl
        obtain ⟨t0, ht0', it0⟩ := hfs.at_ hz
        exact ⟨_, rfl, .inl ⟨rfl, _, SqL.of hp1⟩, _, rfl, _, rfl, _, _, rfl, rfl, ⟨by decide, by decide⟩, _, rfl, p, us, rfl, .inl (SqL.of hp1), _, _, rfl, rfl, (by show (0 : Int) < us.length; omega), p, _, _, z, rfl, rfl, SqL.of hp1, ez, p, us, z, rfl, rfl, hp1, (by omega), app s1 (hfo t0 (List.mem_of_getElem? ht0')) (it0.same s1)⟩
      · refine ⟨_, rfl, _, _, rfl, rfl, (by show (0 : Int) < 3; decide), rfl, _, rfl, ite2 (fun h2 => ?_) (fun h2 => ?_)⟩
        · obtain ⟨j, z, hz, ez⟩ := atI_of (us := ws) (m := ws.length) (d := dv / 3 % (ws.length : Int)) (Int.emod_nonneg _ (by omega)) (Int.emod_lt_of_pos _ (by omega)) rfl
          obtain ⟨t0, ht0', it0⟩ := hts.at_ hz
          have ha1 := (sc.trans s1) _ _ ha
          exact ⟨_, rfl, .inl ⟨rfl, _, SqL.of hp1⟩, _, rfl, _, rfl, _, _, rfl, rfl, ⟨by decide, by decide⟩, _, rfl, a, ws, rfl, .inl (SqL.of ha1), _, _, rfl, rfl, (by show (0 : Int) < ws.length; omega), a, _, _, z, rfl, rfl, SqL.of ha1, ez, p, us, z, rfl, rfl, hp1, (by omega), app s1 (Fo.atom (hat1 t0 (List.mem_of_getElem? ht0'))) (it0.same (sc.trans s1))⟩
        · have S1 := sc.trans s1
          refine ⟨_, rfl, .inl ⟨rfl, _, SqL.of hp1⟩, _, rfl, _, rfl, _, rfl, _, _, rfl, rfl, .inl ⟨by decide, by decide⟩, _, _, rfl, rfl, _, _, rfl, rfl, _, rfl, r, a, _, 0, ds, ws, ts, rfl, S1 _ _ hr0, hds, (by omega), rfl, (by omega), S1 _ _ ha, hts.same S1, ht0, ht1, hat1, (by decide), fun t v H2 s2 f it => ?_⟩
          exact ⟨p, us, v, rfl, rfl, s2 _ _ hp1, (by omega), app (s1.trans s2) f it⟩
    · rintro σ Hc ⟨us, fs, t5, t6, rfl, sc, hpc, hfs, hfl, hfo⟩
      exact ⟨_, rfl, k p us fs Hc sc hp hpc hfs hfl hfo⟩
def sp_dh (K : PySem.W.Frag) : Sp := fun vs H Q _ => ∃ (a : Addr) (ns : List Int), vs = [.ref a] ∧ SqL K H a (ns.map V.int) ∧ ns.length ≤ 63 ∧
  ∀ q qf qa us fs ws ts H', Same H H' → H' q = some (.tup [.ref qf, .ref qa]) → H' qf = some (.lst us) → TsAt H' fs us → 0 < fs.length → fs.length ≤ 6 → (∀ t ∈ fs, Fo 3 t) → H' qa = some (.lst ws) → TsAt H' ts ws → atomsOk ts → Q (.ref q) H'
abbrev s__law_drawn_heap : Stmt := top 68
theorem sc__law_drawn_heap : FnScope ["_law_script", "_law_row_here", "_law_atoms_here"] ["_law_script"] (defScope s__law_drawn_heap) := ⟨rfl, rfl, rfl, by decide +kernel, rfl, by decide +kernel, by decide +kernel⟩
theorem ok__law_drawn_heap (T : Tx w K mg) : Fk P w K mg base CX0 8 "_law_drawn_heap" ["_law_script"] (sp_dh K) := by
  refine T.F__law_drawn_heap.ok0 sc__law_drawn_heap (fun _ _ _ _ _ _ us hl => match us, hl with | [_], _ => rfl)
    (fun vs H Q E h => ?_) (fun cdv A outer s H vs Q E hr h => ?_)
  · obtain ⟨a, ns, rfl, _⟩ := h
    rfl
  · obtain ⟨a, ns, rfl, hS, hn, k⟩ := h
    refine ⟨_, (pss_cons (ps_set (i := 1) sc__law_drawn_heap.nd rfl (Or.inl rfl) (pe_fk (ok__law_row T) (hr.mono (by omega)) rfl pass0 (pa_cons (pe_fk (ok__law_cell_at T) (hr.mono (by omega)) rfl pass0 (pa_cons (pv 0) (pa_cons pe_int pa_nil))) (pa_cons pe_int pa_nil))))
  (pss_cons (ps_set (i := 2) sc__law_drawn_heap.nd rfl (Or.inl rfl) (pe_fk (ok__law_atoms T) (hr.mono (by omega)) rfl pass0 (pa_cons (pe_slice sl_list (pv 1) po_none (po_some pe_int)) pa_nil)))
  (pss_one (ps_ret (pe_tup (pa_cons (pe_fk (ok__law_forms T) (hr.mono (by omega)) rfl pass0 (pa_cons (pv 1) (pa_cons pe_int (pa_cons (pe_op op_add pe_int (pe_op op_mod (pe_callTy call_int1 (by rfl) T.z_int (by decide +kernel) (pa_cons (pe_ix ix_list (pv 1) pe_int (fun _ _ => rfl)) pa_nil)) pe_int)) (pa_cons (pv 2) pa_nil))))) (pa_cons (pv 2) pa_nil))))))), ?_⟩
    refine seqAsg ⟨_, rfl, a, ns, 0, rfl, hS, hn, (by decide), fun c => ⟨c, 100, rfl, (by decide), fun r ds H1 s1 nr hr1 hrow => ?_⟩⟩
    refine gName_k ?_
    try dsimp only
    obtain ⟨hdl, hds⟩ := hrow
    obtain ⟨d0, d1, d2, dr, rfl⟩ : ∃ d0 d1 d2 dr, ds = d0 :: d1 :: d2 :: dr := by
      match ds, hdl with
      | d0 :: d1 :: d2 :: dr, _ => exact ⟨d0, d1, d2, dr, rfl⟩
    refine seqAsg ⟨_, rfl, _, rfl, r, _, rfl, SqL.of hr1, fun q2 hq2 => ?_⟩
    have ec : cutV ((d0 :: d1 :: d2 :: dr).map V.int) none (some 2) = [.int d0, .int d1] := by
      unfold cutV
      rw [show (2 : Int) = ((2 : Nat) : Int) from rfl, HT.sIx_nat]
      have : min 2 ((d0 :: d1 :: d2 :: dr).map V.int).length = 2 := by simp
      rw [this]
      rfl
    rw [ec]
    have s2 := Rd.Same.upd (o := .lst [.int d0, .int d1]) hq2
    have h22 : upd H1 q2 (.lst [.int d0, .int d1]) q2 = some (.lst [.int d0, .int d1]) := upd_same
    generalize upd H1 q2 (.lst [.int d0, .int d1]) = H2 at s2 h22 ⊢
    refine ⟨q2, d0, d1, rfl, h22, fun qa ws ts H3 s3 nqa hqa hts hat => ?_⟩
    refine gName_k ?_
    try dsimp only
    have hr3 := s3 _ _ (s2 _ _ hr1)
    have m0 : 0 ≤ d2 % 6 := Int.emod_nonneg _ (by decide)
    have m1 : d2 % 6 < 6 := Int.emod_lt_of_pos _ (by decide)
    have em : V.int (1 + d2 % 6) = V.int (((1 + d2 % 6).toNat : Nat) : Int) := by congr 1; omega
    refine ⟨_, rfl, _, rfl, r, _, _, _, rfl, rfl, SqL.of hr3, at_of (j := 2) rfl rfl, .inl ⟨_, rfl, _, _, rfl, rfl, (by show (0 : Int) < 6; decide), _, _, rfl, rfl, _, rfl, r, qa, 3, (1 + d2 % 6).toNat, d0 :: d1 :: d2 :: dr, ws, ts, by rw [← em]; rfl, hr3, hds, (by decide), (by rw [hdl]; omega), (by omega), hqa, hts, (by rw [hat.1]; decide), (by rw [hat.1]; decide), hat.2, fun qf us fs H4 s4 nqf hqf hfs hfl hfo => ?_⟩⟩
    refine ⟨_, rfl, (by show 2 ≤ sizeLine; decide), fun q hq => ?_⟩
    have sq := Rd.Same.upd (o := .tup [.ref qf, .ref qa]) hq
    exact k q qf qa us fs ws ts _ ((((s1.trans s2).trans s3).trans s4).trans sq) upd_same (sq _ _ hqf) (hfs.same sq) (by omega) (by omega) hfo ((s4.trans sq) _ _ hqa) (hts.same (s4.trans sq)) hat
end
end Rd
namespace Rd
open PySem L2
theorem rd_of {K : PySem.W.Frag} {H : Hp} {t : Tr} {v : V} {n : Nat} {q0 : Addr} {Q : VK} {E : XK} (hq : ∀ us, H q0 ≠ some (.tup us)) (it : IsT H t v) (wf : Wf t) (hn : t.dep + 1 ≤ n) (h100 : n ≤ 100) (k : ∀ x H', Same H H' → IsL K H' x v → IsT H' t v → Q (.ref x) H') : sp_of K n [v] H Q E := by
  have no := flt_form wf (n + 1) (by omega)
  exact ⟨v, t.th, q0, rfl, it.th hq, Tr.th_le (by omega), wf.short n (by omega), h100, fun _ x H' s' hx => k x H' s' hx (it.same s'), fun rel e => by rw [no] at e; cases e⟩
section
variable {P : Program} {w : World} {K : PySem.W.Frag} {mg : Str → Option Value} {base : Heap}
abbrev s__law_partner : Stmt := top 56
theorem sc__law_partner : FnScope ["_law_key"] ["_law_key"] (defScope s__law_partner) := ⟨rfl, rfl, rfl, by decide +kernel, rfl, by decide +kernel, by decide +kernel⟩
theorem ok__law_partner (T : Tx w K mg) : Fk P w K mg base CX0 1 "_law_partner" ["_law_key"] sp_partner := by
  refine T.F__law_partner.ok0 sc__law_partner (fun _ _ _ _ _ _ us hl => match us, hl with | [_], _ => rfl)
    (fun vs H Q E h => ?_) (fun cdv A outer s H vs Q E hr h => ?_)
  · obtain ⟨v, s, a, rfl, _⟩ := h
    rfl
  · obtain ⟨v, s, a, rfl, it, hs, k⟩ := h
    refine ⟨_, (pss_one (ps_ret (pe_tup (pa_cons (pe_ix ix_list (pe_lst (pa_cons pe_str (pa_cons pe_str pa_nil))) (pe_callTy call_int1 (by rfl) T.z_int (by decide +kernel) (pa_cons (pe_cmpR op_eq (pe_ix ix_tup (pv 0) pe_int (fun _ _ => rfl)) pe_str (nomark _)) pa_nil)) (fun _ _ => rfl)) (pa_cons (pe_ix ix_tup (pv 0) pe_int (fun _ _ => rfl)) pa_nil))))), ?_⟩
    obtain ⟨p, u, rfl, hp, iu⟩ := it
    refine ⟨(by show 2 ≤ sizeLine; decide), fun q1 hq1 => ?_⟩
    have s1 := Rd.Same.upd (o := .lst [.str "own", .str "open"]) hq1
    have h11 : upd H q1 (.lst [.str "own", .str "open"]) q1 = some (.lst [.str "own", .str "open"]) := upd_same
    generalize upd H q1 (.lst [.str "own", .str "open"]) = H1 at s1 h11 ⊢
    have fin : ∀ (z : Str), z = prt s → (∃ z', (V.str z = z') ∧ True) := fun z _ => ⟨_, rfl, trivial⟩
    refine ⟨_, rfl, p, _, _, _, rfl, rfl, SqT.of (s1 _ _ hp), at_of (j := 0) rfl rfl, rfl, .inr ⟨_, rfl, ?_⟩⟩
    rw [decS]
    by_cases e : s = "own"
    · subst e
      refine ⟨q1, _, _, .str "open", rfl, rfl, SqL.of h11, at_of (j := 1) (by decide +kernel) rfl, _, rfl, p, _, _, _, rfl, rfl, SqT.of (s1 _ _ hp), at_of (j := 1) rfl rfl, (by show 2 ≤ sizeLine; decide), fun q hq => ?_⟩
      have sq := Rd.Same.upd (o := .tup [.str "open", u]) hq
      exact k _ _ (s1.trans sq) ⟨q, u, rfl, upd_same, (iu.same s1).same sq⟩
    · have eo : s = "open" := by
        rcases List.mem_cons.mp hs with h | h
        · exact h
        · exact absurd (List.mem_singleton.mp h) e
      subst eo
      refine ⟨q1, _, _, .str "own", rfl, rfl, SqL.of h11, at_of (j := 0) (by decide +kernel) rfl, _, rfl, p, _, _, _, rfl, rfl, SqT.of (s1 _ _ hp), at_of (j := 1) rfl rfl, (by show 2 ≤ sizeLine; decide), fun q hq => ?_⟩
      have sq := Rd.Same.upd (o := .tup [.str "own", u]) hq
      exact k _ _ (s1.trans sq) ⟨q, u, rfl, upd_same, (iu.same s1).same sq⟩
abbrev s__law_undoing : Stmt := top 57
theorem sc__law_undoing : FnScope ["_law_form_here"] ["_law_form_here"] (defScope s__law_undoing) := ⟨rfl, rfl, rfl, by decide +kernel, rfl, by decide +kernel, by decide +kernel⟩
theorem ok__law_undoing (T : Tx w K mg) : Fk P w K mg base CX0 2 "_law_undoing" ["_law_form_here"] sp_ukey := by
  refine T.F__law_undoing.ok0 sc__law_undoing (fun _ _ _ _ _ _ us hl => match us, hl with | [_], _ => rfl)
    (fun vs H Q E h => ?_) (fun cdv A outer s H vs Q E hr h => ?_)
  · obtain ⟨v, t, key, rfl, _⟩ := h
    rfl
  · obtain ⟨v, t, key, rfl, it, wf, hk, k⟩ := h
    refine ⟨_, (pss_cons (ps_if (pt_cmpR op_eq (pe_ix ix_tup (pv 0) pe_int (fun _ _ => rfl)) pe_str (nomark _))
  (pss_one (ps_ret (pe_ix ix_tup (pv 0) pe_int (fun _ _ => rfl))))
  pss_nil)
  (pss_one (ps_ret (pe_fk (ok__law_partner T) (hr.mono (by omega)) rfl pass0 (pa_cons (pe_ix ix_tup (pv 0) pe_int (fun _ _ => rfl)) pa_nil))))), ?_⟩
    rcases ukey_inv wf hk with ⟨c, rfl⟩ | ⟨c, s, k0, rfl, hs, rfl⟩
    · obtain ⟨p, u1, u2, rfl, hp, i1, i2⟩ := it
      refine ⟨_, rfl, p, _, _, _, rfl, rfl, SqT.of hp, at_of (j := 0) rfl rfl, rfl, _, rfl, iteP (by decide +kernel) ?_⟩
      exact ⟨_, rfl, p, _, _, _, rfl, rfl, SqT.of hp, at_of (j := 2) rfl rfl, k _ _ (Same.refl _) i2⟩
    · obtain ⟨p, u1, u2, rfl, hp, i1, i2⟩ := it
      refine ⟨_, rfl, p, _, _, _, rfl, rfl, SqT.of hp, at_of (j := 0) rfl rfl, rfl, _, rfl, iteN (by decide +kernel) (nxt ?_)⟩
      try dsimp only
      exact ⟨_, rfl, p, _, _, _, rfl, rfl, SqT.of hp, at_of (j := 2) rfl rfl, u2, s, k0, rfl, i2, hs, fun u H' s' iu => k _ _ s' iu⟩
def sp_mkHeap (K : PySem.W.Frag) : Sp := fun vs H Q _ => ∃ (a : Addr) (ws : List V) (ts : List Tr), vs = [.ref a] ∧ H a = some (.lst ws) ∧ TsAt H ts ws ∧ okTs 6 ts ∧ ∀ h H', Same H H' → IsHp K H' h ts → Q (.ref h) H'
abbrev s__law_heap : Stmt := top 58
theorem sc__law_heap : FnScope ["_law_forms_here", "_law_form_here"] ["_law_forms_here"] (defScope s__law_heap) := ⟨rfl, rfl, rfl, by decide +kernel, rfl, by decide +kernel, by decide +kernel⟩
theorem ok__law_heap (T : Tx w K mg) : Fk P w K mg base CX0 30 "_law_heap" ["_law_forms_here"] (sp_mkHeap K) := by
  refine T.F__law_heap.ok0 sc__law_heap (fun _ _ _ _ _ _ us hl => match us, hl with | [_], _ => rfl)
    (fun vs H Q E h => ?_) (fun cdv A outer s H vs Q E hr h => ?_)
  · obtain ⟨a, ws, ts, rfl, _⟩ := h
    rfl
  · obtain ⟨a, ws, ts, rfl, ha, hts, ok, k⟩ := h
    refine ⟨_, (pss_one (ps_ret (pe_new T.J_Heap T.g_Heap (ok_Hinit T 6) (hr.mono (by omega)) (by rfl) pass0 (pa_cons (pe_lc (own := [("_law_form_here", 1)]) (g := gName 1) (tt := tYes) (by rfl) sc__law_heap.nd (pi_list (pv 0)) (blkOk_by (own := [("_law_form_here", 1)]) (N := ["_law_forms_here", "_law_form_here"]) (sc := defScope s__law_heap) (by decide +kernel)) (fun _ _ _ _ _ => (pg_name (i := 1) sc__law_heap.nd rfl (Or.inl rfl))) (fun _ _ _ _ _ => pts_nil) (fun _ _ _ _ _ => (pe_fs (ok_of T 17) (hr.mono (by omega)) rfl (fun _ => atN) (pa_cons (pv 1) pa_nil)))) pa_nil)))), ?_⟩
    have htl := hts.len
    have hok := ok.1
    refine ⟨_, rfl, a, rfl, ⟨_, SqL.of ha⟩, fun D hD => ?_⟩
    refine lcl (C := He.ga K "Letter") (fun i H v => ∃ t, ts[i]? = some t ∧ IsLet K H t v) (fun i H H' v kp ⟨t, e, h⟩ => ⟨t, e, h.mono kp⟩) (SqL.of ha) (by omega) hD (fun i y H2 Q2 hy s2 k2 => ?_) fun vs H2 s2 hD2 hv2 hvs => ?_
    · have hil := (List.getElem?_eq_some_iff.mp hy).1
      have ht : ts[i]? = some ts[i] := List.getElem?_eq_getElem (by omega)
      obtain ⟨w1, w2, w3⟩ := ok.2 _ (List.mem_of_getElem? ht)
      have iu := (hts.get i _ y ht hy).same s2
      exact ⟨_, rfl, rd_of (q0 := a) (fun us z => by rw [s2 _ _ ha] at z; cases z) iu w1 (by omega) (by decide) fun x H3 s3 hx ix => k2 _ H3 s3 ⟨_, ht, x, y, rfl, hx, ix⟩⟩
    · exact rd_mkH hD2 (LsAt.of (hv2.trans htl) hvs) ok (by decide) fun h H3 s3 hp => k h H3 (s2.trans s3) hp
def sp_toldL (K : PySem.W.Frag) : Sp := fun vs H Q _ => ∃ (a : Addr) (ws : List V) (ts : List Tr), vs = [.ref a] ∧ H a = some (.lst ws) ∧ LsAt K H ts ws ∧ ts.length ≤ 100000 ∧ ∀ q us H', Same H H' → H q = none → H' q = some (.lst us) → TsAt H' ts us → Q (.ref q) H'
abbrev s__law_told : Stmt := top 59
theorem sc__law_told : FnScope ["_law_letters", "_law_letter"] ["_law_letters"] (defScope s__law_told) := ⟨rfl, rfl, rfl, by decide +kernel, rfl, by decide +kernel, by decide +kernel⟩
theorem ok__law_toldL (T : Tx w K mg) : Fk P w K mg base CX0 4 "_law_told" ["_law_letters"] (sp_toldL K) := by
  refine T.F__law_told.ok0 sc__law_told (fun _ _ _ _ _ _ us hl => match us, hl with | [_], _ => rfl)
    (fun vs H Q E h => ?_) (fun cdv A outer s H vs Q E hr h => ?_)
  · obtain ⟨a, ws, ts, rfl, _⟩ := h
    rfl
  · obtain ⟨a, ws, ts, rfl, ha, hts, hl, k⟩ := h
    refine ⟨_, (pss_one (ps_ret (pe_lc (own := [("_law_letter", 1)]) (g := gName 1) (tt := tYes) (by rfl) sc__law_told.nd (pi_list (pv 0)) (blkOk_by (own := [("_law_letter", 1)]) (N := ["_law_letters", "_law_letter"]) (sc := defScope s__law_told) (by decide +kernel)) (fun _ _ _ _ _ => (pg_name (i := 1) sc__law_told.nd rfl (Or.inl rfl))) (fun _ _ _ _ _ => pts_nil) (fun _ _ _ _ _ => (pe_fm0k (K := K) rfl (pv 1) T.k_Letter (ok_form T) (hr.mono (by omega)) pass0))))), ?_⟩
    have htl := hts.len
    refine ⟨_, rfl, a, rfl, ⟨_, SqL.of ha⟩, fun D hD => ?_⟩
    refine lcl (C := 0) (fun i H v => ∃ t, ts[i]? = some t ∧ IsT H t v) (fun i H H' v kp ⟨t, e, h⟩ => ⟨t, e, h.mono kp⟩) (SqL.of ha) (by omega) hD (fun i y H2 Q2 hy s2 k2 => ?_) fun vs H2 s2 hD2 hv2 hvs => ?_
    · have hil := (List.getElem?_eq_some_iff.mp hy).1
      have ht : ts[i]? = some ts[i] := List.getElem?_eq_getElem (by omega)
      obtain ⟨b, u, rfl, ⟨db, hb⟩, iu⟩ := (hts.get i _ y ht hy).same s2
      exact ⟨_, rfl, b, db, _, rfl, hb, lookT (by decide +kernel), b, u, rfl, ⟨db, hb⟩, k2 _ _ (Same.refl _) ⟨_, ht, iu⟩⟩
    · exact k D vs H2 s2 hD hD2 (TsAt.of (hv2.trans htl) hvs)
end
end Rd
namespace Rd
open PySem L2
structure AtL {β : Type} (R : Hp → β → V → Prop) (H : Hp) (bs : List β) (vs : List V) : Prop where
  len : vs.length = bs.length
  get : ∀ (i : Nat) b v, bs[i]? = some b → vs[i]? = some v → R H b v
theorem AtL.nil {β : Type} {R : Hp → β → V → Prop} {H : Hp} : AtL R H [] [] := ⟨rfl, fun i r v h => by simp at h⟩
theorem AtL.snoc {β : Type} {R : Hp → β → V → Prop} {H : Hp} {rs : List β} {vs : List V} {r : β} {v : V} (h : AtL R H rs vs) (g : R H r v) : AtL R H (rs ++ [r]) (vs ++ [v]) := by
  have hl := h.len
  refine ⟨by rw [List.length_append, List.length_append, hl]; rfl, fun i p u a b => ?_⟩
  by_cases hi : i < rs.length
  · rw [List.getElem?_append_left hi] at a
    rw [List.getElem?_append_left (by omega)] at b
    exact h.get i p u a b
  · rw [List.getElem?_append_right (by omega)] at a
    rw [List.getElem?_append_right (by omega)] at b
    rw [hl] at b
    cases e : i - rs.length with
    | zero =>
      rw [e] at a b
      cases a
      cases b
      exact g
    | succ j =>
      rw [e] at a
      simp at a
theorem AtL.mp {β : Type} {R R' : Hp → β → V → Prop} {H H' : Hp} {rs : List β} {vs : List V} (h : AtL R H rs vs) (f : ∀ r v, R H r v → R' H' r v) : AtL R' H' rs vs := ⟨h.len, fun i r v a b => f r v (h.get i r v a b)⟩
theorem dpAll_at {β : Type} {K : PySem.W.Frag} {H : Hp} {R : Hp → β → V → Prop} {f : β → PyData} (hf : ∀ b v, R H b v → Dp K H v (f b)) : ∀ {bs : List β} {vs : List V}, AtL R H bs vs → DpAll K H vs (bs.map f)
  | [], [], _ => .nil
  | [], v :: vs, h => by have := h.len; cases this
  | b :: bs, [], h => by have := h.len; cases this
  | b :: bs, v :: vs, h => .cons (hf b v (h.get 0 b v rfl rfl)) (dpAll_at hf ⟨by have := h.len; simpa using this, fun i b v h1 h2 => h.get (i + 1) b v h1 h2⟩)
end Rd
namespace Rd
open PySem L2
def AlG {α : Type} (R : Hp → α → V → Prop) (H : Hp) : List (Str × α) → List (Key × V) → Prop
  | [], [] => True
  | (x, t) :: l, (k, v) :: kvs => k = .inr x ∧ R H t v ∧ AlG R H l kvs
  | _, _ => False
def lookG {α : Type} (l : List (Str × α)) (x : Str) : Option α := (l.find? fun p => decide (p.1 = x)).map (·.2)
theorem AlG.len {α : Type} {R : Hp → α → V → Prop} {H : Hp} : ∀ {l : List (Str × α)} {kvs : List (Key × V)}, AlG R H l kvs → kvs.length = l.length
  | [], [], _ => rfl
  | (x, t) :: l, (k, v) :: kvs, h => congrArg (· + 1) (AlG.len h.2.2)
theorem AlG.mono {α : Type} {R S : Hp → α → V → Prop} {H H' : Hp} (m : ∀ t v, R H t v → S H' t v) : ∀ {l : List (Str × α)} {kvs : List (Key × V)}, AlG R H l kvs → AlG S H' l kvs
  | [], [], _ => trivial
  | (x, t) :: l, (k, v) :: kvs, h => ⟨h.1, m _ _ h.2.1, AlG.mono m h.2.2⟩
theorem AlG.get {α : Type} {R : Hp → α → V → Prop} {H : Hp} : ∀ {l : List (Str × α)} {kvs : List (Key × V)} {i : Nat} {k : Key} {v : V}, AlG R H l kvs → kvs[i]? = some (k, v) → ∃ x t, l[i]? = some (x, t) ∧ k = .inr x ∧ R H t v
  | (x, t) :: l, (k, v) :: kvs, 0, _, _, h, e => by
    cases e
    exact ⟨x, t, rfl, h.1, h.2.1⟩
  | (x, t) :: l, (k, v) :: kvs, i + 1, _, _, h, e => by
    obtain ⟨y, u, e1, e2, e3⟩ := AlG.get (l := l) (kvs := kvs) (i := i) h.2.2 (by simpa using e)
    exact ⟨y, u, by simpa using e1, e2, e3⟩
  | [], [], _, _, _, _, e => by simp at e
theorem AlG.snoc {α : Type} {R : Hp → α → V → Prop} {H : Hp} {x : Str} {t : α} {v : V} (r : R H t v) : ∀ {l : List (Str × α)} {kvs : List (Key × V)}, AlG R H l kvs → AlG R H (l ++ [(x, t)]) (kvs ++ [(.inr x, v)])
  | [], [], _ => ⟨rfl, r, trivial⟩
  | (y, u) :: l, (k, z) :: kvs, h => ⟨h.1, h.2.1, AlG.snoc r h.2.2⟩
theorem AlG.look {α : Type} {R : Hp → α → V → Prop} {H : Hp} {x : Str} : ∀ {l : List (Str × α)} {kvs : List (Key × V)}, AlG R H l kvs → (∀ t, lookG l x = some t → ∃ v, valV kvs (.inr x) = some v ∧ R H t v) ∧ (lookG l x = none → valV kvs (.inr x) = none)
  | [], [], _ => ⟨fun t e => (by cases e), fun _ => rfl⟩
  | (y, u) :: l, (k, z) :: kvs, h => by
    obtain ⟨rfl, h2, h3⟩ := h
    by_cases e : y = x
    · subst e
      have e1 : lookG ((y, u) :: l) y = some u := by simp [lookG]
      refine ⟨fun t e => ?_, fun e => ?_⟩
      · rw [e1] at e
        cases e
        exact ⟨z, valV_pos rfl, h2⟩
      · rw [e1] at e
        cases e
    · have e1 : lookG ((y, u) :: l) x = lookG l x := by simp [lookG, e]
      rw [e1, valV_neg (fun q => e (by cases q; rfl))]
      exact AlG.look h3
theorem lookG_mem {α : Type} {l : List (Str × α)} {x : Str} {t : α} (h : lookG l x = some t) : (x, t) ∈ l := by
  unfold lookG at h
  obtain ⟨p, hp, rfl⟩ := Option.map_eq_some_iff.mp h
  have h1 := List.mem_of_find?_eq_some hp
  have h2 := of_decide_eq_true (List.find?_some (p := fun p : Str × α => decide (p.1 = x)) hp)
  rw [← h2]
  exact h1
theorem lookG_none {α : Type} {l : List (Str × α)} {x : Str} (h : lookG l x = none) : x ∉ l.map (·.1) := by
  unfold lookG at h
  rw [Option.map_eq_none_iff, List.find?_eq_none] at h
  intro hm
  obtain ⟨p, hp, e⟩ := List.mem_map.mp hm
  exact h p hp (decide_eq_true e)
theorem lookG_some {α : Type} {l : List (Str × α)} {x : Str} (h : x ∈ l.map (·.1)) : ∃ t, lookG l x = some t := by
  cases e : lookG l x with
  | some t => exact ⟨t, rfl⟩
  | none => exact absurd h (lookG_none e)
inductive Rc : Type
  | at_ (k : Int) : Rc
  | wd (x : Str) : Rc
  | un (s : Str) (r : Rc) : Rc
  | bi (s : Str) (r q : Rc) : Rc
def IsR (H : Hp) : Rc → V → Prop
  | .at_ k, v => ∃ p, v = .ref p ∧ H p = some (.tup [.str "at", .int k])
  | .wd x, v => ∃ p, v = .ref p ∧ H p = some (.tup [.str "word", .str x])
  | .un s r, v => ∃ p u, v = .ref p ∧ H p = some (.tup [.str s, u]) ∧ IsR H r u
  | .bi s r q, v => ∃ p u u2, v = .ref p ∧ H p = some (.tup [.str s, u, u2]) ∧ IsR H r u ∧ IsR H q u2
theorem IsR.mono {C : Addr} {H H' : Hp} (k : Kp C H H') : ∀ {r : Rc} {v : V}, IsR H r v → IsR H' r v
  | .at_ _, v, ⟨p, e, h⟩ => ⟨p, e, k _ _ rfl h⟩
  | .wd _, v, ⟨p, e, h⟩ => ⟨p, e, k _ _ rfl h⟩
  | .un s r, v, ⟨p, u, e, h, g⟩ => ⟨p, u, e, k _ _ rfl h, IsR.mono k g⟩
  | .bi s r q, v, ⟨p, u, u2, e, h, g1, g2⟩ => ⟨p, u, u2, e, k _ _ rfl h, IsR.mono k g1, IsR.mono k g2⟩
theorem IsR.same {H H' : Hp} {r : Rc} {v : V} (s : Same H H') (h : IsR H r v) : IsR H' r v := h.mono (C := 0) (Kp.of_same s)
def Rc.tag : Rc → Str
  | .at_ _ => "at"
  | .wd _ => "word"
  | .un s _ => s
  | .bi s _ _ => s
def Rc.kids : Rc → List Rc
  | .un _ r => [r]
  | .bi _ r q => [r, q]
  | _ => []
/-- what one step makes -/
def wk1 (s : Str) (t : Tr) : Option Tr :=
  if s = "first" then (match t with | .bi z a _ => if z = "pair" then some a else none | _ => none)
  else if s = "second" then (match t with | .bi z _ b => if z = "pair" then some b else none | _ => none)
  else some (.un s t)
def wk2 (s : Str) (t u : Tr) : Option Tr :=
  if s = "unseal" then (match t with | .bi z a k => if z = "seal" ∧ k = u then some a else none | _ => none)
  else if s = "unlock" then (match t with | .bi z a k => if z = "lock" ∧ ukey (.bi z a k) = some u then some a else none | _ => none)
  else if s = "lock" then (if u.head = "open" ∨ u.head = "own" then some (.bi s t u) else none)
  else some (.bi s t u)
/-- the first part that does not work, or what is made -/
def rcx (ts : List Tr) : Rc → Rc ⊕ Tr
  | .at_ k => if 0 ≤ k then (match ts[k.toNat]? with | some t => .inr t | none => .inl (.at_ k)) else .inl (.at_ k)
  | .wd x => .inr (.am "word" x)
  | .un s r => match rcx ts r with
    | .inl e => .inl e
    | .inr t => match wk1 s t with
      | some u => .inr u
      | none => .inl (.un s r)
  | .bi s r q => match rcx ts r with
    | .inl e => .inl e
    | .inr t => match rcx ts q with
      | .inl e => .inl e
      | .inr t2 => match wk2 s t t2 with
        | some u => .inr u
        | none => .inl (.bi s r q)
def UNL : List Str := ["first", "second", "mark", "open"]
def BIL : List Str := ["unseal", "unlock", "pair", "seal", "lock"]
/-- it is a recipe -/
def RcOk : Rc → Prop
  | .at_ _ => True
  | .wd x => isWord x = true
  | .un s r => s ∈ UNL ∧ RcOk r
  | .bi s r q => s ∈ BIL ∧ RcOk r ∧ RcOk q
abbrev WayL := List (Str × Tr × Rc)
def wtr (W : WayL) : List Tr := W.map fun p => p.2.1
def wy (W : WayL) (t : Tr) : Option Rc := (lookG W (textOf t)).map (·.2)
def mkR (W : WayL) : Tr → Option Rc
  | .am k x => if k = "word" then some (.wd x) else wy W (.am k x)
  | .un s a => match wy W (.un s a) with
    | some r => some r
    | none => if s = "own" then none else (mkR W a).map (Rc.un s)
  | .bi s a b => match wy W (.bi s a b) with
    | some r => some r
    | none => match mkR W a, mkR W b with
      | some r, some q => some (.bi s r q)
      | _, _ => none
/-- the ways are right -/
structure WayOk (d : Nat) (ts : List Tr) (W : WayL) : Prop where
  tx : ∀ p ∈ W, p.1 = textOf p.2.1
  wf : ∀ p ∈ W, Wf p.2.1 ∧ p.2.1.dep ≤ d
  rc : ∀ p ∈ W, rcx ts p.2.2 = .inr p.2.1 ∧ RcOk p.2.2
  nd : (W.map (·.1)).Nodup
  lst : ∀ O', (∀ t ∈ ts, t ∈ O') → PCl O' → SCl O' O' → ∀ t ∈ wtr W, t ∈ O'
theorem WayOk.nil {d : Nat} {ts : List Tr} : WayOk d ts [] := ⟨(fun p h => by cases h), (fun p h => by cases h), (fun p h => by cases h), List.nodup_nil, (fun O' _ _ _ t h => by cases h)⟩
theorem WayOk.look {d : Nat} {ts : List Tr} {W : WayL} (h : WayOk d ts W) {t : Tr} (wf : Wf t) {u : Tr} {r : Rc} (e : lookG W (textOf t) = some (u, r)) : u = t ∧ (textOf t, t, r) ∈ W := by
  have hm := lookG_mem e
  have h1 := h.tx _ hm
  have h2 := (h.wf _ hm).1
  have : u = t := text_inj h2 wf h1.symm
  subst this
  exact ⟨rfl, hm⟩
theorem WayOk.has {d : Nat} {ts : List Tr} {W : WayL} (h : WayOk d ts W) {t : Tr} (wf : Wf t) : (lookG W (textOf t)).isSome = decide (t ∈ wtr W) := by
  rw [Bool.eq_iff_iff, decide_eq_true_eq, Option.isSome_iff_exists]
  constructor
  · rintro ⟨⟨u, r⟩, e⟩
    obtain ⟨rfl, hm⟩ := h.look wf e
    exact List.mem_map.mpr ⟨_, hm, rfl⟩
  · intro hm
    obtain ⟨p, hp, e⟩ := List.mem_map.mp hm
    obtain ⟨q, hq⟩ := lookG_some (l := W) (x := textOf t) (List.mem_map.mpr ⟨p, hp, by rw [h.tx p hp, e]⟩)
    exact ⟨q, hq⟩
theorem WayOk.wy {d : Nat} {ts : List Tr} {W : WayL} (h : WayOk d ts W) {t : Tr} (wf : Wf t) : (wy W t).isSome = decide (t ∈ wtr W) := by
  rw [← h.has wf]
  unfold Rd.wy
  cases lookG W (textOf t) <;> rfl
/-- what is told is a recipe that makes the form -/
theorem Wf.lockKey {a b : Tr} (h : Wf (.bi "lock" a b)) : ∃ s k, b = .un s k ∧ s ∈ (["open", "own"] : List Str) := by
  cases h with
  | bi hs _ _ => exact absurd hs (by decide +kernel)
  | lk hs _ _ => exact ⟨_, _, rfl, hs⟩
/-- something is told just if it can be made -/
theorem mkR_some {d : Nat} {ts : List Tr} {W : WayL} (h : WayOk d ts W) : ∀ {t : Tr}, Wf t → (mkR W t).isSome = mka (wtr W) t
  | .am k x, wf => by
    rw [mka_step wf]
    unfold mkR
    by_cases hk : k = "word"
    · rw [if_pos hk, show (Tr.am k x).head = k from rfl, decide_eq_true hk]
      rfl
    · rw [if_neg hk, show (Tr.am k x).head = k from rfl, decide_eq_false hk, Bool.false_or, h.wy wf]
      have : decide (k ∈ MKL) = false := by
        rcases wf.shp with ⟨_, _, e, ko⟩ | ⟨_, _, e, _⟩ | ⟨_, _, _, e, _⟩
        · cases e
          rcases ko with ⟨rfl, _⟩ | ⟨rfl, _⟩ | ⟨rfl, _⟩ <;> decide +kernel
        · cases e
        · cases e
      rw [this, Bool.false_and, Bool.or_false]
  | .un s a, wf => by
    rw [mka_step wf]
    rcases wf.shp with ⟨_, _, e, _⟩ | ⟨_, _, e, hs, wa⟩ | ⟨_, _, _, e, _⟩
    · cases e
    · cases e
      have hw := h.wy wf
      have hnw : decide (s = "word") = false := decide_eq_false fun e => by subst e; revert hs; decide +kernel
      rw [show (Tr.un s a).head = s from rfl, hnw, Bool.false_or, ← hw, show (Tr.un s a).parts = [a] from rfl]
      unfold mkR
      cases ew : Rd.wy W (.un s a) with
      | some r => rfl
      | none =>
        show (if s = "own" then none else (mkR W a).map (Rc.un s)).isSome = (false || (decide (s ∈ MKL) && ([a].all (mka (wtr W)))))
        by_cases ho : s = "own"
        · rw [if_pos ho, ho]
          have : decide (("own" : Str) ∈ MKL) = false := by decide +kernel
          rw [this]
          rfl
        · have hm : decide (s ∈ MKL) = true := by
            have : ∀ z ∈ (["mark", "open", "own"] : List Str), z ≠ "own" → decide (z ∈ MKL) = true := by decide +kernel
            exact this s hs ho
          rw [if_neg ho, Option.isSome_map, mkR_some h wa, hm, List.all_cons, List.all_nil, Bool.and_true, Bool.true_and, Bool.false_or]
    · cases e
  | .bi s a b, wf => by
    rw [mka_step wf]
    rcases wf.shp with ⟨_, _, e, _⟩ | ⟨_, _, e, _⟩ | ⟨_, _, _, e, hs, wa, wb⟩
    · cases e
    · cases e
    · cases e
      have hw := h.wy wf
      have hnw : decide (s = "word") = false := decide_eq_false fun e => by subst e; revert hs; decide +kernel
      have hm : decide (s ∈ MKL) = true := by
        have : ∀ z ∈ (["pair", "seal", "lock"] : List Str), decide (z ∈ MKL) = true := by decide +kernel
        exact this s hs
      rw [show (Tr.bi s a b).head = s from rfl, hnw, Bool.false_or, ← hw, hm, Bool.true_and, show (Tr.bi s a b).parts = [a, b] from rfl, List.all_cons, List.all_cons, List.all_nil, Bool.and_true, ← mkR_some h wa, ← mkR_some h wb]
      have em : mkR W (.bi s a b) = (match Rd.wy W (.bi s a b) with
        | some r => some r
        | none => match mkR W a, mkR W b with
          | some r, some q => some (.bi s r q)
          | _, _ => none) := rfl
      rw [em]
      cases ew : Rd.wy W (.bi s a b) with
      | some r => rfl
      | none =>
        cases ea : mkR W a with
        | none => rfl
        | some ra =>
          cases eb : mkR W b with
          | none => rfl
          | some rb => rfl
theorem WayOk.snoc {d : Nat} {ts : List Tr} {W : WayL} (h : WayOk d ts W) {t : Tr} {r : Rc} (wf : Wf t) (dp : t.dep ≤ d) (hr : rcx ts r = .inr t) (ok : RcOk r) (hl : (lookG W (textOf t)).isSome = false) (hO : ∀ O', (∀ t ∈ ts, t ∈ O') → PCl O' → SCl O' O' → t ∈ O') : WayOk d ts (W ++ [(textOf t, t, r)]) := by
  refine ⟨fun p hp => ?_, fun p hp => ?_, fun p hp => ?_, ?_, fun O' a b c u hu => ?_⟩
  · rcases List.mem_append.mp hp with hp | hp
    · exact h.tx p hp
    · rw [List.mem_singleton.mp hp]
  · rcases List.mem_append.mp hp with hp | hp
    · exact h.wf p hp
    · rw [List.mem_singleton.mp hp]; exact ⟨wf, dp⟩
  · rcases List.mem_append.mp hp with hp | hp
    · exact h.rc p hp
    · rw [List.mem_singleton.mp hp]; exact ⟨hr, ok⟩
  · rw [List.map_append, List.nodup_append]
    refine ⟨h.nd, by simp, fun x hx y hy e => ?_⟩
    have hy : y = textOf t := by simpa using hy
    subst e
    rw [hy] at hx
    obtain ⟨q, hq⟩ := lookG_some hx
    rw [hq] at hl
    cases hl
  · unfold wtr at hu
    rw [List.map_append] at hu
    rcases List.mem_append.mp hu with hu | hu
    · exact h.lst O' a b c u hu
    · have : u = t := by simpa using hu
      rw [this]
      exact hO O' a b c
/-- what a call of add_way does -/
structure AddOk (W W' : WayL) (t : Tr) : Prop where
  pre : ∃ m, W' = W ++ m
  mem : t ∈ wtr W'
  pcl : ∀ a b, Tr.bi "pair" a b ∈ wtr W' → Tr.bi "pair" a b ∈ wtr W ∨ (a ∈ wtr W' ∧ b ∈ wtr W')
theorem AddOk.sub {W W' : WayL} {t : Tr} (h : AddOk W W' t) : ∀ u ∈ wtr W, u ∈ wtr W' := by
  obtain ⟨m, rfl⟩ := h.pre
  intro u hu
  unfold wtr
  rw [List.map_append]
  exact List.mem_append_left _ hu
/-- closed ways are the opened parts -/
theorem WayOk.done {d : Nat} {ts : List Tr} {W : WayL} (h : WayOk d ts W) (hb : ∀ t ∈ ts, t ∈ wtr W) (hp : PCl (wtr W)) (hs : ∀ t ∈ wtr W, ∀ key, ukey t = some key → (mkR W key).isSome = true → cnt1 t ∈ wtr W) : IsOpen ts (wtr W) := by
  refine ⟨hb, hp, fun s c k key hm hk hmk => ?_, h.lst⟩
  obtain ⟨p, hp1, e⟩ := List.mem_map.mp hm
  have wf := (h.wf p hp1).1
  rw [e] at wf
  obtain ⟨wk, _⟩ := ukey_wf wf hk
  exact hs _ hm key hk (by rw [mkR_some h wk]; exact hmk)
end Rd
namespace Rd
open PySem L2
def rcd : Rc → PyData
  | .at_ k => .tuple [.str "at", .int k]
  | .wd x => .tuple [.str "word", .str x]
  | .un s r => .tuple [.str s, rcd r]
  | .bi s r q => .tuple [.str s, rcd r, rcd q]
theorem IsR.dp {K : PySem.W.Frag} {H : Hp} : ∀ {r : Rc} {v : V}, IsR H r v → Dp K H v (rcd r)
  | .at_ _, v, ⟨p, e, h⟩ => by subst e; exact .tup (SqT.of h) (.cons (.str _) (.cons (.int _) .nil))
  | .wd _, v, ⟨p, e, h⟩ => by subst e; exact .tup (SqT.of h) (.cons (.str _) (.cons (.str _) .nil))
  | .un s r, v, ⟨p, u, e, h, g⟩ => by subst e; exact .tup (SqT.of h) (.cons (.str _) (.cons g.dp .nil))
  | .bi s r q, v, ⟨p, u, u2, e, h, g1, g2⟩ => by subst e; exact .tup (SqT.of h) (.cons (.str _) (.cons g1.dp (.cons g2.dp .nil)))
theorem unl_ok {s : Str} (h : s ∈ UNL) : okS s := okS_of (l := UNL) (by decide +kernel) h
theorem bil_ok {s : Str} (h : s ∈ BIL) : okS s := okS_of (l := BIL) (by decide +kernel) h
theorem atw_ok {s : Str} (h : s ∈ (["at", "word"] : List Str)) : okS s := okS_of (l := ["at", "word"]) (by decide +kernel) h
theorem RcOk.lay : ∀ {r : Rc}, RcOk r → (rcd r).canLay0 = true
  | .at_ k, _ => by
    show (PyData.strOk ("at" : Str) && (true && true)) = true
    rw [strOk_of (atw_ok (by simp))]
    rfl
  | .wd x, h => by
    show (PyData.strOk ("word" : Str) && (PyData.strOk x && true)) = true
    rw [strOk_of (atw_ok (by simp)), strOk_of (word_len h).2.2]
    rfl
  | .un s r, h => by
    show (PyData.strOk s && ((rcd r).canLay0 && true)) = true
    rw [strOk_of (unl_ok h.1), RcOk.lay h.2]
    rfl
  | .bi s r q, h => by
    show (PyData.strOk s && ((rcd r).canLay0 && ((rcd q).canLay0 && true))) = true
    rw [strOk_of (bil_ok h.1), RcOk.lay h.2.1, RcOk.lay h.2.2]
    rfl
/-- a recipe or None -/
def MkV (H : Hp) (o : Option Rc) (v : V) : Prop := (o = none ∧ v = .non) ∨ ∃ r, o = some r ∧ IsR H r v
theorem MkV.mono {C : Addr} {H H' : Hp} {o : Option Rc} {v : V} (k : Kp C H H') (h : MkV H o v) : MkV H' o v := by
  rcases h with h | ⟨r, e, h⟩
  · exact .inl h
  · exact .inr ⟨r, e, h.mono k⟩
theorem MkV.same {H H' : Hp} {o : Option Rc} {v : V} (s : Same H H') (h : MkV H o v) : MkV H' o v := h.mono (C := 0) (Kp.of_same s)
def mkd : Option Rc → PyData
  | none => .none
  | some r => rcd r
theorem MkV.dp {K : PySem.W.Frag} {H : Hp} {o : Option Rc} {v : V} (h : MkV H o v) : Dp K H v (mkd o) := by
  rcases h with ⟨rfl, rfl⟩ | ⟨r, rfl, h⟩
  · exact .non
  · exact h.dp
/-- a way: a form and its recipe -/
def IsW (H : Hp) (p : Tr × Rc) (v : V) : Prop := ∃ q u r, v = .ref q ∧ H q = some (.tup [u, r]) ∧ IsT H p.1 u ∧ IsR H p.2 r
theorem IsW.mono {C : Addr} {H H' : Hp} {p : Tr × Rc} {v : V} (k : Kp C H H') (h : IsW H p v) : IsW H' p v := by
  obtain ⟨q, u, r, e, h1, h2, h3⟩ := h
  exact ⟨q, u, r, e, k _ _ rfl h1, h2.mono k, h3.mono k⟩
theorem IsW.same {H H' : Hp} {p : Tr × Rc} {v : V} (s : Same H H') (h : IsW H p v) : IsW H' p v := h.mono (C := 0) (Kp.of_same s)
theorem mkR_word {W : WayL} {t : Tr} (wf : Wf t) (h : t.head = "word") : ∃ x, t = .am "word" x ∧ mkR W t = some (.wd x) := by
  rcases wf.shp with ⟨k, x, rfl, ko⟩ | ⟨s, a, rfl, hs, _⟩ | ⟨s, a, b, rfl, hs, _⟩
  · have h : k = "word" := h
    subst h
    exact ⟨x, rfl, if_pos rfl⟩
  · have h : s = "word" := h
    subst h
    exact absurd hs (by decide +kernel)
  · have h : s = "word" := h
    subst h
    exact absurd hs (by decide +kernel)
theorem rcd_none {r : Rc} : PyData.eqv (rcd r) .none = false := by cases r <;> rfl
theorem any_none : ∀ os : List (Option Rc), (os.map mkd).any (fun z => PyData.eqv z .none) = os.any Option.isNone
  | [] => rfl
  | none :: os => by rw [List.map_cons, List.any_cons, List.any_cons, any_none os]; rfl
  | some r :: os => by
    rw [List.map_cons, List.any_cons, List.any_cons, any_none os]
    show (PyData.eqv (rcd r) .none || _) = _
    rw [rcd_none]
    rfl
end Rd
namespace Rd
open PySem L2
theorem WayOk.inAll {d : Nat} {ts : List Tr} {W : WayL} (h : WayOk d ts W) : ∀ t ∈ wtr W, t ∈ allOf ts := h.lst _ (allOf_base ts) (allOf_pcl ts) (allOf_scl ts)
end Rd
namespace Rd
open PySem L2
theorem inV_strs (t : Str) : ∀ nm : List Str, inV (V.str t) (nm.map V.str) = decide (t ∈ nm)
  | [] => by simp [inV]
  | z :: r => by
    have ih := inV_strs t r
    unfold inV at ih ⊢
    rw [List.map_cons, List.any_cons, ih]
    show ((z == t) || _) = _
    by_cases e : z = t
    · subst e; simp
    · have e' : t ≠ z := fun q => e q.symm
      simp [e, e']
def wtF (l : List (Str × Tr)) : List Tr := l.map (·.2)
/-- the rounds of the law: found forms by their texts -/
structure LwI (d : Nat) (ts : List Tr) (l : List (Str × Tr)) : Prop where
  tx : ∀ p ∈ l, p.1 = textOf p.2
  wf : ∀ p ∈ l, Wf p.2 ∧ p.2.dep ≤ d
  nd : (l.map (·.1)).Nodup
  base : ∀ t ∈ ts, t ∈ wtF l
  lst : ∀ O', (∀ t ∈ ts, t ∈ O') → PCl O' → SCl O' O' → ∀ t ∈ wtF l, t ∈ O'
def putT (l : List (Str × Tr)) (t : Tr) : List (Str × Tr) := if (lookG l (textOf t)).isSome = true then l else l ++ [(textOf t, t)]
theorem look_has {l : List (Str × Tr)} (tx : ∀ p ∈ l, p.1 = textOf p.2) (wl : ∀ p ∈ l, Wf p.2) {t : Tr} (wf : Wf t) : (lookG l (textOf t)).isSome = decide (t ∈ wtF l) := by
  rw [Bool.eq_iff_iff, decide_eq_true_eq, Option.isSome_iff_exists]
  constructor
  · rintro ⟨u, e⟩
    have hm := lookG_mem e
    have : u = t := text_inj (wl _ hm) wf (tx _ hm).symm
    exact List.mem_map.mpr ⟨_, hm, this⟩
  · intro hm
    obtain ⟨p, hp, e⟩ := List.mem_map.mp hm
    exact lookG_some (List.mem_map.mpr ⟨p, hp, by rw [tx p hp, e]⟩)
theorem putT_mem {l : List (Str × Tr)} (tx : ∀ p ∈ l, p.1 = textOf p.2) (wl : ∀ p ∈ l, Wf p.2) {t : Tr} (wf : Wf t) : ∀ u, u ∈ wtF (putT l t) ↔ u ∈ wtF l ∨ u = t := by
  intro u
  unfold putT
  by_cases h : (lookG l (textOf t)).isSome = true
  · rw [if_pos h]
    rw [look_has tx wl wf] at h
    have := of_decide_eq_true h
    exact ⟨.inl, fun e => by rcases e with e | rfl; exact e; exact this⟩
  · rw [if_neg h]
    unfold wtF
    rw [List.map_append, List.mem_append]
    simp
theorem LwI.put {d : Nat} {ts : List Tr} {l : List (Str × Tr)} (h : LwI d ts l) {t : Tr} (wf : Wf t) (dp : t.dep ≤ d) (hO : ∀ O', (∀ t ∈ ts, t ∈ O') → PCl O' → SCl O' O' → t ∈ O') : LwI d ts (putT l t) := by
  have hm := putT_mem h.tx (fun p hp => (h.wf p hp).1) wf
  unfold putT at hm ⊢
  by_cases hl : (lookG l (textOf t)).isSome = true
  · rw [if_pos hl]
    exact h
  · rw [if_neg hl] at hm ⊢
    refine ⟨fun p hp => ?_, fun p hp => ?_, ?_, fun t ht => (hm t).mpr (.inl (h.base t ht)), fun O' a b c u hu => ?_⟩
    · rcases List.mem_append.mp hp with hp | hp
      · exact h.tx p hp
      · rw [List.mem_singleton.mp hp]
    · rcases List.mem_append.mp hp with hp | hp
      · exact h.wf p hp
      · rw [List.mem_singleton.mp hp]; exact ⟨wf, dp⟩
    · rw [List.map_append, List.nodup_append]
      refine ⟨h.nd, by simp, fun x hx y hy e => ?_⟩
      have hy : y = textOf t := by simpa using hy
      subst e
      rw [hy] at hx
      obtain ⟨q, hq⟩ := lookG_some hx
      rw [hq] at hl
      exact hl rfl
    · rcases (hm u).mp hu with hu | rfl
      · exact h.lst O' a b c u hu
      · exact hO O' a b c
theorem wtF_nodup {l : List (Str × Tr)} (tx : ∀ p ∈ l, p.1 = textOf p.2) (nd : (l.map (·.1)).Nodup) : (wtF l).Nodup := by
  induction l with
  | nil => exact List.nodup_nil
  | cons p l ih =>
    rw [List.map_cons, List.nodup_cons] at nd
    unfold wtF
    rw [List.map_cons, List.nodup_cons]
    refine ⟨fun hm => nd.1 ?_, ih (fun q hq => tx q (List.mem_cons_of_mem _ hq)) nd.2⟩
    obtain ⟨q, hq, e⟩ := List.mem_map.mp hm
    refine List.mem_map.mpr ⟨q, hq, ?_⟩
    rw [tx q (List.mem_cons_of_mem _ hq), tx p List.mem_cons_self, e]
theorem LwI.len {d : Nat} {ts : List Tr} {l : List (Str × Tr)} (h : LwI d ts l) : l.length ≤ (allOf ts).length := by
  have e : l.length = (wtF l).length := by unfold wtF; rw [List.length_map]
  rw [e]
  exact nodup_sub (wtF_nodup h.tx h.nd) (h.lst _ (allOf_base ts) (allOf_pcl ts) (allOf_scl ts))
theorem LwI.inAll {d : Nat} {ts : List Tr} {l : List (Str × Tr)} (h : LwI d ts l) : ∀ t ∈ wtF l, t ∈ allOf ts := h.lst _ (allOf_base ts) (allOf_pcl ts) (allOf_scl ts)
/-- what one form opens -/
def inn2 (O : List Tr) (t : Tr) : List Tr := if t.head = "pair" then t.parts else if opn O t = true then [cnt1 t] else []
theorem LwI.done {d : Nat} {ts : List Tr} {l : List (Str × Tr)} (h : LwI d ts l) (hc : ∀ t ∈ wtF l, ∀ u ∈ inn2 (wtF l) t, u ∈ wtF l) : IsOpen ts (wtF l) := by
  refine ⟨h.base, fun a b hab => ?_, fun s c k key hm hk hmk => ?_, h.lst⟩
  · have := hc _ hab
    rw [show inn2 (wtF l) (.bi "pair" a b) = [a, b] from if_pos rfl] at this
    exact ⟨this a (by simp), this b (by simp)⟩
  · refine hc _ hm c ?_
    have hs : s ≠ "pair" := fun e => by
      subst e
      have : ukey (.bi "pair" c k) = none := by
        show (if ("pair" : Str) = "seal" then some k else if ("pair" : Str) = "lock" then lkey k else none) = none
        rw [if_neg (by decide +kernel), if_neg (by decide +kernel)]
      rw [this] at hk
      cases hk
    unfold inn2
    rw [if_neg (show ¬ (Tr.bi s c k).head = "pair" from hs), if_pos]
    · exact List.mem_cons_self
    · unfold opn
      rw [hk]
      exact hmk
section
variable {P : Program} {w : World} {K : PySem.W.Frag} {mg : Str → Option Value} {base : Heap}
theorem sgn_ltrs {t : Tr} (wf : Wf t) : (t.parts ≠ [] ∧ t.head ∈ (["mark", "open", "own", "pair", "seal", "lock"] : List Str) ∧ t.head ∉ (["word", "name", "unknown"] : List Str)) ∨ ∃ k x, t = .am k x ∧ kindOk k x := by
  rcases wf.shp with ⟨k, x, rfl, ko⟩ | ⟨s, a, rfl, hs, _⟩ | ⟨s, a, b, rfl, hs, _⟩
  · exact .inr ⟨k, x, rfl, ko⟩
  · refine .inl ⟨(fun e => by cases e), uT hs, ?_⟩
    have : ∀ z ∈ (["mark", "open", "own"] : List Str), z ∉ (["word", "name", "unknown"] : List Str) := by decide +kernel
    exact this s hs
  · refine .inl ⟨(fun e => by cases e), bT hs, ?_⟩
    have : ∀ z ∈ (["pair", "seal", "lock"] : List Str), z ∉ (["word", "name", "unknown"] : List Str) := by decide +kernel
    exact this s hs
abbrev s__law_text : Stmt := top 69
theorem sc__law_text : FnScope ["_law_form_here", "_law_part"] ["_law_form_here"] (defScope s__law_text) := ⟨rfl, rfl, rfl, by decide +kernel, rfl, by decide +kernel, by decide +kernel⟩
theorem lt_step (T : Tx w K mg) (d : Nat) (ih : Fk P w K mg base CX0 (d + 1) "_law_text" ["_law_form_here"] (spTR d)) : Fk P w K mg base CX0 (d + 2) "_law_text" ["_law_form_here"] (sp_text d) := by
  refine T.F__law_text.ok0 sc__law_text (fun _ _ _ _ _ _ us hl => match us, hl with | [_], _ => rfl)
    (fun vs H Q E h => ?_) (fun cdv A outer s H vs Q E hr h => ?_)
  · obtain ⟨v, t, rfl, _⟩ := h
    rfl
  · obtain ⟨v, t, rfl, it, wf, dp, d12, k⟩ := h
    refine ⟨_, (pss_cons (ps_if (pt_cmpR op_in_seq (pe_ix ix_tup (pv 0) pe_int (fun _ _ => rfl)) (pe_lst (pa_cons pe_str (pa_cons pe_str (pa_cons pe_str pa_nil)))) (by rfl))
  (pss_one (ps_ret (pe_op op_add_str (pe_ix ix_list (pe_lst (pa_cons pe_str (pa_cons pe_str pa_nil))) (pe_callTy call_int1 (by rfl) T.z_int (by decide +kernel) (pa_cons (pe_cmpR op_eq (pe_ix ix_tup (pv 0) pe_int (fun _ _ => rfl)) pe_str (nomark _)) pa_nil)) (fun _ _ => rfl)) (pe_ix ix_tup (pv 0) pe_int (fun _ _ => rfl)))))
  pss_nil)
  (pss_one (ps_ret (pe_op op_add_str (pe_op op_add_str (pe_op op_add_str (pe_ix ix_tup (pv 0) pe_int (fun _ _ => rfl)) pe_str) (pe_join pe_str (pe_lc (own := [("_law_part", 1)]) (g := gName 1) (tt := tYes) (by rfl) sc__law_text.nd (pi_tup (pe_slice sl_tup (pv 0) (po_some pe_int) po_none)) (blkOk_by (own := [("_law_part", 1)]) (N := ["_law_form_here", "_law_part"]) (sc := defScope s__law_text) (by decide +kernel)) (fun _ _ _ _ _ => (pg_name (i := 1) sc__law_text.nd rfl (Or.inl rfl))) (fun _ _ _ _ _ => pts_nil) (fun _ _ _ _ _ => (pe_fk ih (hr.mono (by omega)) rfl pass0 (pa_cons (pv 1) pa_nil)))))) pe_str)))), ?_⟩
    have big : 16777216 ≤ sizeLine := by decide
    have e0 : Str.empty.cps.toList = [] := by decide +kernel
    have l0 : ∀ z : Str, Str.empty ++ z = z := fun z => str_ext (by rw [app_list, e0]; rfl)
    obtain ⟨pf, us0, rfl, hp0⟩ := it.hd
    refine ⟨_, rfl, pf, _, _, _, rfl, rfl, SqT.of hp0, at_of (j := 0) rfl rfl, (by show 3 ≤ sizeLine; decide), fun q0 hq0 => ?_⟩
    have s0 := Rd.Same.upd (o := .lst [.str "word", .str "name", .str "unknown"]) hq0
    have h00 : upd H q0 (.lst [.str "word", .str "name", .str "unknown"]) q0 = some (.lst [.str "word", .str "name", .str "unknown"]) := upd_same
    generalize upd H q0 (.lst [.str "word", .str "name", .str "unknown"]) = H1 at s0 h00 ⊢
    refine ⟨q0, _, rfl, .inl (SqL.of h00), rfl, rfl, _, rfl, ?_⟩
    rw [if_neg Bool.false_ne_true, show inV (V.str t.head) [.str "word", .str "name", .str "unknown"] = decide (t.head ∈ (["word", "name", "unknown"] : List Str)) from inV_strs t.head ["word", "name", "unknown"]]
    rcases sgn_ltrs wf with ⟨hpt, hsg, hno⟩ | ⟨k0, x0, rfl, ko⟩
    · obtain ⟨_, hws⟩ := wf.sign hpt
      obtain ⟨pf', us, e', hp, hlu, hl2, hne, hus⟩ := it.parts hpt
      cases e'
      refine iteN (by rw [decide_eq_false hno]; decide) (nxt ?_)
      try dsimp only
      have hp1 := s0 _ _ hp
      have e1 : ("(" : Str).cps.toList = [40] := by decide +kernel
      have e2 : (")" : Str).cps.toList = [41] := by decide +kernel
      have la : ∀ a b : Str, (a ++ b).length = a.length + b.length := fun a b => by rw [len_list, app_list, List.length_append, ← len_list, ← len_list]
      have l1 : ("(" : Str).length = 1 := by decide +kernel
      have l2 : (")" : Str).length = 1 := by decide +kernel
      have hj := join_len hpt
      have hts := txt_small wf (by omega)
      refine ⟨_, rfl, pf, _, _, _, rfl, rfl, SqT.of hp1, at_of (j := 0) rfl rfl, _, _, rfl, rfl, (by rw [l1]; omega), ?_⟩
      refine ⟨⟨_, rfl⟩, _, rfl, _, rfl, pf, _, rfl, SqT.of hp1, ?_, fun p2 hp2 => ?_⟩
      · rintro ⟨z, _⟩
        rw [show (1 : Int) = ((1 : Nat) : Int) from rfl, HT.sIx_nat, List.length_cons] at z
        omega
      rw [cut1]
      have s2 := Rd.Same.upd (o := .tup us) hp2
      refine ⟨p2, rfl, ⟨_, SqT.of upd_same⟩, fun D hD => ?_⟩
      refine lct (C := 0) (fun i H v => ∃ r, t.parts[i]? = some r ∧ v = .str (textOf r)) (fun i H H' v _ h => h) (SqT.of upd_same) (by omega) hD (fun i x H1 Q1 hx s1 k1 => ?_) fun vs H2 s2' hD1 hlv hvs => ?_
      · obtain ⟨r, hr1, hr2⟩ := hus i x hx
        obtain ⟨w1, w2⟩ := hws r (List.mem_of_getElem? hr1)
        cases d with
        | zero => exact absurd dp (by omega)
        | succ d => exact ⟨_, rfl, x, r, rfl, hr2.same (s0.trans (s2.trans s1)), w1, (by omega), (by omega), fun H' s' => k1 _ H' s' ⟨r, hr1, rfl⟩⟩
      have ev := texts_eq (hlv.trans hlu) hvs
      refine ⟨_, D, t.parts.map textOf, rfl, rfl, .inl (SqL.of (by rw [← ev]; exact hD1)), join_sum wf (by omega), ?_⟩
      refine ⟨_, _, rfl, rfl, (by rw [la, l1]; omega), _, _, rfl, rfl, (by rw [la, la, l1, l2]; omega), ?_⟩
      have ez : t.head ++ "(" ++ Txt.join ", " (t.parts.map textOf) ++ ")" = textOf t := text_parts hpt (by rw [app_list, app_list, app_list, e1, e2]; simp)
      rw [ez]
      exact k _ (s0.trans (s2.trans s2'))
    · obtain ⟨pf', e', hp⟩ := it
      cases e'
      refine iteP (decide_eq_true (show k0 ∈ (["word", "name", "unknown"] : List Str) by rcases ko with ⟨rfl, _⟩ | ⟨rfl, _⟩ | ⟨rfl, _⟩ <;> decide +kernel)) ?_
      refine ⟨(by show 2 ≤ sizeLine; decide), fun q1 hq1 => ?_⟩
      have s1 := Rd.Same.upd (o := .lst [.str "", .str "?"]) hq1
      have h11 : upd H1 q1 (.lst [.str "", .str "?"]) q1 = some (.lst [.str "", .str "?"]) := upd_same
      generalize upd H1 q1 (.lst [.str "", .str "?"]) = H2 at s1 h11 ⊢
      have S2 := s0.trans s1
      have hl : x0.length ≤ 1000 := by
        rcases ko with ⟨_, h⟩ | ⟨_, h⟩ | ⟨_, h⟩
        · have := (word_len h).2.1; omega
        · have := (name_len h).1; omega
        · have := (unk_len h).1; omega
      refine ⟨_, rfl, pf, _, _, _, rfl, rfl, SqT.of (S2 _ _ hp), at_of (j := 0) rfl rfl, rfl, .inr ⟨_, rfl, ?_⟩⟩
      rw [decS]
      have hq : ("?" : Str).length = 1 := by decide +kernel
      have hemp : ("" : Str).length = 0 := by decide +kernel
      by_cases e : k0 = "unknown"
      · subst e
        refine ⟨q1, _, _, .str "?", rfl, rfl, SqL.of h11, at_of (j := 1) (by decide +kernel) rfl, _, rfl, pf, _, _, _, rfl, rfl, SqT.of (S2 _ _ hp), at_of (j := 1) rfl rfl, _, _, rfl, rfl, (by omega), ?_⟩
        have := k _ S2
        rw [text_unk] at this
        exact this
      · refine ⟨q1, _, _, .str "", rfl, rfl, SqL.of h11, at_of (j := 0) (by rw [decide_eq_false e]; rfl) rfl, _, rfl, pf, _, _, _, rfl, rfl, SqT.of (S2 _ _ hp), at_of (j := 1) rfl rfl, _, _, rfl, rfl, (by omega), ?_⟩
        have := k _ S2
        rw [text_am e, ← l0 x0] at this
        exact this
theorem lt_none (T : Tx w K mg) : Fk P w K mg base CX0 1 "_law_text" ["_law_form_here"] (spTR 0) := by
  refine T.F__law_text.ok0 sc__law_text (fun _ _ _ _ _ _ us hl => match us, hl with | [_], _ => rfl) (fun vs H Q E h => h.elim) (fun cdv A outer s H vs Q E hr h => h.elim)
theorem ok__law_text (T : Tx w K mg) : ∀ d : Nat, Fk P w K mg base CX0 (d + 2) "_law_text" ["_law_form_here"] (sp_text d)
  | 0 => lt_step T 0 (lt_none T)
  | d + 1 => lt_step T (d + 1) (ok__law_text T d)
end
end Rd
namespace Rd
open PySem L2
def Rc.dp : Rc → Nat
  | .at_ _ => 0
  | .wd _ => 0
  | .un _ r => r.dp + 1
  | .bi _ r q => max r.dp q.dp + 1
def TrV (H : Hp) (o : Option Tr) (v : V) : Prop := (o = none ∧ v = .non) ∨ ∃ t, o = some t ∧ IsT H t v
theorem TrV.same {H H' : Hp} {o : Option Tr} {v : V} (s : Same H H') (h : TrV H o v) : TrV H' o v := by
  rcases h with h | ⟨t, e, h⟩
  · exact .inl h
  · exact .inr ⟨t, e, h.same s⟩
def wkd (s : Str) : List Tr → Option Tr
  | [t] => wk1 s t
  | [t, u] => wk2 s t u
  | _ => none
theorem unl_cases {s : Str} (h : s ∈ UNL) : s = "first" ∨ s = "second" ∨ s = "mark" ∨ s = "open" := by simpa [UNL] using h
theorem bil_cases {s : Str} (h : s ∈ BIL) : s = "unseal" ∨ s = "unlock" ∨ s = "pair" ∨ s = "seal" ∨ s = "lock" := by simpa [BIL] using h
theorem wk1_wf {s : Str} {t u : Tr} (hs : s ∈ UNL) (wf : Wf t) (e : wk1 s t = some u) : Wf u ∧ u.dep ≤ t.dep + 1 := by
  unfold wk1 at e
  rcases unl_cases hs with rfl | rfl | rfl | rfl
  · rw [if_pos rfl] at e
    rcases wf.shp with ⟨k, x, rfl, _⟩ | ⟨z, a, rfl, _⟩ | ⟨z, a, b, rfl, _, wa, wb⟩
    · cases e
    · cases e
    · have ed : (Tr.bi z a b).dep = max a.dep b.dep + 1 := rfl
      have e : (if z = "pair" then some a else none) = some u := e
      split at e
      · cases e; exact ⟨wa, by omega⟩
      · cases e
  · rw [if_neg (by decide +kernel), if_pos rfl] at e
    rcases wf.shp with ⟨k, x, rfl, _⟩ | ⟨z, a, rfl, _⟩ | ⟨z, a, b, rfl, _, wa, wb⟩
    · cases e
    · cases e
    · have ed : (Tr.bi z a b).dep = max a.dep b.dep + 1 := rfl
      have e : (if z = "pair" then some b else none) = some u := e
      split at e
      · cases e; exact ⟨wb, by omega⟩
      · cases e
  · rw [if_neg (by decide +kernel), if_neg (by decide +kernel)] at e
    cases e
    exact ⟨.un (by decide +kernel) wf, Nat.le_refl _⟩
  · rw [if_neg (by decide +kernel), if_neg (by decide +kernel)] at e
    cases e
    exact ⟨.un (by decide +kernel) wf, Nat.le_refl _⟩
theorem key_shape {u : Tr} (wf : Wf u) (h : u.head = "open" ∨ u.head = "own") : ∃ s k, u = .un s k ∧ s ∈ (["open", "own"] : List Str) ∧ Wf k := by
  rcases wf.shp with ⟨k, x, rfl, ko⟩ | ⟨z, a, rfl, _, wa⟩ | ⟨z, a, b, rfl, hz, _⟩
  · have h : k = "open" ∨ k = "own" := h
    rcases ko with ⟨rfl, _⟩ | ⟨rfl, _⟩ | ⟨rfl, _⟩ <;> exact absurd h (by decide +kernel)
  · have h : z = "open" ∨ z = "own" := h
    refine ⟨z, a, rfl, ?_, wa⟩
    rcases h with rfl | rfl <;> decide +kernel
  · have h : z = "open" ∨ z = "own" := h
    have : ∀ y ∈ (["pair", "seal", "lock"] : List Str), ¬ (y = "open" ∨ y = "own") := by decide +kernel
    exact absurd h (this z hz)
theorem wk2_wf {s : Str} {t u o : Tr} (hs : s ∈ BIL) (wf : Wf t) (wu : Wf u) (e : wk2 s t u = some o) : Wf o ∧ o.dep ≤ max t.dep u.dep + 1 := by
  unfold wk2 at e
  have op : ∀ {nm : Str}, (match t with | .bi z a k => if z = nm ∧ (nm = "seal" ∧ k = u ∨ nm = "lock" ∧ ukey (.bi z a k) = some u) then some a else none | _ => none) = some o → Wf o ∧ o.dep ≤ max t.dep u.dep + 1 := fun {nm} e => by
    rcases wf.shp with ⟨k, x, rfl, _⟩ | ⟨z, a, rfl, _⟩ | ⟨z, a, b, rfl, _, wa, wb⟩
    · cases e
    · cases e
    · have ed : (Tr.bi z a b).dep = max a.dep b.dep + 1 := rfl
      have e : (if z = nm ∧ (nm = "seal" ∧ b = u ∨ nm = "lock" ∧ ukey (.bi z a b) = some u) then some a else none) = some o := e
      split at e
      · cases e; exact ⟨wa, by omega⟩
      · cases e
  rcases bil_cases hs with rfl | rfl | rfl | rfl | rfl
  · rw [if_pos rfl] at e
    rcases wf.shp with ⟨k, x, rfl, _⟩ | ⟨z, a, rfl, _⟩ | ⟨z, a, b, rfl, _, wa, wb⟩
    · cases e
    · cases e
    · have ed : (Tr.bi z a b).dep = max a.dep b.dep + 1 := rfl
      have e : (if z = "seal" ∧ b = u then some a else none) = some o := e
      split at e
      · cases e; exact ⟨wa, by omega⟩
      · cases e
  · rw [if_neg (by decide +kernel), if_pos rfl] at e
    rcases wf.shp with ⟨k, x, rfl, _⟩ | ⟨z, a, rfl, _⟩ | ⟨z, a, b, rfl, _, wa, wb⟩
    · cases e
    · cases e
    · have ed : (Tr.bi z a b).dep = max a.dep b.dep + 1 := rfl
      have e : (if z = "lock" ∧ ukey (.bi z a b) = some u then some a else none) = some o := e
      split at e
      · cases e; exact ⟨wa, by omega⟩
      · cases e
  · rw [if_neg (by decide +kernel), if_neg (by decide +kernel), if_neg (by decide +kernel)] at e
    cases e
    exact ⟨.bi (by decide +kernel) wf wu, Nat.le_refl _⟩
  · rw [if_neg (by decide +kernel), if_neg (by decide +kernel), if_neg (by decide +kernel)] at e
    cases e
    exact ⟨.bi (by decide +kernel) wf wu, Nat.le_refl _⟩
  · rw [if_neg (by decide +kernel), if_neg (by decide +kernel), if_pos rfl] at e
    split at e
    · rename_i hu
      cases e
      obtain ⟨s', k, rfl, hk, wk⟩ := key_shape wu hu
      exact ⟨.lk hk wf wk, Nat.le_refl _⟩
    · cases e
theorem rcx_wf {ts : List Tr} {D : Nat} (wt : ∀ t ∈ ts, Wf t ∧ t.dep ≤ D) : ∀ {r : Rc}, RcOk r → ∀ {t : Tr}, rcx ts r = .inr t → Wf t ∧ t.dep ≤ D + r.dp
  | .at_ k, _, t, e => by
    have e : (if 0 ≤ k then (match ts[k.toNat]? with | some t => Sum.inr t | none => .inl (Rc.at_ k)) else .inl (Rc.at_ k)) = .inr t := e
    split at e
    · cases e2 : ts[k.toNat]? with
      | none => rw [e2] at e; cases e
      | some u =>
        rw [e2] at e
        cases e
        exact wt t (List.mem_of_getElem? e2)
    · cases e
  | .wd x, h, t, e => by
    cases e
    exact ⟨.am (.inl ⟨rfl, h⟩), Nat.zero_le _⟩
  | .un s r, h, t, e => by
    unfold rcx at e
    cases er : rcx ts r with
    | inl z => rw [er] at e; cases e
    | inr a =>
      rw [er] at e
      obtain ⟨w1, d1⟩ := rcx_wf wt h.2 er
      have e : (match wk1 s a with | some u => Sum.inr u | none => .inl (Rc.un s r)) = .inr t := e
      cases ew : wk1 s a with
      | none => rw [ew] at e; cases e
      | some u =>
        rw [ew] at e
        cases e
        obtain ⟨w2, d2⟩ := wk1_wf h.1 w1 ew
        exact ⟨w2, by show t.dep ≤ D + (r.dp + 1); omega⟩
  | .bi s r q, h, t, e => by
    unfold rcx at e
    cases er : rcx ts r with
    | inl z => rw [er] at e; cases e
    | inr a =>
      rw [er] at e
      cases eq : rcx ts q with
      | inl z => rw [eq] at e; cases e
      | inr b =>
        rw [eq] at e
        obtain ⟨w1, d1⟩ := rcx_wf wt h.2.1 er
        obtain ⟨w2, d2⟩ := rcx_wf wt h.2.2 eq
        have e : (match wk2 s a b with | some u => Sum.inr u | none => .inl (Rc.bi s r q)) = .inr t := e
        cases ew : wk2 s a b with
        | none => rw [ew] at e; cases e
        | some u =>
          rw [ew] at e
          cases e
          obtain ⟨w3, d3⟩ := wk2_wf h.1 w1 w2 ew
          exact ⟨w3, by show t.dep ≤ D + (max r.dp q.dp + 1); omega⟩
theorem Wf.layW {t : Tr} (wf : Wf t) (h : t.dep ≤ 400) : LayW (dat t) := ⟨dat_lay wf.fine, Nat.le_trans dat_dep (by omega)⟩
theorem isi_base {K : PySem.W.Frag} {m n : String} {b : Bool} (h : kitB m n = some b) : PySem.W.kitOne K (.type m) (.type n) = some b := kit_ty h
def opr (h : Str) : Str := if h = "seal" then "unseal" else "unlock"
theorem wk2_open {s : Str} {t b : Tr} (hs : s ∈ (["unseal", "unlock"] : List Str)) (wf : Wf t) : wk2 s t b = if ((ukey t).isSome = true ∧ opr t.head = s) ∧ ukey t = some b then some (cnt1 t) else none := by
  have hs : s = "unseal" ∨ s = "unlock" := by simpa using hs
  rcases wf.shp with ⟨k, x, rfl, _⟩ | ⟨z, a, rfl, _⟩ | ⟨z, c, k, rfl, hz, wc, wk⟩
  · rw [if_neg (fun h => by cases h.2)]
    rcases hs with rfl | rfl <;> rfl
  · rw [if_neg (fun h => by cases h.2)]
    rcases hs with rfl | rfl <;> rfl
  · have hz : z = "pair" ∨ z = "seal" ∨ z = "lock" := by simpa using hz
    rcases hz with rfl | rfl | rfl
    · have e : ukey (.bi "pair" c k) = none := by
        show (if ("pair" : Str) = "seal" then some k else if ("pair" : Str) = "lock" then lkey k else none) = none
        rw [if_neg (by decide +kernel), if_neg (by decide +kernel)]
      rw [if_neg (fun h => by rw [e] at h; cases h.2)]
      unfold wk2
      rcases hs with rfl | rfl
      · rw [if_pos rfl]
        show (if ("pair" : Str) = "seal" ∧ k = b then some c else none) = none
        rw [if_neg (fun h => absurd h.1 (by decide +kernel))]
      · rw [if_neg (by decide +kernel), if_pos rfl]
        show (if ("pair" : Str) = "lock" ∧ ukey (.bi "pair" c k) = some b then some c else none) = none
        rw [if_neg (fun h => absurd h.1 (by decide +kernel))]
    · have e : ukey (.bi "seal" c k) = some k := by
        show (if ("seal" : Str) = "seal" then some k else if ("seal" : Str) = "lock" then lkey k else none) = some k
        rw [if_pos rfl]
      have eo : opr (Tr.bi "seal" c k).head = "unseal" := if_pos rfl
      rw [e, eo]
      unfold wk2
      rcases hs with rfl | rfl
      · rw [if_pos rfl]
        show (if ("seal" : Str) = "seal" ∧ k = b then some c else none) = _
        by_cases hk : k = b
        · rw [if_pos ⟨rfl, hk⟩, if_pos ⟨⟨rfl, rfl⟩, by rw [hk]⟩]
          rfl
        · rw [if_neg (fun h => hk h.2), if_neg (fun h => hk (Option.some.inj h.2))]
      · rw [if_neg (by decide +kernel), if_pos rfl]
        show (if ("seal" : Str) = "lock" ∧ ukey (.bi "seal" c k) = some b then some c else none) = _
        rw [if_neg (fun h => absurd h.1 (by decide +kernel)), if_neg (fun h => absurd h.1.2 (by decide +kernel))]
    · obtain ⟨s', k', rfl, _⟩ := wf.lockKey
      have e : ukey (.bi "lock" c (.un s' k')) = some (.un (prt s') k') := by
        show (if ("lock" : Str) = "seal" then some (Tr.un s' k') else if ("lock" : Str) = "lock" then lkey (.un s' k') else none) = _
        rw [if_neg (by decide +kernel), if_pos rfl]
        rfl
      have eo : opr (Tr.bi "lock" c (.un s' k')).head = "unlock" := if_neg (show ¬ (("lock" : Str) = "seal") by decide +kernel)
      rw [e, eo]
      unfold wk2
      rcases hs with rfl | rfl
      · rw [if_pos rfl]
        show (if ("lock" : Str) = "seal" ∧ Tr.un s' k' = b then some c else none) = _
        rw [if_neg (fun h => absurd h.1 (by decide +kernel)), if_neg (fun h => absurd h.1.2 (by decide +kernel))]
      · rw [if_neg (by decide +kernel), if_pos rfl]
        show (if ("lock" : Str) = "lock" ∧ ukey (.bi "lock" c (.un s' k')) = some b then some c else none) = _
        rw [e]
        by_cases hk : Tr.un (prt s') k' = b
        · rw [if_pos ⟨rfl, by rw [hk]⟩, if_pos ⟨⟨rfl, rfl⟩, by rw [hk]⟩]
          rfl
        · rw [if_neg (fun h => hk (Option.some.inj h.2)), if_neg (fun h => hk (Option.some.inj h.2))]
theorem wk_else {s : Str} {t : Tr} (hs : s ∈ UNL) (hn : s ∉ (["first", "second"] : List Str)) : wk1 s t = some (.un s t) := by
  unfold wk1
  rw [if_neg (fun e => hn (by rw [e]; decide +kernel)), if_neg (fun e => hn (by rw [e]; decide +kernel))]
theorem wk2_else {s : Str} {t u : Tr} (hn : s ∉ (["unseal", "unlock"] : List Str)) : wk2 s t u = if s = "lock" ∧ ¬ (u.head ∈ (["open", "own"] : List Str)) then none else some (.bi s t u) := by
  unfold wk2
  rw [if_neg (fun e => hn (by rw [e]; decide +kernel)), if_neg (fun e => hn (by rw [e]; decide +kernel))]
  have hm : u.head ∈ (["open", "own"] : List Str) ↔ (u.head = "open" ∨ u.head = "own") := by simp
  by_cases hl : s = "lock"
  · rw [if_pos hl]
    by_cases hu : u.head = "open" ∨ u.head = "own"
    · rw [if_pos hu, if_neg (fun h => h.2 (hm.mpr hu))]
    · rw [if_neg hu, if_pos ⟨hl, fun h => hu (hm.mp h)⟩]
  · rw [if_neg hl, if_neg (fun h => hl h.1)]
def sp_worked : Sp := fun vs H Q _ => ∃ (s : Str) (a : Addr) (us : List V) (ts : List Tr), vs = [.str s, .ref a] ∧ H a = some (.lst us) ∧ TsAt H ts us ∧ (∀ t ∈ ts, Wf t ∧ t.dep ≤ 400) ∧ ((s ∈ UNL ∧ ts.length = 1) ∨ (s ∈ BIL ∧ ts.length = 2)) ∧ ∀ u H', Same H H' → TrV H' (wkd s ts) u → Q u H'
section
variable {P : Program} {w : World} {K : PySem.W.Frag} {mg : Str → Option Value} {base : Heap}
abbrev s_worked : Stmt := top 41
theorem sc_worked : FnScope ["kind", "made"] ["kind", "made"] (defScope s_worked) := ⟨rfl, rfl, rfl, by decide +kernel, rfl, by decide +kernel, by decide +kernel⟩
theorem ok_worked (T : Tx w K mg) : Fk P w K mg base CX0 30 "worked" ["kind", "made"] sp_worked := by
  refine T.F_worked.ok0 sc_worked (fun _ _ _ _ _ _ us hl => match us, hl with | [_, _], _ => rfl)
    (fun vs H Q E h => ?_) (fun cdv A outer s H vs Q E hr h => ?_)
  · obtain ⟨s, a, us, ts, rfl, _⟩ := h
    rfl
  · obtain ⟨s, a, us, ts, rfl, ha, hts, wt, hk, k⟩ := h
    refine ⟨_, (pss_cons (ps_if (pt_cmpR op_inT (pv 0) (pe_tup (pa_cons pe_str (pa_cons pe_str pa_nil))) (by rfl))
  (pss_cons (ps_if (pt_cmpR op_ne (pe_ix ix_tup (pe_ix ix_list (pv 1) pe_int (fun _ _ => rfl)) pe_int (fun _ _ => rfl)) pe_str (nomark _))
  (pss_one (ps_ret pe_non))
  pss_nil)
  (pss_one (ps_ret (pe_ix ix_tup (pe_ix ix_list (pv 1) pe_int (fun _ _ => rfl)) (pe_ifExp (pt_cmpR op_eq (pv 0) pe_str (nomark _)) pe_int pe_int) (fun _ _ => rfl)))))
  pss_nil)
  (pss_cons (ps_if (pt_cmpR op_inT (pv 0) (pe_tup (pa_cons pe_str (pa_cons pe_str pa_nil))) (by rfl))
  (pss_cons (ps_if (PW.pt (pw_or (pt_cmpR op_notInT (pe_ix ix_tup (pe_ix ix_list (pv 1) pe_int (fun _ _ => rfl)) pe_int (fun _ _ => rfl)) (pe_ktk (K := K) rfl T.U_SHUT) (by rfl)) (pw_or (pt_cmpR op_ne (pe_ix (ix_KS T.D_OPENERS) (pe_kdS T.D_OPENERS) (pe_ix ix_tup (pe_ix ix_list (pv 1) pe_int (fun _ _ => rfl)) pe_int (fun _ _ => rfl)) (fun _ _ => rfl)) (pv 0) (nomark _)) (pw_or1 (pt_cmpR (op_neW (units500 hr (by omega))) (pe_fk (ok_undoing_key T) (hr.mono (by omega)) rfl pass0 (pa_cons (pe_ix ix_list (pv 1) pe_int (fun _ _ => rfl)) pa_nil)) (pe_ix ix_list (pv 1) pe_int (fun _ _ => rfl)) (nomark _))))))
  (pss_one (ps_ret pe_non))
  pss_nil)
  (pss_one (ps_ret (pe_ix ix_tup (pe_ix ix_list (pv 1) pe_int (fun _ _ => rfl)) pe_int (fun _ _ => rfl)))))
  pss_nil)
  (pss_cons (ps_if (PW.pt (pw_and (pt_cmpR op_eq (pv 0) pe_str (nomark _)) (pw_and1 (pt_cmpR op_notInT (pe_ix ix_tup (pe_ix ix_list (pv 1) pe_int (fun _ _ => rfl)) pe_int (fun _ _ => rfl)) (pe_tup (pa_cons pe_str (pa_cons pe_str pa_nil))) (by rfl)))))
  (pss_one (ps_ret pe_non))
  pss_nil)
  (pss_one (ps_ret (pe_op op_catT (pe_tup (pa_cons (pv 0) pa_nil)) (pe_callTy call_tuple_of (by rfl) T.z_tuple (by decide +kernel) (pa_cons (pv 1) pa_nil)))))))), ?_⟩
    have hul := hts.len
    obtain ⟨t, u0, ht0, hu0, it, wf, dt⟩ : ∃ t u0, ts[0]? = some t ∧ us[0]? = some u0 ∧ IsT H t u0 ∧ Wf t ∧ t.dep ≤ 400 := by
      have hl : 0 < ts.length := by rcases hk with ⟨_, e⟩ | ⟨_, e⟩ <;> omega
      have e1 : ts[0]? = some ts[0] := List.getElem?_eq_getElem hl
      have e2 : us[0]? = some us[0] := List.getElem?_eq_getElem (by omega)
      exact ⟨_, _, e1, e2, hts.get 0 _ _ e1 e2, wt _ (List.getElem_mem hl)⟩
    have eu0 : atI us 0 = some u0 := at_of (j := 0) rfl hu0
    refine ⟨_, rfl, (by show 2 ≤ sizeLine; decide), fun q1 hq1 => ?_⟩
    have s1 := Rd.Same.upd (o := .tup [.str "first", .str "second"]) hq1
    refine ⟨_, q1, ["first", "second"], rfl, rfl, SqT.of upd_same, _, rfl, ?_⟩
    generalize upd H q1 (.tup [.str "first", .str "second"]) = H1 at s1 ⊢
    have ha1 := s1 _ _ ha
    have it1 := it.same s1
    obtain ⟨pf, zs, e0, hpf⟩ := it1.hd
    subst e0
    by_cases hf : s ∈ (["first", "second"] : List Str)
    · refine iteP (decide_eq_true hf) ?_
      obtain ⟨rfl⟩ : ts = [t] := by
        rcases hk with ⟨_, e⟩ | ⟨h, _⟩
        · match ts, e, ht0 with
          | [a], _, h => cases h; rfl
        · have : ∀ z ∈ BIL, z ∉ (["first", "second"] : List Str) := by decide +kernel
          exact absurd hf (this s h)
      refine ⟨_, rfl, a, _, _, _, rfl, rfl, SqL.of ha1, eu0, pf, _, _, _, rfl, rfl, SqT.of hpf, at_of (j := 0) rfl rfl, rfl, _, rfl, ?_⟩
      rw [decS]
      by_cases hp : t.head = "pair"
      · refine iteN (by rw [decide_eq_true hp]; decide) (nxt ?_)
        try dsimp only
        obtain ⟨c, b, rfl⟩ : ∃ c b, t = .bi "pair" c b := by
          rcases wf.shp with ⟨k0, x0, rfl, ko⟩ | ⟨s0, a0, rfl, hs, _⟩ | ⟨s0, a0, b0, rfl, hs, wa, wb⟩
          · rcases ko with ⟨rfl, _⟩ | ⟨rfl, _⟩ | ⟨rfl, _⟩
            · exact absurd (show ("word" : Str) = "pair" from hp) (by decide +kernel)
            · exact absurd (show ("name" : Str) = "pair" from hp) (by decide +kernel)
            · exact absurd (show ("unknown" : Str) = "pair" from hp) (by decide +kernel)
          · have : ∀ z ∈ (["mark", "open", "own"] : List Str), z ≠ "pair" := by decide +kernel
            exact absurd hp (this s0 hs)
          · have hp : s0 = "pair" := hp
            subst hp
            exact ⟨a0, b0, rfl⟩
        obtain ⟨pf', u1, u2, e', hpf', i1, i2⟩ := it1
        cases e'
        have hs12 : s = "first" ∨ s = "second" := by simpa using hf
        refine ⟨_, rfl, a, _, _, _, rfl, rfl, SqL.of ha1, eu0, _, rfl, rfl, _, rfl, ?_⟩
        rw [decS]
        rcases hs12 with rfl | rfl
        · refine iteP (by decide +kernel) ?_
          refine ⟨pf, _, _, _, rfl, rfl, SqT.of hpf', at_of (j := 1) rfl rfl, k _ _ s1 (.inr ⟨c, ?_, i1⟩)⟩
          show wk1 "first" (.bi "pair" c b) = some c
          rfl
        · refine iteN (by decide +kernel) ?_
          refine ⟨pf, _, _, _, rfl, rfl, SqT.of hpf', at_of (j := 2) rfl rfl, k _ _ s1 (.inr ⟨b, ?_, i2⟩)⟩
          show wk1 "second" (.bi "pair" c b) = some b
          rfl
      · refine iteP (by rw [decide_eq_false hp]; rfl) ?_
        refine k _ _ s1 (.inl ⟨?_, rfl⟩)
        show wk1 s t = none
        have hs12 : s = "first" ∨ s = "second" := by simpa using hf
        cases t with
        | am => rcases hs12 with rfl | rfl <;> rfl
        | un => rcases hs12 with rfl | rfl <;> rfl
        | bi z c b =>
          have hp : z ≠ "pair" := hp
          unfold wk1
          rcases hs12 with rfl | rfl
          · rw [if_pos rfl]
            show (if z = "pair" then some c else none) = none
            rw [if_neg hp]
          · rw [if_neg (by decide +kernel), if_pos rfl]
            show (if z = "pair" then some b else none) = none
            rw [if_neg hp]
    · refine iteN (by rw [decide_eq_false hf]; decide) (nxt ?_)
      try dsimp only
      refine ⟨_, rfl, (by show 2 ≤ sizeLine; decide), fun q2 hq2 => ?_⟩
      have s2 := Rd.Same.upd (o := .tup [.str "unseal", .str "unlock"]) hq2
      refine ⟨_, q2, ["unseal", "unlock"], rfl, rfl, SqT.of upd_same, _, rfl, ?_⟩
      generalize upd H1 q2 (.tup [.str "unseal", .str "unlock"]) = H2 at s2 ⊢
      have S2 := s1.trans s2
      have ha2 := s2 _ _ ha1
      have it2 := it1.same s2
      have hpf2 := s2 _ _ hpf
      by_cases hu : s ∈ (["unseal", "unlock"] : List Str)
      · refine iteP (decide_eq_true hu) ?_
        obtain ⟨b, rfl⟩ : ∃ b, ts = [t, b] := by
          rcases hk with ⟨h, _⟩ | ⟨_, e⟩
          · have : ∀ z ∈ UNL, z ∉ (["unseal", "unlock"] : List Str) := by decide +kernel
            exact absurd hu (this s h)
          · match ts, e, ht0 with
            | [x, b], _, h => cases h; exact ⟨b, rfl⟩
        obtain ⟨u1, rfl⟩ : ∃ u1, us = [.ref pf, u1] := by
          match us, hul, hu0 with
          | [x, b], _, h => cases h; exact ⟨b, rfl⟩
        have ib := (hts.get 1 b u1 rfl rfl).same S2
        obtain ⟨wb, db⟩ := wt b (by simp)
        have eu1 : atI [V.ref pf, u1] 1 = some u1 := at_of (j := 1) rfl rfl
        have ew := wk2_open (b := b) hu wf
        refine seqIf (b := !decide (((ukey t).isSome = true ∧ opr t.head = s) ∧ ukey t = some b)) (fun Q2 kq => ?_) fun H3 s3 => ?_
        · have sh := shut_iff wf
          cases ek : ukey t with
          | none =>
            rw [ek] at sh kq
            refine tb_or (b := true) (c := true) (fun Q3 kq3 => ⟨_, rfl, a, _, _, _, rfl, rfl, SqL.of ha2, eu0, pf, _, _, _, rfl, rfl, SqT.of hpf2, at_of (j := 0) rfl rfl, _, He.ga K "SHUT", ["seal", "lock"], rfl, rfl, T.U_SHUT.tp _, _, rfl, ?_⟩) (fun _ _ e => by cases e) Q2 ?_
            · rw [show (!decide (((none : Option Tr).isSome = true ∧ opr t.head = s) ∧ none = some b)) = true from by rw [decide_eq_false (fun h => by cases h.2)]; rfl] at kq
              exact kq
            · rw [sh]
              exact kq3 _ (Same.refl _)
          | some key =>
            rw [ek] at sh kq
            obtain ⟨sg, c, k', rfl, hsg⟩ : ∃ sg c k', t = .bi sg c k' ∧ (sg = "seal" ∨ sg = "lock") := by
              rcases ukey_inv wf ek with ⟨c, e⟩ | ⟨c, s', k', e, _⟩
              · exact ⟨_, c, _, e, .inl rfl⟩
              · exact ⟨_, c, _, e, .inr rfl⟩
            have hop : (sg, opr sg) ∈ ([("seal", "unseal"), ("lock", "unlock")] : List (Str × Str)) := by
              rcases hsg with rfl | rfl
              · exact List.mem_cons_self
              · show ((("lock" : Str), opr "lock") : Str × Str) ∈ _
                rw [show opr "lock" = "unlock" from by decide +kernel]
                decide +kernel
            have e3 : (!decide (((some key).isSome = true ∧ opr (Tr.bi sg c k').head = s) ∧ some key = some b)) = (false || (!decide (opr sg = s) || !decide (key = b))) := by
              show (!decide ((true = true ∧ opr sg = s) ∧ some key = some b)) = _
              by_cases h1 : opr sg = s
              · by_cases h2 : key = b
                · rw [decide_eq_true ⟨⟨rfl, h1⟩, by rw [h2]⟩, decide_eq_true h1, decide_eq_true h2]; rfl
                · rw [decide_eq_false (fun h => h2 (Option.some.inj h.2)), decide_eq_true h1, decide_eq_false h2]; rfl
              · rw [decide_eq_false (fun h => h1 h.1.2), decide_eq_false h1]; rfl
            rw [e3] at kq
            obtain ⟨w3, w4⟩ := ukey_wf wf ek
            refine tb_or (b := false) (c := !decide (opr sg = s) || !decide (key = b)) (fun Q3 kq3 => ⟨_, rfl, a, _, _, _, rfl, rfl, SqL.of ha2, eu0, pf, _, _, _, rfl, rfl, SqT.of hpf2, at_of (j := 0) rfl rfl, _, He.ga K "SHUT", ["seal", "lock"], rfl, rfl, T.U_SHUT.tp _, _, rfl, ?_⟩) (fun H4 s4 _ => tb_or (b := !decide (opr sg = s)) (c := !decide (key = b)) (fun Q3 kq3 => ⟨_, rfl, a, _, _, _, rfl, rfl, SqL.of (s4 _ _ ha2), eu0, pf, _, _, _, rfl, rfl, SqT.of (s4 _ _ hpf2), at_of (j := 0) rfl rfl, (sg, opr sg), hop, rfl, rfl, _, rfl, rfl, _, rfl, ?_⟩) (fun H5 s5 _ Q3 kq3 => ⟨_, rfl, a, _, _, _, rfl, rfl, SqL.of (s5 _ _ (s4 _ _ ha2)), eu0, _, _, key, rfl, it2.same (s4.trans s5), wf, ek, fun u6 H6 s6 ik => ⟨_, rfl, a, _, _, _, rfl, rfl, SqL.of (s6 _ _ (s5 _ _ (s4 _ _ ha2))), eu1, dat key, dat b, ik.dp, (ib.same ((s4.trans s5).trans s6)).dp, w3.layW (by omega), wb.layW db, _, rfl, ?_⟩⟩)) Q2 kq
            · rw [sh]
              exact kq3 _ (Same.refl _)
            · rw [decS]
              exact kq3 _ (Same.refl _)
            · rw [eqv_dat]
              exact kq3 _ s6
        · have S3 := S2.trans s3
          by_cases hc : ((ukey t).isSome = true ∧ opr t.head = s) ∧ ukey t = some b
          · refine iteN (by rw [decide_eq_true hc]; decide) (nxt ?_)
            try dsimp only
            rw [if_pos hc] at ew
            obtain ⟨key, ek⟩ := Option.isSome_iff_exists.mp hc.1.1
            obtain ⟨sg, c, k', rfl⟩ : ∃ sg c k', t = .bi sg c k' := by
              rcases ukey_inv wf ek with ⟨c, e⟩ | ⟨c, s', k', e, _⟩
              · exact ⟨_, c, _, e⟩
              · exact ⟨_, c, _, e⟩
            obtain ⟨pf', v1, v2, e', hpf3, i1, i2⟩ := it2.same s3
            cases e'
            exact ⟨_, rfl, a, _, _, _, rfl, rfl, SqL.of (s3 _ _ ha2), eu0, pf, _, _, _, rfl, rfl, SqT.of hpf3, at_of (j := 1) rfl rfl, k _ _ S3 (.inr ⟨c, ew, i1⟩)⟩
          · refine iteP (by rw [decide_eq_false hc]; rfl) ?_
            rw [if_neg hc] at ew
            exact k _ _ S3 (.inl ⟨ew, rfl⟩)
      · refine iteN (by rw [decide_eq_false hu]; decide) (nxt ?_)
        try dsimp only
        obtain ⟨bl, ebl, hbl⟩ : ∃ bl : Bool, (∀ H3 : Hp, Same H2 H3 → True) ∧ wkd s ts = (if bl = true then none else some (match ts with | [t] => .un s t | [t, u] => .bi s t u | _ => .am "" "")) ∧ (bl = true ↔ s = "lock" ∧ ∃ u, ts = [t, u] ∧ u.head ∉ (["open", "own"] : List Str)) := by
          rcases hk with ⟨h, e⟩ | ⟨h, e⟩
          · match ts, e, ht0 with
            | [x], _, h0 =>
              cases h0
              refine ⟨false, fun _ _ => trivial, wk_else h hf, ⟨(fun z => by cases z), fun z => ?_⟩⟩
              obtain ⟨_, u, e, _⟩ := z
              cases e
          · match ts, e, ht0 with
            | [x, b], _, h0 =>
              cases h0
              refine ⟨decide (s = "lock" ∧ ¬ (b.head ∈ (["open", "own"] : List Str))), fun _ _ => trivial, ?_, ?_⟩
              · show wk2 s t b = _
                rw [wk2_else hu]
                by_cases hc : s = "lock" ∧ ¬ (b.head ∈ (["open", "own"] : List Str))
                · rw [if_pos hc, decide_eq_true hc, if_pos rfl]
                · rw [if_neg hc, decide_eq_false hc, if_neg (by decide)]
              · rw [decide_eq_true_eq]
                exact ⟨fun z => ⟨z.1, b, rfl, z.2⟩, fun ⟨z1, u, e, z2⟩ => by cases e; exact ⟨z1, z2⟩⟩
        obtain ⟨ewk, hbl⟩ := hbl
        refine seqIf (b := bl) (fun Q2 kq => ?_) fun H3 s3 => ?_
        · by_cases hl : s = "lock"
          · subst hl
            obtain ⟨b, rfl⟩ : ∃ b, ts = [t, b] := by
              rcases hk with ⟨h, _⟩ | ⟨_, e⟩
              · exact absurd h (by decide +kernel)
              · match ts, e, ht0 with
                | [x, b], _, h => cases h; exact ⟨b, rfl⟩
            obtain ⟨u1, rfl⟩ : ∃ u1, us = [.ref pf, u1] := by
              match us, hul, hu0 with
              | [x, b], _, h => cases h; exact ⟨b, rfl⟩
            have ib := (hts.get 1 b u1 rfl rfl).same S2
            have eu1 : atI [V.ref pf, u1] 1 = some u1 := at_of (j := 1) rfl rfl
            obtain ⟨pb, zb, rfl, hpb⟩ := ib.hd
            have eb : bl = (true && !decide (b.head ∈ (["open", "own"] : List Str))) := by
              rw [Bool.true_and, Bool.eq_iff_iff, hbl, Bool.not_eq_true', decide_eq_false_iff_not]
              exact ⟨fun ⟨_, u, e, z⟩ => by cases e; exact z, fun z => ⟨rfl, b, rfl, z⟩⟩
            rw [eb] at kq
            refine tb_and (b := true) (c := !decide (b.head ∈ (["open", "own"] : List Str))) (fun Q3 kq3 => ⟨_, rfl, rfl, _, rfl, kq3 _ (Same.refl _)⟩) (fun H4 s4 _ Q3 kq3 => ⟨_, rfl, a, _, _, _, rfl, rfl, SqL.of (s4 _ _ ha2), eu1, pb, _, _, _, rfl, rfl, SqT.of (s4 _ _ hpb), at_of (j := 0) rfl rfl, (by show 2 ≤ sizeLine; decide), fun q5 hq5 => ⟨_, q5, ["open", "own"], rfl, rfl, SqT.of upd_same, _, rfl, kq3 _ (Rd.Same.upd hq5)⟩⟩) Q2 kq
          · have eb : bl = (false && false) := by
              cases bl with
              | false => rfl
              | true => exact absurd (hbl.mp rfl).1 hl
            rw [eb] at kq
            refine tb_and (b := false) (c := false) (fun Q3 kq3 => ⟨_, rfl, rfl, _, rfl, ?_⟩) (fun _ _ e => by cases e) Q2 kq
            rw [decS, decide_eq_false hl]
            exact kq3 _ (Same.refl _)
        · have S3 := S2.trans s3
          cases bl with
          | true =>
            refine iteT ?_
            exact k _ _ S3 (.inl ⟨ewk, rfl⟩)
          | false =>
            refine iteF (nxt ?_)
            try dsimp only
            have ha3 := s3 _ _ ha2
            refine ⟨_, rfl, (by show 1 ≤ sizeLine; decide), fun q4 hq4 => ?_⟩
            have s4 := Rd.Same.upd (o := .tup [.str s]) hq4
            have h41 : upd H3 q4 (.tup [.str s]) q4 = some (.tup [.str s]) := upd_same
            generalize upd H3 q4 (.tup [.str s]) = H4 at s4 h41 ⊢
            refine ⟨_, rfl, a, _, rfl, .inl ⟨SqL.of (s4 _ _ ha3), fun q5 hq5 => ?_⟩⟩
            have s5 := Rd.Same.upd (o := .tup us) hq5
            have h51 : upd H4 q5 (.tup us) q5 = some (.tup us) := upd_same
            generalize upd H4 q5 (.tup us) = H5 at s5 h51 ⊢
            have big : 16777216 ≤ sizeLine := by decide
            have one : ([V.str s] : List V).length = 1 := rfl
            have hl12 : ts.length = 1 ∨ ts.length = 2 := by rcases hk with ⟨_, e⟩ | ⟨_, e⟩ <;> omega
            have hne : us ≠ [] := fun z => by rw [z] at hul; simp at hul; omega
            refine ⟨q4, q5, _, _, rfl, rfl, SqT.of (s5 _ _ h41), SqT.of h51, (fun z => by cases z), (by omega), (fun z => absurd z hne), fun _ q6 hq6 => ?_⟩
            have s6 := Rd.Same.upd (o := .tup ([.str s] ++ us)) hq6
            have S6 := ((S3.trans s4).trans s5).trans s6
            have hts6 := hts.same S6
            refine k _ _ S6 (.inr ⟨_, ewk, ?_⟩)
            rcases hl12 with e | e
            · match ts, us, hul, e, hts6 with
              | [x], [u], _, _, h => exact ⟨q6, u, rfl, upd_same, h.get 0 x u rfl rfl⟩
            · match ts, us, hul, e, hts6 with
              | [x, y], [u, v], _, _, h => exact ⟨q6, u, v, rfl, upd_same, h.get 0 x u rfl rfl, h.get 1 y v rfl rfl⟩
end
end Rd
namespace Rd
open PySem L2
theorem IsR.hd {H : Hp} {r : Rc} {v : V} (h : IsR H r v) : ∃ p vs, v = .ref p ∧ H p = some (.tup (.str r.tag :: vs)) := by
  cases r with
  | at_ k => obtain ⟨p, e, h⟩ := h; exact ⟨p, _, e, h⟩
  | wd x => obtain ⟨p, e, h⟩ := h; exact ⟨p, _, e, h⟩
  | un s r => obtain ⟨p, u, e, h, _⟩ := h; exact ⟨p, _, e, h⟩
  | bi s r q => obtain ⟨p, u, u2, e, h, _⟩ := h; exact ⟨p, _, e, h⟩
theorem IsR.kids {H : Hp} {r : Rc} {v : V} (h : IsR H r v) (hk : r.kids ≠ []) : ∃ p us, v = .ref p ∧ H p = some (.tup (.str r.tag :: us)) ∧ AtL IsR H r.kids us := by
  cases r with
  | at_ k => exact absurd rfl hk
  | wd x => exact absurd rfl hk
  | un s r =>
    obtain ⟨p, u, e, h, g⟩ := h
    exact ⟨p, [u], e, h, rfl, fun i a b h1 h2 => by
      cases i with
      | zero => cases h1; cases h2; exact g
      | succ i => cases i <;> cases h1⟩
  | bi s r q =>
    obtain ⟨p, u, u2, e, h, g1, g2⟩ := h
    exact ⟨p, [u, u2], e, h, rfl, get2 g1 g2⟩
theorem kids_cases {r : Rc} (ok : RcOk r) : (∃ k, r = .at_ k) ∨ (∃ x, r = .wd x ∧ isWord x = true) ∨ (r.kids ≠ [] ∧ r.tag ≠ "at" ∧ r.tag ≠ "word" ∧ (∀ q ∈ r.kids, RcOk q ∧ q.dp + 1 ≤ r.dp) ∧ ((r.tag ∈ UNL ∧ r.kids.length = 1) ∨ (r.tag ∈ BIL ∧ r.kids.length = 2))) := by
  cases r with
  | at_ k => exact .inl ⟨k, rfl⟩
  | wd x => exact .inr (.inl ⟨x, rfl, ok⟩)
  | un s r =>
    refine .inr (.inr ⟨(fun e => by cases e), ?_, ?_, fun q hq => ?_, .inl ⟨ok.1, rfl⟩⟩)
    · have : ∀ z ∈ UNL, z ≠ "at" := by decide +kernel
      exact this s ok.1
    · have : ∀ z ∈ UNL, z ≠ "word" := by decide +kernel
      exact this s ok.1
    · rw [List.mem_singleton.mp hq]
      exact ⟨ok.2, Nat.le_refl _⟩
  | bi s r q =>
    refine .inr (.inr ⟨(fun e => by cases e), ?_, ?_, fun z hz => ?_, .inr ⟨ok.1, rfl⟩⟩)
    · have : ∀ z ∈ BIL, z ≠ "at" := by decide +kernel
      exact this s ok.1
    · have : ∀ z ∈ BIL, z ≠ "word" := by decide +kernel
      exact this s ok.1
    · have hz : z = r ∨ z = q := by simpa [Rc.kids] using hz
      have e : (Rc.bi s r q).dp = max r.dp q.dp + 1 := rfl
      rcases hz with rfl | rfl
      · exact ⟨ok.2.1, by omega⟩
      · exact ⟨ok.2.2, by omega⟩
end Rd
namespace Rd
open PySem L2
theorem fits1 {s : Str} {t : Tr} (hs : s ∈ (["unseal", "unlock"] : List Str)) (wf : Wf t) : decide (t.head = cutS s (some 2) none) = decide ((ukey t).isSome = true ∧ opr t.head = s) := by
  have hs : s = "unseal" ∨ s = "unlock" := by simpa using hs
  have key : ∀ z : Str, (z = "seal" ∨ z = "lock" → (z = cutS s (some 2) none ↔ opr z = s)) := by
    rintro z (rfl | rfl) <;> rcases hs with rfl | rfl <;> decide +kernel
  have neg : t.head = cutS s (some 2) none → t.head = "seal" ∨ t.head = "lock" := fun e => by
    rcases hs with rfl | rfl
    · exact .inl (e.trans (by decide +kernel))
    · exact .inr (e.trans (by decide +kernel))
  have iff2 : (ukey t).isSome = true ↔ (t.head = "seal" ∨ t.head = "lock") := by
    have := shut_iff wf
    rw [Bool.eq_iff_iff] at this
    simpa using this.symm
  rw [Bool.eq_iff_iff, decide_eq_true_eq, decide_eq_true_eq, iff2]
  exact ⟨fun e => ⟨neg e, (key _ (neg e)).mp e⟩, fun h => (key _ h.1).mpr h.2⟩
section
variable {P : Program} {w : World} {K : PySem.W.Frag} {mg : Str → Option Value} {base : Heap}
abbrev s__law_step : Stmt := top 61
theorem sc__law_step : FnScope ["_law_kind", "_law_inner", "_law_fits"] ["_law_kind", "_law_inner"] (defScope s__law_step) := ⟨rfl, rfl, rfl, by decide +kernel, rfl, by decide +kernel, by decide +kernel⟩
theorem ok__law_step (T : Tx w K mg) : Fk P w K mg base CX0 30 "_law_step" ["_law_kind", "_law_inner"] sp_worked := by
  refine T.F__law_step.ok0 sc__law_step (fun _ _ _ _ _ _ us hl => match us, hl with | [_, _], _ => rfl)
    (fun vs H Q E h => ?_) (fun cdv A outer s H vs Q E hr h => ?_)
  · obtain ⟨s, a, us, ts, rfl, _⟩ := h
    rfl
  · obtain ⟨s, a, us, ts, rfl, ha, hts, wt, hk, k⟩ := h
    refine ⟨_, (pss_cons (ps_if (pt_cmpR op_in_seq (pv 0) (pe_lst (pa_cons pe_str (pa_cons pe_str pa_nil))) (by rfl))
  (pss_one (ps_ret (pe_ifExp (pt_cmpR op_eq (pe_ix ix_tup (pe_ix ix_list (pv 1) pe_int (fun _ _ => rfl)) pe_int (fun _ _ => rfl)) pe_str (nomark _)) (pe_ix ix_tup (pe_ix ix_list (pv 1) pe_int (fun _ _ => rfl)) (pe_op op_add pe_int (pe_callTy call_int1 (by rfl) T.z_int (by decide +kernel) (pa_cons (pe_cmpR op_eq (pv 0) pe_str (nomark _)) pa_nil))) (fun _ _ => rfl)) pe_non)))
  pss_nil)
  (pss_cons (ps_if (pt_cmpR op_in_seq (pv 0) (pe_lst (pa_cons pe_str (pa_cons pe_str pa_nil))) (by rfl))
  (pss_cons (ps_set (i := 2) sc__law_step.nd rfl (Or.inl rfl) (pe_and (pe_cmpR op_eq (pe_ix ix_tup (pe_ix ix_list (pv 1) pe_int (fun _ _ => rfl)) pe_int (fun _ _ => rfl)) (pe_slice sl_str (pv 0) (po_some pe_int) po_none) (nomark _)) (pe_one (pe_cmpR (op_eqW (units500 hr (by omega))) (pe_fk (ok__law_undoing T) (hr.mono (by omega)) rfl pass0 (pa_cons (pe_ix ix_list (pv 1) pe_int (fun _ _ => rfl)) pa_nil)) (pe_ix ix_list (pv 1) pe_int (fun _ _ => rfl)) (nomark _)))))
  (pss_one (ps_ret (pe_ifExp (pt_val (pv 2)) (pe_ix ix_tup (pe_ix ix_list (pv 1) pe_int (fun _ _ => rfl)) pe_int (fun _ _ => rfl)) pe_non))))
  pss_nil)
  (pss_cons (ps_if (PW.pt (pw_and (pt_cmpR op_eq (pv 0) pe_str (nomark _)) (pw_and1 (pt_cmpR op_notIn_seq (pe_ix ix_tup (pe_ix ix_list (pv 1) pe_int (fun _ _ => rfl)) pe_int (fun _ _ => rfl)) (pe_lst (pa_cons pe_str (pa_cons pe_str pa_nil))) (by rfl)))))
  (pss_one (ps_ret pe_non))
  pss_nil)
  (pss_one (ps_ret (pe_callTy call_tuple_of (by rfl) T.z_tuple (by decide +kernel) (pa_cons (pe_op op_cat (pe_lst (pa_cons (pv 0) pa_nil)) (pv 1)) pa_nil))))))), ?_⟩
    have hul := hts.len
    obtain ⟨t, u0, ht0, hu0, it, wf, dt⟩ : ∃ t u0, ts[0]? = some t ∧ us[0]? = some u0 ∧ IsT H t u0 ∧ Wf t ∧ t.dep ≤ 400 := by
      have hl : 0 < ts.length := by rcases hk with ⟨_, e⟩ | ⟨_, e⟩ <;> omega
      have e1 : ts[0]? = some ts[0] := List.getElem?_eq_getElem hl
      have e2 : us[0]? = some us[0] := List.getElem?_eq_getElem (by omega)
      exact ⟨_, _, e1, e2, hts.get 0 _ _ e1 e2, wt _ (List.getElem_mem hl)⟩
    have eu0 : atI us 0 = some u0 := at_of (j := 0) rfl hu0
    refine ⟨_, rfl, (by show 2 ≤ sizeLine; decide), fun q1 hq1 => ?_⟩
    have s1 := Rd.Same.upd (o := .lst [.str "first", .str "second"]) hq1
    refine ⟨q1, _, rfl, .inl (SqL.of upd_same), rfl, rfl, _, rfl, ?_⟩
    rw [if_neg Bool.false_ne_true, show inV (V.str s) [.str "first", .str "second"] = decide (s ∈ (["first", "second"] : List Str)) from inV_strs s ["first", "second"]]
    generalize upd H q1 (.lst [.str "first", .str "second"]) = H1 at s1 ⊢
    have ha1 := s1 _ _ ha
    have it1 := it.same s1
    obtain ⟨pf, zs, e0, hpf⟩ := it1.hd
    subst e0
    by_cases hf : s ∈ (["first", "second"] : List Str)
    · refine iteP (decide_eq_true hf) ?_
      obtain ⟨rfl⟩ : ts = [t] := by
        rcases hk with ⟨_, e⟩ | ⟨h, _⟩
        · match ts, e, ht0 with
          | [a], _, h => cases h; rfl
        · have : ∀ z ∈ BIL, z ∉ (["first", "second"] : List Str) := by decide +kernel
          exact absurd hf (this s h)
      refine ⟨_, rfl, a, _, _, _, rfl, rfl, SqL.of ha1, eu0, pf, _, _, _, rfl, rfl, SqT.of hpf, at_of (j := 0) rfl rfl, rfl, _, rfl, ?_⟩
      rw [decS]
      by_cases hp : t.head = "pair"
      · refine iteP (decide_eq_true hp) ?_
        obtain ⟨c, b, rfl⟩ : ∃ c b, t = .bi "pair" c b := by
          rcases wf.shp with ⟨k0, x0, rfl, ko⟩ | ⟨s0, a0, rfl, hs, _⟩ | ⟨s0, a0, b0, rfl, hs, wa, wb⟩
          · rcases ko with ⟨rfl, _⟩ | ⟨rfl, _⟩ | ⟨rfl, _⟩
            · exact absurd (show ("word" : Str) = "pair" from hp) (by decide +kernel)
            · exact absurd (show ("name" : Str) = "pair" from hp) (by decide +kernel)
            · exact absurd (show ("unknown" : Str) = "pair" from hp) (by decide +kernel)
          · have : ∀ z ∈ (["mark", "open", "own"] : List Str), z ≠ "pair" := by decide +kernel
            exact absurd hp (this s0 hs)
          · have hp : s0 = "pair" := hp
            subst hp
            exact ⟨a0, b0, rfl⟩
        obtain ⟨pf', u1, u2, e', hpf', i1, i2⟩ := it1
        cases e'
        have hs12 : s = "first" ∨ s = "second" := by simpa using hf
        refine ⟨_, rfl, a, _, _, _, rfl, rfl, SqL.of ha1, eu0, _, rfl, rfl, .inr ⟨_, rfl, ?_⟩⟩
        rw [decS]
        rcases hs12 with rfl | rfl
        · refine ⟨_, _, rfl, rfl, pf, _, _, _, rfl, rfl, SqT.of hpf', at_of (j := 1) (by decide +kernel) rfl, k _ _ s1 (.inr ⟨c, rfl, i1⟩)⟩
        · refine ⟨_, _, rfl, rfl, pf, _, _, _, rfl, rfl, SqT.of hpf', at_of (j := 2) (by decide +kernel) rfl, k _ _ s1 (.inr ⟨b, rfl, i2⟩)⟩
      · refine iteN (by rw [decide_eq_false hp]; decide) ?_
        refine k _ _ s1 (.inl ⟨?_, rfl⟩)
        show wk1 s t = none
        have hs12 : s = "first" ∨ s = "second" := by simpa using hf
        cases t with
        | am => rcases hs12 with rfl | rfl <;> rfl
        | un => rcases hs12 with rfl | rfl <;> rfl
        | bi z c b =>
          have hp : z ≠ "pair" := hp
          unfold wk1
          rcases hs12 with rfl | rfl
          · rw [if_pos rfl]
            show (if z = "pair" then some c else none) = none
            rw [if_neg hp]
          · rw [if_neg (by decide +kernel), if_pos rfl]
            show (if z = "pair" then some b else none) = none
            rw [if_neg hp]
    · refine iteN (by rw [decide_eq_false hf]; decide) (nxt ?_)
      try dsimp only
      refine ⟨_, rfl, (by show 2 ≤ sizeLine; decide), fun q2 hq2 => ?_⟩
      have s2 := Rd.Same.upd (o := .lst [.str "unseal", .str "unlock"]) hq2
      refine ⟨q2, _, rfl, .inl (SqL.of upd_same), rfl, rfl, _, rfl, ?_⟩
      rw [if_neg Bool.false_ne_true, show inV (V.str s) [.str "unseal", .str "unlock"] = decide (s ∈ (["unseal", "unlock"] : List Str)) from inV_strs s ["unseal", "unlock"]]
      generalize upd H1 q2 (.lst [.str "unseal", .str "unlock"]) = H2 at s2 ⊢
      have S2 := s1.trans s2
      have ha2 := s2 _ _ ha1
      have it2 := it1.same s2
      have hpf2 := s2 _ _ hpf
      by_cases hu : s ∈ (["unseal", "unlock"] : List Str)
      · refine iteP (decide_eq_true hu) ?_
        obtain ⟨b, rfl⟩ : ∃ b, ts = [t, b] := by
          rcases hk with ⟨h, _⟩ | ⟨_, e⟩
          · have : ∀ z ∈ UNL, z ∉ (["unseal", "unlock"] : List Str) := by decide +kernel
            exact absurd hu (this s h)
          · match ts, e, ht0 with
            | [x, b], _, h => cases h; exact ⟨b, rfl⟩
        obtain ⟨u1, rfl⟩ : ∃ u1, us = [.ref pf, u1] := by
          match us, hul, hu0 with
          | [x, b], _, h => cases h; exact ⟨b, rfl⟩
        have ib := (hts.get 1 b u1 rfl rfl).same S2
        obtain ⟨wb, db⟩ := wt b (by simp)
        have eu1 : atI [V.ref pf, u1] 1 = some u1 := at_of (j := 1) rfl rfl
        have ew := wk2_open (b := b) hu wf
        have e1 := fits1 hu wf
        have hsl : s.length ≤ sizeLine := by
          have : ∀ z ∈ (["unseal", "unlock"] : List Str), z.length ≤ 16777216 := by decide +kernel
          exact Nat.le_trans (this s hu) (by decide)
        refine ⟨_, rfl, a, _, _, _, rfl, rfl, SqL.of ha2, eu0, pf, _, _, _, rfl, rfl, SqT.of hpf2, at_of (j := 0) rfl rfl, _, rfl, _, rfl, s, rfl, hsl, rfl, _, rfl, ?_⟩
        rw [decS, e1]
        by_cases h1 : (ukey t).isSome = true ∧ opr t.head = s
        · obtain ⟨key, ek⟩ := Option.isSome_iff_exists.mp h1.1
          obtain ⟨w3, w4⟩ := ukey_wf wf ek
          rw [decide_eq_true h1, if_pos rfl]
          refine ⟨_, rfl, a, _, _, _, rfl, rfl, SqL.of ha2, eu0, _, _, key, rfl, it2, wf, ek, fun u6 H6 s6 ik => ⟨_, rfl, a, _, _, _, rfl, rfl, SqL.of (s6 _ _ ha2), eu1, dat key, dat b, ik.dp, (ib.same s6).dp, w3.layW (by omega), wb.layW db, _, rfl, ?_⟩⟩
          rw [eqv_dat]
          have S6 := S2.trans s6
          by_cases h2 : key = b
          · subst h2
            rw [if_pos ⟨h1, ek⟩] at ew
            obtain ⟨sg, c, k', rfl⟩ : ∃ sg c k', t = .bi sg c k' := by
              rcases ukey_inv wf ek with ⟨c, e⟩ | ⟨c, s', k', e, _⟩
              · exact ⟨_, c, _, e⟩
              · exact ⟨_, c, _, e⟩
            obtain ⟨pf', v1, v2, e', hpf3, i1, i2⟩ := it2.same s6
            cases e'
            refine ⟨_, rfl, ?_⟩
            rw [decide_eq_true rfl]
            refine iteT ?_
            exact ⟨_, rfl, a, _, _, _, rfl, rfl, SqL.of (s6 _ _ ha2), eu0, pf, _, _, _, rfl, rfl, SqT.of hpf3, at_of (j := 1) rfl rfl, k _ _ S6 (.inr ⟨c, ew, i1⟩)⟩
          · rw [if_neg (fun h => h2 (by have := h.2; rw [ek] at this; exact Option.some.inj this))] at ew
            refine ⟨_, rfl, ?_⟩
            rw [decide_eq_false h2]
            exact iteF (k _ _ S6 (.inl ⟨ew, rfl⟩))
        · rw [decide_eq_false h1, if_neg (by decide)]
          refine gName_k ?_
          try dsimp only
          rw [if_neg (fun h => h1 h.1)] at ew
          exact ⟨_, rfl, _, rfl, iteF (k _ _ S2 (.inl ⟨ew, rfl⟩))⟩
      · refine iteN (by rw [decide_eq_false hu]; decide) (nxt ?_)
        try dsimp only
        obtain ⟨bl, ebl, hbl⟩ : ∃ bl : Bool, wkd s ts = (if bl = true then none else some (match ts with | [t] => .un s t | [t, u] => .bi s t u | _ => .am "" "")) ∧ (bl = true ↔ s = "lock" ∧ ∃ u, ts = [t, u] ∧ u.head ∉ (["open", "own"] : List Str)) := by
          rcases hk with ⟨h, e⟩ | ⟨h, e⟩
          · match ts, e, ht0 with
            | [x], _, h0 =>
              cases h0
              refine ⟨false, wk_else h hf, ⟨(fun z => by cases z), fun z => ?_⟩⟩
              obtain ⟨_, u, e, _⟩ := z
              cases e
          · match ts, e, ht0 with
            | [x, b], _, h0 =>
              cases h0
              refine ⟨decide (s = "lock" ∧ ¬ (b.head ∈ (["open", "own"] : List Str))), ?_, ?_⟩
              · show wk2 s t b = _
                rw [wk2_else hu]
                by_cases hc : s = "lock" ∧ ¬ (b.head ∈ (["open", "own"] : List Str))
                · rw [if_pos hc, decide_eq_true hc, if_pos rfl]
                · rw [if_neg hc, decide_eq_false hc, if_neg (by decide)]
              · rw [decide_eq_true_eq]
                exact ⟨fun z => ⟨z.1, b, rfl, z.2⟩, fun ⟨z1, u, e, z2⟩ => by cases e; exact ⟨z1, z2⟩⟩
        have ewk := ebl
        refine seqIf (b := bl) (fun Q2 kq => ?_) fun H3 s3 => ?_
        · by_cases hl : s = "lock"
          · subst hl
            obtain ⟨b, rfl⟩ : ∃ b, ts = [t, b] := by
              rcases hk with ⟨h, _⟩ | ⟨_, e⟩
              · exact absurd h (by decide +kernel)
              · match ts, e, ht0 with
                | [x, b], _, h => cases h; exact ⟨b, rfl⟩
            obtain ⟨u1, rfl⟩ : ∃ u1, us = [.ref pf, u1] := by
              match us, hul, hu0 with
              | [x, b], _, h => cases h; exact ⟨b, rfl⟩
            have ib := (hts.get 1 b u1 rfl rfl).same S2
            have eu1 : atI [V.ref pf, u1] 1 = some u1 := at_of (j := 1) rfl rfl
            obtain ⟨pb, zb, rfl, hpb⟩ := ib.hd
            have eb : bl = (true && !decide (b.head ∈ (["open", "own"] : List Str))) := by
              rw [Bool.true_and, Bool.eq_iff_iff, hbl, Bool.not_eq_true', decide_eq_false_iff_not]
              exact ⟨fun ⟨_, u, e, z⟩ => by cases e; exact z, fun z => ⟨rfl, b, rfl, z⟩⟩
            rw [eb] at kq
            refine tb_and (b := true) (c := !decide (b.head ∈ (["open", "own"] : List Str))) (fun Q3 kq3 => ⟨_, rfl, rfl, _, rfl, kq3 _ (Same.refl _)⟩) (fun H4 s4 _ Q3 kq3 => ⟨_, rfl, a, _, _, _, rfl, rfl, SqL.of (s4 _ _ ha2), eu1, pb, _, _, _, rfl, rfl, SqT.of (s4 _ _ hpb), at_of (j := 0) rfl rfl, (by show 2 ≤ sizeLine; decide), fun q5 hq5 => ⟨q5, _, rfl, .inl (SqL.of upd_same), rfl, rfl, _, rfl, by
              rw [if_pos rfl, show inV (V.str b.head) [.str "open", .str "own"] = decide (b.head ∈ (["open", "own"] : List Str)) from inV_strs b.head ["open", "own"]]
              exact kq3 _ (Rd.Same.upd hq5)⟩⟩) Q2 kq
          · have eb : bl = (false && false) := by
              cases bl with
              | false => rfl
              | true => exact absurd (hbl.mp rfl).1 hl
            rw [eb] at kq
            refine tb_and (b := false) (c := false) (fun Q3 kq3 => ⟨_, rfl, rfl, _, rfl, ?_⟩) (fun _ _ e => by cases e) Q2 kq
            rw [decS, decide_eq_false hl]
            exact kq3 _ (Same.refl _)
        · have S3 := S2.trans s3
          cases bl with
          | true =>
            refine iteT ?_
            exact k _ _ S3 (.inl ⟨ewk, rfl⟩)
          | false =>
            refine iteF (nxt ?_)
            try dsimp only
            have ha3 := s3 _ _ ha2
            refine ⟨_, rfl, (by show 1 ≤ sizeLine; decide), fun q4 hq4 => ?_⟩
            have s4 := Rd.Same.upd (o := .lst [.str s]) hq4
            have h41 : upd H3 q4 (.lst [.str s]) q4 = some (.lst [.str s]) := upd_same
            generalize upd H3 q4 (.lst [.str s]) = H4 at s4 h41 ⊢
            have big : 16777216 ≤ sizeLine := by decide
            have hl12 : ts.length = 1 ∨ ts.length = 2 := by rcases hk with ⟨_, e⟩ | ⟨_, e⟩ <;> omega
            refine ⟨_, rfl, q4, a, _, _, rfl, rfl, h41, s4 _ _ ha3, (by show 1 + us.length ≤ sizeLine; omega), fun q5 hq5 => ?_⟩
            have s5 := Rd.Same.upd (o := .lst ([.str s] ++ us)) hq5
            refine ⟨q5, _, rfl, .inl ⟨SqL.of upd_same, fun q6 hq6 => ?_⟩⟩
            have s6 := Rd.Same.upd (o := .tup ([.str s] ++ us)) hq6
            have S6 := ((S3.trans s4).trans s5).trans s6
            have hts6 := hts.same S6
            refine k _ _ S6 (.inr ⟨_, ewk, ?_⟩)
            rcases hl12 with e | e
            · match ts, us, hul, e, hts6 with
              | [x], [u], _, _, h => exact ⟨q6, u, rfl, upd_same, h.get 0 x u rfl rfl⟩
            · match ts, us, hul, e, hts6 with
              | [x, y], [u, v], _, _, h => exact ⟨q6, u, v, rfl, upd_same, h.get 0 x u rfl rfl, h.get 1 y v rfl rfl⟩
end
end Rd
namespace Rd
open PySem L2
/-- [e for x in a tuple], the turn before having come through -/
theorem lctG {K : PySem.W.Frag} {C a D : Addr} {xs : List V} {te : TE} {i0 : Nat} {σ : St} {H1 : Hp} {Qd : Hp → Prop} (G : Nat → Prop) (R : Nat → Hp → V → Prop) (rm : ∀ i H H' v, Kp C H H' → R i H v → R i H' v) (hS : SqT K H1 a xs) (hl : xs.length ≤ 100000) (hD : H1 D = none)
    (hte : ∀ (i : Nat) (x : V) (H : Hp) (Q : VK), xs[i]? = some x → Same H1 H → (∀ j, j < i → G j) → (∀ v H', Same H H' → G i → R i H' v → Q v H') → te ((wipe σ [i0]).set i0 (some x)) H Q)
    (hq : ∀ vs H', Same H1 H' → H' D = some (.lst vs) → vs.length = xs.length → (∀ j, j < xs.length → G j) → (∀ (i : Nat) v, vs[i]? = some v → R i H' v) → Qd H') :
    ∃ W : Nat → Nat → Hp → Prop, (∃ m, W 0 m (L2.upd H1 D (.lst []))) ∧ ∀ i m H, W i m H →
      ((Itt K a).stop i H ∧ Qd H) ∨ ((Itt K a).go i H ∧ ∃ Nx : Hp → Prop, (∀ H', Nx H' → ∃ m', m' < m ∧ W (i + 1) m' H') ∧ ∀ x H', (Itt K a).yld i H x H' → gName i0 x (wipe σ [i0]) H' fun σ2 H2 => wipe σ2 [i0] = wipe σ [i0] ∧ tYes σ2 H2 fun b H3 =>
        if b = true then te σ2 H3 fun y H4 => ∃ acc, H4 D = some (.lst acc) ∧ acc.length < sizeLine ∧ Nx (L2.upd H4 D (.lst (acc ++ [y]))) else Nx H3) := by
  refine lc_tup (K := K) (a := a) (xs := xs) (fun i H => ∃ vs, Same H1 H ∧ H D = some (.lst vs) ∧ vs.length = i ∧ (∀ j, j < i → G j) ∧ (∀ (j : Nat) v, vs[j]? = some v → R j H v)) ?_ ?_ ?_ ?_
  · exact ⟨[], Rd.Same.upd hD, upd_same, rfl, (fun j h => absurd h (Nat.not_lt_zero _)), fun j v h => by simp at h⟩
  · rintro i H hi ⟨vs, s, _⟩
    exact SqT.kept hS s
  · rintro i x H hx ⟨vs, s, hDv, hlv, hG, hg⟩
    refine ⟨by simp [wipe], hte i x H _ hx s hG fun v H' s' gi hv => ⟨vs, s' _ _ hDv, ?_, ?_⟩⟩
    · have : 100000 < sizeLine := by decide
      have := (List.getElem?_eq_some_iff.mp hx).1
      omega
    · have hDv' := s' _ _ hDv
      refine ⟨vs ++ [v], fun c o e => ?_, upd_same, by rw [List.length_append, hlv]; rfl, fun j hj => ?_, fun j v' hv' => ?_⟩
      · rw [upd_ne (ne_of_none e hD)]
        exact s' c o (s c o e)
      · by_cases h : j < i
        · exact hG j h
        · have : j = i := by omega
          subst this
          exact gi
      · have kp := Kp.upd_lst (C := C) (ys := vs ++ [v]) hDv'
        by_cases hj : j < vs.length
        · rw [List.getElem?_append_left hj] at hv'
          exact rm _ _ _ _ kp (rm _ _ _ _ (Kp.of_same s') (hg j v' hv'))
        · have e : j = vs.length := by
            have := (List.getElem?_eq_some_iff.mp hv').1
            rw [List.length_append, List.length_singleton] at this
            omega
          subst e
          rw [List.getElem?_append_right (Nat.le_refl _), Nat.sub_self] at hv'
          cases hv'
          rw [hlv]
          exact rm _ _ _ _ kp hv
  · rintro H ⟨vs, s, hDv, hlv, hG, hg⟩
    exact hq vs H s hDv hlv hG hg
/-- the first part that does not work -/
theorem rcx_stuck {ts : List Tr} {r e : Rc} {i : Nat} {q : Rc} (hi : r.kids[i]? = some q) (hp : ∀ j, j < i → ∀ p, r.kids[j]? = some p → ∃ t, rcx ts p = .inr t) (he : rcx ts q = .inl e) : rcx ts r = .inl e := by
  cases r with
  | at_ k => cases hi
  | wd x => cases hi
  | un s r =>
    cases i with
    | zero =>
      cases hi
      unfold rcx
      rw [he]
    | succ i => simp [Rc.kids] at hi
  | bi s r1 r2 =>
    match i, hi, hp with
    | 0, hi, _ =>
      cases hi
      unfold rcx
      rw [he]
    | 1, hi, hp =>
      have e2 : r2 = q := Option.some.inj (show some r2 = some q from hi)
      subst e2
      obtain ⟨t, ht⟩ := hp 0 Nat.zero_lt_one r1 rfl
      unfold rcx
      rw [ht]
      show (match rcx ts r2 with
        | .inl e => Sum.inl e
        | .inr t2 => match wk2 s t t2 with
          | some u => Sum.inr u
          | none => Sum.inl (Rc.bi s r1 r2)) = Sum.inl e
      rw [he]
    | i + 2, hi, _ => simp [Rc.kids] at hi
/-- all parts work -/
theorem rcx_all {ts : List Tr} {r : Rc} (hk : r.kids ≠ []) (hp : ∀ (j : Nat) p, r.kids[j]? = some p → ∃ t, rcx ts p = .inr t) : ∃ us : List Tr, us.length = r.kids.length ∧ (∀ (i : Nat) q u, r.kids[i]? = some q → us[i]? = some u → rcx ts q = .inr u) ∧ rcx ts r = (match wkd r.tag us with | some t => .inr t | none => .inl r) := by
  cases r with
  | at_ k => exact absurd rfl hk
  | wd x => exact absurd rfl hk
  | un s r =>
    obtain ⟨t, ht⟩ := hp 0 r rfl
    refine ⟨[t], rfl, fun i q u h1 h2 => ?_, ?_⟩
    · cases i with
      | zero => cases h1; cases h2; exact ht
      | succ i => cases i <;> cases h1
    · show rcx ts (.un s r) = (match wk1 s t with | some t => Sum.inr t | none => Sum.inl (Rc.un s r))
      unfold rcx
      rw [ht]
      all_goals show (match wk1 s t with | some u => Sum.inr u | none => Sum.inl (Rc.un s r)) = _
      all_goals cases wk1 s t <;> rfl
  | bi s r1 r2 =>
    obtain ⟨t1, h1⟩ := hp 0 r1 rfl
    obtain ⟨t2, h2⟩ := hp 1 r2 rfl
    refine ⟨[t1, t2], rfl, get2 (R := fun q u => rcx ts q = .inr u) h1 h2, ?_⟩
    show rcx ts (.bi s r1 r2) = (match wk2 s t1 t2 with | some t => Sum.inr t | none => Sum.inl (Rc.bi s r1 r2))
    unfold rcx
    rw [h1, h2]
    all_goals show (match wk2 s t1 t2 with | some u => Sum.inr u | none => Sum.inl (Rc.bi s r1 r2)) = _
    all_goals cases wk2 s t1 t2 <;> rfl
def sp_runG (K : PySem.W.Frag) (n : Nat) : Sp := fun vs H Q E => ∃ (v : V) (a : Addr) (r : Rc) (ws : List V) (ts : List Tr), vs = [v, .ref a] ∧ IsR H r v ∧ RcOk r ∧ r.dp ≤ n ∧ n ≤ 110 ∧ H a = some (.lst ws) ∧ TsAt H ts ws ∧ (∀ t ∈ ts, Wf t ∧ t.dep ≤ 100) ∧ ts.length ≤ 100000 ∧
  (∀ t, rcx ts r = .inr t → ∀ u H', Same H H' → IsT H' t u → Q u H') ∧
  (∀ e, rcx ts r = .inl e → ∀ d v H', Same H H' → IsR H' e v → H' d = some (.xd [("step", v)]) → E (.ref (He.ga K "NoWay")) (some d) H')
def spRG (K : PySem.W.Frag) : Nat → Sp
  | 0 => fun _ _ _ _ => False
  | n + 1 => sp_runG K n
section
variable {P : Program} {w : World} {K : PySem.W.Frag} {mg : Str → Option Value} {base : Heap}
abbrev s_NoWay_init : Stmt := inClass (top 9) 0
theorem sc_NoWay_init : FnScope ["self", "step"] ["self", "step"] (defScope s_NoWay_init) := ⟨rfl, rfl, rfl, by decide +kernel, rfl, by decide +kernel, by decide +kernel⟩
theorem ok_NoWay (T : Tx w K mg) : Fm P w K mg base CX0 1 "NoWay" "__init__" ["self", "step"] (spX1 K "step") := by
  refine T.X_NoWay.init.ok0 sc_NoWay_init (fun _ _ _ _ _ _ us hl => match us, hl with | [_, _], _ => rfl)
    (fun vs H Q E h => ?_) (fun cdv A outer s H vs Q E hr h => ?_)
  · obtain ⟨a, C, v, rfl, _⟩ := h
    rfl
  · obtain ⟨a, C, v, rfl, TC, no, ha, k⟩ := h
    refine ⟨_, (pss_cons (ps_expr (pe_reinit rfl T.g_RoadError T.r_RoadError (pa_cons (pv 0) (pa_cons pe_str pa_nil))))
  (pss_one (ps_ost (pv 0) (pv 1)))), ?_⟩
    refine ⟨_, rfl, a, C, [.str "recipe does not work"], rfl, (by show 1 ≤ 1000; decide), TC, ha, _, rfl, _, rfl, a, C, rfl, TC, no, .inl ⟨ha, fun dx hdx ne => k dx hdx ne⟩⟩
abbrev s_run_recipe : Stmt := top 40
theorem sc_run_recipe : FnScope ["recipe", "trees", "kind", "made", "part", "found"] ["recipe", "trees"] (defScope s_run_recipe) := ⟨rfl, rfl, rfl, by decide +kernel, rfl, by decide +kernel, by decide +kernel⟩
theorem rg_step (T : Tx w K mg) (n : Nat) (ih : Fk P w K mg base (L2N.CX P w) (n + 30) "run_recipe" ["recipe", "trees"] (spRG K n)) : Fk P w K mg base (L2N.CX P w) (n + 31) "run_recipe" ["recipe", "trees"] (sp_runG K n) := by
  refine T.F_run_recipe.ok sc_run_recipe (fun _ _ _ _ _ _ us hl => match us, hl with | [_, _], _ => rfl)
    (fun vs H Q E h => ?_) (fun cdv A outer s H vs Q E hr h => ?_)
  · obtain ⟨v, a, r, ws, ts, rfl, _⟩ := h
    rfl
  · obtain ⟨v, a, r, ws, ts, rfl, ir, ok, dp, n110, ha, hts, wt, hl, k1, k0⟩ := h
    refine ⟨_, (pss_cons (ps_set (i := 2) sc_run_recipe.nd rfl (Or.inl rfl) (pe_ix ix_tup (pv 0) pe_int (fun _ _ => rfl)))
  (pss_cons (ps_if (pt_cmpR op_eq (pv 2) pe_str (nomark _))
  (pss_cons (ps_if (PW.pt (pw_or (pt_cmpR op_lt (pe_ix ix_tup (pv 0) pe_int (fun _ _ => rfl)) pe_int (nomark _)) (pw_or1 (pt_cmpR op_ge (pe_ix ix_tup (pv 0) pe_int (fun _ _ => rfl)) (pe_callB call_len_seq (by rfl) T.z_len (by decide +kernel) (pa_cons (pv 1) pa_nil)) (nomark _)))))
  (pss_one (L2N.ps_raise rfl (L2N.takes_of rfl rfl rfl rfl) (pmk_xN T.X_NoWay (ok_NoWay T) (hr.mono (by omega)) rfl (pa_cons (pv 0) pa_nil))))
  pss_nil)
  (pss_one (ps_ret (pe_ix ix_list (pv 1) (pe_ix ix_tup (pv 0) pe_int (fun _ _ => rfl)) (fun _ _ => rfl)))))
  pss_nil)
  (pss_cons (ps_if (pt_cmpR op_eq (pv 2) pe_str (nomark _))
  (pss_one (ps_ret (pv 0)))
  pss_nil)
  (pss_cons (ps_setLcx (i := 3) (own := [("part", 4)]) (g := gName 4) (tt := tYes) rfl rfl (L2N.takes_of rfl rfl rfl rfl) (by rfl) sc_run_recipe.nd rfl rfl (sw_true rfl rfl rfl (by decide +kernel)) (pi_tup (pe_slice sl_tup (pv 0) (po_some pe_int) po_none)) (blkOk_by (own := [("part", 4)]) (N := ["recipe", "trees", "kind", "made", "part", "found"]) (sc := defScope s_run_recipe) (by decide +kernel)) (fun _ _ _ _ _ _ => (pg_name (i := 4) sc_run_recipe.nd rfl (Or.inl rfl))) (fun _ _ _ _ _ _ => pts_nil) (fun _ _ _ _ _ _ ps => (pe_fk ih (hr.mono (by omega)) rfl (ps _ (fun _ _ _ h => h)) (pa_cons (pv 4) (pa_cons (pv 1) pa_nil)))))
  (pss_cons (ps_set (i := 5) sc_run_recipe.nd rfl (Or.inl rfl) (pe_fk (ok_worked T) (hr.mono (by omega)) rfl pass0 (pa_cons (pv 2) (pa_cons (pv 3) pa_nil))))
  (pss_cons (ps_if (pt_cmpR op_isN (pv 5) pe_non (nomark _))
  (pss_one (L2N.ps_raise rfl (L2N.takes_of rfl rfl rfl rfl) (pmk_xN T.X_NoWay (ok_NoWay T) (hr.mono (by omega)) rfl (pa_cons (pv 0) pa_nil))))
  pss_nil)
  (pss_one (ps_ret (pv 5))))))))), ?_⟩
    have big : 16777216 ≤ sizeLine := by decide
    have hwl := hts.len
    obtain ⟨pf, zs, rfl, hpf⟩ := ir.hd
    refine seqAsg ⟨_, rfl, pf, _, _, _, rfl, rfl, SqT.of hpf, at_of (j := 0) rfl rfl, ?_⟩
    refine gName_k ?_
    try dsimp only
    refine ⟨_, rfl, rfl, _, rfl, ?_⟩
    rw [decS]
    have raise : ∀ {H1 : Hp} (e : Rc) (v : V), Same H H1 → rcx ts r = .inl e → IsR H1 e v → ∀ (d : Addr) H', Same H1 H' → H' d = some (.xd [("step", v)]) → E (.ref (He.ga K "NoWay")) (some d) H' := fun e v s1 er iv d H' s' hd => k0 e er d v H' (s1.trans s') (iv.same s') hd
    rcases kids_cases ok with ⟨kk, rfl⟩ | ⟨x, rfl, hx⟩ | ⟨hk, h1, h2, hq, har⟩
    · refine iteP (show decide (("at" : Str) = "at") = true by decide +kernel) ?_
      obtain ⟨p, e', hp⟩ := id ir
      cases e'
      have e1 : rcx ts (.at_ kk) = (if 0 ≤ kk then (match ts[kk.toNat]? with | some t => Sum.inr t | none => .inl (Rc.at_ kk)) else .inl (Rc.at_ kk)) := rfl
      by_cases hin : 0 ≤ kk ∧ kk.toNat < ts.length
      · obtain ⟨hk0, hlt⟩ := hin
        have et : ts[kk.toNat]? = some (ts[kk.toNat]'hlt) := List.getElem?_eq_getElem hlt
        rw [if_pos hk0, et] at e1
        have hw : ws[kk.toNat]? = some (ws[kk.toNat]'(by omega)) := List.getElem?_eq_getElem (by omega)
        have it := hts.get _ _ _ et hw
        refine seqIf (b := false) (tb_or (b := false) (c := false) (fun Q2 kq => ⟨_, rfl, pf, _, _, _, rfl, rfl, SqT.of hp, at_of (j := 1) rfl rfl, _, _, rfl, rfl, _, rfl, ?_⟩) (fun H1 s1 _ Q2 kq => ⟨_, rfl, pf, _, _, _, rfl, rfl, SqT.of (s1 _ _ hp), at_of (j := 1) rfl rfl, _, rfl, a, ws, rfl, .inl (SqL.of (s1 _ _ ha)), _, _, rfl, rfl, _, rfl, ?_⟩)) fun H1 s1 => iteF (nxt ?_)
        · rw [decide_eq_false (by omega)]
          exact kq _ (Same.refl _)
        · rw [decide_eq_false (by omega)]
          exact kq _ (Same.refl _)
        try dsimp only
        exact ⟨_, rfl, _, rfl, pf, _, _, _, rfl, rfl, SqT.of (s1 _ _ hp), at_of (j := 1) rfl rfl, a, _, _, _, rfl, rfl, SqL.of (s1 _ _ ha), at_of (j := kk.toNat) (by omega) hw, k1 _ e1 _ _ s1 (it.same s1)⟩
      · have e2 : rcx ts (.at_ kk) = .inl (.at_ kk) := by
          rw [e1]
          by_cases hk0 : 0 ≤ kk
          · rw [if_pos hk0, List.getElem?_eq_none (by omega)]
          · rw [if_neg hk0]
        refine seqIf (b := true) (fun Q2 kq => ?_) fun H1 s1 => iteT ?_
        · by_cases hk0 : kk < 0
          · refine tb_or (b := true) (c := true) (fun Q3 kq3 => ⟨_, rfl, pf, _, _, _, rfl, rfl, SqT.of hp, at_of (j := 1) rfl rfl, _, _, rfl, rfl, _, rfl, ?_⟩) (fun _ _ e => by cases e) Q2 kq
            rw [decide_eq_true hk0]
            exact kq3 _ (Same.refl _)
          · refine tb_or (b := false) (c := true) (fun Q3 kq3 => ⟨_, rfl, pf, _, _, _, rfl, rfl, SqT.of hp, at_of (j := 1) rfl rfl, _, _, rfl, rfl, _, rfl, ?_⟩) (fun H1 s1 _ Q3 kq3 => ⟨_, rfl, pf, _, _, _, rfl, rfl, SqT.of (s1 _ _ hp), at_of (j := 1) rfl rfl, _, rfl, a, ws, rfl, .inl (SqL.of (s1 _ _ ha)), _, _, rfl, rfl, _, rfl, ?_⟩) Q2 kq
            · rw [decide_eq_false hk0]
              exact kq3 _ (Same.refl _)
            · rw [decide_eq_true (by omega)]
              exact kq3 _ (Same.refl _)
        · exact ⟨_, rfl, rd_raise1 T.X_NoWay.oex T.X_NoWay.no fun d H' s' nd hd => k0 _ e2 d _ H' (s1.trans s') (ir.same (s1.trans s')) hd⟩
    · refine iteN (show ¬ decide (("word" : Str) = "at") = true by decide +kernel) (nxt ?_)
      try dsimp only
      obtain ⟨p, e', hp⟩ := id ir
      cases e'
      refine ⟨_, rfl, rfl, _, rfl, ?_⟩
      rw [decS]
      refine iteP (show decide (("word" : Str) = "word") = true by decide +kernel) ?_
      exact ⟨_, rfl, k1 _ rfl _ _ (Same.refl _) ⟨pf, rfl, hp⟩⟩
    · refine iteN (by rw [decide_eq_false h1]; decide) (nxt ?_)
      try dsimp only
      refine ⟨_, rfl, rfl, _, rfl, ?_⟩
      rw [decS]
      refine iteN (by rw [decide_eq_false h2]; decide) (nxt ?_)
      try dsimp only
      obtain ⟨pf', us, e', hp, hus⟩ := ir.kids hk
      cases e'
      have hul := hus.len
      have hk12 : r.kids.length ≤ 2 ∧ 1 ≤ r.kids.length := by rcases har with ⟨_, e⟩ | ⟨_, e⟩ <;> omega
      refine seqAsg ⟨_, rfl, _, rfl, pf, _, rfl, SqT.of hp, ?_, fun p2 hp2 => ?_⟩
      · rintro ⟨z, _⟩
        rw [show (1 : Int) = ((1 : Nat) : Int) from rfl, HT.sIx_nat, List.length_cons] at z
        omega
      rw [cut1]
      have s2 := Rd.Same.upd (o := .tup us) hp2
      refine ⟨p2, rfl, ⟨_, SqT.of upd_same⟩, fun D hD => ?_⟩
      refine lctG (C := 0) (fun j => ∀ p, r.kids[j]? = some p → ∃ t, rcx ts p = .inr t) (fun i H v => ∀ q t, r.kids[i]? = some q → rcx ts q = .inr t → IsT H t v) (fun i H H' v kp h q t h1 h2 => (h q t h1 h2).mono kp) (SqT.of upd_same) (by omega) hD (fun i x H1 Q1 hx s3 hG kk => ?_) fun vs H3 s3 hD3 hlv hG hvs => ?_
      · have hil := (List.getElem?_eq_some_iff.mp hx).1
        have hq1 : r.kids[i]? = some (r.kids[i]'(by omega)) := List.getElem?_eq_getElem (by omega)
        obtain ⟨ok1, dp1⟩ := hq _ (List.mem_of_getElem? hq1)
        have s01 := s2.trans s3
        cases n with
        | zero => exact absurd dp (by omega)
        | succ n =>
          exact ⟨_, rfl, _, rfl, x, a, _, ws, ts, rfl, (hus.get i _ x hq1 hx).mono (C := 0) (Kp.of_same s01), ok1, (by omega), (by omega), s01 _ _ ha, hts.same s01, wt, hl, (fun t et u H' s' iu => kk u H' s' (fun p hp => by rw [hq1] at hp; cases hp; exact ⟨t, et⟩) fun q t' hq' et' => by
            rw [hq1] at hq'
            cases hq'
            rw [et] at et'
            cases et'
            exact iu), fun e ee d v H' s' iv hd => k0 e (rcx_stuck hq1 hG ee) d v H' (s01.trans s') iv hd⟩
      have S3 := s2.trans s3
      obtain ⟨os, hol, hov, hrc⟩ := rcx_all (ts := ts) hk fun j p hp => hG j (by have := (List.getElem?_eq_some_iff.mp hp).1; omega) p hp
      have hto : TsAt H3 os vs := TsAt.of (by omega) fun i v hv => by
        have hiv := (List.getElem?_eq_some_iff.mp hv).1
        have ho1 : os[i]? = some (os[i]'(by omega)) := List.getElem?_eq_getElem (by omega)
        have hq1 : r.kids[i]? = some (r.kids[i]'(by omega)) := List.getElem?_eq_getElem (by omega)
        exact ⟨_, ho1, hvs i v hv _ _ hq1 (hov i _ _ hq1 ho1)⟩
      have wos : ∀ t ∈ os, Wf t ∧ t.dep ≤ 400 := fun t ht => by
        obtain ⟨i, hi⟩ := List.mem_iff_getElem?.mp ht
        have hil := (List.getElem?_eq_some_iff.mp hi).1
        have hq1 : r.kids[i]? = some (r.kids[i]'(by omega)) := List.getElem?_eq_getElem (by omega)
        obtain ⟨ok1, dp1⟩ := hq _ (List.mem_of_getElem? hq1)
        obtain ⟨w1, w2⟩ := rcx_wf wt ok1 (hov i _ _ hq1 hi)
        exact ⟨w1, by omega⟩
      refine gName_k ?_
      try dsimp only
      refine seqAsg ⟨_, rfl, _, rfl, _, D, vs, os, rfl, hD3, hto, wos, ?_, fun u H4 s4 hu => ?_⟩
      · rcases har with ⟨e1, e2⟩ | ⟨e1, e2⟩
        · exact .inl ⟨e1, by omega⟩
        · exact .inr ⟨e1, by omega⟩
      · refine gName_k ?_
        try dsimp only
        have S4 := S3.trans s4
        rcases hu with ⟨e, rfl⟩ | ⟨t', e, iu⟩
        · rw [e] at hrc
          refine ⟨_, rfl, rfl, _, rfl, iteP (decide_eq_true rfl) ?_⟩
          exact ⟨_, rfl, rd_raise1 T.X_NoWay.oex T.X_NoWay.no fun d H' s' nd hd => k0 _ hrc d _ H' (S4.trans s') (ir.same (S4.trans s')) hd⟩
        · rw [e] at hrc
          obtain ⟨pu, zu, rfl, _⟩ := iu.hd
          refine ⟨_, rfl, rfl, _, rfl, iteN (by rw [decide_eq_false (fun z => by cases z)]; decide) (nxt ?_)⟩
          try dsimp only
          exact ⟨_, rfl, k1 _ hrc _ _ S4 iu⟩
theorem rg_none (T : Tx w K mg) : Fk P w K mg base (L2N.CX P w) 30 "run_recipe" ["recipe", "trees"] (spRG K 0) := by
  refine Fk.mono (j := 1) ?_ (by decide)
  refine T.F_run_recipe.ok sc_run_recipe (fun _ _ _ _ _ _ us hl => match us, hl with | [_, _], _ => rfl) (fun vs H Q E h => h.elim) (fun cdv A outer s H vs Q E hr h => h.elim)
theorem ok_run_recipeG (T : Tx w K mg) : ∀ n : Nat, Fk P w K mg base (L2N.CX P w) (n + 31) "run_recipe" ["recipe", "trees"] (sp_runG K n)
  | 0 => rg_step T 0 (rg_none T)
  | n + 1 => rg_step T (n + 1) (ok_run_recipeG T n)
end
end Rd
namespace Rd
open PySem L2
def RunV (ts : List Tr) (r : Rc) (H : Hp) (q : Addr) : Prop := (∃ t u, rcx ts r = .inr t ∧ H q = some (.tup [.str "made", u]) ∧ IsT H t u) ∨ (∃ e u, rcx ts r = .inl e ∧ H q = some (.tup [.str "stuck", u]) ∧ IsR H e u)
def sp_lrun (n : Nat) : Sp := fun vs H Q _ => ∃ (v : V) (a : Addr) (r : Rc) (ws : List V) (ts : List Tr), vs = [v, .ref a] ∧ IsR H r v ∧ RcOk r ∧ r.dp ≤ n ∧ n ≤ 110 ∧ H a = some (.lst ws) ∧ TsAt H ts ws ∧ (∀ t ∈ ts, Wf t ∧ t.dep ≤ 100) ∧ ts.length ≤ 100000 ∧ ∀ q H', Same H H' → RunV ts r H' q → Q (.ref q) H'
def spLRn : Nat → Sp
  | 0 => fun _ _ _ _ => False
  | n + 1 => sp_lrun n
section
variable {P : Program} {w : World} {K : PySem.W.Frag} {mg : Str → Option Value} {base : Heap}
abbrev s__law_run : Stmt := top 60
theorem sc__law_run : FnScope ["_law_recipe_here", "_law_forms_here", "_law_inner", "_law_part", "_law_found", "_law_made"] ["_law_recipe_here", "_law_forms_here"] (defScope s__law_run) := ⟨rfl, rfl, rfl, by decide +kernel, rfl, by decide +kernel, by decide +kernel⟩
theorem lr_step (T : Tx w K mg) (n : Nat) (ih : Fk P w K mg base CX0 (n + 30) "_law_run" ["_law_recipe_here", "_law_forms_here"] (spLRn n)) : Fk P w K mg base CX0 (n + 31) "_law_run" ["_law_recipe_here", "_law_forms_here"] (sp_lrun n) := by
  refine T.F__law_run.ok0 sc__law_run (fun _ _ _ _ _ _ us hl => match us, hl with | [_, _], _ => rfl)
    (fun vs H Q E h => ?_) (fun cdv A outer s H vs Q E hr h => ?_)
  · obtain ⟨v, a, r, ws, ts, rfl, _⟩ := h
    rfl
  · obtain ⟨v, a, r, ws, ts, rfl, ir, ok, dp, n110, ha, hts, wt, hl, k⟩ := h
    refine ⟨_, (pss_cons (ps_if (pt_cmpR op_eq (pe_ix ix_tup (pv 0) pe_int (fun _ _ => rfl)) pe_str (nomark _))
  (pss_cons (ps_if (pt_chain op_le op_lt pe_int (pe_ix ix_tup (pv 0) pe_int (fun _ _ => rfl)) (pe_callB call_len_seq (by rfl) T.z_len (by decide +kernel) (pa_cons (pv 1) pa_nil)))
  (pss_one (ps_ret (pe_tup (pa_cons pe_str (pa_cons (pe_ix ix_list (pv 1) (pe_ix ix_tup (pv 0) pe_int (fun _ _ => rfl)) (fun _ _ => rfl)) pa_nil)))))
  pss_nil)
  (pss_one (ps_ret (pe_tup (pa_cons pe_str (pa_cons (pv 0) pa_nil))))))
  pss_nil)
  (pss_cons (ps_if (pt_cmpR op_eq (pe_ix ix_tup (pv 0) pe_int (fun _ _ => rfl)) pe_str (nomark _))
  (pss_one (ps_ret (pe_tup (pa_cons pe_str (pa_cons (pv 0) pa_nil)))))
  pss_nil)
  (pss_cons (ps_set (i := 2) sc__law_run.nd rfl (Or.inl rfl) (pe_lst pa_nil))
  (pss_cons (ps_for PassesOwn.never rfl (pi_tup (pe_slice sl_tup (pv 0) (po_some pe_int) po_none)) (pg_name (i := 3) sc__law_run.nd rfl (Or.inl rfl))
  (pss_cons (ps_set (i := 4) sc__law_run.nd rfl (Or.inl rfl) (pe_fk ih (hr.mono (by omega)) rfl pass0 (pa_cons (pv 3) (pa_cons (pv 1) pa_nil))))
  (pss_cons (ps_if (pt_cmpR op_eq (pe_ix ix_tup (pv 4) pe_int (fun _ _ => rfl)) pe_str (nomark _))
  (pss_one (ps_ret (pv 4)))
  pss_nil)
  (pss_one (ps_expr (pe_bm PySem.F.plainAttrs_list PySem.F.slot_list_append PySem.F.type_list_append mt_append (pv 2) (pa_cons (pe_ix ix_tup (pv 4) pe_int (fun _ _ => rfl)) pa_nil)))))))
  (pss_cons (ps_set (i := 5) sc__law_run.nd rfl (Or.inl rfl) (pe_fk (ok__law_step T) (hr.mono (by omega)) rfl pass0 (pa_cons (pe_ix ix_tup (pv 0) pe_int (fun _ _ => rfl)) (pa_cons (pv 2) pa_nil))))
  (pss_one (ps_ret (pe_ifExp (pt_cmpR op_isN (pv 5) pe_non (nomark _)) (pe_tup (pa_cons pe_str (pa_cons (pv 0) pa_nil))) (pe_tup (pa_cons pe_str (pa_cons (pv 5) pa_nil))))))))))), ?_⟩
    have big : 16777216 ≤ sizeLine := by decide
    have hwl := hts.len
    obtain ⟨pf, zs, rfl, hpf⟩ := ir.hd
    refine ⟨_, rfl, pf, _, _, _, rfl, rfl, SqT.of hpf, at_of (j := 0) rfl rfl, rfl, _, rfl, ?_⟩
    rw [decS]
    rcases kids_cases ok with ⟨kk, rfl⟩ | ⟨x, rfl, hx⟩ | ⟨hk, h1, h2, hq, har⟩
    · refine iteP (show decide (("at" : Str) = "at") = true by decide +kernel) ?_
      obtain ⟨p, e', hp⟩ := id ir
      cases e'
      have e1 : rcx ts (.at_ kk) = (if 0 ≤ kk then (match ts[kk.toNat]? with | some t => Sum.inr t | none => .inl (Rc.at_ kk)) else .inl (Rc.at_ kk)) := rfl
      have stuck : rcx ts (.at_ kk) = .inl (.at_ kk) → ∀ q H1, H1 q = none → Same H H1 → ∀ H2, H2 = upd H1 q (.tup [.str "stuck", .ref pf]) → Q (.ref q) H2 := fun e2 q H1 nq s1 H2 eH => by
        subst eH
        have s2 := Rd.Same.upd (o := .tup [.str "stuck", .ref pf]) nq
        exact k q _ (s1.trans s2) (.inr ⟨_, _, e2, upd_same, ir.same (s1.trans s2)⟩)
      refine ⟨_, rfl, pf, _, _, _, rfl, rfl, SqT.of hp, at_of (j := 1) rfl rfl, _, _, rfl, rfl, _, rfl, ?_⟩
      by_cases hk0 : 0 ≤ kk
      · rw [decide_eq_true hk0, if_pos rfl]
        rw [if_pos hk0] at e1
        refine ⟨_, rfl, a, ws, rfl, .inl (SqL.of ha), _, _, rfl, rfl, _, rfl, ite2 (fun hlt => ?_) (fun hlt => ?_)⟩
        · have hlt : kk.toNat < ts.length := by
            have := of_decide_eq_true hlt
            omega
          have et : ts[kk.toNat]? = some (ts[kk.toNat]'hlt) := List.getElem?_eq_getElem hlt
          rw [et] at e1
          have hw : ws[kk.toNat]? = some (ws[kk.toNat]'(by omega)) := List.getElem?_eq_getElem (by omega)
          have it := hts.get _ _ _ et hw
          refine ⟨_, rfl, _, rfl, pf, _, _, _, rfl, rfl, SqT.of hp, at_of (j := 1) rfl rfl, a, _, _, _, rfl, rfl, SqL.of ha, at_of (j := kk.toNat) (by omega) hw, (by show 2 ≤ sizeLine; decide), fun q1 hq1 => ?_⟩
          have s1 := Rd.Same.upd (o := .tup [.str "made", ws[kk.toNat]'(by omega)]) hq1
          exact k q1 _ s1 (.inl ⟨_, _, e1, upd_same, it.same s1⟩)
        · have hlt : ¬ kk < (ws.length : Int) := fun h => hlt (decide_eq_true h)
          rw [List.getElem?_eq_none (by omega)] at e1
          exact nxt ⟨_, rfl, (by show 2 ≤ sizeLine; decide), fun q1 hq1 => stuck e1 q1 _ hq1 (Same.refl _) _ rfl⟩
      · rw [decide_eq_false hk0, if_neg Bool.false_ne_true]
        rw [if_neg hk0] at e1
        exact ⟨_, rfl, iteF (nxt ⟨_, rfl, (by show 2 ≤ sizeLine; decide), fun q1 hq1 => stuck e1 q1 _ hq1 (Same.refl _) _ rfl⟩)⟩
    · refine iteN (show ¬ decide (("word" : Str) = "at") = true by decide +kernel) (nxt ?_)
      try dsimp only
      obtain ⟨p, e', hp⟩ := id ir
      cases e'
      refine ⟨_, rfl, pf, _, _, _, rfl, rfl, SqT.of hp, at_of (j := 0) rfl rfl, rfl, _, rfl, ?_⟩
      rw [decS]
      refine iteP (show decide (("word" : Str) = "word") = true by decide +kernel) ?_
      refine ⟨_, rfl, (by show 2 ≤ sizeLine; decide), fun q1 hq1 => ?_⟩
      have s1 := Rd.Same.upd (o := .tup [.str "made", .ref pf]) hq1
      exact k q1 _ s1 (.inl ⟨_, _, rfl, upd_same, pf, rfl, s1 _ _ hp⟩)
    · refine iteN (by rw [decide_eq_false h1]; decide) (nxt ?_)
      try dsimp only
      refine ⟨_, rfl, pf, _, _, _, rfl, rfl, SqT.of hpf, at_of (j := 0) rfl rfl, rfl, _, rfl, ?_⟩
      rw [decS]
      refine iteN (by rw [decide_eq_false h2]; decide) (nxt ?_)
      try dsimp only
      obtain ⟨pf', us, e', hp, hus⟩ := ir.kids hk
      cases e'
      have hul := hus.len
      have hk12 : r.kids.length ≤ 2 ∧ 1 ≤ r.kids.length := by rcases har with ⟨_, e⟩ | ⟨_, e⟩ <;> omega
      refine ⟨Nat.zero_le _, fun p np => ?_⟩
      refine gName_k ?_
      try dsimp only
      have s1 := Rd.Same.upd (o := .lst []) np
      refine ⟨_, rfl, _, rfl, pf, _, rfl, SqT.of (s1 _ _ hp), ?_, fun p2 hp2 => ?_⟩
      · rintro ⟨z, _⟩
        rw [show (1 : Int) = ((1 : Nat) : Int) from rfl, HT.sIx_nat, List.length_cons] at z
        omega
      rw [cut1]
      have s2 := Rd.Same.upd (o := .tup us) hp2
      refine ⟨p2, rfl, ⟨_, SqT.of upd_same⟩, ?_⟩
      refine for_tup (xs := us) (fun i σ H' => (Same H H' ∧ H' p2 = some (.tup us) ∧ ∃ zs os, H' p = some (.lst zs) ∧ TsAt H' os zs ∧ os.length = i ∧ ∀ (j : Nat) q u, r.kids[j]? = some q → os[j]? = some u → rcx ts q = .inr u) ∧ ∃ t3 t4, σ = [some (.ref pf), some (.ref a), some (.ref p), t3, t4, none]) ⟨⟨s1.trans s2, upd_same, [], [], s2 _ _ upd_same, ⟨rfl, fun i t v h => by simp at h⟩, rfl, fun j q u _ h => by simp at h⟩, _, _, rfl⟩ ?_ ?_ ?_
      · rintro i σ H' hi ⟨⟨_, h, _⟩, _⟩
        exact SqT.of h
      · rintro i x σ H1 hx ⟨⟨sm, htu, zs, os, hzs, hts1, hol, hov⟩, t3, t4, rfl⟩
        refine gName_k ?_
        try dsimp only
        have hil := (List.getElem?_eq_some_iff.mp hx).1
        have hq1 : r.kids[i]? = some (r.kids[i]'(by omega)) := List.getElem?_eq_getElem (by omega)
        obtain ⟨ok1, dp1⟩ := hq _ (List.mem_of_getElem? hq1)
        have hzl := hts1.len
        have hG : ∀ j, j < i → ∀ p, r.kids[j]? = some p → ∃ t, rcx ts p = .inr t := fun j hj p hp => ⟨_, hov j p _ hp (List.getElem?_eq_getElem (by omega))⟩
        cases n with
        | zero => exact absurd dp (by omega)
        | succ n =>
          refine ⟨_, rfl, _, rfl, x, a, _, ws, ts, rfl, (hus.get i _ x hq1 hx).mono (C := 0) (Kp.of_same sm), ok1, (by omega), (by omega), sm _ _ ha, hts.same sm, wt, hl, fun q H2 sm2 hrv => ?_⟩
          refine gName_k ?_
          try dsimp only
          rcases hrv with ⟨t, u, et, hqq, iu⟩ | ⟨e, u, ee, hqq, ie⟩
          · refine ⟨_, rfl, q, _, _, _, rfl, rfl, SqT.of hqq, at_of (j := 0) rfl rfl, rfl, _, rfl, ?_⟩
            rw [decS]
            refine iteN (by decide +kernel) (nxt ?_)
            try dsimp only
            refine ⟨_, rfl, .inl ⟨rfl, _, SqL.of (sm2 _ _ hzs)⟩, _, rfl, q, _, _, _, rfl, rfl, SqT.of hqq, at_of (j := 1) rfl rfl, p, zs, _, rfl, rfl, sm2 _ _ hzs, (by omega), ?_⟩
            have kp := Kp.upd_lst (C := 0) (ys := zs ++ [u]) (sm2 _ _ hzs)
            refine ⟨⟨fun c o e => ?_, ?_, zs ++ [u], os ++ [t], upd_same, ?_, by rw [List.length_append, hol]; rfl, fun j q' u' h1 h2 => ?_⟩, _, _, rfl⟩
            · rw [upd_ne (ne_of_none e np)]
              exact sm2 _ _ (sm _ _ e)
            · rw [upd_ne (fun z => by rw [z, hzs] at htu; cases htu)]
              exact sm2 _ _ htu
            · exact ((hts1.same sm2).mono kp).app (TsAt.one (iu.mono kp))
            · by_cases hj : j < os.length
              · rw [List.getElem?_append_left hj] at h2
                exact hov j q' u' h1 h2
              · rw [List.getElem?_append_right (by omega)] at h2
                have ej : j = i := by
                  have := (List.getElem?_eq_some_iff.mp h2).1
                  simp at this
                  omega
                subst ej
                rw [hol, Nat.sub_self] at h2
                cases h2
                rw [hq1] at h1
                cases h1
                exact et
          · refine ⟨_, rfl, q, _, _, _, rfl, rfl, SqT.of hqq, at_of (j := 0) rfl rfl, rfl, _, rfl, ?_⟩
            rw [decS]
            refine iteP (by decide +kernel) ?_
            exact ⟨_, rfl, k q _ (sm.trans sm2) (.inr ⟨e, u, rcx_stuck hq1 hG ee, hqq, ie⟩)⟩
      · rintro σ H1 ⟨⟨sm, htu, zs, os, hzs, hts1, hol, hov⟩, t3, t4, rfl⟩
        have hzl := hts1.len
        obtain ⟨os', hol', hov', hrc⟩ := rcx_all (ts := ts) hk fun j p hp => by
          have := (List.getElem?_eq_some_iff.mp hp).1
          exact ⟨_, hov j p _ hp (List.getElem?_eq_getElem (by omega))⟩
        obtain rfl : os' = os := by
          refine List.ext_getElem? fun j => ?_
          by_cases hj : j < us.length
          · have a1 : os'[j]? = some (os'[j]'(by omega)) := List.getElem?_eq_getElem (by omega)
            have a2 : os[j]? = some (os[j]'(by omega)) := List.getElem?_eq_getElem (by omega)
            have a3 : r.kids[j]? = some (r.kids[j]'(by omega)) := List.getElem?_eq_getElem (by omega)
            have b1 := hov' j _ _ a3 a1
            have b2 := hov j _ _ a3 a2
            rw [b1] at b2
            rw [a1, a2, Sum.inr.inj b2]
          · rw [List.getElem?_eq_none (by omega), List.getElem?_eq_none (by omega)]
        have wos : ∀ t ∈ os', Wf t ∧ t.dep ≤ 400 := fun t ht => by
          obtain ⟨i, hi⟩ := List.mem_iff_getElem?.mp ht
          have hil := (List.getElem?_eq_some_iff.mp hi).1
          have hq1 : r.kids[i]? = some (r.kids[i]'(by omega)) := List.getElem?_eq_getElem (by omega)
          obtain ⟨ok1, dp1⟩ := hq _ (List.mem_of_getElem? hq1)
          obtain ⟨w1, w2⟩ := rcx_wf wt ok1 (hov i _ _ hq1 hi)
          exact ⟨w1, by omega⟩
        refine ⟨_, rfl, pf, _, _, _, rfl, rfl, SqT.of (sm _ _ hp), at_of (j := 0) rfl rfl, _, rfl, _, p, zs, os', rfl, hzs, hts1, wos, ?_, fun u H4 s4 hu => ?_⟩
        · rcases har with ⟨e1, e2⟩ | ⟨e1, e2⟩
          · exact .inl ⟨e1, by omega⟩
          · exact .inr ⟨e1, by omega⟩
        · refine gName_k ?_
          try dsimp only
          have S4 := sm.trans s4
          rcases hu with ⟨e, rfl⟩ | ⟨t', e, iu⟩
          · rw [e] at hrc
            refine ⟨_, rfl, rfl, _, rfl, iteP (decide_eq_true rfl) ?_⟩
            refine ⟨_, rfl, (by show 2 ≤ sizeLine; decide), fun q1 hq1 => ?_⟩
            have s5 := Rd.Same.upd (o := .tup [.str "stuck", .ref pf]) hq1
            exact k q1 _ (S4.trans s5) (.inr ⟨_, _, hrc, upd_same, ir.same (S4.trans s5)⟩)
          · rw [e] at hrc
            obtain ⟨pu, zu, rfl, _⟩ := iu.hd
            refine ⟨_, rfl, rfl, _, rfl, iteN (by rw [decide_eq_false (fun z => by cases z)]; decide) ?_⟩
            refine ⟨_, rfl, (by show 2 ≤ sizeLine; decide), fun q1 hq1 => ?_⟩
            have s5 := Rd.Same.upd (o := .tup [.str "made", .ref pu]) hq1
            exact k q1 _ (S4.trans s5) (.inl ⟨_, _, hrc, upd_same, iu.same s5⟩)
theorem lr_none (T : Tx w K mg) : Fk P w K mg base CX0 30 "_law_run" ["_law_recipe_here", "_law_forms_here"] (spLRn 0) := by
  refine Fk.mono (j := 1) ?_ (by decide)
  refine T.F__law_run.ok0 sc__law_run (fun _ _ _ _ _ _ us hl => match us, hl with | [_, _], _ => rfl) (fun vs H Q E h => h.elim) (fun cdv A outer s H vs Q E hr h => h.elim)
theorem ok__law_run (T : Tx w K mg) : ∀ n : Nat, Fk P w K mg base CX0 (n + 31) "_law_run" ["_law_recipe_here", "_law_forms_here"] (sp_lrun n)
  | 0 => lr_step T 0 (lr_none T)
  | n + 1 => lr_step T (n + 1) (ok__law_run T n)
end
end Rd
namespace Rd
open PySem L2
def Nod5 : Nat → Int → Prop
  | 0, n => 15 ≤ n ∧ n ≤ 30
  | 1, n => 7 ≤ n ∧ n ≤ 14
  | 2, n => 3 ≤ n ∧ n ≤ 6
  | 3, n => 1 ≤ n ∧ n ≤ 2
  | _, n => n = 0
theorem Nod5.le {d : Nat} {n : Int} (h : Nod5 d n) : 0 ≤ n ∧ n ≤ 30 := by
  match d, h with
  | 0, h => exact ⟨by have := h.1; omega, h.2⟩
  | 1, h => exact ⟨by have := h.1; omega, by have := h.2; omega⟩
  | 2, h => exact ⟨by have := h.1; omega, by have := h.2; omega⟩
  | 3, h => exact ⟨by have := h.1; omega, by have := h.2; omega⟩
  | d + 4, h => have h : n = 0 := h; exact ⟨by omega, by omega⟩
theorem Nod5.kids {d : Nat} {n : Int} (hd : d + 1 ≤ 4) (h : Nod5 (d + 1) n) : Nod5 d (2 * n + 1) ∧ Nod5 d (2 * n + 2) ∧ n ≤ 14 := by
  match d, hd, h with
  | 0, _, h => obtain ⟨h1, h2⟩ := h; exact ⟨⟨by omega, by omega⟩, ⟨by omega, by omega⟩, h2⟩
  | 1, _, h => obtain ⟨h1, h2⟩ := h; exact ⟨⟨by omega, by omega⟩, ⟨by omega, by omega⟩, by omega⟩
  | 2, _, h => obtain ⟨h1, h2⟩ := h; exact ⟨⟨by omega, by omega⟩, ⟨by omega, by omega⟩, by omega⟩
  | 3, _, h => have h : n = 0 := h; subst h; exact ⟨⟨by decide, by decide⟩, ⟨by decide, by decide⟩, by decide⟩
def KIN : List Str := ["first", "second", "first", "second", "mark", "open", "pair", "seal", "lock", "unseal", "unlock"]
theorem kin_at : ∀ j : Nat, j < 11 → ∃ kd, KIN[j]? = some kd ∧ (j < 6 → kd ∈ UNL) ∧ (¬ j < 6 → kd ∈ BIL)
  | 0, _ => ⟨_, rfl, fun _ => by decide +kernel, fun h => absurd (by decide) h⟩
  | 1, _ => ⟨_, rfl, fun _ => by decide +kernel, fun h => absurd (by decide) h⟩
  | 2, _ => ⟨_, rfl, fun _ => by decide +kernel, fun h => absurd (by decide) h⟩
  | 3, _ => ⟨_, rfl, fun _ => by decide +kernel, fun h => absurd (by decide) h⟩
  | 4, _ => ⟨_, rfl, fun _ => by decide +kernel, fun h => absurd (by decide) h⟩
  | 5, _ => ⟨_, rfl, fun _ => by decide +kernel, fun h => absurd (by decide) h⟩
  | 6, _ => ⟨_, rfl, fun h => absurd h (by decide), fun _ => by decide +kernel⟩
  | 7, _ => ⟨_, rfl, fun h => absurd h (by decide), fun _ => by decide +kernel⟩
  | 8, _ => ⟨_, rfl, fun h => absurd h (by decide), fun _ => by decide +kernel⟩
  | 9, _ => ⟨_, rfl, fun h => absurd h (by decide), fun _ => by decide +kernel⟩
  | 10, _ => ⟨_, rfl, fun h => absurd h (by decide), fun _ => by decide +kernel⟩
  | j + 11, h => absurd h (by omega)
def sp_rec (d : Nat) : Sp := fun vs H Q _ => ∃ (r : Addr) (at_ node : Int) (m : Nat) (ds : List Int), vs = [.ref r, .int at_, .int node, .int (m : Int)] ∧ H r = some (.lst (ds.map V.int)) ∧ (∀ d ∈ ds, 0 ≤ d ∧ d < 1000) ∧ 0 ≤ at_ ∧ Nod5 d node ∧ at_ + 30 < ds.length ∧ m ≤ 1000 ∧ d ≤ 4 ∧
  ∀ rc v H', Same H H' → RcOk rc → rc.dp ≤ d → IsR H' rc v → Q v H'
def spRecR : Nat → Sp
  | 0 => fun _ _ _ _ => False
  | d + 1 => sp_rec d
section
variable {P : Program} {w : World} {K : PySem.W.Frag} {mg : Str → Option Value} {base : Heap}
abbrev s__law_recipe : Stmt := top 62
theorem sc__law_recipe : FnScope ["_law_row_here", "_law_at", "_law_node", "_law_many", "_law_draw", "_law_way_here", "_law_one", "_law_kinds", "_law_kind"] ["_law_row_here", "_law_at", "_law_node", "_law_many"] (defScope s__law_recipe) := ⟨rfl, rfl, rfl, by decide +kernel, rfl, by decide +kernel, by decide +kernel⟩
theorem re_step (T : Tx w K mg) (d : Nat) (ih : Fk P w K mg base CX0 (d + 1) "_law_recipe" ["_law_row_here", "_law_at", "_law_node", "_law_many"] (spRecR d)) : Fk P w K mg base CX0 (d + 2) "_law_recipe" ["_law_row_here", "_law_at", "_law_node", "_law_many"] (sp_rec d) := by
  refine T.F__law_recipe.ok0 sc__law_recipe (fun _ _ _ _ _ _ us hl => match us, hl with | [_, _, _, _], _ => rfl)
    (fun vs H Q E h => ?_) (fun cdv A outer s H vs Q E hr h => ?_)
  · obtain ⟨r, at_, node, m, ds, rfl, _⟩ := h
    rfl
  · obtain ⟨r, at_, node, m, ds, rfl, hr0, hds, hat, hno, hlen, hm, hd4, k⟩ := h
    refine ⟨_, (pss_cons (ps_set (i := 4) sc__law_recipe.nd rfl (Or.inl rfl) (pe_callTy call_int1 (by rfl) T.z_int (by decide +kernel) (pa_cons (pe_ix ix_list (pv 0) (pe_op op_add (pv 1) (pv 2)) (fun _ _ => rfl)) pa_nil)))
  (pss_cons (ps_set (i := 5) sc__law_recipe.nd rfl (Or.inl rfl) (pe_op op_mod (pv 4) pe_int))
  (pss_cons (ps_if (PW.pt (pw_or (pt_cmpR op_gt (pv 2) pe_int (nomark _)) (pw_or1 (pt_cmpR op_lt (pv 5) pe_int (nomark _)))))
  (pss_cons (ps_if (pt_cmpR op_eq (pe_op op_mod (pe_op op_fdiv (pv 4) pe_int) pe_int) pe_int (nomark _))
  (pss_one (ps_ret (pe_tup (pa_cons pe_str (pa_cons (pe_ix ix_list (pe_lst (pa_cons pe_str (pa_cons pe_str (pa_cons pe_str (pa_cons pe_str pa_nil))))) (pe_op op_mod (pe_op op_fdiv (pv 4) pe_int) pe_int) (fun _ _ => rfl)) pa_nil)))))
  pss_nil)
  (pss_one (ps_ret (pe_tup (pa_cons pe_str (pa_cons (pe_op op_sub (pe_op op_mod (pe_op op_fdiv (pv 4) pe_int) (pe_op op_add (pv 3) pe_int)) (pe_callTy call_int1 (by rfl) T.z_int (by decide +kernel) (pa_cons (pe_cmpR op_eq (pe_op op_mod (pe_op op_fdiv (pv 4) pe_int) pe_int) pe_int (nomark _)) pa_nil))) pa_nil))))))
  pss_nil)
  (pss_cons (ps_set (i := 6) sc__law_recipe.nd rfl (Or.inl rfl) (pe_fk ih (hr.mono (by omega)) rfl pass0 (pa_cons (pv 0) (pa_cons (pv 1) (pa_cons (pe_op op_add (pe_op op_mul pe_int (pv 2)) pe_int) (pa_cons (pv 3) pa_nil))))))
  (pss_cons (ps_set (i := 7) sc__law_recipe.nd rfl (Or.inl rfl) (pe_lst (pa_cons pe_str (pa_cons pe_str (pa_cons pe_str (pa_cons pe_str (pa_cons pe_str (pa_cons pe_str (pa_cons pe_str (pa_cons pe_str (pa_cons pe_str (pa_cons pe_str (pa_cons pe_str pa_nil)))))))))))))
  (pss_cons (ps_set (i := 8) sc__law_recipe.nd rfl (Or.inl rfl) (pe_ix ix_list (pv 7) (pe_op op_sub (pv 5) pe_int) (fun _ _ => rfl)))
  (pss_cons (ps_if (pt_cmpR op_lt (pv 5) pe_int (nomark _))
  (pss_one (ps_ret (pe_tup (pa_cons (pv 8) (pa_cons (pv 6) pa_nil)))))
  pss_nil)
  (pss_one (ps_ret (pe_tup (pa_cons (pv 8) (pa_cons (pv 6) (pa_cons (pe_fk ih (hr.mono (by omega)) rfl pass0 (pa_cons (pv 0) (pa_cons (pv 1) (pa_cons (pe_op op_add (pe_op op_mul pe_int (pv 2)) pe_int) (pa_cons (pv 3) pa_nil))))) pa_nil))))))))))))), ?_⟩
    obtain ⟨n0, n30⟩ := hno.le
    have hj : (at_ + node).toNat < ds.length := by omega
    obtain ⟨e0, e1⟩ := hds ds[(at_ + node).toNat] (List.getElem_mem hj)
    have ea : atI (ds.map V.int) (at_ + node) = some (V.int (ds[(at_ + node).toNat]'hj)) := at_of (j := (at_ + node).toNat) (by omega) (by rw [List.getElem?_map, List.getElem?_eq_getElem hj]; rfl)
    generalize ds[(at_ + node).toNat]'hj = dv at e0 e1 ea
    refine seqAsg ⟨_, rfl, _, rfl, _, rfl, _, _, rfl, rfl, r, _, _, _, rfl, rfl, SqL.of hr0, ea, .inl ⟨_, rfl, ?_⟩⟩
    refine gName_k ?_
    try dsimp only
    refine seqAsg ⟨_, rfl, _, _, rfl, rfl, (by show (0 : Int) < 16; decide), ?_⟩
    refine gName_k ?_
    try dsimp only
    have w0 : 0 ≤ dv % 16 := Int.emod_nonneg _ (by decide)
    have w1 : dv % 16 < 16 := Int.emod_lt_of_pos _ (by decide)
    refine seqIf (tb_or (fun R r => ⟨_, rfl, _, _, rfl, rfl, _, rfl, r _ (Same.refl _)⟩) fun H' s' _ R r => ⟨_, rfl, _, _, rfl, rfl, _, rfl, r _ (Same.refl _)⟩) fun H1 s1 => ite2 (fun _ => ?_) (fun hno1 => nxt ?_)
    · refine ⟨_, rfl, _, _, rfl, rfl, ⟨by decide, by decide⟩, _, _, rfl, rfl, (by show (0 : Int) < 5; decide), rfl, _, rfl, ite2 (fun _ => ?_) (fun _ => nxt ?_)⟩
      · refine ⟨(by show 4 ≤ sizeLine; decide), fun qo hqo => ?_⟩
        have so := Rd.Same.upd (o := .lst [.str "a", .str "k", .str "yes", .str "open"]) hqo
        obtain ⟨j2, z2, hj2, ez2⟩ := atI_of (us := [.str "a", .str "k", .str "yes", .str "open"]) (m := 4) (d := dv / 80 % 4) (Int.emod_nonneg _ (by decide)) (Int.emod_lt_of_pos _ (by decide)) rfl
        obtain ⟨x, rfl, hx⟩ : ∃ x : Str, z2 = .str x ∧ isWord x = true := by
          match j2, hj2 with
          | 0, h => cases h; exact ⟨_, rfl, by decide +kernel⟩
          | 1, h => cases h; exact ⟨_, rfl, by decide +kernel⟩
          | 2, h => cases h; exact ⟨_, rfl, by decide +kernel⟩
          | 3, h => cases h; exact ⟨_, rfl, by decide +kernel⟩
          | j + 4, h => cases h
        refine ⟨_, rfl, _, _, rfl, rfl, ⟨by decide, by decide⟩, _, _, rfl, rfl, (by show (0 : Int) < 4; decide), qo, _, _, _, rfl, rfl, SqL.of upd_same, ez2, (by show 2 ≤ sizeLine; decide), fun q hq => ?_⟩
        have sq := Rd.Same.upd (o := .tup [.str "word", .str x]) hq
        exact k (.wd x) _ _ ((s1.trans so).trans sq) hx (Nat.zero_le _) ⟨q, rfl, upd_same⟩
      · try dsimp only
        refine ⟨_, rfl, _, _, rfl, rfl, ⟨by decide, by decide⟩, _, rfl, _, _, rfl, rfl, _, _, rfl, rfl, (by show (0 : Int) < (m : Int) + 1; omega), _, rfl, _, _, rfl, rfl, ⟨by decide, by decide⟩, _, _, rfl, rfl, (by show (0 : Int) < 23; decide), rfl, .inr ⟨_, rfl, _, _, rfl, rfl, (by show 2 ≤ sizeLine; decide), fun q hq => ?_⟩⟩
        exact k (.at_ _) _ _ (s1.trans (Rd.Same.upd hq)) trivial (Nat.zero_le _) ⟨q, rfl, upd_same⟩
    try dsimp only
    have hno2 : ¬ (14 < node) ∧ ¬ (dv % 16 < 5) := by
      rw [Bool.or_eq_true, decide_eq_true_eq, decide_eq_true_eq] at hno1
      exact ⟨fun e => hno1 (.inl e), fun e => hno1 (.inr e)⟩
    cases d with
    | zero => exact absurd hno.1 (by omega)
    | succ d =>
      obtain ⟨k1, k2, _⟩ := Nod5.kids hd4 hno
      have call : ∀ {n' : Int} {H1 : Hp} {Q1 : VK}, Nod5 d n' → Same H H1 → (∀ rc v H', Same H1 H' → RcOk rc → rc.dp ≤ d → IsR H' rc v → Q1 v H') → sp_rec d [.ref r, .int at_, .int n', .int (m : Int)] H1 Q1 E0 := fun {n' H1 Q1} hn s1 kk => ⟨r, at_, n', m, ds, rfl, s1 _ _ hr0, hds, hat, hn, hlen, hm, by omega, kk⟩
      refine seqAsg ⟨_, rfl, _, rfl, _, rfl, _, _, rfl, rfl, .inl ⟨by decide, by decide⟩, _, _, rfl, rfl, _, rfl, call k1 s1 fun r1 v1 H2 s2 ok1 dp1 i1 => ?_⟩
      refine gName_k ?_
      try dsimp only
      have S2 := s1.trans s2
      refine seqAsg ⟨(by show 11 ≤ sizeLine; decide), fun qk hqk => ?_⟩
      have s3 := Rd.Same.upd (o := .lst (KIN.map V.str)) hqk
      have h31 : upd H2 qk (.lst (KIN.map V.str)) qk = some (.lst (KIN.map V.str)) := upd_same
      refine gName_k ?_
      try dsimp only
      have eK : upd H2 qk (.lst [.str "first", .str "second", .str "first", .str "second", .str "mark", .str "open", .str "pair", .str "seal", .str "lock", .str "unseal", .str "unlock"]) = upd H2 qk (.lst (KIN.map V.str)) := rfl
      rw [eK]
      generalize upd H2 qk (.lst (KIN.map V.str)) = H3 at s3 h31 ⊢
      have S3 := S2.trans s3
      obtain ⟨kd, hkd, hu, hb⟩ := kin_at (dv % 16 - 5).toNat (by omega)
      have ek : atI (KIN.map V.str) (dv % 16 - 5) = some (V.str kd) := at_of (j := (dv % 16 - 5).toNat) (by omega) (by rw [List.getElem?_map, hkd]; rfl)
      refine seqAsg ⟨_, rfl, _, rfl, _, _, rfl, rfl, qk, _, _, _, rfl, rfl, SqL.of h31, ek, ?_⟩
      refine gName_k ?_
      try dsimp only
      refine ⟨_, rfl, _, _, rfl, rfl, _, rfl, ite2 (fun h => ?_) (fun h => nxt ?_)⟩
      · have h := of_decide_eq_true h
        refine ⟨_, rfl, _, rfl, (by show 2 ≤ sizeLine; decide), fun q hq => ?_⟩
        have sq := Rd.Same.upd (o := .tup [.str kd, v1]) hq
        exact k (.un kd r1) _ _ (S3.trans sq) ⟨hu (by omega), ok1⟩ (by show r1.dp + 1 ≤ d + 1; omega) ⟨q, v1, rfl, upd_same, i1.same (s3.trans sq)⟩
      · try dsimp only
        have h : ¬ (dv % 16 < 11) := by simpa using h
        refine ⟨_, rfl, _, rfl, _, rfl, _, rfl, _, rfl, _, _, rfl, rfl, .inl ⟨by decide, by decide⟩, _, _, rfl, rfl, _, rfl, call k2 S3 fun r2 v2 H4 s4 ok2 dp2 i2 => ⟨(by show 3 ≤ sizeLine; decide), fun q hq => ?_⟩⟩
        have sq := Rd.Same.upd (o := .tup [.str kd, v1, v2]) hq
        exact k (.bi kd r1 r2) _ _ ((S3.trans s4).trans sq) ⟨hb (by omega), ok1, ok2⟩ (by show max r1.dp r2.dp + 1 ≤ d + 1; omega) ⟨q, v1, v2, rfl, upd_same, i1.same ((s3.trans s4).trans sq), i2.same sq⟩
theorem re_none (T : Tx w K mg) : Fk P w K mg base CX0 1 "_law_recipe" ["_law_row_here", "_law_at", "_law_node", "_law_many"] (spRecR 0) := by
  refine T.F__law_recipe.ok0 sc__law_recipe (fun _ _ _ _ _ _ us hl => match us, hl with | [_, _, _, _], _ => rfl) (fun vs H Q E h => h.elim) (fun cdv A outer s H vs Q E hr h => h.elim)
theorem ok__law_recipe (T : Tx w K mg) : ∀ d : Nat, Fk P w K mg base CX0 (d + 2) "_law_recipe" ["_law_row_here", "_law_at", "_law_node", "_law_many"] (sp_rec d)
  | 0 => re_step T 0 (re_none T)
  | d + 1 => re_step T (d + 1) (ok__law_recipe T d)
end
end Rd
namespace Rd
open PySem L2
def sp_isRec (n : Nat) : Sp := fun vs H Q _ => ∃ (v : V) (r : Rc), vs = [v] ∧ IsR H r v ∧ RcOk r ∧ r.dp ≤ n ∧ ∀ H', Same H H' → Q (.bl true) H'
def spIRec : Nat → Sp
  | 0 => fun _ _ _ _ => False
  | n + 1 => sp_isRec n
theorem isi_tup {K : PySem.W.Frag} : PySem.W.kitOne K (.type "tuple") (.type "tuple") = some true := isi_base (by decide +kernel)
theorem isi_str {K : PySem.W.Frag} : PySem.W.kitOne K (.type "str") (.type "str") = some true := isi_base (by decide +kernel)
theorem isi_int {K : PySem.W.Frag} : PySem.W.kitOne K (.type "int") (.type "int") = some true := isi_base (by decide +kernel)
theorem isi_intb {K : PySem.W.Frag} : PySem.W.kitOne K (.type "int") (.type "bool") = some false := isi_base (by decide +kernel)
def LNG : List (Str × Int) := [("first", 2), ("second", 2), ("mark", 2), ("open", 2), ("unseal", 3), ("unlock", 3), ("pair", 3), ("seal", 3), ("lock", 3)]
theorem lng_un {s : Str} (h : s ∈ UNL) : (s, 2) ∈ LNG := by
  rcases unl_cases h with rfl | rfl | rfl | rfl <;> simp [LNG]
theorem lng_bi {s : Str} (h : s ∈ BIL) : (s, 3) ∈ LNG := by
  rcases bil_cases h with rfl | rfl | rfl | rfl | rfl <;> simp [LNG]
section
variable {P : Program} {w : World} {K : PySem.W.Frag} {mg : Str → Option Value} {base : Heap}
abbrev s_is_recipe : Stmt := top 39
theorem sc_is_recipe : FnScope ["thing", "part"] ["thing"] (defScope s_is_recipe) := ⟨rfl, rfl, rfl, by decide +kernel, rfl, by decide +kernel, by decide +kernel⟩
theorem ir_step (T : Tx w K mg) (n : Nat) (ih : Fk P w K mg base CX0 (n + 2) "is_recipe" ["thing"] (spIRec n)) : Fk P w K mg base CX0 (n + 3) "is_recipe" ["thing"] (sp_isRec n) := by
  refine T.F_is_recipe.ok0 sc_is_recipe (fun _ _ _ _ _ _ us hl => match us, hl with | [_], _ => rfl)
    (fun vs H Q E h => ?_) (fun cdv A outer s H vs Q E hr h => ?_)
  · obtain ⟨v, r, rfl, _⟩ := h
    rfl
  · obtain ⟨v, r, rfl, ir, ok, dp, k⟩ := h
    refine ⟨_, (pss_cons (ps_if (PW.pt (pw_or (pt_not (pt_val (pe_callB call_isi (by rfl) T.z_isinstance (by decide +kernel) (pa_cons (pv 0) (pa_cons (pe_bltn (v := .ty "tuple") (u := .type "tuple") rfl T.z_tuple (by decide +kernel) rfl) pa_nil))))) (pw_or (pt_cmpR op_eq (pe_callB call_len_seq (by rfl) T.z_len (by decide +kernel) (pa_cons (pv 0) pa_nil)) pe_int (nomark _)) (pw_or1 (pt_not (pt_val (pe_callB call_isi (by rfl) T.z_isinstance (by decide +kernel) (pa_cons (pe_ix ix_tup (pv 0) pe_int (fun _ _ => rfl)) (pa_cons (pe_bltn (v := .ty "str") (u := .type "str") rfl T.z_str (by decide +kernel) rfl) pa_nil)))))))))
  (pss_one (ps_ret pe_bl))
  pss_nil)
  (pss_cons (ps_if (pt_cmpR op_eq (pe_ix ix_tup (pv 0) pe_int (fun _ _ => rfl)) pe_str (nomark _))
  (pss_one (ps_ret (pe_and (pe_cmpR op_eq (pe_callB call_len_seq (by rfl) T.z_len (by decide +kernel) (pa_cons (pv 0) pa_nil)) pe_int (nomark _)) (pe_and (pe_callB call_isi (by rfl) T.z_isinstance (by decide +kernel) (pa_cons (pe_ix ix_tup (pv 0) pe_int (fun _ _ => rfl)) (pa_cons (pe_bltn (v := .ty "int") (u := .type "int") rfl T.z_int (by decide +kernel) rfl) pa_nil))) (pe_one (pe_not (pe_callB call_isi (by rfl) T.z_isinstance (by decide +kernel) (pa_cons (pe_ix ix_tup (pv 0) pe_int (fun _ _ => rfl)) (pa_cons (pe_bltn (v := .ty "bool") (u := .type "bool") rfl T.z_bool (by decide +kernel) rfl) pa_nil)))))))))
  pss_nil)
  (pss_cons (ps_if (pt_cmpR op_eq (pe_ix ix_tup (pv 0) pe_int (fun _ _ => rfl)) pe_str (nomark _))
  (pss_one (ps_ret (pe_and (pe_cmpR op_eq (pe_callB call_len_seq (by rfl) T.z_len (by decide +kernel) (pa_cons (pv 0) pa_nil)) pe_int (nomark _)) (pe_and (pe_callB call_isi (by rfl) T.z_isinstance (by decide +kernel) (pa_cons (pe_ix ix_tup (pv 0) pe_int (fun _ _ => rfl)) (pa_cons (pe_bltn (v := .ty "str") (u := .type "str") rfl T.z_str (by decide +kernel) rfl) pa_nil))) (pe_one (pe_fk (ok_is_word T) (hr.mono (by omega)) rfl pass0 (pa_cons (pe_ix ix_tup (pv 0) pe_int (fun _ _ => rfl)) pa_nil)))))))
  pss_nil)
  (pss_cons (ps_if (PW.pt (pw_or (pt_cmpR (op_notInK T.D_LENGTHS) (pe_ix ix_tup (pv 0) pe_int (fun _ _ => rfl)) (pe_kd T.D_LENGTHS) (by rfl)) (pw_or1 (pt_cmpR op_ne (pe_callB call_len_seq (by rfl) T.z_len (by decide +kernel) (pa_cons (pv 0) pa_nil)) (pe_ix (ix_K T.D_LENGTHS) (pe_kd T.D_LENGTHS) (pe_ix ix_tup (pv 0) pe_int (fun _ _ => rfl)) (fun _ _ => rfl)) (nomark _)))))
  (pss_one (ps_ret pe_bl))
  pss_nil)
  (pss_one (ps_ret (pe_callB (cr_all rfl) (by rfl) T.z_all (by decide +kernel) (pa_cons (pe_lc (own := [("part", 1)]) (g := gName 1) (tt := tYes) (by rfl) sc_is_recipe.nd (pi_tup (pe_slice sl_tup (pv 0) (po_some pe_int) po_none)) (blkOk_by (own := [("part", 1)]) (N := ["thing", "part"]) (sc := defScope s_is_recipe) (by decide +kernel)) (fun _ _ _ _ _ => (pg_name (i := 1) sc_is_recipe.nd rfl (Or.inl rfl))) (fun _ _ _ _ _ => pts_nil) (fun _ _ _ _ _ => (pe_fk ih (hr.mono (by omega)) rfl pass0 (pa_cons (pv 1) pa_nil)))) pa_nil)))))))), ?_⟩
    have big : 16777216 ≤ sizeLine := by decide
    obtain ⟨pf, zs, rfl, hpf⟩ := ir.hd
    refine seqIf (b := false) (tb_or (b := false) (c := (false || !true)) (tb_not (b := true) fun Q2 kq => ⟨_, rfl, .ref pf, .ty "tuple", _, _, _, rfl, .ty "tuple", .base (.tup hpf), isi_tup, _, rfl, kq _ (Same.refl _)⟩) (fun H2 s2 _ => tb_or (b := false) (c := !true) (fun Q2 kq => ⟨_, rfl, pf, _, rfl, .inr (SqT.of (s2 _ _ hpf)), rfl, _, rfl, (by
      rw [decide_eq_false (fun z => by
        have := V.int.inj z
        rw [List.length_cons] at this
        omega)]
      exact kq _ (Same.refl _))⟩) (fun H3 s3 _ => tb_not (b := true) fun Q2 kq => ⟨_, rfl, pf, _, _, _, rfl, rfl, SqT.of (s3 _ _ (s2 _ _ hpf)), at_of (j := 0) rfl rfl, _, .ty "str", _, _, _, rfl, .ty "str", .base (.str _), isi_str, _, rfl, kq _ (Same.refl _)⟩))) fun H1 s1 => iteF (nxt ?_)
    try dsimp only
    have hp1 := s1 _ _ hpf
    have ir1 := ir.same s1
    refine ⟨_, rfl, pf, _, _, _, rfl, rfl, SqT.of hp1, at_of (j := 0) rfl rfl, rfl, _, rfl, ?_⟩
    rw [decS]
    rcases kids_cases ok with ⟨kk, rfl⟩ | ⟨x, rfl, hx⟩ | ⟨hk, h1, h2, hq, har⟩
    · refine iteP (show decide (("at" : Str) = "at") = true by decide +kernel) ?_
      obtain ⟨p, e', hp⟩ := ir1
      cases e'
      refine ⟨_, rfl, pf, _, rfl, .inr (SqT.of hp), rfl, _, rfl, iteP (show decide (V.int ((2 : Nat) : Int) = V.int 2) = true by decide) ?_⟩
      refine ⟨_, rfl, pf, _, _, _, rfl, rfl, SqT.of hp, at_of (j := 1) rfl rfl, _, .ty "int", _, _, _, rfl, .ty "int", .base (.int _), isi_int, _, rfl, iteP rfl ?_⟩
      exact ⟨_, rfl, pf, _, _, _, rfl, rfl, SqT.of hp, at_of (j := 1) rfl rfl, _, .ty "bool", _, _, _, rfl, .ty "bool", .base (.int _), isi_intb, _, rfl, k _ s1⟩
    · refine iteN (show ¬ decide (("word" : Str) = "at") = true by decide +kernel) (nxt ?_)
      try dsimp only
      refine ⟨_, rfl, pf, _, _, _, rfl, rfl, SqT.of hp1, at_of (j := 0) rfl rfl, rfl, _, rfl, ?_⟩
      rw [decS]
      refine iteP (show decide (("word" : Str) = "word") = true by decide +kernel) ?_
      obtain ⟨p, e', hp⟩ := ir1
      cases e'
      refine ⟨_, rfl, pf, _, rfl, .inr (SqT.of hp), rfl, _, rfl, iteP (show decide (V.int ((2 : Nat) : Int) = V.int 2) = true by decide) ?_⟩
      refine ⟨_, rfl, pf, _, _, _, rfl, rfl, SqT.of hp, at_of (j := 1) rfl rfl, _, .ty "str", _, _, _, rfl, .ty "str", .base (.str _), isi_str, _, rfl, iteP rfl ?_⟩
      refine ⟨_, rfl, pf, _, _, _, rfl, rfl, SqT.of hp, at_of (j := 1) rfl rfl, x, rfl, (by have := (word_len hx).2.1; omega), fun H2 s2 => ?_⟩
      rw [hx]
      exact k _ (s1.trans s2)
    · refine iteN (by rw [decide_eq_false h1]; decide) (nxt ?_)
      try dsimp only
      refine ⟨_, rfl, pf, _, _, _, rfl, rfl, SqT.of hp1, at_of (j := 0) rfl rfl, rfl, _, rfl, ?_⟩
      rw [decS]
      refine iteN (by rw [decide_eq_false h2]; decide) (nxt ?_)
      try dsimp only
      obtain ⟨pf', us, e', hp, hus⟩ := ir1.kids hk
      cases e'
      have hul := hus.len
      have hk12 : r.kids.length ≤ 2 ∧ 1 ≤ r.kids.length := by rcases har with ⟨_, e⟩ | ⟨_, e⟩ <;> omega
      obtain ⟨m, hm, hml⟩ : ∃ m : Int, (r.tag, m) ∈ LNG ∧ m = ((us.length + 1 : Nat) : Int) := by
        rcases har with ⟨e1, e2⟩ | ⟨e1, e2⟩
        · exact ⟨2, lng_un e1, by omega⟩
        · exact ⟨3, lng_bi e1, by omega⟩
      have hmem : r.tag ∈ LNG.map (·.1) := List.mem_map.mpr ⟨_, hm, rfl⟩
      refine seqIf (b := false) (tb_or (b := false) (c := false) (fun Q2 kq => ⟨_, rfl, pf, _, _, _, rfl, rfl, SqT.of hp, at_of (j := 0) rfl rfl, _, rfl, rfl, _, rfl, ?_⟩) (fun H2 s2 _ Q2 kq => ⟨_, rfl, pf, _, rfl, .inr (SqT.of (s2 _ _ hp)), _, rfl, pf, _, _, _, rfl, rfl, SqT.of (s2 _ _ hp), at_of (j := 0) rfl rfl, (r.tag, m), hm, rfl, rfl, rfl, _, rfl, ?_⟩)) fun H2 s2 => iteF (nxt ?_)
      · have e0 : (!decide (r.tag ∈ LNG.map (·.1))) = false := by rw [decide_eq_true hmem]; rfl
        show Q2 (!decide (r.tag ∈ LNG.map (·.1))) _
        rw [e0]
        exact kq _ (Same.refl _)
      · rw [decide_eq_true (show V.int (((V.str r.tag :: us).length : Nat) : Int) = V.int m by rw [hml, List.length_cons])]
        exact kq _ (Same.refl _)
      try dsimp only
      have hp2' := s2 _ _ hp
      refine ⟨_, rfl, _, rfl, pf, _, rfl, SqT.of hp2', ?_, fun p2 hp2 => ?_⟩
      · rintro ⟨z, _⟩
        rw [show (1 : Int) = ((1 : Nat) : Int) from rfl, HT.sIx_nat, List.length_cons] at z
        omega
      rw [cut1]
      have s3 := Rd.Same.upd (o := .tup us) hp2
      refine ⟨p2, rfl, ⟨_, SqT.of upd_same⟩, fun D hD => ?_⟩
      refine lct (C := 0) (fun i H v => v = .bl true) (fun i H H' v kp h => h) (SqT.of upd_same) (by omega) hD (fun i x H4 Q4 hx s4 k4 => ?_) fun vs H4 s4 hD4 hlv hvs => ?_
      · have hil := (List.getElem?_eq_some_iff.mp hx).1
        have hq1 : r.kids[i]? = some (r.kids[i]'(by omega)) := List.getElem?_eq_getElem (by omega)
        obtain ⟨ok1, dp1⟩ := hq _ (List.mem_of_getElem? hq1)
        cases n with
        | zero => exact absurd dp (by omega)
        | succ n => exact ⟨_, rfl, x, _, rfl, (hus.get i _ x hq1 hx).same ((s2.trans s3).trans s4), ok1, (by omega), fun H' s' => k4 _ H' s' rfl⟩
      have ev := bls_of (b := true) hvs
      refine ⟨D, List.replicate vs.length true, rfl, SqL.of (by rw [hD4, ← ev]), ?_⟩
      have e3 : (List.replicate vs.length true).all id = true := by
        rw [List.all_eq_true]
        intro x hx
        rw [(List.mem_replicate.mp hx).2]
        rfl
      rw [e3]
      exact k _ (((s1.trans s2).trans s3).trans s4)
theorem ir_none (T : Tx w K mg) : Fk P w K mg base CX0 2 "is_recipe" ["thing"] (spIRec 0) := by
  refine Fk.mono (j := 1) ?_ (by decide)
  refine T.F_is_recipe.ok0 sc_is_recipe (fun _ _ _ _ _ _ us hl => match us, hl with | [_], _ => rfl) (fun vs H Q E h => h.elim) (fun cdv A outer s H vs Q E hr h => h.elim)
theorem ok_is_recipe (T : Tx w K mg) : ∀ n : Nat, Fk P w K mg base CX0 (n + 3) "is_recipe" ["thing"] (sp_isRec n)
  | 0 => ir_step T 0 (ir_none T)
  | n + 1 => ir_step T (n + 1) (ok_is_recipe T n)
end
end Rd
namespace Rd
open PySem L2
def sp_hrunG (K : PySem.W.Frag) (n : Nat) : Sp := fun vs H Q E => ∃ (h : Addr) (v : V) (ts : List Tr) (r : Rc), vs = [.ref h, v] ∧ IsHp K H h ts ∧ (∀ t ∈ ts, Wf t ∧ t.dep ≤ 100) ∧ ts.length ≤ 100000 ∧ IsR H r v ∧ RcOk r ∧ r.dp ≤ n ∧ n ≤ 110 ∧
  (∀ t, rcx ts r = .inr t → ∀ x H', Same H H' → IsLet K H' t (.ref x) → Q (.ref x) H') ∧
  (∀ e, rcx ts r = .inl e → ∀ d v H', Same H H' → IsR H' e v → H' d = some (.xd [("step", v)]) → E (.ref (He.ga K "NoWay")) (some d) H')
section
variable {P : Program} {w : World} {K : PySem.W.Frag} {mg : Str → Option Value} {base : Heap}
abbrev s_Heap_run : Stmt := inClass (top 48) 4
theorem sc_Heap_run : FnScope ["self", "recipe"] ["self", "recipe"] (defScope s_Heap_run) := ⟨rfl, rfl, rfl, by decide +kernel, rfl, by decide +kernel, by decide +kernel⟩
theorem ok_hrunG (T : Tx w K mg) (n : Nat) : Fm P w K mg base (L2N.CX P w) (n + 33) "Heap" "run" ["self", "recipe"] (sp_hrunG K n) := by
  refine T.M_Heap_run.ok sc_Heap_run (fun _ _ _ _ _ _ us hl => match us, hl with | [_, _], _ => rfl)
    (fun vs H Q E h => ?_) (fun cdv A outer s H vs Q E hr h => ?_)
  · obtain ⟨h, v, ts, r, rfl, _⟩ := h
    rfl
  · obtain ⟨h, v, ts, r, rfl, ⟨dx, q, ws, hh, hq, hts⟩, wt, hl, ir, ok, dp, n110, k1, k0⟩ := h
    refine ⟨_, (pss_cons (ps_if (pt_not (pt_val (pe_fk (ok_is_recipe T n) (hr.mono (by omega)) rfl pass0 (pa_cons (pv 1) pa_nil))))
  pss_never
  pss_nil)
  (pss_one (ps_ret (pe_mk2 (ok_Letter T) (hr.mono (by omega)) (by rfl) passN (pa_cons pe_str (pa_cons (pe_fk (ok_run_recipeG T n) (hr.mono (by omega)) rfl (L2N.passes_call (L2N.takes_of rfl rfl rfl rfl) (fun _ _ _ _ h => h)) (pa_cons (pv 1) (pa_cons (pe_fld (pv 0) rfl) pa_nil))) pa_nil)))))), ?_⟩
    refine seqIf (b := !true) (tb_not (b := true) fun Q2 kq => ⟨_, rfl, v, r, rfl, ir, ok, dp, fun H1 s1 => ⟨_, rfl, kq _ s1⟩⟩) fun H1 s1 => iteF (nxt ?_)
    try dsimp only
    refine ⟨_, rfl, _, rfl, h, _, dx, _, _, rfl, s1 _ _ hh, T.k_Heap, T.n_Heap_trees, lookTr _, v, q, r, ws, ts, rfl, ir.same s1, ok, dp, n110, s1 _ _ hq, hts.same s1, wt, hl, fun t e u H2 s2 iu => ?_, fun e ee d v H2 s2 iv hd => k0 e ee d v H2 (s1.trans s2) iv hd⟩
    obtain ⟨p, us, rfl, hp⟩ := iu.hd
    exact rd_mkL hp fun x' H' s' hl' => k1 t e x' H' ((s1.trans s2).trans s') ⟨x', _, rfl, hl', iu.same s'⟩
end
end Rd
namespace Rd
open PySem L2
def sp_longer : Sp := fun vs H Q _ => ∃ (r : Addr) (v : V) (m : Nat) (ds : List Int) (rc : Rc), vs = [.ref r, v, .int (m : Int)] ∧ H r = some (.lst (ds.map V.int)) ∧ (∀ d ∈ ds, 0 ≤ d ∧ d < 1000) ∧ 32 ≤ ds.length ∧ m ≤ 1000 ∧ IsR H rc v ∧ RcOk rc ∧
  ∀ rc' v' H', Same H H' → RcOk rc' → IsR H' rc' v' → Q v' H'
section
variable {P : Program} {w : World} {K : PySem.W.Frag} {mg : Str → Option Value} {base : Heap}
abbrev s__law_longer : Stmt := top 72
theorem sc__law_longer : FnScope ["_law_draws", "_law_recipe_here", "_law_many", "_law_way_here", "_law_other", "_law_pair"] ["_law_draws", "_law_recipe_here", "_law_many"] (defScope s__law_longer) := ⟨rfl, rfl, rfl, by decide +kernel, rfl, by decide +kernel, by decide +kernel⟩
theorem ok__law_longer (T : Tx w K mg) : Fk P w K mg base CX0 10 "_law_longer" ["_law_draws", "_law_recipe_here", "_law_many"] sp_longer := by
  refine T.F__law_longer.ok0 sc__law_longer (fun _ _ _ _ _ _ us hl => match us, hl with | [_, _, _], _ => rfl)
    (fun vs H Q E h => ?_) (fun cdv A outer s H vs Q E hr h => ?_)
  · obtain ⟨r, v, m, ds, rc, rfl, _⟩ := h
    rfl
  · obtain ⟨r, v, m, ds, rc, rfl, hr0, hds, hlen, hm, ir, ok, k⟩ := h
    refine ⟨_, (pss_cons (ps_set (i := 3) sc__law_longer.nd rfl (Or.inl rfl) (pe_op op_mod (pe_callTy call_int1 (by rfl) T.z_int (by decide +kernel) (pa_cons (pe_ix ix_list (pv 0) pe_int (fun _ _ => rfl)) pa_nil)) pe_int))
  (pss_cons (ps_if (pt_cmpR op_lt (pv 3) pe_int (nomark _))
  (pss_one (ps_ret (pe_tup (pa_cons (pe_ix ix_list (pe_lst (pa_cons pe_str (pa_cons pe_str (pa_cons pe_str (pa_cons pe_str pa_nil))))) (pv 3) (fun _ _ => rfl)) (pa_cons (pv 1) pa_nil)))))
  pss_nil)
  (pss_cons (ps_set (i := 4) sc__law_longer.nd rfl (Or.inl rfl) (pe_fk (ok__law_recipe T 4) (hr.mono (by omega)) rfl pass0 (pa_cons (pv 0) (pa_cons pe_int (pa_cons pe_int (pa_cons (pv 2) pa_nil))))))
  (pss_cons (ps_set (i := 5) sc__law_longer.nd rfl (Or.inl rfl) (pe_ix ix_list (pe_lst (pa_cons (pe_tup (pa_cons (pv 1) (pa_cons (pv 4) pa_nil))) (pa_cons (pe_tup (pa_cons (pv 4) (pa_cons (pv 1) pa_nil))) pa_nil))) (pe_op op_mod (pe_op op_fdiv (pe_callTy call_int1 (by rfl) T.z_int (by decide +kernel) (pa_cons (pe_ix ix_list (pv 0) pe_int (fun _ _ => rfl)) pa_nil)) pe_int) pe_int) (fun _ _ => rfl)))
  (pss_one (ps_ret (pe_callTy call_tuple_of (by rfl) T.z_tuple (by decide +kernel) (pa_cons (pe_op op_cat (pe_lst (pa_cons (pe_ix ix_list (pe_lst (pa_cons pe_str (pa_cons pe_str (pa_cons pe_str (pa_cons pe_str (pa_cons pe_str pa_nil)))))) (pe_op op_sub (pv 3) pe_int) (fun _ _ => rfl)) pa_nil)) (pe_callTy call_list_of (by rfl) T.z_list (by decide +kernel) (pa_cons (pv 5) pa_nil))) pa_nil)))))))), ?_⟩
    have big : 16777216 ≤ sizeLine := by decide
    obtain ⟨d0, dr', rfl⟩ : ∃ d0 dr, ds = d0 :: dr := by
      match ds, hlen with
      | d0 :: dr, _ => exact ⟨d0, dr, rfl⟩
    have w0 : 0 ≤ d0 % 9 := Int.emod_nonneg _ (by decide)
    have w1 : d0 % 9 < 9 := Int.emod_lt_of_pos _ (by decide)
    refine seqAsg ⟨_, rfl, r, _, _, _, rfl, rfl, SqL.of hr0, at_of (j := 0) rfl rfl, .inl ⟨_, rfl, _, _, rfl, rfl, (by show (0 : Int) < 9; decide), ?_⟩⟩
    refine gName_k ?_
    try dsimp only
    refine ⟨_, rfl, _, _, rfl, rfl, _, rfl, ite2 (fun h => ?_) (fun h => nxt ?_)⟩
    · have h := of_decide_eq_true h
      refine ⟨(by show 4 ≤ sizeLine; decide), fun qo hqo => ?_⟩
      have so := Rd.Same.upd (o := .lst [.str "first", .str "second", .str "mark", .str "open"]) hqo
      obtain ⟨j2, z2, hj2, ez2⟩ := atI_of (us := [.str "first", .str "second", .str "mark", .str "open"]) (m := 4) (d := d0 % 9) w0 (by omega) rfl
      obtain ⟨kd, rfl, hkd⟩ : ∃ kd : Str, z2 = .str kd ∧ kd ∈ UNL := by
        match j2, hj2 with
        | 0, h => cases h; exact ⟨_, rfl, by decide +kernel⟩
        | 1, h => cases h; exact ⟨_, rfl, by decide +kernel⟩
        | 2, h => cases h; exact ⟨_, rfl, by decide +kernel⟩
        | 3, h => cases h; exact ⟨_, rfl, by decide +kernel⟩
        | j + 4, h => cases h
      refine ⟨_, rfl, qo, _, _, _, rfl, rfl, SqL.of upd_same, ez2, _, rfl, (by show 2 ≤ sizeLine; decide), fun q hq => ?_⟩
      have sq := Rd.Same.upd (o := .tup [.str kd, v]) hq
      exact k (.un kd rc) _ _ (so.trans sq) ⟨hkd, ok⟩ ⟨q, v, rfl, upd_same, ir.same (so.trans sq)⟩
    try dsimp only
    have h : ¬ (d0 % 9 < 4) := by simpa using h
    refine seqAsg ⟨_, rfl, _, rfl, r, 1, 0, m, d0 :: dr', rfl, hr0, hds, (by decide), rfl, (by omega), hm, (by decide), fun r2 v2 H2 s2 ok2 _ i2 => ?_⟩
    refine gName_k ?_
    try dsimp only
    refine seqAsg ⟨_, rfl, _, rfl, (by show 2 ≤ sizeLine; decide), fun p1 hp1 => ?_⟩
    have s3 := Rd.Same.upd (o := .tup [v, v2]) hp1
    have h31 : upd H2 p1 (.tup [v, v2]) p1 = some (.tup [v, v2]) := upd_same
    generalize upd H2 p1 (.tup [v, v2]) = H3 at s3 h31 ⊢
    refine ⟨_, rfl, _, rfl, (by show 2 ≤ sizeLine; decide), fun p2 hp2 => ?_⟩
    have s4 := Rd.Same.upd (o := .tup [v2, v]) hp2
    have h41 : upd H3 p2 (.tup [v2, v]) p2 = some (.tup [v2, v]) := upd_same
    generalize upd H3 p2 (.tup [v2, v]) = H4 at s4 h41 ⊢
    refine ⟨(by show 2 ≤ sizeLine; decide), fun p3 hp3 => ?_⟩
    have s5 := Rd.Same.upd (o := .lst [.ref p1, .ref p2]) hp3
    have h51 : upd H4 p3 (.lst [.ref p1, .ref p2]) p3 = some (.lst [.ref p1, .ref p2]) := upd_same
    generalize upd H4 p3 (.lst [.ref p1, .ref p2]) = H5 at s5 h51 ⊢
    have S5 := ((s2.trans s3).trans s4).trans s5
    have ir5 := ir.same S5
    have ir52 := i2.same ((s3.trans s4).trans s5)
    obtain ⟨j2, z2, hj2, ez2⟩ := atI_of (us := [.ref p1, .ref p2]) (m := 2) (d := d0 / 9 % 2) (Int.emod_nonneg _ (by decide)) (Int.emod_lt_of_pos _ (by decide)) rfl
    obtain ⟨pp, a1, a2, x1, x2, rfl, hpp, j1, o1, j2', o2⟩ : ∃ (pp : Addr) (a1 a2 : Rc) (x1 x2 : V), z2 = .ref pp ∧ H5 pp = some (.tup [x1, x2]) ∧ IsR H5 a1 x1 ∧ RcOk a1 ∧ IsR H5 a2 x2 ∧ RcOk a2 := by
      match j2, hj2 with
      | 0, h => cases h; exact ⟨p1, rc, r2, v, v2, rfl, (s4.trans s5) _ _ h31, ir5, ok, ir52, ok2⟩
      | 1, h => cases h; exact ⟨p2, r2, rc, v2, v, rfl, s5 _ _ h41, ir52, ok2, ir5, ok⟩
      | j + 2, h => cases h
    refine ⟨_, rfl, r, _, _, _, rfl, rfl, SqL.of (S5 _ _ hr0), at_of (j := 0) rfl rfl, .inl ⟨_, rfl, _, _, rfl, rfl, ⟨by decide, by decide⟩, _, _, rfl, rfl, (by show (0 : Int) < 2; decide), p3, _, _, _, rfl, rfl, SqL.of h51, ez2, ?_⟩⟩
    refine gName_k ?_
    try dsimp only
    refine ⟨(by show 5 ≤ sizeLine; decide), fun qo hqo => ?_⟩
    have s6 := Rd.Same.upd (o := .lst [.str "pair", .str "seal", .str "lock", .str "unseal", .str "unlock"]) hqo
    have h61 : upd H5 qo (.lst [.str "pair", .str "seal", .str "lock", .str "unseal", .str "unlock"]) qo = some (.lst [.str "pair", .str "seal", .str "lock", .str "unseal", .str "unlock"]) := upd_same
    generalize upd H5 qo (.lst [.str "pair", .str "seal", .str "lock", .str "unseal", .str "unlock"]) = H6 at s6 h61 ⊢
    obtain ⟨j3, z3, hj3, ez3⟩ := atI_of (us := [.str "pair", .str "seal", .str "lock", .str "unseal", .str "unlock"]) (m := 5) (d := d0 % 9 - 4) (by omega) (by omega) rfl
    obtain ⟨kd, rfl, hkd⟩ : ∃ kd : Str, z3 = .str kd ∧ kd ∈ BIL := by
      match j3, hj3 with
      | 0, h => cases h; exact ⟨_, rfl, by decide +kernel⟩
      | 1, h => cases h; exact ⟨_, rfl, by decide +kernel⟩
      | 2, h => cases h; exact ⟨_, rfl, by decide +kernel⟩
      | 3, h => cases h; exact ⟨_, rfl, by decide +kernel⟩
      | 4, h => cases h; exact ⟨_, rfl, by decide +kernel⟩
      | j + 5, h => cases h
    refine ⟨_, rfl, _, _, rfl, rfl, qo, _, _, _, rfl, rfl, SqL.of h61, ez3, (by show 1 ≤ sizeLine; decide), fun q7 hq7 => ?_⟩
    have s7 := Rd.Same.upd (o := .lst [.str kd]) hq7
    have h71 : upd H6 q7 (.lst [.str kd]) q7 = some (.lst [.str kd]) := upd_same
    generalize upd H6 q7 (.lst [.str kd]) = H7 at s7 h71 ⊢
    refine ⟨_, rfl, pp, [x1, x2], rfl, .inr (SqT.of ((s6.trans s7) _ _ hpp)), fun q8 hq8 => ?_⟩
    have s8 := Rd.Same.upd (o := .lst [x1, x2]) hq8
    have h81 : upd H7 q8 (.lst [x1, x2]) q8 = some (.lst [x1, x2]) := upd_same
    generalize upd H7 q8 (.lst [x1, x2]) = H8 at s8 h81 ⊢
    refine ⟨q7, q8, _, _, rfl, rfl, s8 _ _ h71, h81, (by show 1 + 2 ≤ sizeLine; decide), fun q9 hq9 => ?_⟩
    have s9 := Rd.Same.upd (o := .lst ([.str kd] ++ [x1, x2])) hq9
    refine ⟨q9, _, rfl, .inl ⟨SqL.of upd_same, fun q10 hq10 => ?_⟩⟩
    have s10 := Rd.Same.upd (o := .tup ([.str kd] ++ [x1, x2])) hq10
    have S := (((s6.trans s7).trans s8).trans s9).trans s10
    exact k (.bi kd a1 a2) _ _ (S5.trans S) ⟨hkd, o1, o2⟩ ⟨q10, x1, x2, rfl, upd_same, j1.same S, j2'.same S⟩
end
end Rd
namespace Rd
open PySem L2
def OkR (H : Hp) (o : Option Rc) (v : V) : Prop := MkV H o v ∧ ∀ r, o = some r → RcOk r
def OkM (H : Hp) (v : V) : Prop := ∃ o, OkR H o v
theorem OkR.mono {C : Addr} {H H' : Hp} {o : Option Rc} {v : V} (k : Kp C H H') (h : OkR H o v) : OkR H' o v := ⟨h.1.mono k, h.2⟩
theorem OkM.mono {C : Addr} {H H' : Hp} {v : V} (k : Kp C H H') (h : OkM H v) : OkM H' v := by
  obtain ⟨o, h⟩ := h
  exact ⟨o, h.mono k⟩
theorem at_choose {β : Type} {R : Hp → β → V → Prop} {H : Hp} : ∀ {vs : List V}, (∀ (i : Nat) v, vs[i]? = some v → ∃ o, R H o v) → ∃ os, AtL R H os vs
  | [], _ => ⟨[], AtL.nil⟩
  | v :: vs, h => by
    obtain ⟨o, ho⟩ := h 0 v rfl
    obtain ⟨os, hos⟩ := at_choose (vs := vs) fun i v hv => h (i + 1) v hv
    refine ⟨o :: os, by rw [List.length_cons, List.length_cons, hos.len], fun i b u h1 h2 => ?_⟩
    cases i with
    | zero => cases h1; cases h2; exact ho
    | succ i => exact hos.get i b u h1 h2
def sp_wayL (d : Nat) : Sp := fun vs H Q _ => ∃ (v : V) (F : Addr) (t : Tr) (l : List (Str × Rc)) (kvs : List (Key × V)), vs = [v, .ref F] ∧ IsT H t v ∧ Wf t ∧ t.dep ≤ d ∧ d ≤ 12 ∧ H F = some (.dK kvs) ∧ AlG IsR H l kvs ∧ (∀ p ∈ l, RcOk p.2) ∧ ∀ u H', Same H H' → OkM H' u → Q u H'
def spWR : Nat → Sp
  | 0 => fun _ _ _ _ => False
  | d + 1 => sp_wayL d
theorem lay_all : ∀ os : List (Option Rc), (∀ o ∈ os, ∀ r, o = some r → RcOk r) → PyData.canLayAll0 (os.map mkd) = true := by
  intro os
  induction os with
  | nil => intro _; rfl
  | cons o os ih =>
    intro h
    show ((mkd o).canLay0 && PyData.canLayAll0 (os.map mkd)) = true
    rw [ih fun o ho => h o (List.mem_cons_of_mem _ ho)]
    cases o with
    | none => rfl
    | some r =>
      show ((rcd r).canLay0 && true) = true
      rw [RcOk.lay (h _ List.mem_cons_self r rfl)]
      rfl
section
variable {P : Program} {w : World} {K : PySem.W.Frag} {mg : Str → Option Value} {base : Heap}
abbrev s__law_built : Stmt := top 65
theorem sc__law_built : FnScope ["_law_form_here", "_law_ways", "_law_inner", "_law_part"] ["_law_form_here", "_law_ways"] (defScope s__law_built) := ⟨rfl, rfl, rfl, by decide +kernel, rfl, by decide +kernel, by decide +kernel⟩
theorem wb_step (T : Tx w K mg) (d : Nat) (ih : Fk P w K mg base CX0 (2 * d + 20) "_law_way" ["_law_form_here", "_law_ways"] (spWR d)) : Fk P w K mg base CX0 (2 * d + 21) "_law_built" ["_law_form_here", "_law_ways"] (sp_wayL d) := by
  refine T.F__law_built.ok0 sc__law_built (fun _ _ _ _ _ _ us hl => match us, hl with | [_, _], _ => rfl)
    (fun vs H Q E h => ?_) (fun cdv A outer s H vs Q E hr h => ?_)
  · obtain ⟨v, F, t, l, kvs, rfl, _⟩ := h
    rfl
  · obtain ⟨v, F, t, l, kvs, rfl, it, wf, dp, d12, hF, al, lok, k⟩ := h
    refine ⟨_, (pss_cons (ps_if (pt_cmpR op_in_seq (pe_ix ix_tup (pv 0) pe_int (fun _ _ => rfl)) (pe_lst (pa_cons pe_str (pa_cons pe_str (pa_cons pe_str (pa_cons pe_str pa_nil))))) (by rfl))
  (pss_one (ps_ret pe_non))
  pss_nil)
  (pss_cons (ps_setLc (i := 2) (own := [("_law_part", 3)]) (g := gName 3) (tt := tYes) (by rfl) sc__law_built.nd rfl rfl (sw_true rfl rfl rfl (by decide +kernel)) (pi_tup (pe_slice sl_tup (pv 0) (po_some pe_int) po_none)) (blkOk_by (own := [("_law_part", 3)]) (N := ["_law_form_here", "_law_ways", "_law_inner", "_law_part"]) (sc := defScope s__law_built) (by decide +kernel)) (fun _ _ _ _ _ => (pg_name (i := 3) sc__law_built.nd rfl (Or.inl rfl))) (fun _ _ _ _ _ => pts_nil) (fun _ _ _ _ _ => (pe_fk ih (hr.mono (by omega)) rfl pass0 (pa_cons (pv 3) (pa_cons (pv 1) pa_nil)))))
  (pss_one (ps_ret (pe_ifExp (pt_cmpR (op_inNone hr.units65) pe_non (pv 2) (by rfl)) pe_non (pe_callTy call_tuple_of (by rfl) T.z_tuple (by decide +kernel) (pa_cons (pe_op op_cat (pe_lst (pa_cons (pe_ix ix_tup (pv 0) pe_int (fun _ _ => rfl)) pa_nil)) (pv 2)) pa_nil))))))), ?_⟩
    have big : 16777216 ≤ sizeLine := by decide
    obtain ⟨pf, us, rfl, hp⟩ := it.hd
    refine ⟨_, rfl, pf, _, _, _, rfl, rfl, SqT.of hp, at_of (j := 0) rfl rfl, (by show 4 ≤ sizeLine; decide), fun q0 hq0 => ?_⟩
    have s0 := Rd.Same.upd (o := .lst [.str "word", .str "name", .str "own", .str "unknown"]) hq0
    refine ⟨q0, _, rfl, .inl (SqL.of upd_same), rfl, rfl, _, rfl, ?_⟩
    rw [if_neg Bool.false_ne_true, show inV (V.str t.head) [.str "word", .str "name", .str "own", .str "unknown"] = decide (t.head ∈ (["word", "name", "own", "unknown"] : List Str)) from inV_strs t.head ["word", "name", "own", "unknown"]]
    generalize upd H q0 (.lst [.str "word", .str "name", .str "own", .str "unknown"]) = H0 at s0 ⊢
    by_cases hm : t.head ∈ (["word", "name", "own", "unknown"] : List Str)
    · refine iteP (decide_eq_true hm) ?_
      exact k _ _ s0 ⟨none, .inl ⟨rfl, rfl⟩, fun r e => by cases e⟩
    · refine iteN (by rw [decide_eq_false hm]; decide) (nxt ?_)
      try dsimp only
      have hpt : t.parts ≠ [] := by
        rcases wf.shp with ⟨k0, x, rfl, ko⟩ | ⟨s, a, rfl, _, _⟩ | ⟨s, a, b, rfl, _⟩
        · exfalso
          have hm : k0 ∉ (["word", "name", "own", "unknown"] : List Str) := hm
          rcases ko with ⟨rfl, _⟩ | ⟨rfl, _⟩ | ⟨rfl, _⟩
          · exact hm (by decide +kernel)
          · exact hm (by decide +kernel)
          · exact hm (by decide +kernel)
        · exact fun e => by cases e
        · exact fun e => by cases e
      obtain ⟨hsg, hws⟩ := wf.sign hpt
      have it0 := it.same s0
      have hp0 := s0 _ _ hp
      obtain ⟨pf', us', e', hp', hlu, hl2, hne, hus⟩ := it0.parts hpt
      cases e'
      rw [hp0] at hp'
      cases hp'
      refine seqAsg ⟨_, rfl, _, rfl, pf, _, rfl, SqT.of hp0, ?_, fun p2 hp2 => ?_⟩
      · rintro ⟨z, _⟩
        rw [show (1 : Int) = ((1 : Nat) : Int) from rfl, HT.sIx_nat, List.length_cons] at z
        omega
      rw [cut1]
      have s2 := Rd.Same.upd (o := .tup us) hp2
      refine ⟨p2, rfl, ⟨_, SqT.of upd_same⟩, fun D hD => ?_⟩
      refine lct (C := 0) (fun i H v => OkM H v) (fun i H H' v kp h => h.mono kp) (SqT.of upd_same) (by omega) hD (fun i x H1 Q1 hx s3 k1 => ?_) fun vs H3 s3 hD3 hlv hvs => ?_
      · obtain ⟨r, hr1, hr2⟩ := hus i x hx
        obtain ⟨w1, w2⟩ := hws r (List.mem_of_getElem? hr1)
        have s01 := (s0.trans s2).trans s3
        cases d with
        | zero => exact absurd dp (by omega)
        | succ d => exact ⟨_, rfl, _, rfl, x, F, r, l, kvs, rfl, hr2.same (s2.trans s3), w1, (by omega), (by omega), s01 _ _ hF, al.mono (fun t v h => h.same s01), lok, fun u H' s' hu => k1 _ H' s' hu⟩
      have S3 := (s0.trans s2).trans s3
      obtain ⟨os, hla⟩ := at_choose (R := OkR) hvs
      have hok : ∀ o ∈ os, ∀ r, o = some r → RcOk r := fun o ho r e => by
        obtain ⟨i, hi⟩ := List.mem_iff_getElem?.mp ho
        have hlen := hla.len
        have hil := (List.getElem?_eq_some_iff.mp hi).1
        exact (hla.get i o _ hi (List.getElem?_eq_getElem (by omega))).2 r e
      refine gName_k ?_
      try dsimp only
      have hdl : DpAll K H3 vs (os.map mkd) := dpAll_at (R := OkR) (fun r v h => h.1.dp) hla
      refine ⟨_, rfl, os.map mkd, rfl, .lst (SqL.of hD3) hdl, lay_all os hok, _, rfl, ?_⟩
      rw [any_none]
      refine ite2 (fun h1 => k _ _ S3 ⟨none, .inl ⟨rfl, rfl⟩, fun r e => by cases e⟩) (fun h1 => ?_)
      have h1 : os.any Option.isNone = false := by
        cases e : os.any Option.isNone with
        | true => exact absurd e h1
        | false => rfl
      have hpt3 := (s2.trans s3) _ _ hp0
      refine ⟨_, rfl, pf, _, _, _, rfl, rfl, SqT.of hpt3, at_of (j := 0) rfl rfl, (by show 1 ≤ sizeLine; decide), fun q4 hq4 => ?_⟩
      have s4 := Rd.Same.upd (o := .lst [.str t.head]) hq4
      have h41 : upd H3 q4 (.lst [.str t.head]) q4 = some (.lst [.str t.head]) := upd_same
      generalize upd H3 q4 (.lst [.str t.head]) = H4 at s4 h41 ⊢
      refine ⟨_, rfl, q4, D, _, _, rfl, rfl, h41, s4 _ _ hD3, (by show 1 + vs.length ≤ sizeLine; omega), fun q5 hq5 => ?_⟩
      have s5 := Rd.Same.upd (o := .lst ([.str t.head] ++ vs)) hq5
      refine ⟨q5, _, rfl, .inl ⟨SqL.of upd_same, fun q6 hq6 => ?_⟩⟩
      have s6 := Rd.Same.upd (o := .tup ([.str t.head] ++ vs)) hq6
      have s36 := (s4.trans s5).trans s6
      have S6 := S3.trans s36
      have hsome : ∀ (i : Nat) v, vs[i]? = some v → ∃ r, IsR H3 r v ∧ RcOk r := fun i v hv => by
        have hlen := hla.len
        have hil := (List.getElem?_eq_some_iff.mp hv).1
        have ho : os[i]? = some (os[i]'(by omega)) := List.getElem?_eq_getElem (by omega)
        obtain ⟨m, mo⟩ := hla.get i _ v ho hv
        rcases m with ⟨e, _⟩ | ⟨r, e, ir⟩
        · exfalso
          have : os.any Option.isNone = true := List.any_eq_true.mpr ⟨_, List.mem_of_getElem? ho, by rw [e]; rfl⟩
          rw [this] at h1
          cases h1
        · exact ⟨r, ir, mo r e⟩
      rcases wf.shp with ⟨k0, x, rfl, ko⟩ | ⟨sg, a, rfl, hs, _⟩ | ⟨sg, a, b, rfl, hs, _⟩
      · exact absurd rfl hpt
      · obtain ⟨v1, rfl⟩ : ∃ v1, vs = [v1] := by
          match vs, hlv.trans hlu with
          | [v1], _ => exact ⟨v1, rfl⟩
        obtain ⟨r1, i1, o1⟩ := hsome 0 v1 rfl
        have hkd : sg ∈ UNL := by
          have : ∀ z ∈ (["mark", "open", "own"] : List Str), z ∉ (["word", "name", "own", "unknown"] : List Str) → z ∈ UNL := by decide +kernel
          exact this sg hs hm
        exact k _ _ S6 ⟨some (.un sg r1), .inr ⟨_, rfl, q6, v1, rfl, upd_same, i1.same s36⟩, fun r e => by cases e; exact ⟨hkd, o1⟩⟩
      · obtain ⟨v1, v2, rfl⟩ : ∃ v1 v2, vs = [v1, v2] := by
          match vs, hlv.trans hlu with
          | [v1, v2], _ => exact ⟨v1, v2, rfl⟩
        obtain ⟨r1, i1, o1⟩ := hsome 0 v1 rfl
        obtain ⟨r2, i2, o2⟩ := hsome 1 v2 rfl
        have hkd : sg ∈ BIL := by
          have : ∀ z ∈ (["pair", "seal", "lock"] : List Str), z ∈ BIL := by decide +kernel
          exact this sg hs
        exact k _ _ S6 ⟨some (.bi sg r1 r2), .inr ⟨_, rfl, q6, v1, v2, rfl, upd_same, i1.same s36, i2.same s36⟩, fun r e => by cases e; exact ⟨hkd, o1, o2⟩⟩
abbrev s__law_way : Stmt := top 64
theorem sc__law_way : FnScope ["_law_form_here", "_law_ways"] ["_law_form_here", "_law_ways"] (defScope s__law_way) := ⟨rfl, rfl, rfl, by decide +kernel, rfl, by decide +kernel, by decide +kernel⟩
theorem wl_step (T : Tx w K mg) (d : Nat) (bd : Fk P w K mg base CX0 (2 * d + 21) "_law_built" ["_law_form_here", "_law_ways"] (sp_wayL d)) : Fk P w K mg base CX0 (2 * d + 22) "_law_way" ["_law_form_here", "_law_ways"] (sp_wayL d) := by
  refine T.F__law_way.ok0 sc__law_way (fun _ _ _ _ _ _ us hl => match us, hl with | [_, _], _ => rfl)
    (fun vs H Q E h => ?_) (fun cdv A outer s H vs Q E hr h => ?_)
  · obtain ⟨v, F, t, l, kvs, rfl, _⟩ := h
    rfl
  · obtain ⟨v, F, t, l, kvs, rfl, it, wf, dp, d12, hF, al, lok, k⟩ := h
    refine ⟨_, (pss_cons (ps_if (pt_cmpR op_eq (pe_ix ix_tup (pv 0) pe_int (fun _ _ => rfl)) pe_str (nomark _))
  (pss_one (ps_ret (pv 0)))
  pss_nil)
  (pss_cons (ps_if (pt_cmp (pc_din (hu_of hr) (pe_fk (ok__law_text T d) (hr.mono (by omega)) rfl pass0 (pa_cons (pv 0) pa_nil)) (pv 1)))
  (pss_one (ps_ret (pe_dget (hu_of hr) (pv 1) (pe_fk (ok__law_text T d) (hr.mono (by omega)) rfl pass0 (pa_cons (pv 0) pa_nil)) (fun _ _ => rfl))))
  pss_nil)
  (pss_one (ps_ret (pe_fk bd (hr.mono (by omega)) rfl pass0 (pa_cons (pv 0) (pa_cons (pv 1) pa_nil))))))), ?_⟩
    obtain ⟨pf, us, rfl, hp⟩ := it.hd
    refine ⟨_, rfl, pf, _, _, _, rfl, rfl, SqT.of hp, at_of (j := 0) rfl rfl, rfl, _, rfl, ?_⟩
    rw [decS]
    by_cases hw : t.head = "word"
    · refine iteP (decide_eq_true hw) ?_
      obtain ⟨x, rfl, _⟩ := mkR_word (W := []) wf hw
      have hx : isWord x = true := by
        rcases wf.shp with ⟨_, _, e, ko⟩ | ⟨_, _, e, _⟩ | ⟨_, _, _, e, _⟩
        · cases e
          rcases ko with ⟨_, h⟩ | ⟨e, _⟩ | ⟨e, _⟩
          · exact h
          · exact absurd e (by decide +kernel)
          · exact absurd e (by decide +kernel)
        · cases e
        · cases e
      exact ⟨_, rfl, k _ _ (Same.refl _) ⟨some (.wd x), .inr ⟨_, rfl, it⟩, fun r e => by cases e; exact hx⟩⟩
    · refine iteN (by rw [decide_eq_false hw]; decide) (nxt ?_)
      try dsimp only
      refine ⟨_, rfl, _, t, rfl, it, wf, dp, d12, fun H1 s1 => ⟨_, rfl, F, _, rfl, DGet.k (k := .inr (textOf t)) (s1 _ _ hF), _, rfl, ?_⟩⟩
      have hF1 := s1 _ _ hF
      have al1 := al.mono fun t v (h : IsR H t v) => h.same s1
      cases el : lookG l (textOf t) with
      | some r =>
        obtain ⟨v0, e0, hv0⟩ := (al1.look (x := textOf t)).1 r el
        rw [e0]
        refine iteP (by simp) ?_
        refine ⟨_, rfl, _, rfl, _, t, rfl, it.same s1, wf, dp, d12, fun H2 s2 => ⟨F, _, rfl, (by rw [← e0]; exact DGet.k (k := .inr (textOf t)) (s2 _ _ hF1)), ?_⟩⟩
        exact k _ _ (s1.trans s2) ⟨some r, .inr ⟨r, rfl, hv0.same s2⟩, fun r' e => by cases e; exact lok _ (lookG_mem el)⟩
      | none =>
        have hv0 := (al1.look (x := textOf t)).2 el
        rw [hv0]
        refine iteN (by simp) (nxt ?_)
        try dsimp only
        exact ⟨_, rfl, _, rfl, _, F, t, l, kvs, rfl, it.same s1, wf, dp, d12, hF1, al1, lok, fun u H2 s2 hu => k _ _ (s1.trans s2) hu⟩
theorem wl_none (T : Tx w K mg) : Fk P w K mg base CX0 20 "_law_way" ["_law_form_here", "_law_ways"] (spWR 0) := by
  refine Fk.mono (j := 1) ?_ (by decide)
  refine T.F__law_way.ok0 sc__law_way (fun _ _ _ _ _ _ us hl => match us, hl with | [_, _], _ => rfl) (fun vs H Q E h => h.elim) (fun cdv A outer s H vs Q E hr h => h.elim)
theorem ok__law_way (T : Tx w K mg) : ∀ d : Nat, Fk P w K mg base CX0 (2 * d + 22) "_law_way" ["_law_form_here", "_law_ways"] (sp_wayL d)
  | 0 => wl_step T 0 (wb_step T 0 (wl_none T))
  | d + 1 => wl_step T (d + 1) (wb_step T (d + 1) (ok__law_way T d))
end
end Rd
namespace Rd
open PySem L2
def sp_openings (d : Nat) : Sp := fun vs H Q _ => ∃ (v rv : V) (F : Addr) (t : Tr) (rc : Rc) (l : List (Str × Rc)) (kvs : List (Key × V)), vs = [v, rv, .ref F] ∧ IsT H t v ∧ Wf t ∧ t.dep ≤ d ∧ d ≤ 12 ∧ IsR H rc rv ∧ RcOk rc ∧ H F = some (.dK kvs) ∧ AlG IsR H l kvs ∧ (∀ p ∈ l, RcOk p.2) ∧
  ∀ q ps os H', Same H H' → H q = none → H' q = some (.lst ps) → AtL IsW H' os ps → os.length ≤ 2 → (∀ p ∈ os, p.1 ∈ t.all ∧ RcOk p.2) → Q (.ref q) H'
theorem unseal_of {s : Str} (h : s ∈ (["seal", "lock"] : List Str)) : ("un" : Str) ++ s ∈ BIL := by
  have h : s = "seal" ∨ s = "lock" := by simpa using h
  rcases h with rfl | rfl <;> decide +kernel
section
variable {P : Program} {w : World} {K : PySem.W.Frag} {mg : Str → Option Value} {base : Heap}
abbrev s__law_openings : Stmt := top 66
theorem sc__law_openings : FnScope ["_law_form_here", "_law_recipe_here", "_law_ways", "_law_key"] ["_law_form_here", "_law_recipe_here", "_law_ways"] (defScope s__law_openings) := ⟨rfl, rfl, rfl, by decide +kernel, rfl, by decide +kernel, by decide +kernel⟩
theorem ok__law_openings (T : Tx w K mg) (d : Nat) : Fk P w K mg base CX0 (2 * d + 30) "_law_openings" ["_law_form_here", "_law_recipe_here", "_law_ways"] (sp_openings d) := by
  refine T.F__law_openings.ok0 sc__law_openings (fun _ _ _ _ _ _ us hl => match us, hl with | [_, _, _], _ => rfl)
    (fun vs H Q E h => ?_) (fun cdv A outer s H vs Q E hr h => ?_)
  · obtain ⟨v, rv, F, t, rc, l, kvs, rfl, _⟩ := h
    rfl
  · obtain ⟨v, rv, F, t, rc, l, kvs, rfl, it, wf, dp, d12, ir, ok, hF, al, lok, k⟩ := h
    refine ⟨_, (pss_cons (ps_if (pt_cmpR op_eq (pe_ix ix_tup (pv 0) pe_int (fun _ _ => rfl)) pe_str (nomark _))
  (pss_one (ps_ret (pe_lst (pa_cons (pe_tup (pa_cons (pe_ix ix_tup (pv 0) pe_int (fun _ _ => rfl)) (pa_cons (pe_tup (pa_cons pe_str (pa_cons (pv 1) pa_nil))) pa_nil))) (pa_cons (pe_tup (pa_cons (pe_ix ix_tup (pv 0) pe_int (fun _ _ => rfl)) (pa_cons (pe_tup (pa_cons pe_str (pa_cons (pv 1) pa_nil))) pa_nil))) pa_nil)))))
  pss_nil)
  (pss_cons (ps_if (pt_cmpR op_in_seq (pe_ix ix_tup (pv 0) pe_int (fun _ _ => rfl)) (pe_lst (pa_cons pe_str (pa_cons pe_str pa_nil))) (by rfl))
  (pss_cons (ps_set (i := 3) sc__law_openings.nd rfl (Or.inl rfl) (pe_fk (ok__law_way T d) (hr.mono (by omega)) rfl pass0 (pa_cons (pe_fk (ok__law_undoing T) (hr.mono (by omega)) rfl pass0 (pa_cons (pv 0) pa_nil)) (pa_cons (pv 2) pa_nil))))
  (pss_one (ps_ret (pe_ifExp (pt_cmpR op_isN (pv 3) pe_non (nomark _)) (pe_lst pa_nil) (pe_lst (pa_cons (pe_tup (pa_cons (pe_ix ix_tup (pv 0) pe_int (fun _ _ => rfl)) (pa_cons (pe_tup (pa_cons (pe_op op_add_str pe_str (pe_ix ix_tup (pv 0) pe_int (fun _ _ => rfl))) (pa_cons (pv 1) (pa_cons (pv 3) pa_nil)))) pa_nil))) pa_nil))))))
  pss_nil)
  (pss_one (ps_ret (pe_lst pa_nil))))), ?_⟩
    obtain ⟨pf, us, rfl, hp⟩ := it.hd
    refine ⟨_, rfl, pf, _, _, _, rfl, rfl, SqT.of hp, at_of (j := 0) rfl rfl, rfl, _, rfl, ?_⟩
    rw [decS]
    by_cases hpr : t.head = "pair"
    · refine iteP (decide_eq_true hpr) ?_
      obtain ⟨c, b, rfl⟩ : ∃ c b, t = .bi "pair" c b := by
        rcases wf.shp with ⟨k0, x0, rfl, ko⟩ | ⟨s0, a0, rfl, hs, _⟩ | ⟨s0, a0, b0, rfl, hs, wa, wb⟩
        · rcases ko with ⟨rfl, _⟩ | ⟨rfl, _⟩ | ⟨rfl, _⟩
          · exact absurd (show ("word" : Str) = "pair" from hpr) (by decide +kernel)
          · exact absurd (show ("name" : Str) = "pair" from hpr) (by decide +kernel)
          · exact absurd (show ("unknown" : Str) = "pair" from hpr) (by decide +kernel)
        · have : ∀ z ∈ (["mark", "open", "own"] : List Str), z ≠ "pair" := by decide +kernel
          exact absurd hpr (this s0 hs)
        · have hp : s0 = "pair" := hpr
          subst hp
          exact ⟨a0, b0, rfl⟩
      obtain ⟨pf', u1, u2, e', hp', i1, i2⟩ := id it
      cases e'
      refine ⟨_, rfl, pf, _, _, _, rfl, rfl, SqT.of hp', at_of (j := 1) rfl rfl, _, rfl, (by show 2 ≤ sizeLine; decide), fun q1 hq1 => ?_⟩
      have s1 := Rd.Same.upd (o := .tup [.str "first", rv]) hq1
      have h11 : upd H q1 (.tup [.str "first", rv]) q1 = some (.tup [.str "first", rv]) := upd_same
      generalize upd H q1 (.tup [.str "first", rv]) = H1 at s1 h11 ⊢
      refine ⟨(by show 2 ≤ sizeLine; decide), fun q2 hq2 => ?_⟩
      have s2 := Rd.Same.upd (o := .tup [u1, .ref q1]) hq2
      have h21 : upd H1 q2 (.tup [u1, .ref q1]) q2 = some (.tup [u1, .ref q1]) := upd_same
      generalize upd H1 q2 (.tup [u1, .ref q1]) = H2 at s2 h21 ⊢
      refine ⟨_, rfl, pf, _, _, _, rfl, rfl, SqT.of ((s1.trans s2) _ _ hp'), at_of (j := 2) rfl rfl, _, rfl, (by show 2 ≤ sizeLine; decide), fun q3 hq3 => ?_⟩
      have s3 := Rd.Same.upd (o := .tup [.str "second", rv]) hq3
      have h31 : upd H2 q3 (.tup [.str "second", rv]) q3 = some (.tup [.str "second", rv]) := upd_same
      generalize upd H2 q3 (.tup [.str "second", rv]) = H3 at s3 h31 ⊢
      refine ⟨(by show 2 ≤ sizeLine; decide), fun q4 hq4 => ?_⟩
      have s4 := Rd.Same.upd (o := .tup [u2, .ref q3]) hq4
      have h41 : upd H3 q4 (.tup [u2, .ref q3]) q4 = some (.tup [u2, .ref q3]) := upd_same
      generalize upd H3 q4 (.tup [u2, .ref q3]) = H4 at s4 h41 ⊢
      refine ⟨(by show 2 ≤ sizeLine; decide), fun q5 hq5 => ?_⟩
      have s5 := Rd.Same.upd (o := .lst [.ref q2, .ref q4]) hq5
      have S := (((s1.trans s2).trans s3).trans s4).trans s5
      have w1 : IsW (upd H4 q5 (.lst [.ref q2, .ref q4])) (c, .un "first" rc) (.ref q2) := ⟨q2, u1, .ref q1, rfl, ((s3.trans s4).trans s5) _ _ h21, i1.same S, q1, rv, rfl, (((s2.trans s3).trans s4).trans s5) _ _ h11, ir.same S⟩
      have w2 : IsW (upd H4 q5 (.lst [.ref q2, .ref q4])) (b, .un "second" rc) (.ref q4) := ⟨q4, u2, .ref q3, rfl, s5 _ _ h41, i2.same S, q3, rv, rfl, (s4.trans s5) _ _ h31, ir.same S⟩
      refine k q5 _ [(c, .un "first" rc), (b, .un "second" rc)] _ S ((((s1.trans s2).trans s3).trans s4).free hq5) upd_same ((AtL.nil.snoc w1).snoc w2) (Nat.le_refl _) fun p hp => ?_
      have hp : p = (c, .un "first" rc) ∨ p = (b, .un "second" rc) := by simpa using hp
      rcases hp with rfl | rfl
      · exact ⟨all_l, by decide +kernel, ok⟩
      · exact ⟨all_r, by decide +kernel, ok⟩
    · refine iteN (by rw [decide_eq_false hpr]; decide) (nxt ?_)
      try dsimp only
      refine ⟨_, rfl, pf, _, _, _, rfl, rfl, SqT.of hp, at_of (j := 0) rfl rfl, (by show 2 ≤ sizeLine; decide), fun q0 hq0 => ?_⟩
      have s0 := Rd.Same.upd (o := .lst [.str "seal", .str "lock"]) hq0
      refine ⟨q0, _, rfl, .inl (SqL.of upd_same), rfl, rfl, _, rfl, ?_⟩
      rw [if_neg Bool.false_ne_true, show inV (V.str t.head) [.str "seal", .str "lock"] = decide (t.head ∈ (["seal", "lock"] : List Str)) from inV_strs t.head ["seal", "lock"]]
      have n0 : ∀ q, upd H q0 (.lst [.str "seal", .str "lock"]) q = none → H q = none := fun q => s0.free
      generalize upd H q0 (.lst [.str "seal", .str "lock"]) = H0 at s0 n0 ⊢
      by_cases hs : t.head ∈ (["seal", "lock"] : List Str)
      · refine iteP (decide_eq_true hs) ?_
        have sh := shut_iff wf
        rw [decide_eq_true hs] at sh
        obtain ⟨key, ek⟩ := Option.isSome_iff_exists.mp sh.symm
        obtain ⟨wk, dk⟩ := ukey_wf wf ek
        obtain ⟨sg, c, k', rfl⟩ : ∃ sg c k', t = .bi sg c k' := by
          rcases ukey_inv wf ek with ⟨c, e⟩ | ⟨c, s', k', e, _⟩
          · exact ⟨_, c, _, e⟩
          · exact ⟨_, c, _, e⟩
        refine seqAsg ⟨_, rfl, _, _, key, rfl, it.same s0, wf, ek, fun u6 H6 s6 ik => ⟨_, rfl, u6, F, key, l, kvs, rfl, ik, wk, (by omega), d12, (s0.trans s6) _ _ hF, al.mono (fun t v h => h.same (s0.trans s6)), lok, fun u7 H7 s7 hok => ?_⟩⟩
        refine gName_k ?_
        try dsimp only
        have S7 := (s0.trans s6).trans s7
        obtain ⟨o, m, mo⟩ := hok
        rcases m with ⟨rfl, rfl⟩ | ⟨kr, rfl, ikr⟩
        · refine ⟨_, rfl, rfl, _, rfl, iteP (decide_eq_true rfl) ⟨Nat.zero_le _, fun q hq => ?_⟩⟩
          exact k q [] [] _ (S7.trans (Rd.Same.upd hq)) (S7.free hq) upd_same AtL.nil (Nat.zero_le _) fun p hp => by cases hp
        · obtain ⟨pk, zk, rfl, _⟩ := ikr.hd
          refine ⟨_, rfl, rfl, _, rfl, iteN (by rw [decide_eq_false (fun z => by cases z)]; decide) ?_⟩
          obtain ⟨pf', u1, u2, e', hp', i1, i2⟩ := it.same S7
          cases e'
          have hsl : (("un" : Str)).length + sg.length ≤ sizeLine := by
            have : ∀ z ∈ (["seal", "lock"] : List Str), ("un" : Str).length + z.length ≤ 16777216 := by decide +kernel
            exact Nat.le_trans (this sg hs) (by decide)
          refine ⟨_, rfl, pf, _, _, _, rfl, rfl, SqT.of hp', at_of (j := 1) rfl rfl, _, rfl, pf, _, _, _, rfl, rfl, SqT.of hp', at_of (j := 0) rfl rfl, _, _, rfl, rfl, hsl, _, rfl, _, rfl, (by show 3 ≤ sizeLine; decide), fun q1 hq1 => ?_⟩
          have s8 := Rd.Same.upd (o := .tup [.str (("un" : Str) ++ sg), rv, .ref pk]) hq1
          have h81 : upd H7 q1 (.tup [.str (("un" : Str) ++ sg), rv, .ref pk]) q1 = some (.tup [.str (("un" : Str) ++ sg), rv, .ref pk]) := upd_same
          refine ⟨(by show 2 ≤ sizeLine; decide), fun q2 hq2 => ?_⟩
          have s9 := Rd.Same.upd (o := .tup [u1, .ref q1]) hq2
          have h91 : upd (upd H7 q1 (.tup [.str (("un" : Str) ++ sg), rv, .ref pk])) q2 (.tup [u1, .ref q1]) q2 = some (.tup [u1, .ref q1]) := upd_same
          refine ⟨(by show 1 ≤ sizeLine; decide), fun q3 hq3 => ?_⟩
          have s10 := Rd.Same.upd (o := .lst [.ref q2]) hq3
          have S := (s8.trans s9).trans s10
          refine k q3 [.ref q2] [(c, .bi (("un" : Str) ++ sg) rc kr)] _ (S7.trans S) ((S7.trans (s8.trans s9)).free hq3) upd_same (AtL.nil.snoc ⟨q2, u1, .ref q1, rfl, s10 _ _ h91, i1.same S, q1, rv, .ref pk, rfl, (s9.trans s10) _ _ h81, ir.same (S7.trans S), ikr.same S⟩) (by simp) fun p hp => ?_
          rw [List.mem_singleton.mp hp]
          exact ⟨all_l, unseal_of hs, ok, mo kr rfl⟩
      · refine iteN (by rw [decide_eq_false hs]; decide) (nxt ?_)
        try dsimp only
        refine ⟨Nat.zero_le _, fun q hq => ?_⟩
        exact k q [] [] _ (s0.trans (Rd.Same.upd hq)) (n0 q hq) upd_same AtL.nil (Nat.zero_le _) fun p hp => by cases hp
end
end Rd
namespace Rd
open PySem L2
structure WIv (fs : List Tr) (l : List (Str × Rc)) (rs : List Tr) : Prop where
  tx : l.map (·.1) = rs.map textOf
  nd : (l.map (·.1)).Nodup
  sub : ∀ t ∈ rs, t ∈ allOf fs
  ok : ∀ p ∈ l, RcOk p.2
theorem WIv.nil {fs : List Tr} : WIv fs [] [] := ⟨rfl, List.nodup_nil, (fun t h => by cases h), fun p h => by cases h⟩
theorem WIv.len {fs : List Tr} {l : List (Str × Rc)} {rs : List Tr} (h : WIv fs l rs) : l.length = rs.length := by
  have := congrArg List.length h.tx
  simpa using this
theorem WIv.le {fs : List Tr} {l : List (Str × Rc)} {rs : List Tr} (h : WIv fs l rs) : rs.length ≤ (allOf fs).length := by
  have nd : rs.Nodup := by
    have : (rs.map textOf).Nodup := by rw [← h.tx]; exact h.nd
    exact List.Pairwise.of_map textOf (fun a b e z => e (by rw [z])) this
  exact nodup_sub nd h.sub
theorem WIv.put {fs : List Tr} {l : List (Str × Rc)} {rs : List Tr} (h : WIv fs l rs) {t : Tr} {r : Rc} (ht : t ∈ allOf fs) (ok : RcOk r) (hn : lookG l (textOf t) = none) : WIv fs (l ++ [(textOf t, r)]) (rs ++ [t]) := by
  refine ⟨by rw [List.map_append, List.map_append, h.tx]; rfl, ?_, fun u hu => ?_, fun p hp => ?_⟩
  · rw [List.map_append, List.nodup_append]
    refine ⟨h.nd, by simp, fun x hx y hy e => ?_⟩
    have hy : y = textOf t := by simpa using hy
    subst e
    rw [hy] at hx
    exact lookG_none hn hx
  · rcases List.mem_append.mp hu with hu | hu
    · exact h.sub u hu
    · rw [List.mem_singleton.mp hu]; exact ht
  · rcases List.mem_append.mp hp with hp | hp
    · exact h.ok p hp
    · rw [List.mem_singleton.mp hp]; exact ok
theorem WIv.has {fs : List Tr} {l : List (Str × Rc)} {rs : List Tr} (h : WIv fs l rs) {t : Tr} (ht : t ∈ rs) : ∃ r, lookG l (textOf t) = some r ∧ RcOk r := by
  obtain ⟨r, hr⟩ := lookG_some (l := l) (x := textOf t) (by rw [h.tx]; exact List.mem_map.mpr ⟨t, ht, rfl⟩)
  exact ⟨r, hr, h.ok _ (lookG_mem hr)⟩
def B2 (F R : Addr) (H0 Hc : Hp) : Prop := ∀ c o, c ≠ F → c ≠ R → H0 c = some o → Hc c = some o
theorem B2.refl {F R : Addr} {H0 : Hp} : B2 F R H0 H0 := fun _ _ _ _ e => e
theorem B2.same {F R : Addr} {H0 Hc H' : Hp} (b : B2 F R H0 Hc) (s : Same Hc H') : B2 F R H0 H' := fun c o h1 h2 e => s _ _ (b c o h1 h2 e)
theorem B2.updF {F R : Addr} {H0 Hc : Hp} {o : HO} (b : B2 F R H0 Hc) : B2 F R H0 (upd Hc F o) := fun c o h1 h2 e => by rw [upd_ne h1]; exact b c o h1 h2 e
theorem B2.updR {F R : Addr} {H0 Hc : Hp} {o : HO} (b : B2 F R H0 Hc) : B2 F R H0 (upd Hc R o) := fun c o h1 h2 e => by rw [upd_ne h2]; exact b c o h1 h2 e
theorem B2.kp {F R : Addr} {H0 Hc : Hp} {C : Addr} {kv : List (Key × V)} {xs : List V} (b : B2 F R H0 Hc) (hF : H0 F = some (.dK kv)) (hR : H0 R = some (.lst xs)) : Kp C H0 Hc := fun c o hi e => b c o (fun z => by rw [z, hF] at e; cases e; cases hi) (fun z => by rw [z, hR] at e; cases e; cases hi) e
theorem kp_updF {F : Addr} {H0 : Hp} {C : Addr} {kv kv' : List (Key × V)} (hF : H0 F = some (.dK kv)) : Kp C H0 (upd H0 F (.dK kv')) := fun c o hi e => by
  rw [upd_ne (fun z => by rw [z, hF] at e; cases e; cases hi)]
  exact e
theorem B2.trans {F R : Addr} {H0 H1 H2 : Hp} (a : B2 F R H0 H1) (b : B2 F R H1 H2) : B2 F R H0 H2 := fun c o h1 h2 e => b c o h1 h2 (a c o h1 h2 e)
/-- one of the two that grow -/
structure WSt (F R : Addr) (H1 : Hp) (fs : List Tr) (kvs : List (Key × V)) (l : List (Str × Rc)) (us : List V) (rs : List Tr) (Hc : Hp) : Prop where
  b : B2 F R H1 Hc
  hF : Hc F = some (.dK kvs)
  hR : Hc R = some (.lst us)
  al : AlG IsR Hc l kvs
  at_ : TsAt Hc rs us
  iv : WIv fs l rs
theorem WSt.same {F R : Addr} {H1 Hc H' : Hp} {fs rs : List Tr} {kvs : List (Key × V)} {l : List (Str × Rc)} {us : List V} (h : WSt F R H1 fs kvs l us rs Hc) (s : Same Hc H') : WSt F R H1 fs kvs l us rs H' :=
  ⟨h.b.same s, s _ _ h.hF, s _ _ h.hR, h.al.mono fun t v x => x.same s, h.at_.same s, h.iv⟩
theorem WSt.put {F R : Addr} {H1 Hc : Hp} {fs rs : List Tr} {kvs : List (Key × V)} {l : List (Str × Rc)} {us : List V} (h : WSt F R H1 fs kvs l us rs Hc) (ne : F ≠ R) {t : Tr} {v rv : V} {r : Rc} (it : IsT Hc t v) (ir : IsR Hc r rv) (ok : RcOk r) (ht : t ∈ allOf fs) (hn : lookG l (textOf t) = none) :
    WSt F R H1 fs (kvs ++ [(.inr (textOf t), rv)]) (l ++ [(textOf t, r)]) (us ++ [v]) (rs ++ [t]) (upd (upd Hc F (.dK (kvs ++ [(.inr (textOf t), rv)]))) R (.lst (us ++ [v]))) := by
  have k1 := kp_updF (C := 0) (kv' := kvs ++ [(.inr (textOf t), rv)]) h.hF
  have hR1 : upd Hc F (.dK (kvs ++ [(.inr (textOf t), rv)])) R = some (.lst us) := by rw [upd_ne (Ne.symm ne)]; exact h.hR
  have k2 := k1.trans (Kp.upd_lst (C := 0) (ys := us ++ [v]) hR1)
  exact ⟨h.b.updF.updR, by rw [upd_ne ne]; exact upd_same, upd_same, AlG.snoc (ir.mono k2) (h.al.mono fun t v x => x.mono k2), (h.at_.mono k2).app (TsAt.one (it.mono k2)), h.iv.put ht ok hn⟩
def sp_allWays (d : Nat) : Sp := fun vs H Q _ => ∃ (a : Addr) (ws : List V) (fs : List Tr), vs = [.ref a] ∧ H a = some (.lst ws) ∧ TsAt H fs ws ∧ (∀ t ∈ fs, Wf t ∧ t.dep ≤ d) ∧ d ≤ 12 ∧ 0 < fs.length ∧ (allOf fs).length ≤ 50000 ∧
  ∀ F kvs l H', Same H H' → H F = none → H' F = some (.dK kvs) → AlG IsR H' l kvs → (∀ p ∈ l, RcOk p.2) → 0 < l.length → l.length ≤ 50000 → (l.map (·.1)).Nodup → Q (.ref F) H'
section
variable {P : Program} {w : World} {K : PySem.W.Frag} {mg : Str → Option Value} {base : Heap}
abbrev s__law_all_ways : Stmt := top 67
theorem sc__law_all_ways : FnScope ["_law_forms_here", "_law_ways", "_law_rows", "_law_k", "_law_many", "_law_form_here", "_law_part", "_law_step_here"] ["_law_forms_here"] (defScope s__law_all_ways) := ⟨rfl, rfl, rfl, by decide +kernel, rfl, by decide +kernel, by decide +kernel⟩
theorem ok__law_all_ways (T : Tx w K mg) (d : Nat) : Fk P w K mg base CX0 (2 * d + 40) "_law_all_ways" ["_law_forms_here"] (sp_allWays d) := by
  refine T.F__law_all_ways.ok0 sc__law_all_ways (fun _ _ _ _ _ _ us hl => match us, hl with | [_], _ => rfl)
    (fun vs H Q E h => ?_) (fun cdv A outer s H vs Q E hr h => ?_)
  · obtain ⟨a, ws, fs, rfl, _⟩ := h
    rfl
  · obtain ⟨a, ws, fs, rfl, ha, hts, wf, d12, hpos, hall, k⟩ := h
    refine ⟨_, (pss_cons (ps_par (i := 1) (j := 2) (by rfl) sc__law_all_ways.nd rfl rfl (by decide) rfl rfl (pa_cons pe_dnewK (pa_cons (pe_lst pa_nil) pa_nil)) (by rfl))
  (pss_cons (ps_for PassesOwn.never rfl (pi_range1 rfl T.z_range (pa_cons (pe_callB call_len_seq (by rfl) T.z_len (by decide +kernel) (pa_cons (pv 0) pa_nil)) pa_nil)) (pg_name (i := 3) sc__law_all_ways.nd rfl (Or.inl rfl))
  (pss_one (ps_if (pt_cmp (pc_dnotin (hu_of hr) (pe_fk (ok__law_text T d) (hr.mono (by omega)) rfl pass0 (pa_cons (pe_ix ix_list (pv 0) (pv 3) (fun _ _ => rfl)) pa_nil)) (pv 1)))
  (pss_cons (ps_dput (hu_of hr) (pv 1) (pe_fk (ok__law_text T d) (hr.mono (by omega)) rfl pass0 (pa_cons (pe_ix ix_list (pv 0) (pv 3) (fun _ _ => rfl)) pa_nil)) (pe_tup (pa_cons pe_str (pa_cons (pv 3) pa_nil))) (by rfl))
  (pss_one (ps_expr (pe_bm PySem.F.plainAttrs_list PySem.F.slot_list_append PySem.F.type_list_append mt_append (pv 2) (pa_cons (pe_ix ix_list (pv 0) (pv 3) (fun _ _ => rfl)) pa_nil)))))
  pss_nil)))
  (pss_cons (ps_set (i := 4) sc__law_all_ways.nd rfl (Or.inl rfl) pe_int)
  (pss_cons (ps_while PassesOwn.never (pt_cmpR op_lt (pv 4) (pe_callB call_len_seq (by rfl) T.z_len (by decide +kernel) (pa_cons (pv 2) pa_nil)) (nomark _))
  (pss_cons (ps_set (i := 4) sc__law_all_ways.nd rfl (Or.inl rfl) (pe_callB call_len_seq (by rfl) T.z_len (by decide +kernel) (pa_cons (pv 2) pa_nil)))
  (pss_one (ps_for PassesOwn.never rfl (pi_list (pe_callTy call_list_of (by rfl) T.z_list (by decide +kernel) (pa_cons (pv 2) pa_nil))) (pg_name (i := 5) sc__law_all_ways.nd rfl (Or.inl rfl))
  (pss_one (ps_for PassesOwn.never rfl (pi_list (pe_fk (ok__law_openings T d) (hr.mono (by omega)) rfl pass0 (pa_cons (pv 5) (pa_cons (pe_dget (hu_of hr) (pv 1) (pe_fk (ok__law_text T d) (hr.mono (by omega)) rfl pass0 (pa_cons (pv 5) pa_nil)) (fun _ _ => rfl)) (pa_cons (pv 1) pa_nil))))) (pg_tup rfl (pgs_cons (pg_name (i := 6) sc__law_all_ways.nd rfl (Or.inl rfl)) (pgs_cons (pg_name (i := 7) sc__law_all_ways.nd rfl (Or.inl rfl)) pgs_nil)))
  (pss_one (ps_if (pt_cmp (pc_dnotin (hu_of hr) (pe_fk (ok__law_text T d) (hr.mono (by omega)) rfl pass0 (pa_cons (pv 6) pa_nil)) (pv 1)))
  (pss_cons (ps_dput (hu_of hr) (pv 1) (pe_fk (ok__law_text T d) (hr.mono (by omega)) rfl pass0 (pa_cons (pv 6) pa_nil)) (pv 7) (by rfl))
  (pss_one (ps_expr (pe_bm PySem.F.plainAttrs_list PySem.F.slot_list_append PySem.F.type_list_append mt_append (pv 2) (pa_cons (pv 6) pa_nil)))))
  pss_nil))))))))
  (pss_one (ps_ret (pv 1))))))), ?_⟩
    have big : 16777216 ≤ sizeLine := by decide
    have hwl := hts.len
    have hsl : fs.length ≤ (allOf fs).length := by rw [allOf_len]; exact szs_len fs
    refine fun F hF => ⟨Nat.zero_le _, fun R hR => ⟨_, _, rfl, ?_⟩⟩
    try dsimp only
    have ne : F ≠ R := fun z => by rw [← z, upd_same] at hR; cases hR
    have sF := Rd.Same.upd (o := .dK []) hF
    have sR := Rd.Same.upd (o := .lst []) hR
    have hF1 : upd (upd H F (.dK [])) R (.lst []) F = some (.dK []) := by rw [upd_ne ne]; exact upd_same
    have hR1 : upd (upd H F (.dK [])) R (.lst []) R = some (.lst []) := upd_same
    have nRH : H R = none := sF.free hR
    have S1 := sF.trans sR
    generalize upd (upd H F (.dK [])) R (.lst []) = H1 at hF1 hR1 S1 ⊢
    have ha1 := S1 _ _ ha
    have nFa : a ≠ F := fun z => by rw [z, hF] at ha; cases ha
    have nRa : a ≠ R := fun z => by rw [z, nRH] at ha; cases ha
    have hts1 := hts.same S1
    refine seqJoin (fun σ' Hc => ∃ (t3 : Option V) (kvs : List (Key × V)) (l : List (Str × Rc)) (us : List V) (rs : List Tr), σ' = [some (.ref a), some (.ref F), some (.ref R), t3, none, none, none, none] ∧ WSt F R H1 fs kvs l us rs Hc ∧ 0 < l.length) (fun KK hK => ?_) ?_
    · refine ⟨_, rfl, a, ws, rfl, .inl (SqL.of ha1), ws.length, rfl, by omega, by omega, for_range (n := ws.length) (fun i σ Hc => ∃ (t3 : Option V) (kvs : List (Key × V)) (l : List (Str × Rc)) (us : List V) (rs : List Tr), σ = [some (.ref a), some (.ref F), some (.ref R), t3, none, none, none, none] ∧ WSt F R H1 fs kvs l us rs Hc ∧ (0 < i → 0 < l.length)) ⟨_, [], [], [], [], rfl, ⟨B2.refl, hF1, hR1, trivial, ⟨rfl, fun i t v h => by simp at h⟩, WIv.nil⟩, fun h => absurd h (by decide)⟩ ?_ ?_⟩
      · rintro i σ Hc hi ⟨t3, kvs, l, us, rs, rfl, st, hl⟩
        refine gName_k ?_
        try dsimp only
        have hx : ws[i]? = some (ws[i]'hi) := List.getElem?_eq_getElem hi
        have hf : fs[i]? = some (fs[i]'(by omega)) := List.getElem?_eq_getElem (by omega)
        have it := (hts1.get i _ _ hf hx).mono (st.b.kp (C := 0) hF1 hR1)
        have htm := List.mem_of_getElem? hf
        obtain ⟨w1, w2⟩ := wf _ htm
        have hta := allOf_base fs _ htm
        have ea : atI ws (0 + (i : Int)) = some (ws[i]'hi) := at_of (j := i) (by omega) hx
        generalize fs[i]'(by omega) = t at it w1 w2 hta htm
        generalize ws[i]'hi = v at it ea
        have hac := st.b _ _ nFa nRa ha1
        refine ⟨_, rfl, _, rfl, a, _, _, _, rfl, rfl, SqL.of hac, ea, _, t, rfl, it, w1, w2, d12, fun H2 s2 => ⟨_, rfl, F, _, rfl, DGet.k (k := .inr (textOf t)) (s2 _ _ st.hF), _, rfl, ?_⟩⟩
        have st2 := st.same s2
        have it2 := it.same s2
        cases el : lookG l (textOf t) with
        | some r =>
          obtain ⟨v0, e0, _⟩ := (st2.al.look (x := textOf t)).1 r el
          rw [e0]
          refine iteN (by simp) ?_
          exact ⟨_, kvs, l, us, rs, rfl, st2, fun _ => List.length_pos_of_mem (lookG_mem el)⟩
        | none =>
          have hv0 := (st2.al.look (x := textOf t)).2 el
          rw [hv0]
          refine iteP (by simp) ?_
          have hl1 := st.iv.len
          have hl2 := st.iv.le
          have hl3 := st.al.len
          have hl4 := st.at_.len
          refine ⟨_, rfl, (by show 2 ≤ sizeLine; decide), fun q hq => ?_⟩
          have sq := Rd.Same.upd (o := .tup [.str "at", .int (0 + (i : Int))]) hq
          have hq1 : upd H2 q (.tup [.str "at", .int (0 + (i : Int))]) q = some (.tup [.str "at", .int (0 + (i : Int))]) := upd_same
          generalize upd H2 q (.tup [.str "at", .int (0 + (i : Int))]) = H3 at sq hq1 ⊢
          have st3 := st2.same sq
          have it3 := it2.same sq
          refine ⟨_, rfl, _, rfl, _, rfl, a, _, _, _, rfl, rfl, SqL.of (st3.b _ _ nFa nRa ha1), ea, _, t, rfl, it3, w1, w2, d12, fun H4 s4 => ⟨F, _, rfl, DPut.k (k := .inr (textOf t)) (s4 _ _ st3.hF) (by omega), ?_⟩⟩
          rw [putK_new _ hv0]
          have st4 := st3.same s4
          have st5 := st4.put ne (it3.same s4) (show IsR H4 (.at_ (0 + (i : Int))) (.ref q) from ⟨q, rfl, s4 _ _ hq1⟩) trivial hta el
          have hRx : upd H4 F (.dK (kvs ++ [(.inr (textOf t), .ref q)])) R = some (.lst us) := by rw [upd_ne (Ne.symm ne)]; exact st4.hR
          have hax : upd H4 F (.dK (kvs ++ [(.inr (textOf t), .ref q)])) a = some (.lst ws) := by rw [upd_ne nFa]; exact st4.b _ _ nFa nRa ha1
          refine ⟨_, rfl, .inl ⟨rfl, _, SqL.of hRx⟩, _, rfl, _, rfl, a, _, _, _, rfl, rfl, SqL.of hax, ea, R, us, v, rfl, rfl, hRx, (by omega), ?_⟩
          exact ⟨_, _, _, _, _, rfl, st5, fun _ => by simp⟩
      · rintro σ Hc ⟨t3, kvs, l, us, rs, rfl, st, hl⟩
        exact hK _ _ ⟨_, _, _, _, _, rfl, st, hl (by omega)⟩
    rintro σ' Hc ⟨t3, kvs, l, us, rs, rfl, st, hl⟩
    try dsimp only
    have wfa : ∀ t ∈ allOf fs, Wf t ∧ t.dep ≤ d := fun t ht => by
      obtain ⟨u, hu, h3⟩ := List.mem_flatMap.mp ht
      obtain ⟨a1, a2⟩ := wf u hu
      obtain ⟨b1, b2⟩ := all_wf a1 t h3
      exact ⟨b1, by omega⟩
    have suba : ∀ t ∈ allOf fs, ∀ u ∈ t.all, u ∈ allOf fs := fun t ht u hu => by
      obtain ⟨z, hz, h3⟩ := List.mem_flatMap.mp ht
      exact List.mem_flatMap.mpr ⟨z, hz, all_trans h3 hu⟩
    refine seqAsg ?_
    refine gName_k ?_
    try dsimp only
    refine seqJoin (fun σ' Hc => ∃ (t3 t4 t5 t6 t7 : Option V) (kvs : List (Key × V)) (l : List (Str × Rc)) (us : List V) (rs : List Tr), σ' = [some (.ref a), some (.ref F), some (.ref R), t3, t4, t5, t6, t7] ∧ WSt F R H1 fs kvs l us rs Hc ∧ 0 < l.length) (fun KK hK => ?_) ?_
    · refine ⟨fun m σ Hc => ∃ (n : Nat) (t3 t5 t6 t7 : Option V) (kvs : List (Key × V)) (l : List (Str × Rc)) (us : List V) (rs : List Tr), σ = [some (.ref a), some (.ref F), some (.ref R), t3, some (.int (n : Int)), t5, t6, t7] ∧ WSt F R H1 fs kvs l us rs Hc ∧ 0 < l.length ∧ n ≤ rs.length ∧ m = (allOf fs).length - n, ⟨_, 0, _, _, _, _, kvs, l, us, rs, rfl, st, hl, Nat.zero_le _, rfl⟩, ?_⟩
      clear st hl
      rintro m σ Hc ⟨n, t3, t5, t6, t7, kvs, l, us, rs, rfl, st, hl, hn, rfl⟩
      have hl1 := st.iv.len
      have hl2 := st.iv.le
      have hl4 := st.at_.len
      refine ⟨_, rfl, _, rfl, R, us, rfl, .inl (SqL.of st.hR), _, _, rfl, rfl, _, rfl, ite2 (fun hlt => ?_) (fun hlt => hK _ _ ⟨_, _, _, _, _, kvs, l, us, rs, rfl, st, hl⟩)⟩
      have hlt : n < us.length := by have := of_decide_eq_true hlt; omega
      refine ⟨fun σ' H' => ∃ (t3 t5 t6 t7 : Option V) (kvs' : List (Key × V)) (l' : List (Str × Rc)) (us' : List V) (rs' : List Tr), σ' = [some (.ref a), some (.ref F), some (.ref R), t3, some (.int (us.length : Nat)), t5, t6, t7] ∧ WSt F R H1 fs kvs' l' us' rs' H' ∧ 0 < l'.length ∧ us.length ≤ rs'.length, fun σ' H' ⟨t3, t5, t6, t7, kvs', l', us', rs', e1, e2, e3, e4⟩ => ⟨(allOf fs).length - us.length, by omega, us.length, t3, t5, t6, t7, kvs', l', us', rs', e1, e2, e3, e4, rfl⟩, ?_⟩
      refine seqAsg ⟨_, rfl, R, us, rfl, .inl (SqL.of st.hR), ?_⟩
      refine gName_k ?_
      try dsimp only
      refine ⟨_, rfl, R, us, rfl, .inl (SqL.of st.hR), fun D hD => ⟨D, rfl, ⟨_, SqL.of upd_same⟩, ?_⟩⟩
      have nDF : D ≠ F := fun z => by rw [z, st.hF] at hD; cases hD
      have nDR : D ≠ R := fun z => by rw [z, st.hR] at hD; cases hD
      have sD := Rd.Same.upd (o := .lst us) hD
      have hD1 : upd Hc D (.lst us) D = some (.lst us) := upd_same
      have st3 := st.same sD
      generalize upd Hc D (.lst us) = H3 at sD hD1 st3 ⊢
      refine for_list (xs := us) (fun i σ' H' => ∃ (t5 t6 t7 : Option V) (kvs' : List (Key × V)) (l' : List (Str × Rc)) (us' : List V) (rs' : List Tr), σ' = [some (.ref a), some (.ref F), some (.ref R), t3, some (.int (us.length : Nat)), t5, t6, t7] ∧ WSt F R H3 fs kvs' l' us' rs' H' ∧ 0 < l'.length ∧ us.length ≤ rs'.length ∧ ∀ t ∈ rs, t ∈ rs') ⟨_, _, _, kvs, l, us, rs, rfl, ⟨B2.refl, st3.hF, st3.hR, st3.al, st3.at_, st3.iv⟩, hl, by omega, fun t h => h⟩ ?_ ?_ ?_
      · rintro i σ' H' hi ⟨_, _, _, _, _, _, _, _, s', _⟩
        exact SqL.of (s'.b _ _ nDF nDR hD1)
      · rintro i x σ' H4 hx ⟨t5, t6, t7, kvs', l', us', rs', rfl, st4, hl', hle, hsub⟩
        refine gName_k ?_
        try dsimp only
        have hil := (List.getElem?_eq_some_iff.mp hx).1
        have ht : rs[i]? = some (rs[i]'(by omega)) := List.getElem?_eq_getElem (by omega)
        have it := (st3.at_.get i _ _ ht hx).mono (st4.b.kp (C := 0) st3.hF st3.hR)
        have htm := List.mem_of_getElem? ht
        generalize rs[i]'(by omega) = t at it htm
        obtain ⟨w1, w2⟩ := wfa t (st.iv.sub t htm)
        obtain ⟨r, er, okr⟩ := st4.iv.has (hsub t htm)
        obtain ⟨v0, e0, ir0⟩ := (st4.al.look (x := textOf t)).1 r er
        refine ⟨_, rfl, _, rfl, _, rfl, _, t, rfl, it, w1, w2, d12, fun H5 s5 => ⟨F, _, rfl, (by rw [← e0]; exact DGet.k (k := .inr (textOf t)) (s5 _ _ st4.hF)), _, rfl, x, v0, F, t, r, l', kvs', rfl, it.same s5, w1, w2, d12, ir0.same s5, okr, s5 _ _ st4.hF, st4.al.mono (fun t v h => h.same s5), st4.iv.ok, fun q ps os H6 s6 nq hq hps hlen hos => ⟨q, rfl, ⟨_, SqL.of hq⟩, ?_⟩⟩⟩
        have st6 := st4.same (s5.trans s6)
        have nqF : q ≠ F := fun z => by rw [z, s5 _ _ st4.hF] at nq; cases nq
        have nqR : q ≠ R := fun z => by rw [z, s5 _ _ st4.hR] at nq; cases nq
        have hpl := hps.len
        refine for_list (xs := ps) (fun j σ' H' => ∃ (t6 t7 : Option V) (kvs2 : List (Key × V)) (l2 : List (Str × Rc)) (us2 : List V) (rs2 : List Tr), σ' = [some (.ref a), some (.ref F), some (.ref R), t3, some (.int (us.length : Nat)), some x, t6, t7] ∧ WSt F R H6 fs kvs2 l2 us2 rs2 H' ∧ 0 < l2.length ∧ us.length ≤ rs2.length ∧ ∀ t ∈ rs, t ∈ rs2) ⟨_, _, kvs', l', us', rs', rfl, ⟨B2.refl, st6.hF, st6.hR, st6.al, st6.at_, st6.iv⟩, hl', hle, hsub⟩ ?_ ?_ ?_
        · rintro j σ' H' hj ⟨_, _, _, _, _, _, _, s', _⟩
          exact SqL.of (s'.b _ _ nqF nqR hq)
        · rintro j y σ' H7 hy ⟨t6, t7, kvs2, l2, us2, rs2, rfl, st7, hl2', hle2, hsub2⟩
          have hjl := (List.getElem?_eq_some_iff.mp hy).1
          have ho : os[j]? = some (os[j]'(by omega)) := List.getElem?_eq_getElem (by omega)
          obtain ⟨pq, u, rv, rfl, hpq, iu, iv⟩ := (hps.get j _ _ ho hy).mono (st7.b.kp (C := 0) st6.hF st6.hR)
          obtain ⟨hsm, okp⟩ := hos _ (List.mem_of_getElem? ho)
          have hta := suba t (st.iv.sub t htm) _ hsm
          generalize os[j]'(by omega) = pr at iu iv okp hta
          obtain ⟨t2, r2⟩ := pr
          obtain ⟨w3, w4⟩ := wfa t2 hta
          have iu : IsT H7 t2 u := iu
          have iv : IsR H7 r2 rv := iv
          have okp : RcOk r2 := okp
          refine ⟨pq, _, rfl, SqT.of hpq, rfl, _, _, rfl, _, _, rfl, rfl, ?_⟩
          try dsimp only
          refine ⟨_, rfl, _, t2, rfl, iu, w3, w4, d12, fun H8 s8 => ⟨_, rfl, F, _, rfl, DGet.k (k := .inr (textOf t2)) (s8 _ _ st7.hF), _, rfl, ?_⟩⟩
          have st8 := st7.same s8
          cases el : lookG l2 (textOf t2) with
          | some r9 =>
            obtain ⟨v9, e9, _⟩ := (st8.al.look (x := textOf t2)).1 r9 el
            rw [e9]
            refine iteN (by simp) ?_
            exact ⟨_, _, kvs2, l2, us2, rs2, rfl, st8, hl2', hle2, hsub2⟩
          | none =>
            have hv0 := (st8.al.look (x := textOf t2)).2 el
            rw [hv0]
            refine iteP (by simp) ?_
            have hk1 := st7.iv.len
            have hk2 := st7.iv.le
            have hk3 := st7.al.len
            have hk4 := st7.at_.len
            refine ⟨_, rfl, _, rfl, _, rfl, _, t2, rfl, iu.same s8, w3, w4, d12, fun H9 s9 => ⟨F, _, rfl, DPut.k (k := .inr (textOf t2)) (s9 _ _ st8.hF) (by omega), ?_⟩⟩
            rw [putK_new _ hv0]
            have st9 := st8.same s9
            have st10 := st9.put ne (iu.same (s8.trans s9)) (iv.same (s8.trans s9)) okp hta el
            have hRx : upd H9 F (.dK (kvs2 ++ [(.inr (textOf t2), rv)])) R = some (.lst us2) := by rw [upd_ne (Ne.symm ne)]; exact st9.hR
            refine ⟨_, rfl, .inl ⟨rfl, _, SqL.of hRx⟩, _, rfl, R, us2, _, rfl, rfl, hRx, (by omega), ?_⟩
            exact ⟨_, _, _, _, _, _, rfl, st10, by simp, by rw [List.length_append]; omega, fun z hz => List.mem_append_left _ (hsub2 z hz)⟩
        · rintro σ' H7 ⟨t6, t7, kvs2, l2, us2, rs2, rfl, st7, hl2', hle2, hsub2⟩
          exact ⟨_, _, _, kvs2, l2, us2, rs2, rfl, ⟨(st4.b.same (s5.trans s6)).trans st7.b, st7.hF, st7.hR, st7.al, st7.at_, st7.iv⟩, hl2', hle2, hsub2⟩
      · rintro σ' H4 ⟨t5, t6, t7, kvs', l', us', rs', rfl, st4, hl', hle, hsub⟩
        exact ⟨_, _, _, _, kvs', l', us', rs', rfl, ⟨(st.b.same sD).trans st4.b, st4.hF, st4.hR, st4.al, st4.at_, st4.iv⟩, hl', hle⟩
    rintro σ' Hc ⟨t3, t4, t5, t6, t7, kvs, l, us, rs, rfl, st, hl⟩
    refine ⟨_, rfl, k F kvs l Hc (fun c o e => st.b _ _ (ne_of_none e hF) (ne_of_none e nRH) (S1 _ _ e)) hF st.hF st.al st.iv.ok hl (by have := st.iv.len; have := st.iv.le; omega) st.iv.nd⟩
end
end Rd
namespace Rd
open PySem L2
/-- a list against an empty one -/
def rNeNil (_ : PySem.W.Frag) : R2 := fun x y H Q => ∃ a b xs, x = .ref a ∧ y = .ref b ∧ H a = some (.lst xs) ∧ H b = some (.lst []) ∧ Q (.bl (!xs.isEmpty)) H
theorem op_neNil {X : Cx} (hu0 : X.A.units + 500 < cLine) : OpR X (compareOp .NotEq) (rNeNil X.K) := by
  have hu : X.A.units < cLine := by omega
  intro pins s σ H x y v u Q I rx ry h
  obtain ⟨l, b, xs, rfl, rfl, hH, hB, q⟩ := h
  cases rx
  cases ry
  obtain ⟨z, its, n, r, hl, e⟩ := I.lstM hH
  obtain ⟨z2, its2, n2, r2, hl2, e2⟩ := I.lstM hB
  have h1 : s.heap.IsList l its.toArray := ⟨_, e, rfl, _, rfl⟩
  have h2 : s.heap.IsList b its2.toArray := ⟨_, e2, rfl, _, rfl⟩
  have z2 : its2 = [] := List.eq_nil_of_length_eq_zero (by simpa using hl2.symm)
  subst z2
  cases xs with
  | nil =>
    have z1 : its = [] := List.eq_nil_of_length_eq_zero (by simpa using hl.symm)
    subst z1
    exact PySem.SeqAt.RcNeAt.lists (e := fun _ => true) h1 h2 rfl hu (fun j j1 _ => absurd j1 (by simp)) _ _ _ _ ⟨.bl false, H, I, rfl, q⟩
  | cons y ys =>
    have z1 : 0 < its.length := by rw [← hl]; exact Nat.succ_pos _
    refine PySem.SeqAt.RcNeAt.lists_lengths h1 h2 ?_ hu _ _ _ _ ⟨.bl true, H, I, rfl, q⟩
    simp only [List.size_toArray, bne_iff_ne, List.length_nil]
    omega
theorem walkT {K : PySem.W.Frag} {a : Addr} {xs : List V} {GG : V → Hp → (Hp → Prop) → Prop} {H0 : Hp} {Qd : Hp → Prop} (Pv : Nat → Hp → Prop) (h0 : Pv 0 H0) (hl : ∀ i H, i ≤ xs.length → Pv i H → SqT K H a xs) (hs : ∀ i x H, xs[i]? = some x → Pv i H → GG x H (Pv (i + 1))) (hd : ∀ H, Pv xs.length H → Qd H) :
    ∃ W : Nat → Nat → Hp → Prop, (∃ m, W 0 m H0) ∧ ∀ i m H, W i m H →
      ((Itt K a).stop i H ∧ Qd H) ∨ ((Itt K a).go i H ∧ ∃ Nx : Hp → Prop, (∀ H', Nx H' → ∃ m', m' < m ∧ W (i + 1) m' H') ∧ ∀ x H', (Itt K a).yld i H x H' → GG x H' Nx) := by
  refine ⟨fun i m H => m = xs.length - i ∧ i ≤ xs.length ∧ Pv i H, ⟨xs.length, by simp, Nat.zero_le _, h0⟩, ?_⟩
  rintro i m H ⟨rfl, hi, p⟩
  have q := hl i H hi p
  by_cases hlt : i < xs.length
  · refine .inr ⟨⟨xs, xs[i], q, by simp [hlt]⟩, Pv (i + 1), fun H' p' => ⟨xs.length - (i + 1), by omega, rfl, hlt, p'⟩, fun x H' y => ?_⟩
    obtain ⟨e, y⟩ := y
    subst e
    exact hs i x _ (y xs q) p
  · have e : i = xs.length := by omega
    subst e
    exact .inl ⟨⟨xs, q, Nat.le_refl _⟩, hd H p⟩
/-- [te for x in a tuple if tt] -/
theorem lcgT {α β : Type} {K : PySem.W.Frag} {C a D : Addr} {xs : List V} {ds : List α} {R : Hp → β → V → Prop} {tt : TT} {te : TE} {i0 : Nat} {σ : St} {H1 : Hp} {Qd : Hp → Prop} (p : α → Bool) (g : α → β) (rm : ∀ H H' b v, Kp C H H' → R H b v → R H' b v) (hS : SqT K H1 a xs) (he : xs.length = ds.length) (hl : xs.length ≤ 100000) (hD : H1 D = none)
    (htt : ∀ (i : Nat) (x : V) (d : α) (H : Hp) (Q : Bool → Hp → Prop), xs[i]? = some x → ds[i]? = some d → Same H1 H → (∀ H', Same H H' → Q (p d) H') → tt ((wipe σ [i0]).set i0 (some x)) H Q)
    (hte : ∀ (i : Nat) (x : V) (d : α) (H : Hp) (Q : VK), xs[i]? = some x → ds[i]? = some d → p d = true → Same H1 H → (∀ v H', Same H H' → R H' (g d) v → Q v H') → te ((wipe σ [i0]).set i0 (some x)) H Q)
    (hq : ∀ vs H', Same H1 H' → H' D = some (.lst vs) → AtL R H' ((ds.filter p).map g) vs → Qd H') :
    ∃ W : Nat → Nat → Hp → Prop, (∃ m, W 0 m (L2.upd H1 D (.lst []))) ∧ ∀ i m H, W i m H →
      ((Itt K a).stop i H ∧ Qd H) ∨ ((Itt K a).go i H ∧ ∃ Nx : Hp → Prop, (∀ H', Nx H' → ∃ m', m' < m ∧ W (i + 1) m' H') ∧ ∀ x H', (Itt K a).yld i H x H' → gName i0 x (wipe σ [i0]) H' fun σ2 H2 => wipe σ2 [i0] = wipe σ [i0] ∧ tt σ2 H2 fun b H3 =>
        if b = true then te σ2 H3 fun y H4 => ∃ acc, H4 D = some (.lst acc) ∧ acc.length < sizeLine ∧ Nx (L2.upd H4 D (.lst (acc ++ [y]))) else Nx H3) := by
  refine walkT (K := K) (a := a) (xs := xs) (fun i H => ∃ vs, Same H1 H ∧ H D = some (.lst vs) ∧ AtL R H (((ds.take i).filter p).map g) vs) ⟨[], Rd.Same.upd hD, upd_same, AtL.nil⟩ (fun i H _ ⟨_, s, _⟩ => SqT.kept hS s) ?_ ?_
  · rintro i x H hx ⟨vs, sm, hd, hv⟩
    have hlt := (List.getElem?_eq_some_iff.mp hx).1
    have ht : ds[i]? = some ds[i] := List.getElem?_eq_getElem (by omega)
    have etk : ds.take (i + 1) = ds.take i ++ [ds[i]] := by rw [List.take_succ, ht]; rfl
    refine gName_k ⟨by simp [wipe], ?_⟩
    refine htt i x _ H _ hx ht sm fun H2 s2 => ?_
    cases ep : p ds[i] with
    | false =>
      refine iteF ⟨vs, sm.trans s2, s2 _ _ hd, ?_⟩
      rw [etk, List.filter_append, List.filter_cons_of_neg (by rw [ep]; decide), List.filter_nil, List.append_nil]
      exact hv.mp fun r v h => rm _ _ _ _ (Kp.of_same s2) h
    | true =>
      refine iteT (hte i x _ H2 _ hx ht ep (sm.trans s2) fun v H3 s3 h3 => ?_)
      have hD3 := s3 _ _ (s2 _ _ hd)
      have kp := Kp.upd_lst (C := C) (ys := vs ++ [v]) hD3
      have hvl := hv.len
      have hfl : (((ds.take i).filter p).map g).length ≤ i := by
        rw [List.length_map]
        refine Nat.le_trans (List.length_filter_le _ _) ?_
        rw [List.length_take]
        omega
      have big : 16777216 ≤ sizeLine := by decide
      refine ⟨vs, hD3, by omega, vs ++ [v], fun c o e => ?_, upd_same, ?_⟩
      · rw [upd_ne (ne_of_none e hD)]
        exact s3 _ _ (s2 _ _ (sm _ _ e))
      · rw [etk, List.filter_append, List.filter_cons_of_pos ep, List.filter_nil, List.map_append]
        exact (hv.mp fun r v h => rm _ _ _ _ ((Kp.of_same (s2.trans s3)).trans kp) h).snoc (rm _ _ _ _ kp h3)
  · rintro H ⟨vs, sm, hd, hv⟩
    rw [he, List.take_length] at hv
    exact hq vs H sm hd hv
/-- with other forms in the atoms' place -/
structure FoW (e d : Nat) (t : Tr) : Prop where
  wf : Wf t
  dep : t.dep ≤ e + 2 * d
theorem FoC.w (e : Nat) : FoC (FoW e) := ⟨fun {d s a} hs h => ⟨.un hs h.wf, by show a.dep + 1 ≤ e + 2 * (d + 1); have := h.dep; omega⟩,
  fun {d s a b} hs h g => ⟨.bi hs h.wf g.wf, by show max a.dep b.dep + 1 ≤ e + 2 * (d + 1); have := h.dep; have := g.dep; omega⟩,
  fun {d s a b} hs h g => ⟨.lk hs h.wf g.wf, by show max a.dep (b.dep + 1) + 1 ≤ e + 2 * (d + 1); have := h.dep; have := g.dep; omega⟩⟩
end Rd
namespace Rd
open PySem L2
theorem call_isiX {X : Cx} {K : PySem.W.Frag} (h : X.K = K) : CallR X (.builtin "isinstance") (rIsi K) := by
  subst h
  exact call_isi
def Rc.sz : Rc → Nat
  | .at_ _ => 1
  | .wd _ => 1
  | .un _ r => r.sz + 1
  | .bi _ r q => r.sz + q.sz + 1
theorem Rc.dp_sz : ∀ r : Rc, r.dp + 1 ≤ r.sz
  | .at_ _ => Nat.le_refl _
  | .wd _ => Nat.le_refl _
  | .un _ r => by have := Rc.dp_sz r; show r.dp + 1 + 1 ≤ r.sz + 1; omega
  | .bi _ r q => by have := Rc.dp_sz r; have := Rc.dp_sz q; show max r.dp q.dp + 1 + 1 ≤ r.sz + q.sz + 1; omega
def szR (rs : List Rc) : Nat := (rs.map Rc.sz).sum
theorem szR_app (l m : List Rc) : szR (l ++ m) = szR l + szR m := by unfold szR; rw [List.map_append, List.sum_append]
theorem sz_kids (r : Rc) : r.sz = szR r.kids + 1 := by
  cases r <;> simp [Rc.sz, Rc.kids, szR]
def Rc.els : Rc → List (Option Rc)
  | .at_ _ => [none, none]
  | .wd _ => [none, none]
  | .un _ r => [none, some r]
  | .bi _ r q => [none, some r, some q]
theorem els_kids (r : Rc) : (r.els.filter Option.isSome).map (fun o => o.getD (.wd "")) = r.kids := by
  cases r <;> rfl
def IsE (H : Hp) (o : Option Rc) (v : V) : Prop := (∃ r, o = some r ∧ IsR H r v) ∨ (o = none ∧ ((∃ s, v = .str s) ∨ ∃ k, v = .int k))
theorem IsE.same {H H' : Hp} {o : Option Rc} {v : V} (s : Same H H') (h : IsE H o v) : IsE H' o v := by
  rcases h with ⟨r, e, h⟩ | h
  · exact .inl ⟨r, e, h.same s⟩
  · exact .inr h
theorem IsR.els {H : Hp} {r : Rc} {v : V} (h : IsR H r v) : ∃ q zs, v = .ref q ∧ H q = some (.tup zs) ∧ zs.length = r.els.length ∧ zs.length ≤ 3 ∧ ∀ (i : Nat) o x, r.els[i]? = some o → zs[i]? = some x → IsE H o x := by
  cases r with
  | at_ k =>
    obtain ⟨p, rfl, hp⟩ := h
    refine ⟨p, _, rfl, hp, rfl, by simp, fun i o x h1 h2 => ?_⟩
    match i, h1, h2 with
    | 0, h1, h2 => cases h1; cases h2; exact .inr ⟨rfl, .inl ⟨_, rfl⟩⟩
    | 1, h1, h2 => cases h1; cases h2; exact .inr ⟨rfl, .inr ⟨_, rfl⟩⟩
  | wd y =>
    obtain ⟨p, rfl, hp⟩ := h
    refine ⟨p, _, rfl, hp, rfl, by simp, fun i o x h1 h2 => ?_⟩
    match i, h1, h2 with
    | 0, h1, h2 => cases h1; cases h2; exact .inr ⟨rfl, .inl ⟨_, rfl⟩⟩
    | 1, h1, h2 => cases h1; cases h2; exact .inr ⟨rfl, .inl ⟨_, rfl⟩⟩
  | un s r =>
    obtain ⟨p, u, rfl, hp, i1⟩ := h
    refine ⟨p, _, rfl, hp, rfl, by simp, fun i o x h1 h2 => ?_⟩
    match i, h1, h2 with
    | 0, h1, h2 => cases h1; cases h2; exact .inr ⟨rfl, .inl ⟨_, rfl⟩⟩
    | 1, h1, h2 => cases h1; cases h2; exact .inl ⟨_, rfl, i1⟩
  | bi s r q =>
    obtain ⟨p, u, u2, rfl, hp, i1, i2⟩ := h
    refine ⟨p, _, rfl, hp, rfl, by simp, fun i o x h1 h2 => ?_⟩
    match i, h1, h2 with
    | 0, h1, h2 => cases h1; cases h2; exact .inr ⟨rfl, .inl ⟨_, rfl⟩⟩
    | 1, h1, h2 => cases h1; cases h2; exact .inl ⟨_, rfl, i1⟩
    | 2, h1, h2 => cases h1; cases h2; exact .inl ⟨_, rfl, i2⟩
theorem isi_stup {K : PySem.W.Frag} : PySem.W.kitOne K (.type "str") (.type "tuple") = some false := isi_base (by decide +kernel)
theorem isi_itup {K : PySem.W.Frag} : PySem.W.kitOne K (.type "int") (.type "tuple") = some false := isi_base (by decide +kernel)
theorem AtL.last {α : Type} {R : Hp → α → V → Prop} {H : Hp} {l : List α} {vs : List V} (h : AtL R H l vs) (hn : vs ≠ []) : ∃ l0 a vs0 v, l = l0 ++ [a] ∧ vs = vs0 ++ [v] ∧ R H a v ∧ AtL R H l0 vs0 := by
  have hl := h.len
  obtain ⟨vs0, v, rfl⟩ : ∃ vs0 v, vs = vs0 ++ [v] := ⟨vs.dropLast, vs.getLast hn, (List.dropLast_concat_getLast hn).symm⟩
  have ln : l ≠ [] := fun e => by rw [e] at hl; simp at hl
  obtain ⟨l0, a, rfl⟩ : ∃ l0 a, l = l0 ++ [a] := ⟨l.dropLast, l.getLast ln, (List.dropLast_concat_getLast ln).symm⟩
  simp only [List.length_append, List.length_singleton] at hl
  have hl2 : vs0.length = l0.length := by omega
  refine ⟨l0, a, vs0, v, rfl, rfl, h.get l0.length a v (by simp) (by rw [← hl2]; simp), ⟨by omega, fun i d u h1 h2 => h.get i d u ?_ ?_⟩⟩
  · rw [List.getElem?_append_left (List.getElem?_eq_some_iff.mp h1).1]
    exact h1
  · rw [List.getElem?_append_left (List.getElem?_eq_some_iff.mp h2).1]
    exact h2
theorem AtL.app {β : Type} {R : Hp → β → V → Prop} {H : Hp} {bs cs : List β} {vs ws : List V} (h : AtL R H bs vs) (g : AtL R H cs ws) : AtL R H (bs ++ cs) (vs ++ ws) := ⟨by rw [List.length_append, List.length_append, h.len, g.len], fun i t v h1 h2 => by
  by_cases hi : i < bs.length
  · rw [List.getElem?_append_left hi] at h1
    rw [List.getElem?_append_left (by rw [h.len]; exact hi)] at h2
    exact h.get i t v h1 h2
  · rw [List.getElem?_append_right (by omega)] at h1
    rw [List.getElem?_append_right (by rw [h.len]; omega), h.len] at h2
    exact g.get _ t v h1 h2⟩
def sp_tuples : Sp := fun vs H Q _ => ∃ (v : V) (r : Rc), vs = [v] ∧ IsR H r v ∧ ∀ (c : Int) H', Same H H' → (c < 101 → r.dp ≤ 100) → Q (.int c) H'
section
variable {P : Program} {w : World} {K : PySem.W.Frag} {mg : Str → Option Value} {base : Heap}
abbrev s__law_tuples : Stmt := top 70
theorem sc__law_tuples : FnScope ["_law_recipe_here", "_law_waiting", "_law_count", "_law_part"] ["_law_recipe_here"] (defScope s__law_tuples) := ⟨rfl, rfl, rfl, by decide +kernel, rfl, by decide +kernel, by decide +kernel⟩
theorem ok__law_tuples (T : Tx w K mg) : Fk P w K mg base CX0 30 "_law_tuples" ["_law_recipe_here"] sp_tuples := by
  refine T.F__law_tuples.ok0 sc__law_tuples (fun _ _ _ _ _ _ us hl => match us, hl with | [_], _ => rfl)
    (fun vs H Q E h => ?_) (fun cdv A outer s H vs Q E hr h => ?_)
  · obtain ⟨v, r, rfl, _⟩ := h
    rfl
  · obtain ⟨v, r, rfl, ir, k⟩ := h
    refine ⟨_, (pss_cons (ps_par (i := 1) (j := 2) (by rfl) sc__law_tuples.nd rfl rfl (by decide) rfl rfl (pa_cons (pe_lst (pa_cons (pv 0) pa_nil)) (pa_cons pe_int pa_nil)) (by rfl))
  (pss_cons (ps_while PassesOwn.never (PW.pt (pw_and (pt_cmpR (op_neNil (units500 hr (by omega))) (pv 1) (pe_lst pa_nil) (nomark _)) (pw_and1 (pt_cmpR op_lt (pv 2) pe_int (nomark _)))))
  (pss_cons (ps_set (i := 2) sc__law_tuples.nd rfl (Or.inl rfl) (pe_op op_add (pv 2) pe_int))
  (pss_one (ps_expr (pe_bm PySem.F.plainAttrs_list PySem.F.slot_list_extend PySem.F.type_list_extend mt_extend (pv 1) (pa_cons (pe_lc (own := [("_law_part", 3)]) (g := gName 3)  (by rfl) sc__law_tuples.nd (pi_tup (pe_bm0 PySem.F.plainAttrs_list PySem.F.slot_list_pop PySem.F.type_list_pop mt_pop (pv 1))) (blkOk_by (own := [("_law_part", 3)]) (N := ["_law_recipe_here", "_law_waiting", "_law_count", "_law_part"]) (sc := defScope s__law_tuples) (by decide +kernel)) (fun _ _ _ _ _ => (pg_name (i := 3) sc__law_tuples.nd rfl (Or.inl rfl))) (fun _ _ _ _ _ => (pts_one (pt_val (pe_callB (call_isiX (K := K) rfl) (by rfl) T.z_isinstance (by decide +kernel) (pa_cons (pv 3) (pa_cons (pe_bltn (v := .ty "tuple") (u := .type "tuple") rfl T.z_tuple (by decide +kernel) rfl) pa_nil)))))) (fun _ _ _ _ _ => (pv 3))) pa_nil))))))
  (pss_one (ps_ret (pv 2))))), ?_⟩
    have big : 16777216 ≤ sizeLine := by decide
    refine ⟨_, rfl, (by show 1 ≤ sizeLine; decide), fun p np => ⟨_, _, rfl, ?_⟩⟩
    try dsimp only
    have s1 := Rd.Same.upd (o := .lst [v]) np
    have h11 : upd H p (.lst [v]) p = some (.lst [v]) := upd_same
    generalize upd H p (.lst [v]) = H1 at s1 h11 ⊢
    have ir1 := ir.same s1
    refine seqJoin (fun σ' Hc => ∃ (n : Nat) (t3 : Option V), σ' = [some v, some (.ref p), some (.int (n : Int)), t3] ∧ Same H Hc ∧ ((n : Int) < 101 → r.dp ≤ 100)) (fun KK hK => ?_) ?_
    · refine ⟨fun m σ Hc => ∃ (n : Nat) (t3 : Option V) (ws : List V) (rs : List Rc), σ = [some v, some (.ref p), some (.int (n : Int)), t3] ∧ Same H Hc ∧ Hc p = some (.lst ws) ∧ AtL IsR Hc rs ws ∧ n + szR rs = r.sz ∧ ws.length ≤ n + 1 ∧ n ≤ 101 ∧ m = szR rs, ⟨_, 0, _, [v], [r], rfl, s1, h11, ?_, ?_, Nat.le_refl _, (by decide), rfl⟩, ?_⟩
      · exact ⟨rfl, fun i d u h1 h2 => by
          cases i with
          | zero => cases h1; cases h2; exact ir1
          | succ i => cases h1⟩
      · simp [szR]
      · rintro m σ Hc ⟨n, t3, ws, rs, rfl, sc, hpc, hrs, hsz, hwl, hn, rfl⟩
        have hrl := hrs.len
        refine ⟨_, rfl, Nat.zero_le _, fun q hq => ⟨p, q, ws, rfl, rfl, (Rd.Same.upd hq) _ _ hpc, upd_same, _, rfl, ?_⟩⟩
        have sq := Rd.Same.upd (o := .lst []) hq
        generalize upd Hc q (.lst []) = H2 at sq ⊢
        have S2 := sc.trans sq
        have hp2 := sq _ _ hpc
        have rs2 : AtL IsR H2 rs ws := hrs.mp fun r v h => h.same sq
        cases hws : ws.isEmpty with
        | true =>
          have e0 : ws = [] := List.isEmpty_iff.mp hws
          subst e0
          have e1 : rs = [] := List.eq_nil_of_length_eq_zero hrl.symm
          subst e1
          refine iteN (by decide) ?_
          refine iteN (by decide) ?_
          refine hK _ _ ⟨n, _, rfl, S2, fun hlt => ?_⟩
          have := r.dp_sz
          have : szR [] = 0 := rfl
          omega
        | false =>
          refine iteP (by decide) ?_
          refine ⟨_, rfl, _, _, rfl, rfl, _, rfl, ite2 (fun hlt => ?_) (fun hlt => ?_)⟩
          · have hlt : n < 101 := by have := of_decide_eq_true hlt; omega
            have hne : ws ≠ [] := fun e => by rw [e] at hws; cases hws
            obtain ⟨rs0, r1, ws0, y, rfl, rfl, ir1, rs0h⟩ := rs2.last hne
            rw [szR_app] at hsz
            have e1 : szR [r1] = r1.sz := by simp [szR]
            rw [List.length_append, List.length_singleton] at hwl
            refine ⟨fun σ Hc => ∃ (t3 : Option V) (ws : List V) (rs : List Rc), σ = [some v, some (.ref p), some (.int ((n + 1 : Nat) : Int)), t3] ∧ Same H Hc ∧ Hc p = some (.lst ws) ∧ AtL IsR Hc rs ws ∧ (n + 1) + szR rs = r.sz ∧ ws.length ≤ n + 2, fun σ' H' ⟨t3, ws, rs, e1, e2, e3, e4, e5, e6⟩ => ⟨szR rs, by rw [szR_app]; omega, n + 1, t3, ws, rs, e1, e2, e3, e4, e5, e6, by omega, rfl⟩, ?_⟩
            refine seqAsg ⟨_, rfl, _, _, rfl, rfl, ?_⟩
            refine gName_k ?_
            try dsimp only
            obtain ⟨q1, zs, rfl, hq1, hzl, hz3, hze⟩ := ir1.els
            have kp1 := Kp.upd_lst (C := 0) (ys := ws0) hp2
            refine ⟨_, rfl, .inl ⟨rfl, _, SqL.of hp2⟩, _, rfl, .inl ⟨rfl, _, SqL.of hp2⟩, p, _, .ref q1, rfl, rfl, hp2, (by simp), ?_⟩
            rw [List.dropLast_concat]
            have hq3 : upd H2 p (.lst ws0) q1 = some (.tup zs) := kp1 _ _ rfl hq1
            have hp3 : upd H2 p (.lst ws0) p = some (.lst ws0) := upd_same
            have ir3 := ir1.mono kp1
            have rs3 : AtL IsR (upd H2 p (.lst ws0)) rs0 ws0 := rs0h.mp fun r v h => h.mono kp1
            have S3 : Same H (upd H2 p (.lst ws0)) := fun c o e => by rw [upd_ne (ne_of_none e np)]; exact S2 _ _ e
            have hze3 : ∀ (i : Nat) o x, r1.els[i]? = some o → zs[i]? = some x → IsE (upd H2 p (.lst ws0)) o x := fun i o x h1 h2 => by
              rcases hze i o x h1 h2 with ⟨r, e, h⟩ | h
              · exact .inl ⟨r, e, h.mono kp1⟩
              · exact .inr h
            generalize upd H2 p (.lst ws0) = H3 at hq3 hp3 ir3 rs3 S3 hze3 ⊢
            refine ⟨q1, rfl, ⟨_, SqT.of hq3⟩, fun D hD => ?_⟩
            refine lcgT (C := 0) (R := IsR) (ds := r1.els) Option.isSome (fun o => o.getD (.wd "")) (fun _ _ _ _ kp h => h.mono kp) (SqT.of hq3) hzl (by omega) hD (fun i x d H4 Q4 hx hd s4 k4 => ?_) (fun i x d H4 Q4 hx hd hp4 s4 k4 => ?_) fun vs H4 s4 hD4 hvs => ?_
            · rcases (hze3 i d x hd hx).same s4 with ⟨r', rfl, ir'⟩ | ⟨rfl, ⟨z, rfl⟩ | ⟨z, rfl⟩⟩
              · obtain ⟨pf, us, rfl, hpf⟩ := ir'.hd
                exact ⟨_, rfl, _, .ty "tuple", _, _, _, rfl, .ty "tuple", .base (.tup hpf), isi_tup, _, rfl, k4 _ (Same.refl _)⟩
              · exact ⟨_, rfl, _, .ty "tuple", _, _, _, rfl, .ty "tuple", .base (.str _), isi_stup, _, rfl, k4 _ (Same.refl _)⟩
              · exact ⟨_, rfl, _, .ty "tuple", _, _, _, rfl, .ty "tuple", .base (.int _), isi_itup, _, rfl, k4 _ (Same.refl _)⟩
            · rcases (hze3 i d x hd hx).same s4 with ⟨r', rfl, ir'⟩ | ⟨rfl, _⟩
              · exact ⟨_, rfl, k4 _ _ (Same.refl _) ir'⟩
              · cases hp4
            · rw [els_kids] at hvs
              have hvl := hvs.len
              have hk2 : r1.kids.length ≤ 2 := by cases r1 <;> simp [Rc.kids]
              refine ⟨p, D, ws0, vs, rfl, rfl, s4 _ _ hp3, hD4, (by omega), ?_⟩
              have kp5 := Kp.upd_lst (C := 0) (ys := ws0 ++ vs) (s4 _ _ hp3)
              refine ⟨_, ws0 ++ vs, rs0 ++ r1.kids, rfl, fun c o e => ?_, upd_same, ?_, ?_, ?_⟩
              · rw [upd_ne (ne_of_none e np)]
                exact s4 _ _ (S3 _ _ e)
              · exact (rs3.mp fun r v h => (h.same s4).mono kp5).app (hvs.mp fun r v h => h.mono kp5)
              · rw [szR_app]
                have := sz_kids r1
                omega
              · rw [List.length_append]
                omega
          · refine hK _ _ ⟨n, _, rfl, S2, fun h => absurd h ?_⟩
            have := of_decide_eq_false (by simpa using hlt : decide ((n : Int) < 101) = false)
            exact this
    · rintro σ' Hc ⟨n, t3, rfl, sc, hb⟩
      exact ⟨_, rfl, k _ _ sc hb⟩
end
end Rd
namespace Rd
open PySem L2
section
variable {X : Cx} {CX : CXT} {k : Nat} {ps : List Str} {sp : Sp} {E : St → XK} {x c m : Str} {p pos apos : Pos} {e o : Expr} {es : List Expr} {t : TA} {ta : TE}
/-- a method of one's own, called in a try's body -/
theorem pe_fmS {pl : Sem Bool} (he : PE X o ta) (cl : Cls X.K (He.ga X.K c)) (F : Fm X.prog X.w X.K X.mg X.base CX k c m ps sp) (hr : Room k X.A) (hx : ∀ σ, PassesAt CX X σ (E σ)) (ha : PA X (e :: es) t)
    (hst : starEach (e :: es) X.env = (false, eval e X.env) :: starEach es X.env := by rfl) (hpl : (backTo pos (starEach es X.env)).any (·.1) = false := by rfl)
    (ht : eval (.Call (.Attribute o m apos) (e :: es) [] pos) X.env = (do
      let ov ← eval o X.env
      standAt apos.atName
      let (f, first) ← holding [ov] (getMethod ov m pl)
      callWith pos f first (backTo pos (starEach (e :: es) X.env)) (backToKw pos (keywordEach [] X.env))) := by rfl) :
    PE X (.Call (.Attribute o m apos) (e :: es) [] pos) (tMethS (He.ga X.K c) m sp E ta t) := by
  obtain ⟨⟨fd, f1, b1⟩, me⟩ := F
  refine ⟨fun pins s σ H Q I h => ?_⟩
  refine PySem.W.methodCall_KW (pl := pl) (thn (he.run pins s σ H _ I h) fun u s1 ⟨x, H1, I1, rx, a, dx, fs, ex, ea, l, q⟩ => ?_) ht
  subst ex
  obtain rfl : u = Value.ref a := rx
  refine getmeth_ok I1 ea cl me l ?_
  refine PySem.W.callWith_K (first := [.ref a]) (h₀ := X.base) I.ok.mod.kin me.kp (thn (ha.run pos pins s1 σ H1 _ I1 q) fun us s2 ⟨vs, H2, I2, r, q2⟩ => ⟨I2.kIn, ?_⟩) hst hpl
  exact run_fnS (us := .ref a :: us) (vs := .ref a :: vs) f1 hr b1 (hx σ) I2 (.cons rfl r) q2
end
def sp_rtried (K : PySem.W.Frag) (n : Nat) : Sp := fun vs H Q _ => ∃ (h : Addr) (v : V) (ts : List Tr) (r : Rc), vs = [.ref h, v] ∧ IsHp K H h ts ∧ (∀ t ∈ ts, Wf t ∧ t.dep ≤ 100) ∧ ts.length ≤ 100000 ∧ IsR H r v ∧ RcOk r ∧ r.dp ≤ n ∧ n ≤ 110 ∧ ∀ q H', Same H H' → RunV ts r H' q → Q (.ref q) H'
section
variable {P : Program} {w : World} {K : PySem.W.Frag} {mg : Str → Option Value} {base : Heap}
abbrev s__law_tried : Stmt := top 71
theorem sc__law_tried : FnScope ["_law_heap_here", "_law_recipe_here", "e"] ["_law_heap_here", "_law_recipe_here"] (defScope s__law_tried) := ⟨rfl, rfl, rfl, by decide +kernel, rfl, by decide +kernel, by decide +kernel⟩
theorem ok__law_tried (T : Tx w K mg) (n : Nat) : Fk P w K mg base CX0 (n + 40) "_law_tried" ["_law_heap_here", "_law_recipe_here"] (sp_rtried K n) := by
  refine T.F__law_tried.ok0 sc__law_tried (fun _ _ _ _ _ _ us hl => match us, hl with | [_, _], _ => rfl)
    (fun vs H Q E h => ?_) (fun cdv A outer s H vs Q E hr h => ?_)
  · obtain ⟨h, v, ts, r, rfl, _⟩ := h
    rfl
  · obtain ⟨h, v, ts, r, rfl, ih, wt, hl, ir, ok, dp, n110, k⟩ := h
    refine ⟨_, (pss_cons (L2N.ps_try_as (tb := fun W => tRet (tTup (tCons (tC (.str "made")) (tCons (tMeth (He.ga K "Letter") "form" (sp_form K) [] E0 (tMethS (He.ga K "Heap") "run" (sp_hrunG K n) (WE W) (tVar 0) (tCons (tVar 1) tNil)) tNil) tNil)))) (ts := fun a cls d => tIfS (tAnd (tB (tCB (rIsX K a cls d) (tCons (tVar 2) (tCons (tC (.ref (He.ga K "NoWay"))) tNil)))) (tNot (tB (tCB (rIsXt K a cls d) (tCons (tVar 2) (tCons (tTup (tCons (tC (.ref (He.ga K "BadRecipe"))) (tCons (tC (.ref (He.ga K "BadHeap"))) tNil))) tNil)))))) (tRet (tTup (tCons (tC (.str "stuck")) (tCons (tXf a cls d (He.ga K "NoWay") "step" (tVar 2)) tNil)))) tNext) (i := 2) rfl rfl sc__law_tried.nd rfl rfl ⟨rfl, by decide, .inl T.g_RoadError⟩ takes0N (fun W pn xe tk _ => (pss_one (ps_ret (pe_tup (pa_cons pe_str (pa_cons (pe_fm0 (pe_fmS (pv 0) T.k_Heap (ok_hrunG T n) (hr.mono (by omega)) (fun σ => L2N.passAt tk σ) (pa_cons (pv 1) pa_nil)) T.k_Letter (ok_form T) (hr.mono (by omega)) pass0) pa_nil)))))) (fun a oe cls d pn hz hf => (pss_one (ps_if (PW.pt (pw_and (pt_val (pe_callB (call_isX hz.zc hf) (by rfl) T.z_isinstance (by decide +kernel) (pa_cons (pv 2) (pa_cons (pe_gcls rfl T.X_NoWay.g) pa_nil)))) (pw_and1 (pt_not (pt_val (pe_callB (call_isXt hz.zc hf) (by rfl) T.z_isinstance (by decide +kernel) (pa_cons (pv 2) (pa_cons (pe_tup (pa_cons (pe_gcls rfl T.g_BadRecipe) (pa_cons (pe_gcls rfl T.X_BadHeap.g) pa_nil))) pa_nil)))))))) (pss_one (ps_ret (pe_tup (pa_cons pe_str (pa_cons (pe_xf T.X_NoWay.xf T.X_NoWay.no hz.zc hf (pv 2)) pa_nil))))) pss_nil))))
  (pss_one (ps_ret (pe_tup (pa_cons pe_str (pa_cons pe_non pa_nil)))))), ?_⟩
    obtain ⟨dx, q, ws, hh, hq, hts⟩ := id ih
    refine ⟨_, rfl, h, dx, _, rfl, hh, rfl, _, rfl, h, v, ts, r, rfl, ih, wt, hl, ir, ok, dp, n110, fun t et x H' s' il => ?_, fun e ee d v' H' s' iv hd => ?_⟩
    · obtain ⟨x', u, ex, ⟨dl, hx'⟩, it⟩ := il
      cases ex
      exact ⟨_, dl, _, rfl, hx', rfl, _, _, rfl, ⟨dl, hx'⟩, (by show 2 ≤ sizeLine; decide), fun p hp => k p _ (s'.trans (Rd.Same.upd hp)) (.inl ⟨t, u, et, upd_same, it.same (Rd.Same.upd hp)⟩)⟩
    · refine ⟨true, T.W_NoWay.up, fun _ i' hi' => ?_, fun q => by cases q⟩
      refine ⟨_, rfl, He.ga K "NoWay", d, _, .ref (He.ga K "NoWay"), .ref (He.ga K "NoWay"), true, rfl, rfl, rfl, hd, T.W_NoWay.c, fun u hu => hu, T.W_NoWay.one, true, rfl, ?_⟩
      refine iteP rfl ?_
      refine ⟨_, rfl, (by show 2 ≤ sizeLine; decide), fun p hp => ?_⟩
      have sp := Rd.Same.upd (o := .tup [.ref (He.ga K "BadRecipe"), .ref (He.ga K "BadHeap")]) hp
      refine ⟨He.ga K "NoWay", d, p, _, [.ref (He.ga K "BadRecipe"), .ref (He.ga K "BadHeap")], [.ref (He.ga K "BadRecipe"), .ref (He.ga K "BadHeap")], false, rfl, rfl, rfl, sp _ _ hd, T.W_NoWay.c, upd_same, fun us hv => ?_, T.W_NoWay.any, false, rfl, ?_⟩
      · cases hv with
        | cons h1 hv =>
          cases hv with
          | cons h2 hv =>
            cases hv
            cases h1
            cases h2
            rfl
      · refine iteP rfl ?_
        refine ⟨_, rfl, rfl, rfl, d, _, _, rfl, sp _ _ hd, lookX _, (by show 2 ≤ sizeLine; decide), fun q2 hq2 => ?_⟩
        have s2 := Rd.Same.upd (o := .tup [.str "stuck", v']) hq2
        exact k q2 _ ((s'.trans sp).trans s2) (.inr ⟨e, v', ee, upd_same, iv.same (sp.trans s2)⟩)
end
end Rd
namespace Rd
open PySem L2
theorem rcd_dep : ∀ {r : Rc}, (rcd r).depth ≤ r.dp + 1
  | .at_ k => by show max 0 (max 0 0) + 1 ≤ 0 + 1; decide
  | .wd x => by show max 0 (max 0 0) + 1 ≤ 0 + 1; decide
  | .un s a => by
    show max 0 (max (rcd a).depth 0) + 1 ≤ a.dp + 1 + 1
    have := rcd_dep (r := a)
    omega
  | .bi s a b => by
    show max 0 (max (rcd a).depth (max (rcd b).depth 0)) + 1 ≤ max a.dp b.dp + 1 + 1
    have := rcd_dep (r := a)
    have := rcd_dep (r := b)
    omega
/-- the step that is stuck is a part of the recipe -/
theorem rcx_part {ts : List Tr} : ∀ {r : Rc}, RcOk r → ∀ {e : Rc}, rcx ts r = .inl e → RcOk e ∧ e.dp ≤ r.dp
  | .at_ k, _, e, h => by
    have h : (if 0 ≤ k then (match ts[k.toNat]? with | some t => Sum.inr t | none => .inl (Rc.at_ k)) else .inl (Rc.at_ k)) = (.inl e : Rc ⊕ Tr) := h
    have he : e = .at_ k := by
      split at h
      · split at h <;> cases h
        rfl
      · cases h
        rfl
    subst he
    exact ⟨trivial, Nat.le_refl _⟩
  | .wd x, _, e, h => by
    have h : (.inr (.am "word" x) : Rc ⊕ Tr) = .inl e := h
    cases h
  | .un s r, ok, e, h => by
    have d : (Rc.un s r).dp = r.dp + 1 := rfl
    unfold rcx at h
    cases hr : rcx ts r with
    | inl e' =>
      rw [hr] at h
      cases h
      obtain ⟨h1, h2⟩ := rcx_part (r := r) ok.2 hr
      exact ⟨h1, by omega⟩
    | inr t =>
      rw [hr] at h
      have h : (match wk1 s t with | some u => (.inr u : Rc ⊕ Tr) | none => .inl (.un s r)) = .inl e := h
      split at h <;> cases h
      exact ⟨ok, Nat.le_refl _⟩
  | .bi s r q, ok, e, h => by
    have d : (Rc.bi s r q).dp = max r.dp q.dp + 1 := rfl
    unfold rcx at h
    cases hr : rcx ts r with
    | inl e' =>
      rw [hr] at h
      cases h
      obtain ⟨h1, h2⟩ := rcx_part (r := r) ok.2.1 hr
      exact ⟨h1, by omega⟩
    | inr t =>
      rw [hr] at h
      have h : (match rcx ts q with | .inl e => (.inl e : Rc ⊕ Tr) | .inr t2 => match wk2 s t t2 with | some u => .inr u | none => .inl (.bi s r q)) = .inl e := h
      cases hq : rcx ts q with
      | inl e' =>
        rw [hq] at h
        cases h
        obtain ⟨h1, h2⟩ := rcx_part (r := q) ok.2.2 hq
        exact ⟨h1, by omega⟩
      | inr t2 =>
        rw [hq] at h
        have h : (match wk2 s t t2 with | some u => (.inr u : Rc ⊕ Tr) | none => .inl (.bi s r q)) = .inl e := h
        split at h <;> cases h
        exact ⟨ok, Nat.le_refl _⟩
theorem runV_eq {K : PySem.W.Frag} {ts : List Tr} {r : Rc} {H : Hp} {p q : Addr} (h1 : RunV ts r H p) (h2 : RunV ts r H q) (wt : ∀ t ∈ ts, Wf t ∧ t.dep ≤ 100) (ok : RcOk r) (dp : r.dp ≤ 110) : ∃ d, Dp K H (.ref p) d ∧ Dp K H (.ref q) d ∧ LayW d := by
  rcases h1 with ⟨t, u, e, hp, it⟩ | ⟨e, u, ee, hp, ie⟩
  · rcases h2 with ⟨t', u', e', hq, it'⟩ | ⟨e', u', ee', hq, ie'⟩
    · rw [e] at e'
      cases e'
      obtain ⟨wf, hd⟩ := rcx_wf (D := 100) wt ok e
      have i1 : IsT H (.un "made" t) (.ref p) := ⟨p, u, rfl, hp, it⟩
      have i2 : IsT H (.un "made" t) (.ref q) := ⟨q, u', rfl, hq, it'⟩
      have fm : (Tr.un "made" t).fine := ⟨okS_by (by decide +kernel), wf.fine⟩
      have hd2 := dat_dep (t := .un "made" t)
      have hd3 : (Tr.un "made" t).dep = t.dep + 1 := rfl
      exact ⟨_, i1.dp, i2.dp, dat_lay fm, by omega⟩
    · rw [e] at ee'
      cases ee'
  · rcases h2 with ⟨t', u', e', hq, it'⟩ | ⟨e', u', ee', hq, ie'⟩
    · rw [ee] at e'
      cases e'
    · rw [ee] at ee'
      cases ee'
      obtain ⟨eok, ed⟩ := rcx_part ok ee
      have d1 := rcd_dep (r := e)
      refine ⟨.tuple [.str "stuck", rcd e], .tup (SqT.of hp) (.cons (.str _) (.cons ie.dp .nil)), .tup (SqT.of hq) (.cons (.str _) (.cons ie'.dp .nil)), ?_, ?_⟩
      · show (PySem.PyData.strOk "stuck" && ((rcd e).canLay0 && true)) = true
        rw [strOk_of (okS_by (by decide +kernel)), eok.lay]
        rfl
      · show max 0 (max (rcd e).depth 0) + 1 ≤ 500
        omega
end Rd
namespace Rd
open PySem L2
/-- [d[x] for x in d] -/
theorem lcvd {d D : Addr} {o : Obj} {kvs : List (Key × V)} {α : Type} {l : List (Str × α)} {R : Hp → α → V → Prop} {tv : TE} {i0 : Nat} {σ : St} {H1 : Hp} {Qd : Hp → Prop}
    (hd : H1 d = some (.frz o (.dK kvs))) (al : AlG R H1 l kvs) (nd : (l.map (·.1)).Nodup) (hl : l.length ≤ 100000) (hD : H1 D = none)
    (hw : ∀ p : V, wipe ((wipe σ [i0]).set i0 (some p)) [i0] = wipe σ [i0])
    (hte : ∀ (i : Nat) (x : Str) (t : α) (v : V) (σ2 : St) (H : Hp) (Q : VK), l[i]? = some (x, t) → Same H1 H → DGet H d (.str x) (some v) → σ2 = (wipe σ [i0]).set i0 (some (.str x)) → Q v H → tv σ2 H Q)
    (hq : ∀ vs H', Same H1 H' → H' D = some (.lst vs) → vs.length = l.length → (∀ (i : Nat) v, vs[i]? = some v → ∃ p ∈ l, R H1 p.2 v) → Qd H') :
    ∃ W : Nat → Nat → Hp → Prop, (∃ m, W 0 m (L2.upd H1 D (.lst []))) ∧ ∀ i m H, W i m H →
      ((Itk d o kvs).stop i H ∧ Qd H) ∨ ((Itk d o kvs).go i H ∧ ∃ Nx : Hp → Prop, (∀ H', Nx H' → ∃ m', m' < m ∧ W (i + 1) m' H') ∧ ∀ x H', (Itk d o kvs).yld i H x H' → gName i0 x (wipe σ [i0]) H' fun σ2 H2 => wipe σ2 [i0] = wipe σ [i0] ∧ tYes σ2 H2 fun b H3 =>
        if b = true then tv σ2 H3 fun y H4 => ∃ acc, H4 D = some (.lst acc) ∧ acc.length < sizeLine ∧ Nx (L2.upd H4 D (.lst (acc ++ [y]))) else Nx H3) := by
  have hlen := al.len
  have big : 200000 ≤ sizeLine := by decide
  refine ⟨fun i m H => m = kvs.length - i ∧ i ≤ kvs.length ∧ ∃ vs, Same H1 H ∧ H D = some (.lst vs) ∧ vs.length = i ∧ ∀ (j : Nat) v, vs[j]? = some v → ∃ p ∈ l, R H1 p.2 v, ⟨_, rfl, Nat.zero_le _, [], Rd.Same.upd hD, upd_same, rfl, fun j v h => by simp at h⟩, ?_⟩
  rintro i m H ⟨rfl, hi, vs, s, hDa, hvl, hr⟩
  by_cases hlt : i < kvs.length
  · refine .inr ⟨⟨s _ _ hd, hlt⟩, fun H' => ∃ vs, Same H1 H' ∧ H' D = some (.lst vs) ∧ vs.length = i + 1 ∧ ∀ (j : Nat) v, vs[j]? = some v → ∃ p ∈ l, R H1 p.2 v, fun H' h => ⟨kvs.length - (i + 1), by omega, rfl, hlt, h⟩, ?_⟩
    rintro _ _ ⟨rfl, k, v0, hk, rfl⟩
    obtain ⟨x, t, hx, rfl, _⟩ := al.get hk
    obtain ⟨t2, et⟩ := lookG_some (l := l) (x := x) (List.mem_map.mpr ⟨_, List.mem_of_getElem? hx, rfl⟩)
    obtain ⟨v, ev, r1⟩ := (al.look (x := x)).1 t2 et
    refine ⟨hw _, ?_⟩
    unfold tYes
    refine iteT (hte i x t v _ _ _ hx s (.inl ⟨kvs, .inr x, .inr ⟨o, s _ _ hd⟩, rfl, ev.symm⟩) rfl ⟨vs, hDa, by omega, vs ++ [v], fun c o e => ?_, upd_same, by rw [List.length_append, hvl]; rfl, fun j v' hj => ?_⟩)
    · rw [upd_ne (ne_of_none e hD)]
      exact s _ _ e
    · by_cases hjl : j < vs.length
      · rw [List.getElem?_append_left hjl] at hj
        exact hr j v' hj
      · rw [List.getElem?_append_right (by omega)] at hj
        cases hz : j - vs.length with
        | zero => rw [hz] at hj; cases hj; exact ⟨_, lookG_mem et, r1⟩
        | succ z => rw [hz] at hj; simp at hj
  · exact .inl ⟨⟨s _ _ hd, by omega⟩, hq vs H s hDa (by omega) hr⟩
end Rd
namespace Rd
open PySem L2
theorem all_nod : ∀ t : Tr, t.all.length ≤ 2 * t.nod + 1
  | .am _ _ => Nat.le_refl _
  | .un s a => by
    have := all_nod a
    show a.all.length + 1 ≤ 2 * (a.nod + 1) + 1
    omega
  | .bi s a b => by
    have := all_nod a
    have := all_nod b
    show (a.all ++ b.all).length + 1 ≤ 2 * (a.nod + b.nod + 1) + 1
    rw [List.length_append]
    omega
theorem Fo.size {t : Tr} (h : Fo 3 t) : t.all.length ≤ 29 := by
  have h1 := all_nod t
  have h2 : t.nod + 2 ≤ 16 := h.nod
  omega
theorem fo_big {fs : List Tr} (hl : fs.length ≤ 7) (h : ∀ t ∈ fs, Fo 3 t) : bigTs 6 fs ∧ okTs 6 fs ∧ (allOf fs).length ≤ 203 := by
  have h1 : (allOf fs).length ≤ fs.length * 29 := by
    rw [allOf_len]
    exact szs_le fun t ht => (h t ht).size
  have h2 : fs.length * 29 ≤ 7 * 29 := Nat.mul_le_mul_right _ hl
  exact ⟨⟨29, fun t ht => ⟨(h t ht).wf, (h t ht).dep, (h t ht).size⟩, by omega, by omega⟩, ⟨by omega, fun t ht => ⟨(h t ht).wf, (h t ht).dep, (h t ht).pl⟩⟩, by omega⟩
theorem cut_from2 {xs : List V} {k : Nat} (h : k ≤ xs.length) : cutV xs (some (k : Int)) none = xs.drop k := by
  unfold cutV
  rw [HT.sIx_nat, Nat.min_eq_left h]
  show (xs.drop k).take (xs.length - k) = xs.drop k
  rw [← List.length_drop, List.take_length]
theorem RunV.same {ts : List Tr} {r : Rc} {H H' : Hp} {q : Addr} (s : Same H H') (h : RunV ts r H q) : RunV ts r H' q := by
  rcases h with ⟨t, u, e, h1, h2⟩ | ⟨e, u, e1, h1, h2⟩
  · exact .inl ⟨t, u, e, s _ _ h1, h2.same s⟩
  · exact .inr ⟨e, u, e1, s _ _ h1, h2.same s⟩
def spLaw (K : PySem.W.Frag) : Sp := fun vs H Q _ => ∃ (a : Addr) (ns : List Int), vs = [.ref a] ∧ SqL K H a (ns.map V.int) ∧ ns.length ≤ 63 ∧ ∀ H', Q (.bl true) H'
section
variable {P : Program} {w : World} {K : PySem.W.Frag} {mg : Str → Option Value} {base : Heap}
abbrev s_law : Stmt := top 73
theorem sc_law : FnScope ["_law_script", "_law_forms_here", "_law_atoms_here", "_law_heap_here", "_law_found", "_law_ways", "_law_text_here", "_law_k", "_law_draws", "_law_recipe_here", "_law_turn", "_law_due"] ["_law_script"] (defScope s_law) := ⟨rfl, rfl, rfl, by decide +kernel, rfl, by decide +kernel, by decide +kernel⟩
theorem ok_law {f : Addr} {fd : FuncData} (F : FunD K "law" "law" (defArgs s_law) (defBody s_law) (defScope s_law) [] [] f fd) (T : Tx w K mg) : FnOk P w K mg base CX0 150 f fd ["_law_script"] (spLaw K) := by
  refine F.ok sc_law (fun vs H Q E h => ?_) (fun cdv A outer s H vs Q E hr h => ?_)
  · obtain ⟨a, ns, rfl, _⟩ := h
    rfl
  · obtain ⟨a, ns, rfl, hS, hn, k⟩ := h
    refine ⟨_, PSs.nox (pss_cons (ps_asg (pe_fk (ok__law_drawn_heap T) (hr.mono (by omega)) rfl pass0 (pa_cons (pv 0) pa_nil)) (pg_tup rfl (pgs_cons (pg_name (i := 1) sc_law.nd rfl (Or.inl rfl)) (pgs_cons (pg_name (i := 2) sc_law.nd rfl (Or.inl rfl)) pgs_nil))))
  (pss_cons (ps_set (i := 3) sc_law.nd rfl (Or.inl rfl) (pe_fk (ok__law_heap T) (hr.mono (by omega)) rfl pass0 (pa_cons (pv 1) pa_nil)))
  (pss_cons (ps_set (i := 4) sc_law.nd rfl (Or.inr rfl) (pe_fk (ok__law_all_ways T 6) (hr.mono (by omega)) rfl pass0 (pa_cons (pv 1) pa_nil)))
  (pss_cons (ps_lock (ps_setLc (i := 5) (own := [("_law_text_here", 6)]) (g := gName 6) (tt := tYes) (by rfl) sc_law.nd rfl rfl (sw_true rfl rfl rfl (by decide +kernel)) (pi_keys (pv 4)) (blkOk_by (own := [("_law_text_here", 6)]) (N := ["_law_script", "_law_forms_here", "_law_atoms_here", "_law_heap_here", "_law_found", "_law_ways", "_law_text_here", "_law_k", "_law_draws", "_law_recipe_here", "_law_turn", "_law_due"]) (sc := defScope s_law) (by decide +kernel)) (fun _ _ _ _ _ => (pg_name (i := 6) sc_law.nd rfl (Or.inl rfl))) (fun _ _ _ _ _ => pts_nil) (fun _ _ _ _ _ => (pe_dget (hu_of hr) (pv 4) (pv 6) (fun _ _ => rfl)))))
  (pss_cons (ps_for PassesOwn.never rfl (pi_range1 rfl T.z_range (pa_cons pe_int pa_nil)) (pg_name (i := 7) sc_law.nd rfl (Or.inl rfl))
  (pss_cons (ps_set (i := 8) sc_law.nd rfl (Or.inl rfl) (pe_fk (ok__law_row T) (hr.mono (by omega)) rfl pass0 (pa_cons (pe_fk (ok__law_apart T) (hr.mono (by omega)) rfl pass0 (pa_cons (pe_fk (ok__law_cell_at T) (hr.mono (by omega)) rfl pass0 (pa_cons (pv 0) (pa_cons (pe_op op_add pe_int (pv 7)) pa_nil))) (pa_cons (pv 7) pa_nil))) (pa_cons pe_int pa_nil))))
  (pss_cons (ps_set (i := 9) sc_law.nd rfl (Or.inl rfl) (pe_fk (ok__law_recipe T 4) (hr.mono (by omega)) rfl pass0 (pa_cons (pv 8) (pa_cons pe_int (pa_cons pe_int (pa_cons (pe_callB call_len_seq (by rfl) T.z_len (by decide +kernel) (pa_cons (pv 1) pa_nil)) pa_nil))))))
  (pss_cons (ps_if (pt_cmpR op_eq (pe_op op_mod (pe_callTy call_int1 (by rfl) T.z_int (by decide +kernel) (pa_cons (pe_ix ix_list (pv 8) pe_int (fun _ _ => rfl)) pa_nil)) pe_int) pe_int (nomark _))
  (pss_cons (ps_set (i := 9) sc_law.nd rfl (Or.inl rfl) (pe_ix ix_list (pv 5) (pe_op op_mod (pe_callTy call_int1 (by rfl) T.z_int (by decide +kernel) (pa_cons (pe_ix ix_list (pv 8) pe_int (fun _ _ => rfl)) pa_nil)) (pe_callB call_len_seq (by rfl) T.z_len (by decide +kernel) (pa_cons (pv 5) pa_nil))) (fun _ _ => rfl)))
  (pss_one (ps_for PassesOwn.never rfl (pi_range1 rfl T.z_range (pa_cons (pe_op op_mod (pe_callTy call_int1 (by rfl) T.z_int (by decide +kernel) (pa_cons (pe_ix ix_list (pv 8) pe_int (fun _ _ => rfl)) pa_nil)) pe_int) pa_nil)) (pg_name (i := 10) sc_law.nd rfl (Or.inl rfl))
  (pss_one (ps_set (i := 9) sc_law.nd rfl (Or.inl rfl) (pe_fk (ok__law_longer T) (hr.mono (by omega)) rfl pass0 (pa_cons (pe_slice sl_list (pv 8) (po_some (pe_op op_add pe_int (pe_op op_mul pe_int (pv 10)))) po_none) (pa_cons (pv 9) (pa_cons (pe_callB call_len_seq (by rfl) T.z_len (by decide +kernel) (pa_cons (pv 1) pa_nil)) pa_nil)))))))))
  pss_nil)
  (pss_cons (ps_if (pt_cmpR op_gt (pe_fk (ok__law_tuples T) (hr.mono (by omega)) rfl pass0 (pa_cons (pv 9) pa_nil)) pe_int (nomark _))
  (pss_one (ps_set (i := 9) sc_law.nd rfl (Or.inl rfl) (pe_tup (pa_cons pe_str (pa_cons pe_int pa_nil)))))
  pss_nil)
  (pss_cons (ps_set (i := 11) sc_law.nd rfl (Or.inl rfl) (pe_fk (ok__law_run T 101) (hr.mono (by omega)) rfl pass0 (pa_cons (pv 9) (pa_cons (pv 1) pa_nil))))
  (pss_cons (ps_if (PW.pt (pw_or (pt_cmpR (op_neW (units500 hr (by omega))) (pe_fk (ok__law_tried T 100) (hr.mono (by omega)) rfl pass0 (pa_cons (pv 3) (pa_cons (pv 9) pa_nil))) (pv 11) (nomark _)) (pw_or1 (pt_cmpR (op_neW (units500 hr (by omega))) (pe_fk (ok__law_tried T 100) (hr.mono (by omega)) rfl pass0 (pa_cons (pv 3) (pa_cons (pv 9) pa_nil))) (pv 11) (nomark _)))))
  (pss_one (ps_ret pe_bl))
  pss_nil)
  (pss_one (ps_if (pt_cmpR (op_neD hr.units) (pe_fk (ok__law_toldL T) (hr.mono (by omega)) rfl pass0 (pa_cons (pe_fm0 (pv 3) T.k_Heap (ok_letters T) (hr.mono (by omega)) pass0) pa_nil)) (pv 1) (nomark _))
  (pss_one (ps_ret pe_bl))
  pss_nil)))))))))
  (pss_one (ps_ret pe_bl))))))), ?_⟩
    refine seqAsg ⟨_, rfl, a, ns, rfl, hS, hn, fun q qf qa us fs ws ts H1 s1 hq hqf hfs hf0 hf6 hfo hqa hts hat => ?_⟩
    refine ⟨q, _, rfl, SqT.of hq, rfl, _, _, rfl, _, _, rfl, rfl, ?_⟩
    try dsimp only
    have big : 16777216 ≤ sizeLine := by decide
    obtain ⟨hbig, hok, hall⟩ := fo_big (by omega) hfo
    refine seqAsg ⟨_, rfl, qf, us, fs, rfl, hqf, hfs, hok, fun h H2 s2 hH => ?_⟩
    refine gName_k ?_
    try dsimp only
    obtain ⟨dh, qh, wh, hh, hqh, hth⟩ := id hH
    have hfw6 : ∀ t ∈ fs, Wf t ∧ t.dep ≤ 6 := fun t ht => ⟨(hfo t ht).wf, (hfo t ht).dep⟩
    refine seqAsg ⟨_, rfl, qf, us, fs, rfl, s2 _ _ hqf, hfs.same s2, hfw6, (by decide), hf0, (by omega), fun D kvs l H3 s3 nD hD al lok l0 l5 lnd => ?_⟩
    refine gName_k ?_
    try dsimp only
    refine ⟨D, _, hD, trivial, fun od => ⟨_, rfl, D, od, rfl, .inl ⟨kvs, upd_same, fun D2 hD2 => ?_⟩⟩⟩
    have ka : Kp 0 H3 (upd H3 D (.frz od (.dK kvs))) := fun c o hi e => by
      rw [upd_ne (fun z => by rw [z, hD] at e; cases e; cases hi)]
      exact e
    refine lcvd (l := l) (R := IsR) upd_same (al.mono fun t v h => h.mono ka) lnd (by omega) hD2 (fun _ => rfl) (fun i x t v σ2 H4 Q4 hx s4 dg e k4 => ?_) fun rs H4 s4 hD24 hrl hrs => ?_
    · subst e
      exact ⟨_, rfl, _, rfl, D, v, rfl, dg, k4⟩
    have hD4 := s4 _ _ (upd_same (H := H3) (a := D))
    refine ⟨hD4, ?_⟩
    have kx : Kp 0 H4 (upd H4 D (.dK kvs)) := fun c o hi e => by
      rw [upd_ne (fun z => by rw [z, hD4] at e; cases e; cases hi)]
      exact e
    have S4 : Same H2 (upd H4 D (.dK kvs)) := fun c o e => by
      rw [upd_ne (ne_of_none e nD)]
      exact s4 _ _ (by rw [upd_ne (ne_of_none e nD)]; exact s3 _ _ e)
    have neD : D2 ≠ D := fun z => by rw [z, upd_same] at hD2; cases hD2
    have hrs4 : ∀ (i : Nat) v, rs[i]? = some v → ∃ rc, RcOk rc ∧ IsR (upd H4 D (.dK kvs)) rc v := fun i v e => by
      obtain ⟨p, hp, ir⟩ := hrs i v e
      exact ⟨p.2, lok p hp, (ir.same s4).mono kx⟩
    have hD2f : upd H4 D (.dK kvs) D2 = some (.lst rs) := by rw [upd_ne neD]; exact hD24
    generalize upd H4 D (.dK kvs) = H5 at S4 hrs4 hD2f ⊢
    refine gName_k ?_
    try dsimp only
    have S15 : Same H1 H5 := s2.trans S4
    have hqf5 := S15 _ _ hqf
    have hfs5 := hfs.same S15
    have hH5 := hH.same S4
    have hh5 := S4 _ _ hh
    have hS5 := SqL.kept hS (s1.trans S15)
    have hfl := hfs.len
    have hfw100 : ∀ t ∈ fs, Wf t ∧ t.dep ≤ 100 := fun t ht => ⟨(hfw6 t ht).1, by have := (hfw6 t ht).2; omega⟩
    have ft : ∀ t ∈ fs, t.fine ∧ t.dep ≤ 60 := fun t ht => ⟨(hfw6 t ht).1.fine, by have := (hfw6 t ht).2; omega⟩
    refine seqJoin (fun σ' Hc => True) (fun KK hK => ?_) (fun _ _ _ => k _)
    refine ⟨8, rfl, by decide, by decide, for_range (n := 8) (fun i σ Hc => ∃ (t6 t7 t8 t9 t10 t11 : Option V), σ = [some (.ref a), some (.ref qf), some (.ref qa), some (.ref h), some (.ref D), some (.ref D2), t6, t7, t8, t9, t10, t11] ∧ Same H5 Hc) ⟨_, _, _, _, _, _, rfl, Same.refl _⟩ ?_ (fun σ' Hc _ => hK _ _ trivial)⟩
    rintro i σ Hc hi ⟨t6, t7, t8, t9, t10, t11, rfl, sc⟩
    refine gName_k ?_
    try dsimp only
    refine seqAsg ⟨_, rfl, _, rfl, _, _, rfl, rfl, a, ns, _, rfl, SqL.kept hS5 sc, hn, (by omega), fun c => ⟨_, rfl, c, _, rfl, fun c2 => ⟨c2, 100, rfl, (by decide), fun qd ds Hd sd nqd hqd hrow => ?_⟩⟩⟩
    refine gName_k ?_
    try dsimp only
    have Sd := sc.trans sd
    obtain ⟨hdl, hdr⟩ := hrow
    have dz : ∀ j : Nat, j < 100 → ∃ z : Int, (ds.map V.int)[j]? = some (V.int z) := fun j hj => by
      rw [List.getElem?_map, List.getElem?_eq_getElem (by omega)]
      exact ⟨_, rfl⟩
    obtain ⟨d31, e31⟩ := dz 31 (by decide)
    obtain ⟨d32, e32⟩ := dz 32 (by decide)
    obtain ⟨d33, e33⟩ := dz 33 (by decide)
    refine seqAsg ⟨_, rfl, _, rfl, qf, us, rfl, .inl (SqL.of (Sd _ _ hqf5)), qd, 0, 0, us.length, ds, rfl, hqd, hdr, (by decide), rfl, (by omega), (by omega), (by decide), fun rc v Hr sr rok rdp ir => ?_⟩
    refine gName_k ?_
    try dsimp only
    have Sr := Sd.trans sr
    have hdR := sr _ _ hqd
    refine seqJoin (fun σ' Hc' => ∃ (rc : Rc) (v : V) (t10 : Option V), σ' = [some (.ref a), some (.ref qf), some (.ref qa), some (.ref h), some (.ref D), some (.ref D2), t6, some (.int (0 + (i : Int))), some (.ref qd), some v, t10, t11] ∧ Same Hr Hc' ∧ RcOk rc ∧ IsR Hc' rc v) (fun KK2 hK2 => ?_) ?_
    · refine ⟨_, rfl, qd, _, _, _, rfl, rfl, SqL.of hdR, at_of (j := 31) rfl e31, .inl ⟨_, rfl, _, _, rfl, rfl, (by show (0 : Int) < 2; decide), rfl, _, rfl, ite2 (fun _ => ?_) (fun _ => hK2 _ _ ⟨rc, v, _, rfl, Same.refl _, rok, ir⟩)⟩⟩
      have hrp : 0 < (rs.length : Int) := by omega
      obtain ⟨j, z, hj, ez⟩ := atI_of (us := rs) (m := rs.length) (d := d32 % (rs.length : Int)) (Int.emod_nonneg _ (by omega)) (Int.emod_lt_of_pos _ hrp) rfl
      obtain ⟨rc1, ok1, ir1⟩ := hrs4 j z hj
      have hD2r := Sr _ _ hD2f
      refine seqAsg ⟨_, rfl, _, rfl, qd, _, _, _, rfl, rfl, SqL.of hdR, at_of (j := 32) rfl e32, .inl ⟨_, rfl, _, rfl, D2, rs, rfl, .inl (SqL.of hD2r), _, _, rfl, rfl, hrp, D2, _, _, _, rfl, rfl, SqL.of hD2r, ez, ?_⟩⟩
      refine gName_k ?_
      try dsimp only
      have m30 : 0 ≤ d33 % 3 := Int.emod_nonneg _ (by decide)
      have m31 : d33 % 3 < 3 := Int.emod_lt_of_pos _ (by decide)
      refine ⟨_, rfl, qd, _, _, _, rfl, rfl, SqL.of hdR, at_of (j := 33) rfl e33, .inl ⟨_, rfl, _, _, rfl, rfl, (by show (0 : Int) < 3; decide), _, rfl, (by omega), (by omega), for_range (n := (d33 % 3).toNat) (fun _ σ' Hc' => ∃ (rc : Rc) (v : V) (t10 : Option V), σ' = [some (.ref a), some (.ref qf), some (.ref qa), some (.ref h), some (.ref D), some (.ref D2), t6, some (.int (0 + (i : Int))), some (.ref qd), some v, t10, t11] ∧ Same Hr Hc' ∧ RcOk rc ∧ IsR Hc' rc v) ⟨rc1, z, _, rfl, Same.refl _, ok1, ir1.same Sr⟩ ?_ (fun σ' Hc' h => hK2 σ' Hc' h)⟩⟩
      rintro i2 σ2 Hc2 hi2 ⟨rc2, v2, t10', rfl, sc2, ok2, ir2⟩
      refine gName_k ?_
      try dsimp only
      refine asgNx ⟨_, rfl, _, rfl, _, _, rfl, rfl, (.inl ⟨by decide, by decide⟩), _, _, rfl, rfl, _, rfl, qd, _, rfl, SqL.of (sc2 _ _ hdR), fun q1 hq1 => ?_⟩
      have hcut : cutV (ds.map V.int) (some (34 + 33 * (0 + (i2 : Int)))) none = (ds.drop (34 + 33 * i2)).map V.int := by
        rw [show (34 + 33 * (0 + (i2 : Int))) = ((34 + 33 * i2 : Nat) : Int) by omega, cut_from2 (by rw [List.length_map]; omega), List.map_drop]
      rw [hcut]
      have s3' := Rd.Same.upd (o := .lst ((ds.drop (34 + 33 * i2)).map V.int)) hq1
      have h31 : upd Hc2 q1 (.lst ((ds.drop (34 + 33 * i2)).map V.int)) q1 = some (.lst ((ds.drop (34 + 33 * i2)).map V.int)) := upd_same
      generalize upd Hc2 q1 (.lst ((ds.drop (34 + 33 * i2)).map V.int)) = H3' at s3' h31 ⊢
      have S3' := Sr.trans (sc2.trans s3')
      refine ⟨_, rfl, _, rfl, qf, us, rfl, .inl (SqL.of (S3' _ _ hqf5)), q1, v2, us.length, ds.drop (34 + 33 * i2), rc2, rfl, h31, (fun d hd => hdr d (List.mem_of_mem_drop hd)), (by rw [List.length_drop]; omega), (by omega), ir2.same s3', ok2, fun rc' v' H' s' ok' ir' => ?_⟩
      refine gName_k ?_
      try dsimp only
      exact ⟨rc', v', _, rfl, sc2.trans (s3'.trans s'), ok', ir'⟩
    rintro σ' H6 ⟨rc, v, t10, rfl, s6, rok, ir⟩
    try dsimp only
    have S6 := Sr.trans s6
    refine seqJoin (fun σ' Hc' => ∃ (rc : Rc) (v : V), σ' = [some (.ref a), some (.ref qf), some (.ref qa), some (.ref h), some (.ref D), some (.ref D2), t6, some (.int (0 + (i : Int))), some (.ref qd), some v, t10, t11] ∧ Same H6 Hc' ∧ RcOk rc ∧ rc.dp ≤ 100 ∧ IsR Hc' rc v) (fun KK2 hK2 => ?_) ?_
    · refine ⟨_, rfl, _, rc, rfl, ir, fun c5 H7 s7 hb => ⟨_, _, rfl, rfl, _, rfl, ite2 (fun _ => ?_) (fun hgt => ?_)⟩⟩
      · refine asgNx ⟨(by show 2 ≤ sizeLine; decide), fun q1 hq1 => ?_⟩
        have s8 := Rd.Same.upd (o := .tup [.str "at", .int 0]) hq1
        refine gName_k ?_
        try dsimp only
        exact hK2 _ _ ⟨.at_ 0, _, rfl, s7.trans s8, trivial, (by decide), ⟨q1, rfl, upd_same⟩⟩
      · have hle : c5 < 101 := by
          have := of_decide_eq_false (by simpa using hgt : decide ((100 : Int) < c5) = false)
          omega
        exact hK2 _ _ ⟨rc, _, rfl, s7, rok, hb hle, ir.same s7⟩
    clear rok ir
    rintro σ' H7 ⟨rc, v, rfl, s7, rok, rdp, ir⟩
    try dsimp only
    have S7 := S6.trans s7
    refine seqAsg ⟨_, rfl, _, rfl, v, qf, rc, us, fs, rfl, ir, rok, (by omega), (by decide), S7 _ _ hqf5, hfs5.same S7, hfw100, (by omega), fun qr H8 s8 hrv => ?_⟩
    refine gName_k ?_
    try dsimp only
    have S8 := S7.trans s8
    have hh8 := S8 _ _ hh5
    refine seqIf (b := false) (tb_or (b := false) (c := false) (fun Q2 kq => ?_) (fun H9 s9 _ Q2 kq => ?_)) fun H9 s9 => iteF (nxt ?_)
    · refine ⟨_, rfl, _, rfl, h, v, fs, rc, rfl, hH5.same S8, hfw100, (by omega), ir.same s8, rok, rdp, (by decide), fun p H9 s9 hpv => ⟨_, rfl, ?_⟩⟩
      obtain ⟨d, dp1, dp2, lay⟩ := runV_eq hpv (RunV.same s9 hrv) hfw100 rok (by omega)
      refine ⟨d, d, dp1, dp2, lay, lay, _, rfl, ?_⟩
      rw [SeqAt.eqv_refl _ lay.1]
      exact kq _ s9
    · refine ⟨_, rfl, _, rfl, h, v, fs, rc, rfl, hH5.same (S8.trans s9), hfw100, (by omega), ir.same (s8.trans s9), rok, rdp, (by decide), fun p H10 s10 hpv => ⟨_, rfl, ?_⟩⟩
      obtain ⟨d, dp1, dp2, lay⟩ := runV_eq hpv (RunV.same (s9.trans s10) hrv) hfw100 rok (by omega)
      refine ⟨d, d, dp1, dp2, lay, lay, _, rfl, ?_⟩
      rw [SeqAt.eqv_refl _ lay.1]
      exact kq _ s10
    try dsimp only
    have S9 := S8.trans s9
    refine oneIf (b := false) (fun Q2 kq => ?_) fun H10 s10 => iteF ⟨_, _, _, _, _, _, rfl, S9.trans s10⟩
    refine ⟨_, rfl, h, dh, _, rfl, S9 _ _ hh5, lookTn (by decide +kernel), h, fs, rfl, hH5.same S9, (by omega), fun q1 u1 Hy sy nq1 hq1 hl1 => ⟨q1, u1, fs, rfl, hq1, hl1, (by omega), fun q2 u2 Hz sz nq2 hq2 ht2 => ?_⟩⟩
    have Sz := (S9.trans sy).trans sz
    refine ⟨_, rfl, .list (fs.map dat), .list (fs.map dat), .lst (SqL.of hq2) (dpAll_ts ht2), .lst (SqL.of (Sz _ _ hqf5)) (dpAll_ts (hfs5.same Sz)), ts_shaped ft, ts_shaped ft, _, rfl, ?_⟩
    rw [SeqAt.eqv_refl _ (SeqAt.canLay_of_shaped (ts_shaped ft))]
    exact kq _ (sy.trans sz)
end
end Rd
set_option maxHeartbeats 0
namespace Rd
open PySem L2
theorem tx_ok {w : World} {K : PySem.W.Frag} {h : Heap} {mg : Str → Option Value} (X : K.In h) (G : h.Ns mainGlobals mg) (ct : He.SaysT fa fn ts w K) (cc : He.SaysD fa fn K) (cz : He5.SaysA [] fs K) (hx : exq K = true) : Tx w K mg where
  z_len := He.free_ok X G (cc.fact 0 rfl)
  z_all := He.free_ok X G (cc.fact 1 rfl)
  z_abs := He.free_ok X G (cc.fact 2 rfl)
  z_int := He.free_ok X G (cc.fact 3 rfl)
  z_list := He.free_ok X G (cc.fact 4 rfl)
  z_tuple := He.free_ok X G (cc.fact 5 rfl)
  z_range := He.free_ok X G (cc.fact 6 rfl)
  z_isinstance := He.free_ok X G (cc.fact 7 rfl)
  z_sorted := He.free_ok X G (cc.fact 8 rfl)
  z_str := He.free_ok X G (cc.fact 9 rfl)
  z_enumerate := He.free_ok X G (cc.fact 10 rfl)
  z_bool := He.free_ok X G (cc.fact 11 rfl)
  c_SMALL := He.str_ok X G (cc.fact 12 rfl)
  c_GREAT := He.str_ok X G (cc.fact 13 rfl)
  c_DIGITS := He.str_ok X G (cc.fact 14 rfl)
  D_SIGNS := kd_ok (He.glo_ok X G (cc.fact 15 rfl)) (ct.tab 0 rfl) (exl_ok hx 0 rfl)
  U_SHUT := ktB_ok (He.glo_ok X G (cc.fact 16 rfl)) (exl_ok hx 1 rfl)
  D_LENGTHS := kd_ok (He.glo_ok X G (cc.fact 17 rfl)) (ct.tab 1 rfl) (exl_ok hx 2 rfl)
  D_OPENERS := kds_ok (He.glo_ok X G (cc.fact 18 rfl)) (ct.tab 2 rfl) (exl_ok hx 3 rfl)
  F_is_word := ⟨(cc.def_ 0 (d := d0) rfl), He.glo_ok X G (cc.fact 19 rfl)⟩
  F_is_unknown := ⟨(cc.def_ 1 (d := d1) rfl), He.glo_ok X G (cc.fact 20 rfl)⟩
  F_is_name := ⟨(cc.def_ 2 (d := d2) rfl), He.glo_ok X G (cc.fact 21 rfl)⟩
  F_atom_tree := ⟨(cc.def_ 3 (d := d3) rfl), He.glo_ok X G (cc.fact 22 rfl)⟩
  F_is_atom_form := ⟨(cc.def_ 4 (d := d4) rfl), He.glo_ok X G (cc.fact 23 rfl)⟩
  F_check_form := ⟨(cc.def_ 5 (d := d5) rfl), He.glo_ok X G (cc.fact 24 rfl)⟩
  F_parts_of := ⟨(cc.def_ 6 (d := d6) rfl), He.glo_ok X G (cc.fact 25 rfl)⟩
  F_atoms_of := ⟨(cc.def_ 7 (d := d7) rfl), He.glo_ok X G (cc.fact 26 rfl)⟩
  F_is_plain := ⟨(cc.def_ 8 (d := d8) rfl), He.glo_ok X G (cc.fact 27 rfl)⟩
  F_partner := ⟨(cc.def_ 9 (d := d9) rfl), He.glo_ok X G (cc.fact 28 rfl)⟩
  F_undoing_key := ⟨(cc.def_ 10 (d := d10) rfl), He.glo_ok X G (cc.fact 29 rfl)⟩
  F_is_recipe := ⟨(cc.def_ 11 (d := d11) rfl), He.glo_ok X G (cc.fact 30 rfl)⟩
  F_run_recipe := ⟨(cc.def_ 12 (d := d12) rfl), He.glo_ok X G (cc.fact 31 rfl)⟩
  F_worked := ⟨(cc.def_ 13 (d := d13) rfl), He.glo_ok X G (cc.fact 32 rfl)⟩
  F_check_plain := ⟨(cc.def_ 14 (d := d14) rfl), He.glo_ok X G (cc.fact 33 rfl)⟩
  F__law_cell_at := ⟨(cc.def_ 15 (d := d15) rfl), He.glo_ok X G (cc.fact 34 rfl)⟩
  F__law_mixed := ⟨(cc.def_ 16 (d := d16) rfl), He.glo_ok X G (cc.fact 35 rfl)⟩
  F__law_row := ⟨(cc.def_ 17 (d := d17) rfl), He.glo_ok X G (cc.fact 36 rfl)⟩
  F__law_atoms := ⟨(cc.def_ 18 (d := d18) rfl), He.glo_ok X G (cc.fact 37 rfl)⟩
  F__law_form := ⟨(cc.def_ 19 (d := d19) rfl), He.glo_ok X G (cc.fact 38 rfl)⟩
  F__law_forms := ⟨(cc.def_ 20 (d := d20) rfl), He.glo_ok X G (cc.fact 39 rfl)⟩
  F__law_partner := ⟨(cc.def_ 21 (d := d21) rfl), He.glo_ok X G (cc.fact 40 rfl)⟩
  F__law_undoing := ⟨(cc.def_ 22 (d := d22) rfl), He.glo_ok X G (cc.fact 41 rfl)⟩
  F__law_heap := ⟨(cc.def_ 23 (d := d23) rfl), He.glo_ok X G (cc.fact 42 rfl)⟩
  F__law_told := ⟨(cc.def_ 24 (d := d24) rfl), He.glo_ok X G (cc.fact 43 rfl)⟩
  F__law_run := ⟨(cc.def_ 25 (d := d25) rfl), He.glo_ok X G (cc.fact 44 rfl)⟩
  F__law_step := ⟨(cc.def_ 26 (d := d26) rfl), He.glo_ok X G (cc.fact 45 rfl)⟩
  F__law_recipe := ⟨(cc.def_ 27 (d := d27) rfl), He.glo_ok X G (cc.fact 46 rfl)⟩
  F__law_apart := ⟨(cc.def_ 28 (d := d28) rfl), He.glo_ok X G (cc.fact 47 rfl)⟩
  F__law_way := ⟨(cc.def_ 29 (d := d29) rfl), He.glo_ok X G (cc.fact 48 rfl)⟩
  F__law_built := ⟨(cc.def_ 30 (d := d30) rfl), He.glo_ok X G (cc.fact 49 rfl)⟩
  F__law_openings := ⟨(cc.def_ 31 (d := d31) rfl), He.glo_ok X G (cc.fact 50 rfl)⟩
  F__law_all_ways := ⟨(cc.def_ 32 (d := d32) rfl), He.glo_ok X G (cc.fact 51 rfl)⟩
  F__law_drawn_heap := ⟨(cc.def_ 33 (d := d33) rfl), He.glo_ok X G (cc.fact 52 rfl)⟩
  F__law_text := ⟨(cc.def_ 34 (d := d34) rfl), He.glo_ok X G (cc.fact 53 rfl)⟩
  F__law_tuples := ⟨(cc.def_ 35 (d := d35) rfl), He.glo_ok X G (cc.fact 54 rfl)⟩
  F__law_tried := ⟨(cc.def_ 36 (d := d36) rfl), He.glo_ok X G (cc.fact 55 rfl)⟩
  F__law_longer := ⟨(cc.def_ 37 (d := d37) rfl), He.glo_ok X G (cc.fact 56 rfl)⟩
  g_RoadError := He.glo_ok X G (cc.fact 58 rfl)
  r_RoadError := rexB_ok (exl_ok hx 4 rfl)
  X_BadAtom := ⟨He.glo_ok X G (cc.fact 59 rfl), oexB_ok (exl_ok hx 5 rfl), He.noat_ok (cc.fact 62 rfl), ⟨(cc.def_ 39 (d := d39) rfl), He.meth_ok (cc.fact 61 rfl)⟩, xfB_ok (exl_ok hx 6 rfl), He.exm_ok (cc.fact 60 rfl)⟩
  X_BadForm := ⟨He.glo_ok X G (cc.fact 63 rfl), oexB_ok (exl_ok hx 7 rfl), He.noat_ok (cc.fact 66 rfl), ⟨(cc.def_ 40 (d := d40) rfl), He.meth_ok (cc.fact 65 rfl)⟩, xfB_ok (exl_ok hx 8 rfl), He.exm_ok (cc.fact 64 rfl)⟩
  X_BadHeap := ⟨He.glo_ok X G (cc.fact 67 rfl), oexB_ok (exl_ok hx 9 rfl), He.noat_ok (cc.fact 70 rfl), ⟨(cc.def_ 41 (d := d41) rfl), He.meth_ok (cc.fact 69 rfl)⟩, xfB_ok (exl_ok hx 10 rfl), He.exm_ok (cc.fact 68 rfl)⟩
  g_BadRecipe := He.glo_ok X G (cc.fact 71 rfl)
  X_NoWay := ⟨He.glo_ok X G (cc.fact 72 rfl), oexB_ok (exl_ok hx 11 rfl), He.noat_ok (cc.fact 75 rfl), ⟨(cc.def_ 42 (d := d42) rfl), He.meth_ok (cc.fact 74 rfl)⟩, xfB_ok (exl_ok hx 12 rfl), He.exm_ok (cc.fact 73 rfl)⟩
  k_Letter := He.cls_ok (cc.fact 77 rfl)
  n_Letter_tree := He.noat_ok (cc.fact 78 rfl)
  I_Letter := ⟨(cc.def_ 43 (d := d43) rfl), He.mkr_ok (cc.fact 79 rfl), He.glo_ok X G (cc.fact 76 rfl), He.cls_ok (cc.fact 77 rfl)⟩
  S_Letter_of := sh_ok (cz.def_ 0 (d := e0) rfl) (He.glo_ok X G (cc.fact 76 rfl)) (exl_ok hx 13 rfl)
  M_Letter_form := ⟨(cc.def_ 44 (d := d44) rfl), He.meth_ok (cc.fact 80 rfl)⟩
  M_Letter_unknowns := ⟨(cc.def_ 45 (d := d45) rfl), He.meth_ok (cc.fact 81 rfl)⟩
  k_Heap := He.cls_ok (cc.fact 83 rfl)
  g_Heap := He.glo_ok X G (cc.fact 82 rfl)
  n_Heap_trees := He.noat_ok (cc.fact 84 rfl)
  J_Heap := He.mkr_ok (cc.fact 86 rfl)
  M_Heap_init := ⟨(cc.def_ 46 (d := d46) rfl), He.meth_ok (cc.fact 85 rfl)⟩
  M_Heap_letters := ⟨(cc.def_ 47 (d := d47) rfl), He.meth_ok (cc.fact 87 rfl)⟩
  M_Heap_run := ⟨(cc.def_ 48 (d := d48) rfl), He.meth_ok (cc.fact 88 rfl)⟩
  W_NoWay := xiB_ok (exl_ok hx 14 rfl)
  B_Heap := boB_ok (exl_ok hx 15 rfl)
theorem facts {P : Program} {w : World} {K : PySem.W.Frag} {h : Heap} {mg : Str → Option Value} {f : Addr} (X : K.In h) (G : h.Ns mainGlobals mg) (hfa : mg ("law" : Str) = some (.ref f)) (c : SaysZ fa fn ts exq fs w K) :
    ∃ fd : FuncData, (∀ (s : Shared) (v : Value), BindsTo s fd ⟨[v], []⟩ [("_law_script", v)]) ∧ ∀ base : Heap, K.In base → base.Ns mainGlobals mg → FnOk P w K mg base CX0 150 f fd ["_law_script"] (spLaw K) := by
  have cc := c.y.t.d
  have T := tx_ok X G c.y.t cc c.s c.y.more
  obtain ⟨fd, F⟩ := cc.def_ 38 (d := d38) rfl
  have e := hfa.symm.trans (He.glo_ok X G (cc.fact 57 (f := .glo "law") rfl))
  cases e
  have b := FunD.bindsA (ps := ["_law_script"]) F fun _ _ _ _ _ _ us hl => match us, hl with | [_], _ => rfl
  exact ⟨fd, fun s v => b s [v] rfl, fun base _ _ => ok_law F T⟩
end Rd
open PySem PySem.W PySem.Calls PyProof.Rows
set_option maxRecDepth 100000 in
set_option maxHeartbeats 0 in
theorem PySem.Challenge.cw_openroads_k40_recipes_run_holds : PySem.Challenge.rw_openroads_k40_recipes_run.Holds := by
  w_on; o_law
  refine HandSHeadRun.head_any (r := OpenLaw.row PySem.Challenge.rw_openroads_k40_recipes_run) (q := Rd.qv) (H := Rd.hk) (ob := Rd.ob) (M := 6000) (loose := Rd.loo) (d := HandSHeadRun.topDef (OpenLaw.row PySem.Challenge.rw_openroads_k40_recipes_run).prog 73) (kwd := []) Rd.ob_eq
    (by kernel_rfl) (fun s => by kernel_rfl) Rd.run (by kernel_rfl) (by kernel_rfl) (by kernel_rfl) (by rfl) (by first | assumption | decide +kernel) (by decide +kernel) ⟨rfl, rfl, rfl, rfl, rfl, by decide +kernel⟩ ?hw ?hc
  case hw => w_witness2
  case hc =>
    refine L2.walk_ofE (l := PySem.Challenge.rw_openroads_k40_recipes_run) (n := 63) (k := 150) (x := "_law_script") (CX := L2.CX0) rfl (by decide) (by kernel_rfl) ⟨rfl, by decide, by decide⟩ ?F (fun _ _ _ _ z => z)
    intro w mg fa h Y G hmg0
    obtain ⟨K, KX, c⟩ := Y
    have hmg : mg ("law" : PySem.Str) = some (.ref fa) := by
      have e : (HandSHeadRun.topDef (OpenLaw.row PySem.Challenge.rw_openroads_k40_recipes_run).prog 73).name = ("law" : PySem.Str) := by kernel_rfl
      rw [← e]
      exact hmg0
    obtain ⟨fd, hb, hF⟩ := Rd.facts (P := (PySem.Challenge.rw_openroads_k40_recipes_run).prog) (w := w) KX G hmg c
    exact ⟨K, fd, Rd.spLaw K, KX, hb, fun H a ns hl _ hS => ⟨a, ns, rfl, hS, hl, fun _ => rfl⟩, hF⟩
