import PyProof.Rows.All
import Wide.All
import OpenK.AllK
import Wide.FinOn
import KE.KStateDown
import Lean
import HandS.ForMost
import HandS.ForExc
import HandS.Flow
import HandS.StrMore
import HandS.Defaults
import HandS.ExcInit
import HandS.ExcField
import HandS.More
import HandS.HeadHook3
import PyProof.ListStr
import HandS.Head0
import HandS.Head1
import HandS.Head2
import HandS.HeadEnd
import HandS.Zip
import HandS.FStr
import HandS.StrMore
import HandS.HotCalls
import HandS.ExcInitHot
import PyProof.InstEq
import HandS.IsInst
import HandS.HeadNt
import HandS.TupLe
import PyProof.Rows.SortShellAny
import HandS.Set
import HandS.SetFor
import HandS.SetBool
import HandS.Deep
import HandS.TupAny
import KE.KEqDict
import HandS.DictComp
import HandS.DeepEq
import HandS.List
import HandS.SetKeys
import KE.GoesNew
import KE.GoesMore
import PyProof.AutoSeq1
import HandS.Sort
import KE.KSortTupAny
import KE.KOpsOwn
import HandS.WordsDict
import KE.KDictList
import PyProof.SetRoads
import HandS.ExcCtx
import HandS.Comp
import KE.GoesRaise
import KE.GoesComp
import KE.KIsAll
import KE.KExcIs
import HandS.Base
import HandS.Call
import HandS.Exc
import HandS.ExcIs
import PyProof.EnumMake
import PyProof.EnumFor
import PyProof.ZipIter
import KE.KDictZip
import KE.KTurns
import HandS.Iter
import PySem.Challenge.RW_openroads_k49_what_parts_heaps
set_option Elab.async false
set_option linter.all false
set_option maxRecDepth 100000
set_option maxHeartbeats 4000000
namespace Rd
open PySem PySem.Spec PyProof.Rows L2
/-- a function of the module by its name: promise, binding, place -/
structure Fk (P : Program) (w : World) (K : PySem.W.Frag) (mg : Str → Option Value) (base : Heap) (CX : CXT) (k : Nat) (x : Str) (ps : List Str) (sp : Sp) : Prop where
  ex : ∃ fd, FnOk P w K mg base CX k (He.ga K x) fd ps sp ∧ Binds K fd ps []
  g : mg x = some (.ref (He.ga K x))
  kp : PySem.W.keepIn K (.ref (He.ga K x)) = true
/-- what the head tells of a function of the module -/
structure Fh (K : PySem.W.Frag) (mg : Str → Option Value) (x : Str) (st : Stmt) : Prop where
  ex : ∃ fd, FunD K x x (defArgs st) (defBody st) (defScope st) [] [] (He.ga K x) fd
  g : mg x = some (.ref (He.ga K x))
section
variable {P : Program} {w : World} {K : PySem.W.Frag} {mg : Str → Option Value} {base : Heap} {CX : CXT} {k : Nat} {x : Str} {ps N : List Str} {sp : Sp} {st : Stmt}
theorem Fh.ok (F : Fh K mg x st) (S : FnScope N ps (defScope st))
    (hb : ∀ (kV doc pm : Value) (an : Option Addr) (cdv ct : Value) (us : List Value), us.length = ps.length → bindArgs (PySem.W.fnOf x x (defArgs st) (defBody st) (defScope st) .none kV doc pm an cdv ct) ⟨us, []⟩ = pure (ps.zip us))
    (len : ∀ vs H Q E, sp vs H Q E → vs.length = ps.length)
    (hbody : ∀ (cdv : Value) (A : Around) (outer : List Env) (s : Shared) (H : Hp) (vs : List V) (Q : VK) (E : XK), Room k (A.deeper (envOfC x (defScope st) s.heap.objs.size (He.ga K x) cdv)) → sp vs H Q E →
      ∃ t, PSs (cxOf CX P w K mg base N x (defScope st) (He.ga K x) cdv A outer s H E) (defBody st) t ∧ t { nx := fun _ H' => Q .non H', rt := Q } (start N vs) H) : Fk P w K mg base CX (k + 1) x ps sp := by
  obtain ⟨fd, F'⟩ := F.ex
  exact ⟨⟨fd, F'.ok S len hbody, F'.bindsN hb⟩, F.g, F'.kp⟩
/-- no exception leaves -/
theorem Fh.ok0 (F : Fh K mg x st) (S : FnScope N ps (defScope st))
    (hb : ∀ (kV doc pm : Value) (an : Option Addr) (cdv ct : Value) (us : List Value), us.length = ps.length → bindArgs (PySem.W.fnOf x x (defArgs st) (defBody st) (defScope st) .none kV doc pm an cdv ct) ⟨us, []⟩ = pure (ps.zip us))
    (len : ∀ vs H Q E, sp vs H Q E → vs.length = ps.length)
    (hbody : ∀ (cdv : Value) (A : Around) (outer : List Env) (s : Shared) (H : Hp) (vs : List V) (Q : VK) (E : XK), Room k (A.deeper (envOfC x (defScope st) s.heap.objs.size (He.ga K x) cdv)) → sp vs H Q E →
      ∃ t, PSs (cxOf CX0 P w K mg base N x (defScope st) (He.ga K x) cdv A outer s H E).nox (defBody st) t ∧ t { nx := fun _ H' => Q .non H', rt := Q } (start N vs) H) : Fk P w K mg base CX0 (k + 1) x ps sp :=
  F.ok S hb len fun cdv A outer s H vs Q E hr h => by
    obtain ⟨t, h1, h2⟩ := hbody cdv A outer s H vs Q E hr h
    exact ⟨t, h1.nox, h2⟩
theorem Fk.mono {j : Nat} (F : Fk P w K mg base CX j x ps sp) (h : j ≤ k) : Fk P w K mg base CX k x ps sp := by
  obtain ⟨⟨fd, a, b⟩, c, d⟩ := F
  exact ⟨⟨fd, a.mono h, b⟩, c, d⟩
end
section
variable {X : Cx} {CX : CXT} {k : Nat} {ps : List Str} {sp : Sp} {E : XK} {x : Str} {p pos : Pos} {e : Expr} {es : List Expr} {t : TA}
theorem pe_fk (F : Fk X.prog X.w X.K X.mg X.base CX k x ps sp) (hr : Room k X.A) (hg : Gl X x) (hx : Passes CX X E)
    (ha : PA X (e :: es) t) (hdb : (x == ("__debug__" : Str)) = false := by decide) (he : starEach (e :: es) X.env = (false, eval e X.env) :: starEach es X.env := by rfl) (hpl : (backTo pos (starEach es X.env)).any (·.1) = false := by rfl) :
    PE X (.Call (.Name x p) (e :: es) [] pos) (tCall sp [] E t) := by
  obtain ⟨⟨fd, a, b⟩, c, d⟩ := F
  exact pe_call a hr hg c d b .nil hx ha hdb he hpl
theorem pe_gstr {z : Str} (hm : ∃ t, X.mg x = some (.str z t)) (hg : Gl X x := by rfl) (hd : (x == ("__debug__" : Str)) = false := by decide) : PE X (.Name x pos) (tC (.str z)) := by
  obtain ⟨t, hm⟩ := hm
  exact pe_glob hg hm ⟨t, rfl⟩ hd
end
end Rd
namespace Rd
open PySem PySem.Spec PyProof.Rows L2
/-- an exception class over ValueError, as OexC wants it -/
def oexB (K : PySem.W.Frag) (x : Str) : Bool := (match K.lookup (He.ga K x) with
  | some ⟨.type c, _, .cls cd, sl⟩ => decide (c = "type") && (match cd.mro, sl.toList with
    | .ref C' :: bm, [_, _, _, _, some (.builtin n), _] => decide (C' = He.ga K x) && (decide (n = "ValueError.__new__") && (!cd.hasDel && (cd.hasDict && PySem.HandSPX.refsVE bm)))
    | _, _ => false)
  | _ => false) && (He.eqO (PySem.W.findIn K (.ref (He.ga K x)) "__setattr__") (some (some (.builtin "object.__setattr__"))) && (decide (PySem.W.subIn K (.ref (He.ga K x)) (.type "BaseException") = some true) && (decide (PySem.W.typeIn K (.ref (He.ga K x)) = some (.type "type")) && PySem.W.keepIn K (.ref (He.ga K x)))))
theorem oexB_ok {K : PySem.W.Frag} {x : Str} (h : oexB K x = true) : OexC K (He.ga K x) := by
  obtain ⟨h1, h⟩ := He.ba h
  obtain ⟨h2, h⟩ := He.ba h
  obtain ⟨h3, h⟩ := He.ba h
  obtain ⟨h4, h5⟩ := He.ba h
  refine ⟨?_, He.eqO_ok h2, of_decide_eq_true h3, of_decide_eq_true h4, h5⟩
  cases e : K.lookup (He.ga K x) with
  | none => rw [e] at h1; cases h1
  | some o =>
    rw [e] at h1
    obtain ⟨oc, od, dt, sl⟩ := o
    cases oc with
    | type c =>
      cases dt with
      | cls cd =>
        obtain ⟨h6, h7⟩ := He.ba (show (decide (c = "type") && (match cd.mro, sl.toList with
          | .ref C' :: bm, [_, _, _, _, some (.builtin n), _] => decide (C' = He.ga K x) && (decide (n = "ValueError.__new__") && (!cd.hasDel && (cd.hasDict && PySem.HandSPX.refsVE bm)))
          | _, _ => false)) = true from h1)
        have ec : c = "type" := of_decide_eq_true h6
        subst ec
        obtain ⟨nm, bs, mro, ns, qn, hd, sn, sb, ab, col, del⟩ := cd
        obtain ⟨sl⟩ := sl
        simp only at h7
        split at h7
        · obtain ⟨h8, h9⟩ := He.ba h7
          obtain ⟨h10, h11⟩ := He.ba h9
          obtain ⟨h12, h13⟩ := He.ba h11
          obtain ⟨h14, h15⟩ := He.ba h13
          rename_i C' bm k0 k1 k2 k3 n k5
          have e1 : C' = He.ga K x := of_decide_eq_true h8
          have e2 : n = "ValueError.__new__" := of_decide_eq_true h10
          have e3 : del = false := by simpa using h12
          subst e2 e3
          have e4 : hd = true := h14
          subst e4
          rw [e1]
          exact ⟨_, _, _, _, bm, _, _, _, _, _, _, _, _, _, _, rfl, h15⟩
        · cases h7
      | _ => cases h1
    | _ => cases dt <;> cases h1
end Rd
namespace Rd
open PySem L2
/-- [f(c) for c in text], f pure -/
theorem lcs {x : Str} {te : TE} {i : Nat} {σ : St} {H1 : Hp} {D : Addr} {Qd : Hp → Prop} (f : Nat → V) (hx : x.length ≤ sizeLine)
    (hte : ∀ c (H : Hp) (Q : VK), c ∈ x.cps.toList → Q (f c) H → te ((wipe σ [i]).set i (some (.str ⟨#[c]⟩))) H Q) (hq : Qd (upd H1 D (.lst (x.cps.toList.map f)))) :
    ∃ W : Nat → Nat → Hp → Prop, (∃ m, W 0 m (upd H1 D (.lst []))) ∧ ∀ j m H, W j m H →
      ((Its x).stop j H ∧ Qd H) ∨ ((Its x).go j H ∧ ∃ Nx : Hp → Prop, (∀ H', Nx H' → ∃ m', m' < m ∧ W (j + 1) m' H') ∧ ∀ v H', (Its x).yld j H v H' → gName i v (wipe σ [i]) H' fun σ2 H2 => wipe σ2 [i] = wipe σ [i] ∧ tYes σ2 H2 fun b H3 =>
        if b = true then te σ2 H3 fun y H4 => ∃ acc, H4 D = some (.lst acc) ∧ acc.length < sizeLine ∧ Nx (upd H4 D (.lst (acc ++ [y]))) else Nx H3) := by
  have hs : x.cps.toList.length = x.cps.size := by simp
  refine ⟨fun j m H => m = x.cps.size - j ∧ j ≤ x.cps.size ∧ H = upd H1 D (.lst ((x.cps.toList.take j).map f)), ⟨_, rfl, Nat.zero_le _, rfl⟩, ?_⟩
  rintro j m H ⟨rfl, hj, rfl⟩
  by_cases hlt : j < x.cps.size
  · refine .inr ⟨hlt, fun H' => H' = upd H1 D (.lst ((x.cps.toList.take (j + 1)).map f)), fun H' e => ⟨x.cps.size - (j + 1), by omega, rfl, hlt, e⟩, ?_⟩
    rintro v H' ⟨rfl, c, hc, rfl⟩
    have hc2 : x.cps.toList[j]? = some c := by simpa using hc
    refine ⟨by simp [wipe], hte c _ _ (List.mem_of_getElem? hc2) ⟨_, upd_same, ?_, ?_⟩⟩
    · rw [List.length_map, List.length_take, hs]
      have : x.cps.size ≤ sizeLine := hx
      omega
    · show upd (upd H1 D _) D _ = _
      rw [upd_upd, List.take_succ, hc2]
      simp
  · have e : j = x.cps.size := by omega
    subst e
    refine .inl ⟨Nat.le_refl _, ?_⟩
    rw [← hs, List.take_length]
    exact hq
theorem Same.upd {H : Hp} {p : Addr} {o : HO} (h : H p = none) : Same H (L2.upd H p o) := fun a u e => by rw [upd_ne (ne_of_none e h)]; exact e
theorem Same.upd' {H H1 : Hp} {p : Addr} {o : HO} (x : Same H H1) (h : H1 p = none) : Same H (L2.upd H1 p o) := x.trans (Rd.Same.upd h)
end Rd
namespace Rd
open PySem L2
theorem seqAsg {te : TE} {g : TG} {u : TS} {D : Ends} {σ : St} {H : Hp} (h : te σ H fun x H1 => g x σ H1 (u D)) : tSeq (tAsg te g) u D σ H := h
theorem gName_k {i : Nat} {v : V} {σ : St} {H : Hp} {R : St → Hp → Prop} (h : R (σ.set i (some v)) H) : gName i v σ H R := h
end Rd
namespace Rd
open PySem L2
/-- a test that answers b, the heap may grow -/
def TB (t : TT) (σ : St) (H : Hp) (b : Bool) : Prop := ∀ Q : Bool → Hp → Prop, (∀ H', Same H H' → Q b H') → t σ H Q
theorem tb_and {t u : TT} {σ : St} {H : Hp} {b c : Bool} (h1 : TB t σ H b) (h2 : ∀ H', Same H H' → b = true → TB u σ H' c) : TB (tAnd t u) σ H (b && c) := fun Q k => h1 _ fun H' s => by
  cases b with
  | true => exact h2 H' s rfl Q fun H2 s2 => k H2 (s.trans s2)
  | false => exact k H' s
theorem tb_or {t u : TT} {σ : St} {H : Hp} {b c : Bool} (h1 : TB t σ H b) (h2 : ∀ H', Same H H' → b = false → TB u σ H' c) : TB (tOr t u) σ H (b || c) := fun Q k => h1 _ fun H' s => by
  cases b with
  | true => exact k H' s
  | false => exact h2 H' s rfl Q fun H2 s2 => k H2 (s.trans s2)
theorem tb_not {t : TT} {σ : St} {H : Hp} {b : Bool} (h1 : TB t σ H b) : TB (tNot t) σ H (!b) := fun Q k => h1 _ fun H' s => k H' s
theorem seqIf {c : TT} {t u v : TS} {D : Ends} {σ : St} {H : Hp} {b : Bool} (hc : TB c σ H b) (k : ∀ H', Same H H' → if b = true then t { D with nx := v D } σ H' else u { D with nx := v D } σ H') : tSeq (tIfS c t u) v D σ H := hc _ k
theorem oneIf {c : TT} {t u : TS} {D : Ends} {σ : St} {H : Hp} {b : Bool} (hc : TB c σ H b) (k : ∀ H', Same H H' → if b = true then t D σ H' else u D σ H') : tIfS c t u D σ H := hc _ k
end Rd
namespace Rd
open PySem L2
theorem nxt {D : Ends} {σ : St} {H : Hp} (h : D.nx σ H) : tNext D σ H := h
end Rd
namespace Rd
open PySem L2
/-- C0.__init__ read off the class C0 -/
structure REx (K : PySem.W.Frag) (C0 : Addr) : Prop where
  sga : PySem.W.specialIn K (.ref C0) "__getattribute__" = some (some (.builtin "type.__getattribute__"))
  ty : PySem.W.typeIn K (.ref C0) = some (.type "type")
  rd : PySem.W.readsIn K C0 (.type "type") = true
  fc : PySem.W.findCls K (.ref C0) (.type "type") "__init__" = some (.val (.builtin "ValueError.__init__"))
def rexB (K : PySem.W.Frag) (x : Str) : Bool := He.eqO (PySem.W.specialIn K (.ref (He.ga K x)) "__getattribute__") (some (some (.builtin "type.__getattribute__"))) && (decide (PySem.W.typeIn K (.ref (He.ga K x)) = some (.type "type")) && (PySem.W.readsIn K (He.ga K x) (.type "type") &&
  (match PySem.W.findCls K (.ref (He.ga K x)) (.type "type") "__init__" with
    | some (.val (.builtin n)) => decide (n = "ValueError.__init__")
    | _ => false)))
theorem rexB_ok {K : PySem.W.Frag} {x : Str} (h : rexB K x = true) : REx K (He.ga K x) := by
  obtain ⟨h1, h⟩ := He.ba h
  obtain ⟨h2, h⟩ := He.ba h
  obtain ⟨h3, h4⟩ := He.ba h
  refine ⟨He.eqO_ok h1, of_decide_eq_true h2, h3, ?_⟩
  split at h4
  · rename_i n e
    rw [e, of_decide_eq_true h4]
  · cases h4
section
variable {X : Cx} {e : Expr} {es : List Expr} {ta : TA} {p1 p2 pos : Pos}
theorem pe_reinit {pl : Sem Bool} {x : Str} {C0 : Addr} (hg : Gl X x) (hm : X.mg x = some (.ref C0)) (R0 : REx X.K C0) (ha : PA X (e :: es) ta) (hd : (x == ("__debug__" : Str)) = false := by decide)
    (hc : eval (.Call (.Attribute (.Name x p1) "__init__" p2) (e :: es) [] pos) X.env = (do
      let ov ← eval (.Name x p1) X.env
      standAt p2.atName
      let (f, first) ← holding [ov] (getMethod ov "__init__" pl)
      callWith pos f first (backTo pos (starEach (e :: es) X.env)) (backToKw pos (keywordEach [] X.env))) := by rfl)
    (he : starEach (e :: es) X.env = (false, eval e X.env) :: starEach es X.env := by rfl) (hpl : (backTo pos (starEach es X.env)).any (·.1) = false := by rfl) :
    PE X (.Call (.Attribute (.Name x p1) "__init__" p2) (e :: es) [] pos) (tVeI X.K ta) := by
  refine ⟨fun pins s σ H Q I h => ?_⟩
  refine PySem.W.methodCall_KW (ld_glob I hg hm ?_ hd) hc
  obtain ⟨m, fr⟩ := I.fr
  refine PySem.W.method_of_cls fr I.ok.mod.kin R0.sga (PySem.W.cls_val fr I.ok.mod.kin R0.ty R0.rd R0.fc (by decide +kernel) ?_)
  show wpAny _ _ (callWith pos (Value.builtin "ValueError.__init__") [] (backTo pos (starEach (e :: es) X.env)) []) _ _ _
  refine PyProof.Rows.callWith_method1 (thn (ha.run pos pins _ σ H _ (I.tok _) h) fun us s1 ⟨vs, H1, I1, r1, a, C, ws, ev, hl, T, ea, q⟩ => ?_) he hpl
  subst ev
  cases r1 with
  | @cons _ u0 _ ur ra rw' =>
    obtain rfl : u0 = Value.ref a := ra
    have hlen : ur.length ≤ sizeLine := by
      rw [← Paired.length rw', sizeLine_eq]
      omega
    exact oinit_ok T I1 ea hlen fun s' J => ⟨.non, H1, J, rfl, q⟩
end
/-- the __init__ of an exception with one field -/
def spX1 (K : PySem.W.Frag) (f : Str) : Sp := fun vs H Q _ => ∃ (a C : Addr) (v : V), vs = [.ref a, v] ∧ OexC K C ∧ PySem.W.findIn K (.ref C) f = some none ∧ H a = some (exo a C none) ∧
  ∀ dx, H dx = none → dx ≠ a → Q .non (upd (upd H dx (exd dx [(f, v)])) a (exo a C (some dx)))
/-- reading a raise of such an exception, behind its argument -/
theorem rd_raise1 {K : PySem.W.Frag} {C : Addr} {f : Str} {v : V} {H1 : Hp} {R : XK} (T : OexC K C) (no : PySem.W.findIn K (.ref C) f = some none)
    (k : ∀ d H', Same H1 H' → H1 d = none → H' d = some (.xd [(f, v)]) → R (.ref C) (some d) H') :
    ([v] : List V).length ≤ 1000 ∧ ∀ a, H1 a = none → spX1 K f (.ref a :: ([v] ++ [])) (upd H1 a (exo a C none)) (fun v' H2 => v' = .non ∧ ∃ (d : Addr) (fs : List (Str × V)), H2 a = some (exo a C (some d)) ∧ H2 d = some (exd d fs) ∧ H1 d = none ∧ R (.ref C) (some d) (upd (del H2 a) d (.xd fs))) (fun _ _ _ => False) := by
  refine ⟨by show 1 ≤ 1000; decide, fun a ha => ⟨a, C, v, rfl, T, no, upd_same, fun dx hdx ne => ⟨rfl, dx, [(f, v)], upd_same, ?_, ?_, ?_⟩⟩⟩
  · rw [upd_ne ne, upd_same]
  · rw [upd_ne ne] at hdx
    exact hdx
  · rw [upd_ne ne] at hdx
    refine k dx _ (fun b o e => ?_) hdx upd_same
    rw [upd_ne (ne_of_none e hdx), del_ne (ne_of_none e ha), upd_ne (ne_of_none e ha), upd_ne (ne_of_none e hdx), upd_ne (ne_of_none e ha)]
    exact e
structure Mh (K : PySem.W.Frag) (c m q : Str) (st : Stmt) : Prop where
  ex : ∃ fd, FunD K m q (defArgs st) (defBody st) (defScope st) [] [] (He.ma K (He.ga K c) m) fd
  me : Meth K (He.ga K c) m (He.ma K (He.ga K c) m)
structure Fm (P : Program) (w : World) (K : PySem.W.Frag) (mg : Str → Option Value) (base : Heap) (CX : CXT) (k : Nat) (c m : Str) (ps : List Str) (sp : Sp) : Prop where
  ex : ∃ fd, FnOk P w K mg base CX k (He.ma K (He.ga K c) m) fd ps sp ∧ Binds K fd ps []
  me : Meth K (He.ga K c) m (He.ma K (He.ga K c) m)
section
variable {P : Program} {w : World} {K : PySem.W.Frag} {mg : Str → Option Value} {base : Heap} {CX : CXT} {k : Nat} {c m q : Str} {ps N : List Str} {sp : Sp} {st : Stmt}
theorem Mh.ok (F : Mh K c m q st) (S : FnScope N ps (defScope st))
    (hb : ∀ (kV doc pm : Value) (an : Option Addr) (cdv ct : Value) (us : List Value), us.length = ps.length → bindArgs (PySem.W.fnOf m q (defArgs st) (defBody st) (defScope st) .none kV doc pm an cdv ct) ⟨us, []⟩ = pure (ps.zip us))
    (len : ∀ vs H Q E, sp vs H Q E → vs.length = ps.length)
    (hbody : ∀ (cdv : Value) (A : Around) (outer : List Env) (s : Shared) (H : Hp) (vs : List V) (Q : VK) (E : XK), Room k (A.deeper (PyProof.Rows.envOfC q (defScope st) s.heap.objs.size (He.ma K (He.ga K c) m) cdv)) → sp vs H Q E →
      ∃ t, PSs (cxOf CX P w K mg base N q (defScope st) (He.ma K (He.ga K c) m) cdv A outer s H E) (defBody st) t ∧ t { nx := fun _ H' => Q .non H', rt := Q } (start N vs) H) : Fm P w K mg base CX (k + 1) c m ps sp := by
  obtain ⟨fd, F'⟩ := F.ex
  exact ⟨⟨fd, F'.ok S len hbody, F'.bindsN hb⟩, F.me⟩
theorem Mh.ok0 (F : Mh K c m q st) (S : FnScope N ps (defScope st))
    (hb : ∀ (kV doc pm : Value) (an : Option Addr) (cdv ct : Value) (us : List Value), us.length = ps.length → bindArgs (PySem.W.fnOf m q (defArgs st) (defBody st) (defScope st) .none kV doc pm an cdv ct) ⟨us, []⟩ = pure (ps.zip us))
    (len : ∀ vs H Q E, sp vs H Q E → vs.length = ps.length)
    (hbody : ∀ (cdv : Value) (A : Around) (outer : List Env) (s : Shared) (H : Hp) (vs : List V) (Q : VK) (E : XK), Room k (A.deeper (PyProof.Rows.envOfC q (defScope st) s.heap.objs.size (He.ma K (He.ga K c) m) cdv)) → sp vs H Q E →
      ∃ t, PSs (cxOf CX0 P w K mg base N q (defScope st) (He.ma K (He.ga K c) m) cdv A outer s H E).nox (defBody st) t ∧ t { nx := fun _ H' => Q .non H', rt := Q } (start N vs) H) : Fm P w K mg base CX0 (k + 1) c m ps sp :=
  F.ok S hb len fun cdv A outer s H vs Q E hr h => by
    obtain ⟨t, h1, h2⟩ := hbody cdv A outer s H vs Q E hr h
    exact ⟨t, h1.nox, h2⟩
end
section
variable {X : Cx} {CX : CXT} {k : Nat} {ps : List Str} {sp : Sp} {E : XK} {x c m : Str} {p pos apos : Pos} {e o : Expr} {es : List Expr} {t : TA} {ta : TE}
theorem pe_fm {pl : Sem Bool} (he : PE X o ta) (cl : Cls X.K (He.ga X.K c)) (F : Fm X.prog X.w X.K X.mg X.base CX k c m ps sp) (hr : Room k X.A) (hx : Passes CX X E) (ha : PA X (e :: es) t)
    (hst : starEach (e :: es) X.env = (false, eval e X.env) :: starEach es X.env := by rfl) (hpl : (backTo pos (starEach es X.env)).any (·.1) = false := by rfl)
    (ht : eval (.Call (.Attribute o m apos) (e :: es) [] pos) X.env = (do
      let ov ← eval o X.env
      standAt apos.atName
      let (f, first) ← holding [ov] (getMethod ov m pl)
      callWith pos f first (backTo pos (starEach (e :: es) X.env)) (backToKw pos (keywordEach [] X.env))) := by rfl) :
    PE X (.Call (.Attribute o m apos) (e :: es) [] pos) (tMeth (He.ga X.K c) m sp [] E ta t) := by
  obtain ⟨⟨fd, a, b⟩, me⟩ := F
  exact pe_meth he cl me a hr b .nil hx ha hst hpl ht
theorem pe_fm0 {pl : Sem Bool} (he : PE X o ta) (cl : Cls X.K (He.ga X.K c)) (F : Fm X.prog X.w X.K X.mg X.base CX k c m ps sp) (hr : Room k X.A) (hx : Passes CX X E)
    (ht : eval (.Call (.Attribute o m apos) [] [] pos) X.env = (do
      let ov ← eval o X.env
      standAt apos.atName
      let (f, first) ← holding [ov] (getMethod ov m pl)
      callWith pos f first (backTo pos (starEach [] X.env)) (backToKw pos (keywordEach [] X.env))) := by rfl) :
    PE X (.Call (.Attribute o m apos) [] [] pos) (tMeth (He.ga X.K c) m sp [] E ta tNil) := by
  obtain ⟨⟨fd, a, b⟩, me⟩ := F
  exact pe_meth0 he cl me a hr b .nil hx ht
end
structure Xh (K : PySem.W.Frag) (mg : Str → Option Value) (x f q : Str) (st : Stmt) : Prop where
  g : mg x = some (.ref (He.ga K x))
  oex : OexC K (He.ga K x)
  no : PySem.W.findIn K (.ref (He.ga K x)) f = some none
  init : Mh K x "__init__" q st
  xf : XfC K (He.ga K x)
  em : PySem.W.exmOne K (.ref (He.ga K x)) (.ref (He.ga K x)) = some true
structure Ih (K : PySem.W.Frag) (mg : Str → Option Value) (c q : Str) (st : Stmt) (dvs : List V) : Prop where
  ex : ∃ fd, FunD K "__init__" q (defArgs st) (defBody st) (defScope st) dvs [] (He.ma K (He.ga K c) "__init__") fd
  mkr : Mk K (He.ga K c) (He.ma K (He.ga K c) "__init__")
  g : mg c = some (.ref (He.ga K c))
  cl : Cls K (He.ga K c)
structure Fi (P : Program) (w : World) (K : PySem.W.Frag) (mg : Str → Option Value) (base : Heap) (CX : CXT) (k : Nat) (c : Str) (ps : List Str) (sp : Sp) (v : V) : Prop where
  ex : ∃ fd, FnOk P w K mg base CX k (He.ma K (He.ga K c) "__init__") fd ps sp ∧ Binds K fd ps [] ∧ ∃ ds, Vals [v] ds ∧ Binds K fd ps ds
  mkr : Mk K (He.ga K c) (He.ma K (He.ga K c) "__init__")
  g : mg c = some (.ref (He.ga K c))
section
variable {P : Program} {w : World} {K : PySem.W.Frag} {mg : Str → Option Value} {base : Heap} {CX : CXT} {k : Nat} {c q : Str} {ps N : List Str} {sp : Sp} {st : Stmt} {v : V}
theorem Ih.ok {n : Nat} (F : Ih K mg c q st [v]) (S : FnScope N ps (defScope st)) (hn : ps.length = n + 1)
    (hb1 : ∀ (T : Addr) (kV doc pm : Value) (an : Option Addr) (cdv ct : Value) (us its : List Value), us.length = n → its.length = 1 →
      ∃ k, bindArgs (PySem.W.fnOf "__init__" q (defArgs st) (defBody st) (defScope st) (.ref T) kV doc pm an cdv ct) ⟨us, []⟩ = seqItems? (.ref T) >>= k ∧ k (some its.toArray) = pure (ps.zip (us ++ its.drop 0)))
    (hb2 : ∀ (T : Addr) (kV doc pm : Value) (an : Option Addr) (cdv ct : Value) (us its : List Value), us.length = n + 1 → its.length = 1 →
      ∃ k, bindArgs (PySem.W.fnOf "__init__" q (defArgs st) (defBody st) (defScope st) (.ref T) kV doc pm an cdv ct) ⟨us, []⟩ = seqItems? (.ref T) >>= k ∧ k (some its.toArray) = pure (ps.zip (us ++ its.drop 1)))
    (len : ∀ vs H Q E, sp vs H Q E → vs.length = ps.length)
    (hbody : ∀ (cdv : Value) (A : Around) (outer : List Env) (s : Shared) (H : Hp) (vs : List V) (Q : VK) (E : XK), Room k (A.deeper (PyProof.Rows.envOfC q (defScope st) s.heap.objs.size (He.ma K (He.ga K c) "__init__") cdv)) → sp vs H Q E →
      ∃ t, PSs (cxOf CX P w K mg base N q (defScope st) (He.ma K (He.ga K c) "__init__") cdv A outer s H E) (defBody st) t ∧ t { nx := fun _ H' => Q .non H', rt := Q } (start N vs) H) : Fi P w K mg base CX (k + 1) c ps sp v := by
  obtain ⟨fd, F'⟩ := F.ex
  have b1 := F'.binds1 (ps := ps) n 0 (List.cons_ne_nil _ _) (by rw [hn]; rfl) hb1
  obtain ⟨ds, e, b2⟩ := F'.binds1 (ps := ps) (n + 1) 1 (List.cons_ne_nil _ _) (by rw [hn]; rfl) hb2
  cases e
  exact ⟨⟨fd, F'.ok S len hbody, b2, b1⟩, F.mkr, F.g⟩
end
section
variable {X : Cx} {CX : CXT} {k : Nat} {ps : List Str} {sp : Sp} {E : XK} {c : Str} {p pos : Pos} {e : Expr} {es : List Expr} {t : TA} {v : V}
/-- C(.., ..), every argument written -/
theorem pe_mk2 (F : Fi X.prog X.w X.K X.mg X.base CX k c ps sp v) (hr : Room (k + 1) X.A) (hg : Gl X c) (hx : Passes CX X E)
    (ha : PA X (e :: es) t) (hdb : (c == ("__debug__" : Str)) = false := by decide) (he : starEach (e :: es) X.env = (false, eval e X.env) :: starEach es X.env := by rfl) (hpl : (backTo pos (starEach es X.env)).any (·.1) = false := by rfl) :
    PE X (.Call (.Name c p) (e :: es) [] pos) (tMake (He.ga X.K c) sp [] E t) := by
  obtain ⟨⟨fd, a, b, _⟩, M, g⟩ := F
  exact pe_make M a hr hg g b .nil hx ha hdb he hpl
end
end Rd
namespace Rd
open PySem L2
/-- what is reached from the module in n steps, each address once (what was seen: the bits of a number) -/
def seenB (st : List Addr × Nat) (a : Addr) : List Addr × Nat := bif Nat.beq (Nat.mod (Nat.shiftRight st.2 a) 2) 1 then st else (a :: st.1, Nat.lor st.2 (Nat.shiftLeft 1 a))
def stepB (g : Addr → Option Obj) (fr : List Addr) (m : Nat) : List Addr × Nat := (fr.flatMap fun a => match g a with
  | some o => He.refsD o
  | none => []).foldl seenB ([], m)
def goB (g : Addr → Option Obj) : Nat → List Addr → List Addr → Nat → List Addr
  | 0, all, _, _ => all
  | n + 1, all, fr, m => match stepB g fr m with
    | (xs, m') => goB g n (all ++ xs) xs m'
def asB (g : Addr → Option Obj) (n : Nat) : List Addr := goB g n [mainGlobals] [mainGlobals] (Nat.shiftLeft 1 mainGlobals)
def frY (n : Nat) (g : Addr → Option Obj) : PySem.W.Frag := He.frG g (cStatics :: asB g n)
abbrev AlY : Type := He.AlT × Bool
structure SaysY (fa : List He.Fa) (fn : List He.DefD) (ts : List He.Tab) (ex : PySem.W.Frag → Bool) (w : World) (K : PySem.W.Frag) : Prop where
  t : He.SaysT fa fn ts w K
  more : ex K = true
def obsY (n : Nat) (fa : List He.Fa) (fn : List He.DefD) (ts : List He.Tab) (ex : PySem.W.Frag → Bool) (g : Addr → Option Obj) : AlY := (He.obsT fa fn ts (frY n g), ex (frY n g))
def valY (fn : List He.DefD) (ts : List He.Tab) (w : World) : AlY := (He.valT fn ts w, true)
end Rd
namespace Rd
open PySem L2
structure Kd (w : World) (K : PySem.W.Frag) (mg : Str → Option Value) (x : Str) (kvs : List (Str × Int)) : Prop where
  g : mg x = some (.ref (He.ga K x))
  kd : ∃ es n, KDict K w (He.ga K x) es n
  no : ∀ z, z ∉ kvs.map (·.1) → PySem.W.nsIn K (He.ga K x) z = some none
  ys : ∀ p ∈ kvs, ∃ t, PySem.W.nsIn K (He.ga K x) p.1 = some (some (.int p.2 t))
def kdB (K : PySem.W.Frag) (a : Addr) (kvs : List (Str × Int)) : Bool := (match K.lookup a with
  | some ⟨_, _, .dict es _, _⟩ => es.toList.all fun e => (match e.key with
    | .str x _ => (kvs.map (·.1)).contains x
    | _ => false)
  | _ => false) && kvs.all fun p => (match PySem.W.nsIn K a p.1 with
    | some (some (.int i _)) => decide (i = p.2)
    | _ => false)
theorem kd_ok {w : World} {K : PySem.W.Frag} {mg : Str → Option Value} {x : Str} {kvs : List (Str × Int)} (g : mg x = some (.ref (He.ga K x))) (kd : ∃ es n, KDict K w (He.ga K x) es n) (h : kdB K (He.ga K x) kvs = true) : Kd w K mg x kvs := by
  obtain ⟨h1, h2⟩ := He.ba h
  refine ⟨g, kd, fun z hz => ?_, fun p hp => ?_⟩
  · obtain ⟨es, n, D⟩ := kd
    rw [D.at_] at h1
    have h3 : es.toList.all (fun e => (match e.key with
      | .str x _ => (kvs.map (·.1)).contains x
      | _ => false)) = true := h1
    have h4 := List.all_eq_true.mp h3
    unfold PySem.W.nsIn
    rw [D.at_]
    have e1 : es.toList.find? (·.key.isStr z) = none := by
      rw [List.find?_eq_none]
      intro e he q
      have h5 := h4 e he
      cases ek : e.key with
      | str y t =>
        rw [ek] at h5 q
        have e2 : y = z := eq_of_beq q
        subst e2
        exact hz (List.contains_iff_mem.mp h5)
      | _ =>
        rw [ek] at h5
        cases h5
    have e2 : es.toList.any (·.refKey) = false := by
      rw [List.any_eq_false]
      intro e he q
      have h5 := h4 e he
      unfold DictEntry.refKey at q
      cases ek : e.key with
      | str y t =>
        rw [ek] at q
        cases q
      | _ =>
        rw [ek] at h5
        cases h5
    show (match es.toList.find? (·.key.isStr z) with
      | some e => some (some e.val)
      | none => if es.toList.any (·.refKey) then none else some none) = some none
    rw [e1, e2]
    rfl
  · have h3 := List.all_eq_true.mp h2 p hp
    split at h3
    · rename_i i t e
      rw [e]
      exact ⟨t, by rw [of_decide_eq_true h3]⟩
    · cases h3
section
variable {X : Cx} {x : Str} {kvs : List (Str × Int)} {pos : Pos}
theorem pe_kd (D : Kd X.w X.K X.mg x kvs) (hg : Gl X x := by rfl) (hd : (x == ("__debug__" : Str)) = false := by decide) : PE X (.Name x pos) (tC (.ref (He.ga X.K x))) := pe_glob hg D.g rfl hd
def rInK (K : PySem.W.Frag) (x : Str) (kvs : List (Str × Int)) : R2 := fun a b H Q => ∃ z, a = .str z ∧ b = .ref (He.ga K x) ∧ Q (.bl (decide (z ∈ kvs.map (·.1)))) H
def rNotInK (K : PySem.W.Frag) (x : Str) (kvs : List (Str × Int)) : R2 := fun a b H Q => ∃ z, a = .str z ∧ b = .ref (He.ga K x) ∧ Q (.bl (!decide (z ∈ kvs.map (·.1)))) H
theorem Kd.look {w : World} {K : PySem.W.Frag} {mg : Str → Option Value} (D : Kd w K mg x kvs) (z : Str) : ∃ r, PySem.W.nsIn K (He.ga K x) z = some r ∧ r.isSome = decide (z ∈ kvs.map (·.1)) := by
  by_cases h : z ∈ kvs.map (·.1)
  · obtain ⟨p, hp, rfl⟩ := List.mem_map.mp h
    obtain ⟨t, e⟩ := D.ys p hp
    exact ⟨_, e, by rw [decide_eq_true h]; rfl⟩
  · exact ⟨_, D.no z h, by rw [decide_eq_false h]; rfl⟩
theorem op_inK (D : Kd X.w X.K X.mg x kvs) : OpR X (compareOp .In) (rInK X.K x kvs) := by
  intro pins s σ H a b v u Q I ra rb h
  obtain ⟨z, rfl, rfl, q⟩ := h
  obtain ⟨es, n, kd⟩ := D.kd
  obtain ⟨r, e1, e2⟩ := D.look z
  exact op_in_kd kd pins s σ H _ _ v u Q I ra rb ⟨z, r, rfl, rfl, e1, by rw [e2]; exact q⟩
theorem op_notInK (D : Kd X.w X.K X.mg x kvs) : OpR X (compareOp .NotIn) (rNotInK X.K x kvs) := by
  intro pins s σ H a b v u Q I ra rb h
  obtain ⟨z, rfl, rfl, q⟩ := h
  obtain ⟨es, n, kd⟩ := D.kd
  obtain ⟨r, e1, e2⟩ := D.look z
  exact op_notIn_kd kd pins s σ H _ _ v u Q I ra rb ⟨z, r, rfl, rfl, e1, by rw [e2]; exact q⟩
def rIxK (K : PySem.W.Frag) (x : Str) (kvs : List (Str × Int)) : R2 := fun a b H Q => ∃ p ∈ kvs, a = .ref (He.ga K x) ∧ b = .str p.1 ∧ Q (.int p.2) H
theorem ix_K (D : Kd X.w X.K X.mg x kvs) : IxR X (rIxK X.K x kvs) := by
  intro value slice pins s σ H a b v u Q I ra rb h hs
  obtain ⟨p, hp, rfl, rfl, q⟩ := h
  obtain ⟨es, n, kd⟩ := D.kd
  obtain ⟨t, e⟩ := D.ys p hp
  exact ix_kdict value slice pins s σ H _ _ v u Q I ra rb ⟨_, _, V.int p.2, rfl, rfl, ⟨es, n, _, kd.at_, kd.lit, e, ⟨t, rfl⟩⟩, q⟩ hs
end
end Rd
namespace Rd
open PySem L2
theorem at0 {X : Cx} {σ : St} : PassesAt CX0 X σ E0 := fun _ _ _ _ _ _ h => h.elim
end Rd
namespace Rd
open PySem L2
theorem in_strs (z : Str) : ∀ l : List Str, inV (.str z) (l.map V.str) = decide (z ∈ l)
  | [] => by simp [inV]
  | a :: r => by
    have ih := in_strs z r
    unfold inV at ih ⊢
    rw [List.map_cons, List.any_cons, ih]
    show ((a == z) || _) = _
    by_cases h : a = z
    · subst h
      simp
    · have e : (a == z) = false := by simpa using h
      rw [e, Bool.false_or]
      have h' : z ≠ a := fun q => h q.symm
      simp [h']
theorem flat_strs : ∀ l : List Str, (l.map V.str).all flatV = true
  | [] => rfl
  | a :: r => by rw [List.map_cons, List.all_cons, flat_strs r]; rfl
section
variable {X : Cx}
def rInT (K : PySem.W.Frag) : R2 := fun x y H Q => ∃ (z : Str) (p : Addr) (l : List Str), x = .str z ∧ y = .ref p ∧ SqT K H p (l.map V.str) ∧ Q (.bl (decide (z ∈ l))) H
def rNotInT (K : PySem.W.Frag) : R2 := fun x y H Q => ∃ (z : Str) (p : Addr) (l : List Str), x = .str z ∧ y = .ref p ∧ SqT K H p (l.map V.str) ∧ Q (.bl (!decide (z ∈ l))) H
theorem op_inT : OpR X (compareOp .In) (rInT X.K) := by
  intro pins s σ H x y v u Q I rx ry h
  obtain ⟨z, p, l, rfl, rfl, hs, q⟩ := h
  exact op_in_seq pins s σ H _ _ v u Q I rx ry ⟨p, _, rfl, .inr hs, rfl, flat_strs l, by show Q (.bl (inV _ _)) H; rw [in_strs]; exact q⟩
theorem op_notInT : OpR X (compareOp .NotIn) (rNotInT X.K) := by
  intro pins s σ H x y v u Q I rx ry h
  obtain ⟨z, p, l, rfl, rfl, hs, q⟩ := h
  exact op_notIn_seq pins s σ H _ _ v u Q I rx ry ⟨p, _, rfl, .inr hs, rfl, flat_strs l, by show Q (.bl (!inV _ _)) H; rw [in_strs]; exact q⟩
end
end Rd
namespace Rd
open PySem L2
theorem passN {X : Cx} : Passes (L2N.CX X.prog X.w) X E0 := fun _ _ _ _ _ _ _ h => by
  obtain ⟨_, _, _, _, _, _, _, _, _, _, _, _, z⟩ := h
  exact z.elim
theorem atN {X : Cx} {σ : St} : PassesAt (L2N.CX X.prog X.w) X σ E0 := fun _ _ _ _ _ I h => passN _ _ _ _ _ _ I h
section
variable {X : Cx} {k : Nat} {x f c m : Str} {p pos apos : Pos} {e o : Expr} {te : TE} {ta : TA} {ps : List Str} {sp : Sp} {CX : CXT} {to : TE}
theorem pmk_xN {es : List Expr} {q : Str} {st : Stmt} (T : Xh X.K X.mg x f q st) (Fq : Fm X.prog X.w X.K X.mg X.base CX0 k x "__init__" ps sp) (hr : Room (k + 1) X.A) (hg : Gl X x) (ha : PA X (e :: es) ta)
    (hdb : (x == ("__debug__" : Str)) = false := by decide) (he : starEach (e :: es) X.env = (false, eval e X.env) :: starEach es X.env := by rfl) (hpl : (backTo pos (starEach es X.env)).any (·.1) = false := by rfl) :
    L2N.PMk X (.Call (.Name x p) (e :: es) [] pos) (tMkO (He.ga X.K x) sp [] ta) := by
  obtain ⟨⟨fd, F1, hb⟩, me⟩ := Fq
  intro pins s σ H Q I h
  obtain ⟨nm, q', N, bs, bm, sn, sub, ab, col, dd, k0, k1, k2, k3, k5, hC, hbm⟩ := T.oex.cls
  refine wpAny_Call_Name_kw (ld_glob I hg T.g ?_ hdb)
  refine PySem.W.callWith_K (h₀ := X.base) I.ok.mod.kin T.oex.kC (thn (ha.run pos pins s σ H _ I h) fun us s1 ⟨vs, H1, I1, r1, hz, q1⟩ => ⟨I1.kIn, ?_⟩) he hpl
  show wpAny _ _ (call (.ref (He.ga X.K x)) us) _ _ _
  obtain ⟨hp, g, dr, tk, os⟩ := s1
  have hsz : hp.objs.size ≤ hp.objs.size + 1 := Nat.le_succ _
  have hn : H1 (hp.objs.size + 1) = none := I1.hok.fresh hsz
  have hq := q1 (hp.objs.size + 1) hn
  rw [List.append_nil] at hq
  have kk : ∀ b o, hp.get? b = some o → ((hp.push (PySem.W.kdv_tup us)).push (PySem.HandSPX.excO (He.ga X.K x) hp.objs.size)).get? b = some o := fun b o e => Heap.get?_push_of_some _ (Heap.get?_push_of_some _ e)
  have hget : ((hp.push (PySem.W.kdv_tup us)).push (PySem.HandSPX.excO (He.ga X.K x) hp.objs.size)).get? (hp.objs.size + 1) = some (PySem.HandSPX.excO (He.ga X.K x) hp.objs.size) := by heap_get
  have I2 : Inv X pins σ (upd H1 (hp.objs.size + 1) (exo (hp.objs.size + 1) (He.ga X.K x) none)) ⟨(hp.push (PySem.W.kdv_tup us)).push (PySem.HandSPX.excO (He.ga X.K x) hp.objs.size), g, dr, tk, os⟩ :=
    I1.laid (t' := tk) (a := hp.objs.size + 1) (o := exo (hp.objs.size + 1) (He.ga X.K x) none) (h' := (hp.push (PySem.W.kdv_tup us)).push (PySem.HandSPX.excO (He.ga X.K x) hp.objs.size)) kk hsz (exo_ok hget)
  have r2 : Vals (V.ref (hp.objs.size + 1) :: vs) (Value.ref (hp.objs.size + 1) :: us) := .cons rfl r1
  have hl : (Value.ref (hp.objs.size + 1) :: us).length = ps.length := by
    have e := r2.length
    rw [F1.len _ _ _ _ hq] at e
    exact e.symm
  have hus : us.length ≤ sizeLine := by
    rw [← Paired.length r1, sizeLine_eq]
    omega
  have hbt := hb ⟨(hp.push (PySem.W.kdv_tup us)).push (PySem.HandSPX.excO (He.ga X.K x) hp.objs.size), g, dr, tk, os⟩ (Value.ref (hp.objs.size + 1) :: us) I2.kIn (by rw [List.append_nil]; exact hl)
  rw [List.append_nil] at hbt
  refine wpAny_call (PySem.HandSPX.call_own PySem.F.excBase_ValueError (fun Y => PySem.HandSPX.refsVE_contains Y bm hbm) (I1.kIn _ _ hC) (PySem.W.looks_findIn I1.kIn me.at_) (fun self => PySem.W.bind_fn I1.kIn self (beq_iff_eq.mp me.fn)) hus
    (codeAny_mono (F1.run _ X.stack _ _ ⟨Value.ref (hp.objs.size + 1) :: us, []⟩ (Value.ref (hp.objs.size + 1) :: us) _ _ (fun _ _ _ => False) (hr.make (He.ga X.K x) us []) (I2.env0.make (He.ga X.K x) us []) hbt r2 hq) fun r s' hq' => ?_))
  cases r with
  | error er => exact hq'.elim
  | ok fl =>
    cases fl with
    | ret u =>
      obtain ⟨v, H2, os2, bare2, un2, hok2, rv, ev, d, fs, ea, ed, hd1, q2⟩ := hq'
      subst ev
      obtain ⟨h2, g2, d2, t2, os'⟩ := s'
      obtain ⟨t0, G, J, kG, ge, hoe, na⟩ := mk_end0 (d2 := d2) (t2 := t2) I1 hsz kk un2 hok2 os2 bare2 ea ed hd1
      exact ⟨rv, _, _, _, ⟨G, g2, d2, t2, os'⟩, _, .ref (He.ga X.K x), some d, rfl, J, kG, ge, hoe, ⟨rfl, rfl, fun vs e => by cases e; rfl⟩, rfl, rfl, na, rfl, bare2, raises_own T.oex.exC T.oex.tyC, q2⟩
    | next => exact False.elim hq'
    | brk => exact False.elim hq'
    | cont => exact False.elim hq'
end
end Rd
namespace Rd
open PySem L2
structure IsiC (K : PySem.W.Frag) (C : Addr) : Prop where
  ha : PySem.W.findIn K (.ref C) "__class__" = some (some (.builtin "object.__class__"))
  hn : PySem.W.specialIn K (.builtin "object.__class__") "__get__" = some (some (.builtin "getset_descriptor.__get__"))
  htk : PySem.W.takesIn K (.builtin "object.__class__") = some true
  hm : PySem.W.mroIn K C (.type "object") = some true
  ne : PySem.W.findIn K (.ref C) "__ne__" = some (some (.builtin "object.__ne__"))
theorem IsiC.ty {K : PySem.W.Frag} {C : Addr} (h : IsiC K C) (cl : Cls K C) {H : Hp} {a dx : Addr} {fs : List (Str × V)} (e : H a = some (.ins C dx fs)) : TyX K H (.ref a) (.ref C) := .base (.ins e cl h.ha h.hn h.htk h.hm)
theorem pe_gcls {X : Cx} {x : Str} {pos : Pos} (hg : Gl X x) (hm : X.mg x = some (.ref (He.ga X.K x))) (hd : (x == ("__debug__" : Str)) = false := by decide) : PE X (.Name x pos) (tC (.ref (He.ga X.K x))) := pe_glob hg hm rfl hd
end Rd
namespace Rd
open PySem L2
def sfn (K : PySem.W.Frag) (c m : Str) : Addr := He5.wf K (He.ga K c) "staticmethod" m
structure Sh (K : PySem.W.Frag) (mg : Str → Option Value) (c m q : Str) (st : Stmt) : Prop where
  ex : ∃ fd, FunD K m q (defArgs st) (defBody st) (defScope st) [] [] (sfn K c m) fd
  g : mg c = some (.ref (He.ga K c))
  at_ : PySem.W.findCls K (.ref (He.ga K c)) (.type "type") m = some (.get (.builtin "staticmethod.__get__") (.ref (He.ma K (He.ga K c) m)) .none (.ref (He.ga K c)))
  rc : ∃ rest, PySem.W.recIn K (He.ma K (He.ga K c) m) "staticmethod" = some (.ref (sfn K c m) :: rest)
  sga : PySem.W.specialIn K (.ref (He.ga K c)) "__getattribute__" = some (some (.builtin "type.__getattribute__"))
  ty : PySem.W.typeIn K (.ref (He.ga K c)) = some (.type "type")
  rd : PySem.W.readsIn K (He.ga K c) (.type "type") = true
def statB (K : PySem.W.Frag) (c m : Str) : Bool := He5.wrapB K (He.ga K c) "staticmethod" "staticmethod.__get__" m && (He.eqO (PySem.W.specialIn K (.ref (He.ga K c)) "__getattribute__") (some (some (.builtin "type.__getattribute__"))) &&
  (decide (PySem.W.typeIn K (.ref (He.ga K c)) = some (.type "type")) && PySem.W.readsIn K (He.ga K c) (.type "type")))
theorem sh_ok {K : PySem.W.Frag} {mg : Str → Option Value} {c m q : Str} {st : Stmt} (ex : ∃ fd, FunD K m q (defArgs st) (defBody st) (defScope st) [] [] (sfn K c m) fd) (g : mg c = some (.ref (He.ga K c))) (h : statB K c m = true) : Sh K mg c m q st := by
  obtain ⟨h1, h⟩ := He.ba h
  obtain ⟨h2, h⟩ := He.ba h
  obtain ⟨h3, h4⟩ := He.ba h
  obtain ⟨a, b⟩ := He5.wrapB_ok h1
  exact ⟨ex, g, a, b, He.eqO_ok h2, of_decide_eq_true h3, h4⟩
structure Fs (P : Program) (w : World) (K : PySem.W.Frag) (mg : Str → Option Value) (base : Heap) (CX : CXT) (k : Nat) (c m q : Str) (st : Stmt) (ps : List Str) (sp : Sp) : Prop where
  ex : ∃ fd, FnOk P w K mg base CX k (sfn K c m) fd ps sp ∧ Binds K fd ps [] ∧ PySem.W.keepIn K (.ref (sfn K c m)) = true
  sh : Sh K mg c m q st
section
variable {P : Program} {w : World} {K : PySem.W.Frag} {mg : Str → Option Value} {base : Heap} {CX : CXT} {k : Nat} {c m q : Str} {ps N : List Str} {sp : Sp} {st : Stmt}
theorem Sh.ok (F : Sh K mg c m q st) (S : FnScope N ps (defScope st))
    (hb : ∀ (kV doc pm : Value) (an : Option Addr) (cdv ct : Value) (us : List Value), us.length = ps.length → bindArgs (PySem.W.fnOf m q (defArgs st) (defBody st) (defScope st) .none kV doc pm an cdv ct) ⟨us, []⟩ = pure (ps.zip us))
    (len : ∀ vs H Q E, sp vs H Q E → vs.length = ps.length)
    (hbody : ∀ (cdv : Value) (A : Around) (outer : List Env) (s : Shared) (H : Hp) (vs : List V) (Q : VK) (E : XK), Room k (A.deeper (PyProof.Rows.envOfC q (defScope st) s.heap.objs.size (sfn K c m) cdv)) → sp vs H Q E →
      ∃ t, PSs (cxOf CX P w K mg base N q (defScope st) (sfn K c m) cdv A outer s H E) (defBody st) t ∧ t { nx := fun _ H' => Q .non H', rt := Q } (start N vs) H) : Fs P w K mg base CX (k + 1) c m q st ps sp := by
  obtain ⟨fd, F'⟩ := F.ex
  exact ⟨⟨fd, F'.ok S len hbody, F'.bindsN hb, F'.kp⟩, F⟩
end
section
variable {X : Cx} {CX : CXT} {k : Nat} {c m q : Str} {ps : List Str} {sp : Sp} {st : Stmt} {e : Expr} {es : List Expr} {ta : TA} {p1 p2 pos : Pos} {E : St → XK}
theorem pe_fs {pl : Sem Bool} (F : Fs X.prog X.w X.K X.mg X.base CX k c m q st ps sp) (hr : Room k X.A) (hg : Gl X c) (hx : ∀ σ, PassesAt CX X σ (E σ)) (ha : PA X (e :: es) ta) (hd : (c == ("__debug__" : Str)) = false := by decide)
    (hc : eval (.Call (.Attribute (.Name c p1) m p2) (e :: es) [] pos) X.env = (do
      let ov ← eval (.Name c p1) X.env
      standAt p2.atName
      let (f, first) ← holding [ov] (getMethod ov m pl)
      callWith pos f first (backTo pos (starEach (e :: es) X.env)) (backToKw pos (keywordEach [] X.env))) := by rfl)
    (he : starEach (e :: es) X.env = (false, eval e X.env) :: starEach es X.env := by rfl) (hpl : (backTo pos (starEach es X.env)).any (·.1) = false := by rfl) :
    PE X (.Call (.Attribute (.Name c p1) m p2) (e :: es) [] pos) (tCallS sp E ta) := by
  obtain ⟨⟨fd, f1, b1, kp⟩, S⟩ := F
  refine ⟨fun pins s σ H Q I h => ?_⟩
  refine PySem.W.methodCall_KW (ld_glob I hg S.g ?_ hd) hc
  obtain ⟨mm, fr⟩ := I.fr
  obtain ⟨rest, rc⟩ := S.rc
  refine PySem.W.method_of_cls fr I.ok.mod.kin S.sga (PySem.W.cls_sm fr I.ok.mod.kin S.ty S.rd S.at_ rc rfl ?_)
  refine PySem.W.callWith_K (first := []) (h₀ := X.base) I.ok.mod.kin kp (thn (ha.run pos pins _ σ H _ (I.tok _) h) fun us s1 ⟨vs, H1, I1, r1, q1⟩ => ⟨I1.kIn, ?_⟩) he hpl
  exact run_fnS (E := E) f1 hr b1 (hx σ) I1 r1 q1
end
abbrev AlZ : Type := AlY × He.AlD
structure SaysZ (fa : List He.Fa) (fn : List He.DefD) (ts : List He.Tab) (ex : PySem.W.Frag → Bool) (fs : List He5.DefA) (w : World) (K : PySem.W.Frag) : Prop where
  y : SaysY fa fn ts ex w K
  s : He5.SaysA [] fs K
def obsZ (n : Nat) (fa : List He.Fa) (fn : List He.DefD) (ts : List He.Tab) (ex : PySem.W.Frag → Bool) (fs : List He5.DefA) (g : Addr → Option Obj) : AlZ := (obsY n fa fn ts ex g, He5.obsA [] fs (frY n g))
def valZ (fn : List He.DefD) (ts : List He.Tab) (fs : List He5.DefA) (w : World) : AlZ := (valY fn ts w, He5.valA fs)
def hookZ (n : Nat) (fa : List He.Fa) (fn : List He.DefD) (ts : List He.Tab) (ex : PySem.W.Frag → Bool) (fs : List He5.DefA) : PySem.W.Hook where
  α := AlZ
  obs := fun s => obsZ n fa fn ts ex fs s.heap.get?
  val := fun w => valZ fn ts fs w
  says := fun w h => ∃ K : PySem.W.Frag, K.In h ∧ SaysZ fa fn ts ex fs w K
  of := fun _ _ e => ⟨_, He.frG_in, ⟨⟨congrArg (fun z : AlZ => z.1.1) e, congrArg (fun z : AlZ => z.1.2) e⟩, congrArg (fun z : AlZ => z.2) e⟩⟩
  keeps := fun _ _ _ ⟨K, hK, c⟩ k => ⟨K, PySem.W.Frag.In.keeps hK k, c⟩
theorem obsZ_eq {n : Nat} {fa : List He.Fa} {fn : List He.DefD} {ts : List He.Tab} {ex : PySem.W.Frag → Bool} {fs : List He5.DefA} {g : Addr → Option Obj} {s : Shared} (h : ∀ a, g a = s.heap.get? a) : obsZ n fa fn ts ex fs g = (hookZ n fa fn ts ex fs).obs s := by
  have e : g = s.heap.get? := funext h
  rw [e] <;> rfl
end Rd
namespace Rd
open PySem PySem.SeqAt
open PySem.AutoSeq1 (wpAny_loadPart')
open PySem.MeetsSeq PySem.MeetsSeq2 PySem.MeetsSeq3
open Ob (RcOp lexAt lexAt_succ lexAt_zero)
/-- the pairs ahead of j are equal -/
def Ahead (e : Nat → Bool) (j : Nat) : Prop := ∀ i, i < j → e i = true
theorem Ahead.more {e : Nat → Bool} {j : Nat} (h : Ahead e j) (q : e j = true) : Ahead e (j + 1) := fun i hi => by
  rcases Nat.lt_succ_iff_lt_or_eq.mp hi with z | z
  · exact h i z
  · rw [z]; exact q
end Rd
namespace Rd
open PySem PySem.Spec PyProof.Rows L2
def kt (e : Int × Value) : Str := match e.2 with | .str x _ => x | _ => Str.empty
/-- a row of such a set -/
def GT (w : World) (e : Int × Value) : Prop := ∃ x t, e.2 = Value.str x t ∧ e.1 = hashStr w x
def addS (l : List Str) (x : Str) : List Str := if x ∈ l then l else x :: l
/-- what a table must be so that it can be walked -/
structure Tb (w : World) (n : Nat) (t : SetTable) : Prop where
  sm : n < scanBound
  ft : t.fits n = true
  ri : Ris t.place.toList
  ld : w.params.followText "set-order" = true ∨ t.led = true
/-- a set of the texts l (in any order) at a -/
structure SetS (w : World) (h : Heap) (a : Addr) (l : List Str) : Prop where
  nd : l.Nodup
  ex : ∃ o es ep t, h.get? a = some o ∧ o.ExactSet ∧ o.data = .set es ep t ∧ (∀ e ∈ es.toList, GT w e) ∧ (es.toList.map kt).Perm l ∧ Tb w es.size t
theorem SetS.at {w : World} {h h' : Heap} {a : Addr} {l : List Str} (R : SetS w h a l) (k : ∀ o, h.get? a = some o → h'.get? a = some o) : SetS w h' a l := by
  obtain ⟨nd, o, es, ep, t, ho, r⟩ := R
  exact ⟨nd, o, es, ep, t, k o ho, r⟩
section
variable {P : Program} {w : World}
theorem gt_is {e : Int × Value} (g : GT w e) (x : Str) : (PySem.strKind P w).is x e.2 = true ↔ kt e = x := by
  obtain ⟨y, t, h1, _⟩ := g
  unfold kt
  rw [h1]
  show ((y == x) = true) ↔ y = x
  exact beq_iff_eq
theorem gt_elems {l : List (Int × Value)} (g : ∀ e ∈ l, GT w e) : ElemsOf (PySem.strKind P w) l := fun e he => by
  obtain ⟨x, t, h1, h2⟩ := g e he
  exact ⟨⟨x, by rw [h1]; exact strKind_is P w x t, h2⟩, by rw [h1] <;> rfl⟩
theorem gt_mem {l : List (Int × Value)} (g : ∀ e ∈ l, GT w e) (x : Str) : x ∈ l.map kt ↔ ∃ e ∈ l, (PySem.strKind P w).is x e.2 = true := by
  constructor
  · intro h
    obtain ⟨e, he, q⟩ := List.mem_map.mp h
    exact ⟨e, he, (gt_is (g e he) x).2 q⟩
  · rintro ⟨e, he, q⟩
    exact List.mem_map.mpr ⟨e, he, (gt_is (g e he) x).1 q⟩
theorem SetS.setOf {h : Heap} {a : Addr} {l : List Str} (R : SetS w h a l) : h.SetOf (PySem.strKind P w) a (fun x => decide (x ∈ l)) l.length := by
  obtain ⟨nd, o, es, ep, t, ho, hx, hd, g, pm, T⟩ := R
  refine ⟨o, es, ep, t, ho, hx, hd, gt_elems g, fun x => ?_, T.sm, T.ft, ?_⟩
  · rw [decide_eq_true_eq, ← pm.mem_iff]
    exact gt_mem g x
  · rw [← pm.length_eq, List.length_map, Array.length_toList]
theorem setS_fresh {h : Heap} {a : Addr} (ho : h.get? a = some { cls := .type "set", dict := none, data := .set #[] 0 (.fresh 0 0 (!w.params.followText "set-order")) }) : SetS w h a [] := by
  refine ⟨List.nodup_nil, _, #[], 0, _, ho, ⟨rfl, rfl, rfl⟩, rfl, (fun e he => by simp at he), List.Perm.refl _, (by decide), (by rfl), List.Pairwise.nil, ?_⟩
  show _ ∨ (!w.params.followText "set-order") = true
  cases w.params.followText "set-order" with
  | false => exact .inr rfl
  | true => exact .inl rfl
end
section
variable {P : Program} {w : World} {A : Around} {E : Value → Shared → Prop} {s : Shared} {a : Addr} {l : List Str}
theorem setS_tail {g : Bool → Sem Unit} (hg : ∀ (b : Bool) (s₁ : Shared) (Q' : Unit → Shared → Prop), Q' () s₁ → wpAny (model P w) A (g b) Q' E s₁)
    {o : Obj} {es e1 : Array (Int × Value)} {ep : Nat} {t t2 : SetTable} {m : List Str} (ho : s.heap.get? a = some o) (hx : o.ExactSet) (hd : o.data = .set es ep t)
    (g1 : ∀ e ∈ e1.toList, GT w e) (p1 : (e1.toList.map kt).Perm m) (nm : m.Nodup) (T : Tb w e1.size t2) {old : Bool} {R : Option Bool → Shared → Prop} (hR : ∀ h', Heap.SameBut a s.heap h' → SetS w h' a m → R (some true) { s with heap := h' }) :
    wpAny (model P w) A (do
        storeSet a e1 t2
        if (!old && t2.tooFull) = true then do
            g (relayAll t2 e1 (SetTable.grown e1.size)).2.2
            storeSet a (relayAll t2 e1 (SetTable.grown e1.size)).1 (relayAll t2 e1 (SetTable.grown e1.size)).2.1
            pure (some true)
          else pure (some true)) R E s := by
  refine wpAny_bind (wpAny_storeSet_of ho hd ?_ (fits_of_scanBound T.sm))
  have o1 := store_at (es' := e1) (t' := t2) ho hd
  have b1 := Heap.SameBut.update s.heap a (Obj.putSet e1 t2)
  split
  · have pm := relayAll_perm t2 e1 (SetTable.grown e1.size)
    have f3 := relayAll_fits t2 e1 (SetTable.grown e1.size)
    have r3 := relayAll_ris t2 e1 (SetTable.grown e1.size)
    have l3 := relayAll_led t2 e1 (SetTable.grown e1.size)
    generalize relayAll t2 e1 (SetTable.grown e1.size) = Z at pm f3 r3 l3 ⊢
    obtain ⟨e2, t3, gave⟩ := Z
    dsimp only at pm f3 r3 l3 ⊢
    have z2 : e2.size = e1.size := by rw [← Array.length_toList, pm.length_eq, Array.length_toList]
    have T3 : Tb w e2.size t3 := ⟨by rw [z2]; exact T.sm, f3, r3, T.ld.imp id fun z => by rw [l3]; exact z⟩
    refine wpAny_bind (hg _ _ _ ?_)
    refine wpAny_bind (wpAny_storeSet_of o1 rfl ?_ (fits_of_scanBound T3.sm))
    exact wpAny_pure (hR _ (b1.trans (Heap.SameBut.update _ a _)) ⟨nm, _, e2, _, t3, store_at (es' := e2) (t' := t3) o1 rfl, hx, rfl, fun e he => g1 e (pm.mem_iff.mp he), (pm.map kt).trans p1, T3⟩)
  · exact wpAny_pure (hR _ b1 ⟨nm, _, e1, _, t2, o1, hx, rfl, g1, p1, T⟩)
theorem setS_addH {x : Str} {tk : Tok} {Q : Bool → Shared → Prop} (R : SetS w s.heap a l) (room : l.length + 1 < scanBound)
    (hQ : ∀ b h', Heap.SameBut a s.heap h' → SetS w h' a (addS l x) → Q b { s with heap := h' }) : wpAny (model P w) A (setAddHashed a (.str x tk) ((PySem.strKind P w).hash x)) Q E s := by
  obtain ⟨nd, o, es, ep, t, ho, hx, hd, g, pm, T⟩ := R
  have sc : (Value.str x tk).scannable = true := rfl
  have el : ElemsOf (PySem.strKind P w) es.toList := gt_elems g
  have zl : es.size = l.length := by rw [← pm.length_eq, List.length_map, Array.length_toList]
  unfold setAddHashed setAddHashedIn
  refine wpAny_holding (wpAny_bind (wpAny_setState_of ho hd T.ft ?_))
  dsimp only
  rw [byScan_of sc T.sm el]
  simp only [↓reduceIte]
  unfold setAddByScan
  refine wpAny_bind ?_
  refine wpAny_bind (wpAny_rule ?_)
  refine wpAny_bind (wpAny_setScan_of (strKind_is P w x tk) ho hd T.ft el ?_)
  cases fi : List.findIdx? (fun e => (PySem.strKind P w).is x e.2) es.toList with
  | some j =>
    dsimp only
    obtain ⟨hj, pj, _⟩ := List.findIdx?_eq_some_iff_getElem.mp fi
    have inl : x ∈ l := pm.mem_iff.mp ((gt_mem (P := P) g x).2 ⟨es.toList[j], List.getElem_mem hj, pj⟩)
    have e : addS l x = l := if_pos inl
    exact wpAny_pure (wpAny_pure (hQ _ s.heap (Heap.SameBut.refl a s.heap) (by rw [e]; exact ⟨nd, o, es, ep, t, ho, hx, hd, g, pm, T⟩)))
  | none =>
    dsimp only
    have nin : x ∉ l := fun z => by
      obtain ⟨e, he, q⟩ := (gt_mem (P := P) g x).1 (pm.mem_iff.mpr z)
      have c := List.findIdx?_eq_none_iff.mp fi e he
      rw [q] at c
      cases c
    have ea : addS l x = x :: l := if_neg nin
    rw [ea] at hQ
    have nm : (x :: l).Nodup := List.nodup_cons.mpr ⟨nin, nd⟩
    have gw : ∀ (b : Bool) {s₁ : Shared} {Q' : Unit → Shared → Prop}, Q' () s₁ → wpAny (model P w) A (match b with | true => rule "set.scan.the-table-gave-way" | false => pure ()) Q' E s₁ :=
      fun b s₁ Q' q => by cases b <;> first | exact wpAny_pure q | exact wpAny_rule q
    have pq := layNew_perm t es ((PySem.strKind P w).hash x) (.str x tk)
    have f1 := layNew_fits t es ((PySem.strKind P w).hash x) (.str x tk)
    have r1 := layNew_ris t es ((PySem.strKind P w).hash x) (.str x tk) T.ri
    have l1 := layNew_led t es ((PySem.strKind P w).hash x) (.str x tk)
    generalize layNew t es ((PySem.strKind P w).hash x) (.str x tk) = Z at pq f1 r1 l1 ⊢
    obtain ⟨e1, t1, old, gave⟩ := Z
    dsimp only at pq f1 r1 l1 ⊢
    rw [Array.toList_push] at pq
    have pc : e1.toList.Perm (((PySem.strKind P w).hash x, Value.str x tk) :: es.toList) := pq.trans (List.perm_append_singleton _ _)
    have p1 : (e1.toList.map kt).Perm (x :: l) := (pc.map kt).trans (pm.cons x)
    have g1 : ∀ e ∈ e1.toList, GT w e := fun e he => by
      rcases List.mem_cons.mp (pc.mem_iff.mp he) with z | z
      · rw [z]; exact ⟨x, tk, rfl, rfl⟩
      · exact g e z
    have z1 : e1.size = l.length + 1 := by rw [← Array.length_toList, pc.length_eq, List.length_cons, Array.length_toList, zl]
    have s1 : e1.size < scanBound := by rw [z1]; exact room
    have ld : w.params.followText "set-order" = true ∨ t1.led = true := T.ld.imp id fun z => by rw [l1]; exact z
    refine wpAny_bind (gw _ ?_)
    split
    · refine wpAny_bind ?_
      rw [hashByValue_scannable 8 sc]
      refine wpAny_pure ?_
      refine setS_tail ?_ ho hx hd g1 p1 nm ⟨s1, ?_, ?_, ?_⟩ ?_
      · intro b s₁ Q' q; cases b <;> first | exact wpAny_pure q | exact wpAny_rule q
      · first | (split <;> first | exact f1 | exact SetTable.fits_plain_off f1) | exact f1
      · first | (split <;> exact r1) | exact r1
      · first | (split <;> exact ld) | exact ld
      · intro h' sb r; dsimp only; exact wpAny_pure (hQ _ h' sb r)
    · refine wpAny_bind (wpAny_pure ?_)
      simp only [↓reduceIte]
      refine setS_tail ?_ ho hx hd g1 p1 nm ⟨s1, f1, r1, ld⟩ ?_
      · intro b s₁ Q' q; cases b <;> first | exact wpAny_pure q | exact wpAny_rule q
      · intro h' sb r; dsimp only; exact wpAny_pure (hQ _ h' sb r)
/-- found.add(x) -/
theorem setS_add {x : Str} {tk : Tok} {Q : Value → Shared → Prop} (R : SetS w s.heap a l) (room : l.length + 1 < scanBound)
    (hQ : ∀ h', Heap.SameBut a s.heap h' → SetS w h' a (addS l x) → Q .none { s with heap := h', toks := s.toks + 1 }) : wpAny (model P w) A (call (.builtin "set.add") [.ref a, .str x tk]) Q E s := by
  refine wpAny_call_entry F.slot_set_add (R.setOf (P := P)).typeIs F.entry_set_add ?_ (F.args_set_add_2 _ _)
  unfold Builtin.«set.add» Builtin.Frozenset.oneOther
  simp only [List.isEmpty_nil, bind_assoc]
  unfold Builtin.Frozenset.addrOf setAdd
  refine wpAny_bind (wpAny_pure ?_)
  try dsimp only
  refine wpAny_bind (wpAny_pure ?_)
  try dsimp only
  refine wpAny_bind (wpAny_holding (wpAny_bind ((PySem.strKind P w).pyHash (strKind_is P w x tk) ?_)))
  refine setS_addH (s := { s with toks := s.toks + 1 }) R room fun b h' sb r => ?_
  show wpAny _ _ (ret Value.none) _ _ _
  exact wpAny_pure ⟨_, rfl, hQ h' sb r⟩
end
def SetSO (w : World) (a : Addr) (l : List Str) : HO := .ext fun h => SetS w h a l
theorem setSO_new {w : World} {P : Program} {H : Hp} {h : Heap} {a : Addr} {l : List Str} (R : SetS w h a l) : ObjOk P w H h a (SetSO w a l) := by
  have ⟨_, o, _, _, _, ho, _⟩ := R
  exact ⟨R, ⟨o, ho⟩, fun h1 h2 p k => SetS.at p k⟩
section
variable {X : Cx}
theorem setSO_get {pins : List (Addr × Obj)} {σ : L2.St} {H : Hp} {s : Shared} {a : Addr} {l : List Str} (I : Inv X pins σ H s) (ha : H a = some (SetSO X.w a l)) : SetS X.w s.heap a l := (I.hok a _ ha).1
theorem addS_ok {pins : List (Addr × Obj)} {σ : L2.St} {H : Hp} {s : Shared} {E : Value → Shared → Prop} {D : Addr} {l : List Str} {x : Str} {tk : Tok} {Q : Value → Shared → Prop} (I : Inv X pins σ H s) (hD : H D = some (SetSO X.w D l)) (room : l.length + 1 < scanBound)
    (h : ∀ s', Inv X pins σ (upd H D (SetSO X.w D (addS l x))) s' → Q .none s') : wpAny (model X.prog X.w) X.A (call (.builtin "set.add") [.ref D, .str x tk]) Q E s := by
  refine setS_add (setSO_get I hD) room fun h' sb new => ?_
  have he : ∃ u, h'.get? D = some u := by
    have ⟨_, o, _, _, _, ho, _⟩ := new
    exact ⟨o, ho⟩
  exact h _ (I.write (e := D) (t' := s.toks + 1) (by rw [hD]; trivial) (.inl rfl) (fun b u hb hu => (sb.2 b hb).trans hu) he (setSO_new new))
end
end Rd
namespace Rd
open PySem PySem.Spec PyProof.Rows L2
def tScS (w : World) (wi : TI) (g : TG) (tt : TT) (te : TE) (vs : List Nat) : TE := fun σ H Q => wi σ H fun J H1 => ∀ D, H1 D = none → ∃ W : Nat → Nat → Hp → Prop, (∃ m, W 0 m (upd H1 D (SetSO w D []))) ∧ ∀ i m H, W i m H →
  (J.stop i H ∧ Q (.ref D) H) ∨ (J.go i H ∧ ∃ Nx : Hp → Prop, (∀ H', Nx H' → ∃ m', m' < m ∧ W (i + 1) m' H') ∧ ∀ x H', J.yld i H x H' → g x (wipe σ vs) H' fun σ2 H2 => wipe σ2 vs = wipe σ vs ∧ tt σ2 H2 fun b H3 =>
    if b = true then te σ2 H3 fun y H4 => ∃ (c : Str) (l : List Str), y = .str c ∧ H4 D = some (SetSO w D l) ∧ l.length + 1 < scanBound ∧ Nx (upd H4 D (SetSO w D (addS l c))) else Nx H3)
section
variable {X : Cx}
theorem pe_scS {elt tg iter : Expr} {ifs : List Expr} {scope : Scope} {own : List (PySem.Str × Nat)} {pos : Pos} {wi : TI} {g : TG} {tt : TT} {te : TE} (hc : X.calm = true) (hN : X.N.Nodup) (hi : PI X tg iter wi) (ok : BlkOk X.N X.env.scope scope own)
    (hg : ∀ (s : Shared) (H : Hp) (C : Addr) (cl : List (PySem.Str × Addr)) (fp : List Addr), PG (X.blk s H scope (compEnvC scope cl C X.env) fp) tg g) (ht : ∀ (s : Shared) (H : Hp) (C : Addr) (cl : List (PySem.Str × Addr)) (fp : List Addr), PTs (X.blk s H scope (compEnvC scope cl C X.env) fp) ifs tt)
    (he : ∀ (s : Shared) (H : Hp) (C : Addr) (cl : List (PySem.Str × Addr)) (fp : List Addr), PE (X.blk s H scope (compEnvC scope cl C X.env) fp) elt te) (hs : ∀ x, foldedSetIterable iter X.env x = pure x := by intro _; rfl) :
    PE X (.SetComp elt [⟨tg, iter, ifs, 0⟩] scope pos) (tScS X.w wi g tt te (own.map (·.2))) := by
  refine ⟨fun pins s σ H Q I h => ?_⟩
  rw [PpSet.eval_SetComp]
  have hfree : ∀ y ∈ scope.names, y.2 = .free → ∃ c, X.env.cells.lookup y.1 = some c := fun y hy e => (ok.free y hy e).elim (fun k => I.ok.has _ (.inl k)) fun k => I.ok.has _ (.inr k)
  refine wpAny_comprehension_free (use := none) rfl hs (closure_ok hfree) ok.kind (fun y hy e => by rw [ok.uniq y hy, e]) (thn (hi.run pins s σ H _ I h) fun xv s1 hx => thn hx fun itv s2 h2 => ?_)
  obtain ⟨it, fp, tn, J, H2, e, I2, T, st2, f2, q⟩ := h2
  subst e
  refine PpSet.newSet_ok (newEnv_comp ?_)
  generalize hD : s2.heap.objs.size = D
  have Dn : H2 D = none := I2.hok.fresh (Nat.le_of_eq hD)
  obtain ⟨W, ⟨m0, w0⟩, turn⟩ := q D Dn
  generalize hO : ({ cls := .type "set", dict := none, data := .set #[] 0 (.fresh 0 0 (!X.w.params.followText "set-order")) } : Obj) = ob
  generalize e3 : ({ s2 with heap := s2.heap.push ob } : Shared) = s3
  have h3 : s3.heap = s2.heap.push ob := by rw [← e3]
  have I3 : Inv X pins σ (upd H2 D (SetSO X.w D [])) s3 := by
    rw [← e3]
    refine I2.laid (t' := s2.toks) (fun b o e => Heap.get?_push_of_some _ e) (Nat.le_of_eq hD) (setSO_new (setS_fresh ?_))
    rw [← hD, ← hO]
    exact Heap.get?_push_size _ rfl
  have f3 : ∀ b ∈ fp, FpOk X pins (upd H2 D (SetSO X.w D [])) b ∧ b < s3.heap.objs.size := fun b hb => by
    obtain ⟨o, e, _⟩ := T.obj _ _ st2 b hb
    have lt := Heap.lt_size e
    refine ⟨⟨?_, (f2 b hb).2⟩, by rw [h3, Heap.size_push]; exact Nat.lt_succ_of_lt lt⟩
    rw [upd_ne (by rw [← hD]; exact Nat.ne_of_lt lt)]
    exact (f2 b hb).1
  have st3 : tn 0 s3.heap := T.keep _ _ _ st2 fun b _ o e => by rw [h3]; exact Heap.get?_push_of_some _ e
  have I4 := block_start I3 ok hN f3
  have pg := hg s3 (upd H2 D (SetSO X.w D [])) s3.heap.objs.size (cellsFrom (s3.heap.objs.size + 1) scope.names (cloFrom X.env.cells scope.names [])) fp
  have pt := ht s3 (upd H2 D (SetSO X.w D [])) s3.heap.objs.size (cellsFrom (s3.heap.objs.size + 1) scope.names (cloFrom X.env.cells scope.names [])) fp
  have pe := he s3 (upd H2 D (SetSO X.w D [])) s3.heap.objs.size (cellsFrom (s3.heap.objs.size + 1) scope.names (cloFrom X.env.cells scope.names [])) fp
  show codeAny _ _ (.compStart (.SetComp elt [⟨tg, iter, ifs, 0⟩] scope pos) 0 (.ref it) (.ref D) (compEnvC scope (cellsFrom (s3.heap.objs.size + 1) scope.names (cloFrom X.env.cells scope.names [])) s3.heap.objs.size X.env)) _ { s3 with heap := pushCells (s3.heap.push { cls := .type "dict", data := .dict #[] }) scope.names }
  have nfp : ∀ b ∈ fp, (upd H2 D (SetSO X.w D [])) b = none := fun b hb => (f3 b hb).1.1
  generalize hce : compEnvC scope (cellsFrom (s3.heap.objs.size + 1) scope.names (cloFrom X.env.cells scope.names [])) s3.heap.objs.size X.env = ce at I4 pg pt pe ⊢
  have cL : ce.locals = s3.heap.objs.size := by subst hce; rfl
  generalize hH3 : upd H2 D (SetSO X.w D []) = H3 at I3 I4 pg pt pe w0 nfp f3
  generalize hs4 : ({ s3 with heap := pushCells (s3.heap.push { cls := .type "dict", data := .dict #[] }) scope.names } : Shared) = s4 at I4 ⊢
  have st4 : tn 0 s4.heap := T.keep _ _ _ st3 fun b _ o e => by rw [← hs4]; exact pushCells_keeps _ _ _ _ (Heap.get?_push_of_some _ e)
  have stat : ∀ {σ' : L2.St} {H' : Hp} {s' : Shared}, Inv (X.blk s3 H3 scope ce fp) [] σ' H' s' → (∀ b ∈ fp, H' b = none) → ∀ b ∈ fp, FpOk (X.blk s3 H3 scope ce fp) [] H' b := fun {σ' H' s'} I' hn b hb =>
    ⟨hn b hb, (I'.ok.exf b hb).1, I'.ok.exfs b hb, .inl hb, fun x c e => (I'.ok.exf b hb).2 x c e, fun p hp => absurd (show p ∈ ([] : List (Addr × Obj)) ++ [] from hp) (by simp)⟩
  have loop : codeAny (model X.prog X.w) X.A (.compLoop (.SetComp elt [⟨tg, iter, ifs, 0⟩] scope pos) 0 (.ref it) (.ref D) ce) (compPost (model X.prog X.w) X.A X.xe none (EP X pins σ Q) (.ref D) s3.heap.objs.size) s4 := by
    refine PpSet.compLoopS_any (fun n s' => ∃ i H', Inv (X.blk s3 H3 scope ce fp) [] (wipe σ (own.map (·.2))) H' s' ∧ tn i s'.heap ∧ (∀ b ∈ fp, H' b = none) ∧ W i n H') ?_ m0 ⟨0, H3, I4, st4, nfp, w0⟩
    rintro n s5 ⟨i, H5, I5, st5, n5, w5⟩
    rcases turn i n H5 w5 with ⟨stop, qq⟩ | ⟨go, Nx, hNx, step⟩
    · refine thnF (T.done (X.blk s3 H3 scope ce fp) rfl rfl rfl hc i [] s5 _ H5 (fun _ _ => False) I5 (stat I5 n5) st5 stop) fun r s6 ⟨hr, I6⟩ => ?_
      subst hr
      have I7 : Inv X pins σ H5 s6 := I3.call' (ch := fp) I6.os I6.base I6.hok I6.bare fun b hb => ⟨(f3 b hb).1.2.2.2.1, (f3 b hb).1.2.1, (f3 b hb).1.2.2.2.2.1, (f3 b hb).1.2.2.2.2.2⟩
      have nC : H5 s3.heap.objs.size = none := by
        have z : H5 ce.locals = none := I6.free
        rw [cL] at z
        exact z
      obtain ⟨m, hn, _⟩ := I6.loc
      have hn : s6.heap.Ns ce.locals m := hn
      rw [cL] at hn
      refine ⟨m, hn, fun h'' sb => ?_⟩
      obtain ⟨g0, g1, g2, g3, g4, g5⟩ := I3.fpOk (Nat.le_refl _) nC
      exact ⟨.ref D, H5, I7.turned (t' := s6.toks) (fun b o hb e => (sb.2 b hb).trans e) g0 g1 g3 g4 g5, rfl, qq⟩
    · refine thnF (T.item (X.blk s3 H3 scope ce fp) rfl rfl rfl hc i [] s5 _ H5 (fun _ _ => False) I5 (stat I5 n5) st5 go) fun r s6 ⟨u, hr, h6⟩ => ?_
      subst hr
      refine thnF h6 fun _ s7 ⟨x, H7, I7, r7, y7, st7, n7⟩ => ?_
      refine thnF (pg.run _ s7 _ H7 x u _ (I7.pinned (stat I7 n7) (T.obj _ _ st7)) r7 (step x H7 y7)) fun _ s8 ⟨σ8, H8, I8, hw8, q8⟩ => ?_
      refine thnF (pt.run _ s8 σ8 H8 _ I8 q8) fun b s9 ⟨H9, I9, q9⟩ => ?_
      have fin : ∀ {s' : Shared} {H' : Hp}, Inv (X.blk s3 H3 scope ce fp) ([] ++ pinsAt fp s7.heap) σ8 H' s' → Nx H' → ∃ m, m < n ∧ ∃ i H', Inv (X.blk s3 H3 scope ce fp) [] (wipe σ (own.map (·.2))) H' s' ∧ tn i s'.heap ∧ (∀ b ∈ fp, H' b = none) ∧ W i m H' := fun {s' H'} I' nx => by
        obtain ⟨m', hm, w'⟩ := hNx H' nx
        have pin' : ∀ b ∈ fp, ∀ o, s7.heap.get? b = some o → s'.heap.get? b = some o ∧ H' b = none := fun b hb o e => by
          have z := I'.pin (b, o) (List.mem_append_right _ (List.mem_append_right _ (mem_pinsAt hb e)))
          exact ⟨z.1, z.2.1⟩
        refine ⟨m', hm, i + 1, H', (I'.unpinned (pins := [])).weak (by rw [← hw8, wipe_length]) (fun j v e => by rw [← hw8] at e; exact (wipe_some e).1), T.keep _ _ _ st7 fun b hb o e => (pin' b hb o e).1, fun b hb => ?_, w'⟩
        obtain ⟨o, e, _⟩ := T.obj _ _ st7 b hb
        exact (pin' b hb o e).2
      cases b with
      | false =>
        simp only [Bool.false_eq_true, if_false] at q9 ⊢
        exact fin I9 q9
      | true =>
        simp only [if_true] at q9 ⊢
        refine thnF (pe.run _ s9 σ8 H9 _ I9 q9) fun z s10 ⟨yv, H10, I10, r10, c, l, ey, hD10, hz10, nx⟩ => ?_
        subst ey
        obtain ⟨tk, rfl⟩ := r10
        exact addS_ok (X := X.blk s3 H3 scope ce fp) I10 hD10 hz10 fun s11 I11 => fin I11 nx
  exact PpSet.codeAny_compStart_set loop (T.self X.A 0 _ _ _ st4 loop)
end
section
variable {P : Program} {w : World} {A : Around} {E : Value → Shared → Prop} {s : Shared}
theorem strs_of : ∀ (l : List Value), (∀ v ∈ l, ∃ x t, v = Value.str x t) → ∃ xs, StrsAre l xs
  | [], _ => ⟨[], .nil⟩
  | v :: l, h => by
    obtain ⟨x, t, rfl⟩ := h v List.mem_cons_self
    obtain ⟨xs, g⟩ := strs_of l fun u hu => h u (List.mem_cons_of_mem _ hu)
    exact ⟨x :: xs, .cons x t g⟩
theorem strs_kt {es : List (Int × Value)} (g : ∀ e ∈ es, GT w e) : StrsAre (es.map (·.2)) (es.map kt) := by
  induction es with
  | nil => exact .nil
  | cons e r ih =>
    obtain ⟨x, t, h1, _⟩ := g e List.mem_cons_self
    have hk : kt e = x := by unfold kt; rw [h1]
    rw [List.map_cons, List.map_cons, h1, hk]
    exact .cons x t (ih fun e he => g e (List.mem_cons_of_mem _ he))
def rawS : Value → Str
  | .str x _ => x
  | _ => Str.empty
theorem strs_raw {l : List Value} {xs : List Str} (h : StrsAre l xs) : l.map rawS = xs := by
  induction h with
  | nil => rfl
  | cons x t _ ih => rw [List.map_cons, ih]; rfl
theorem sorted_setS {a : Addr} {l : List Str} {Q : Value → Shared → Prop} (R : SetS w s.heap a l) (hh : A.handled = none)
    (hQ : ∀ s' p (out : Array Value) (c : Nat) (ys : List Str), (∀ b o, s.heap.get? b = some o → s'.heap.get? b = some o) → s'.gens = s.gens → s'.os = s.os → s.heap.objs.size ≤ p →
      s'.heap.get? p = some (seqObj "list" out c) → StrsAre out.toList ys → ys.Perm l → sortedS ys = true → Q (.ref p) s') :
    wpAny (model P w) A (call (.builtin "sorted") [.ref a]) Q E s := by
  obtain ⟨nd, o, es, ep, t, ho, hx, hd, g, pm, T⟩ := R
  refine Calls.call_function_entry kind_sorted plain_sorted entry_sorted (args_sorted1 _) ?_
  unfold Builtin.«sorted»
  refine wpAny_bind (m := checkCount "sorted" 1 1 _) (wpAny_pure ?_)
  refine wpAny_bind (collect_set (A := A.in1) hh ⟨o, ho, hx.1, hd⟩ T.ft T.sm T.ri T.ld fun s1 vs k1 hz g1 o1 pv => ?_)
  have hvl : vs.length = es.size := by rw [pv.length_eq, List.length_map, Array.length_toList]
  obtain ⟨xs, hxs⟩ := strs_of vs fun v hv => by
    obtain ⟨e, he, q⟩ := List.mem_map.mp (pv.mem_iff.mp hv)
    obtain ⟨x, tk, h1, _⟩ := g e he
    exact ⟨x, tk, by rw [← q]; exact h1⟩
  have px : xs.Perm l := by
    rw [← strs_raw hxs]
    refine ((pv.map rawS).trans ?_).trans pm
    rw [strs_raw (strs_kt g)]
  have hvs : vs.length ≤ sizeLine := by rw [hvl]; exact fits_of_scanBound T.sm
  refine wpAny_bind (wpAny_newList ?_ hvs)
  have hoL : (s1.heap.push (seqObj "list" vs.toArray 0)).get? s1.heap.objs.size = some (seqObj "list" vs.toArray 0) := Heap.get?_push_size _ rfl
  refine wpAny_bind (wpAny_holding (wpAny_call_entry slot_list_sort ⟨_, hoL, rfl⟩ entry_list_sort (list_sort_treeKAny strKind_oneLt hoL hxs.keysOf (fun v₁ v₂ rest e => keyKind_strs (by rw [← e]; exact hxs)) hvs fun st' hp hs => ⟨_, rfl, ?_⟩) (args_list_sort _)))
  obtain ⟨ys, h1, h2, h3⟩ := sorted_out_str hxs hp hs
  obtain ⟨c, hc⟩ := sortedHeap_at (vs := vs) hoL
  refine wpAny_pure ⟨_, rfl, hQ _ s1.heap.objs.size _ c ys (fun b u e => ?_) g1 o1 hz hc h1 (h2.trans px) h3⟩
  have q := k1 b u e
  have hlt := Heap.lt_size q
  rw [sortedHeap_old (Nat.ne_of_lt hlt) (by rw [size_push']; exact Nat.lt_succ_of_lt hlt)]
  exact Heap.get?_push_of_some _ q
end
section
variable {X : Cx}
def rSortedSS (w : World) : List V → Hp → VK → Prop := fun vs H Q => ∃ (a : Addr) (l : List Str), vs = [V.ref a] ∧ H a = some (SetSO w a l) ∧
  ∀ (ys : List Str) (p : Addr), ys.Perm l → ys.Nodup → sortedS ys = true → H p = none → Q (.ref p) (upd H p (.lst (ys.map V.str)))
theorem cr_sortedSS (hc : X.calm = true) : CallR X (.builtin "sorted") (rSortedSS X.w) := by
  intro pins s σ H vs us Q I r h
  obtain ⟨a, l, rfl, ha, q⟩ := h
  have R := setSO_get I ha
  rw [Vals.ref1 r]
  have hl : l.length ≤ sizeLine := by
    have ⟨_, o, es, ep, t, _, _, _, _, pm, T⟩ := R
    rw [← pm.length_eq, List.length_map, Array.length_toList]
    exact fits_of_scanBound T.sm
  refine sorted_setS R (I.ok.hd hc) fun s' p out c ys k g o hp hgt hi pm hs => ?_
  have hlen : (ys.map V.str).length ≤ sizeLine := by rw [List.length_map, pm.length_eq]; exact hl
  have hn : H p = none := I.hok.fresh hp
  obtain ⟨h2, g2, d2, t2, o2⟩ := s'
  obtain rfl : o2 = s.os := o
  obtain rfl : g2 = s.gens := g
  have J : Inv X pins σ (upd H p (.lst (ys.map V.str))) ⟨h2, s.gens, d2, t2, s.os⟩ := I.call (d' := d2) (t' := t2) (g' := s.gens) (ch := []) (Un.laid k hp hn) (I.hok.laid k hp ⟨hlen, out.toList, c, vals_of_strs hi, hgt⟩) I.bare (fun _ z => nomatch z)
  exact ⟨.ref p, _, J, rfl, q ys p pm (pm.nodup_iff.mpr R.nd) hs hn⟩
end
end Rd
namespace Rd
open PySem PySem.Spec PyProof.Rows L2
/-- texts put into a set one behind another -/
def putS (l : List Str) : List Str → List Str
  | [] => l
  | x :: r => putS (addS l x) r
theorem addS_mem {l : List Str} {x y : Str} : y ∈ addS l x ↔ y ∈ l ∨ y = x := by
  unfold addS
  split
  · exact ⟨.inl, fun h => h.elim id fun e => by rw [e]; assumption⟩
  · rw [List.mem_cons]
    exact Or.comm
theorem addS_len {l : List Str} {x : Str} : (addS l x).length ≤ l.length + 1 := by
  unfold addS
  split
  · exact Nat.le_succ _
  · exact Nat.le_refl _
theorem putS_mem {y : Str} : ∀ {r l : List Str}, y ∈ putS l r ↔ y ∈ l ∨ y ∈ r
  | [], l => by simp [putS]
  | x :: r, l => by
    rw [putS, putS_mem, addS_mem, List.mem_cons, or_assoc]
theorem putS_len : ∀ {r l : List Str}, (putS l r).length ≤ l.length + r.length
  | [], l => Nat.le_refl _
  | x :: r, l => by
    have h := putS_len (r := r) (l := addS l x)
    have := addS_len (l := l) (x := x)
    rw [putS, List.length_cons]
    omega
theorem putS_app : ∀ {r q l : List Str}, putS l (r ++ q) = putS (putS l r) q
  | [], _, _ => rfl
  | x :: r, q, l => putS_app (r := r) (q := q) (l := addS l x)
end Rd
namespace Rd
open PySem L2
def rLenO (C : Addr) (sp : Sp) : List V → Hp → VK → Prop := fun vs H Q => ∃ a dx fs, vs = [.ref a] ∧ H a = some (.ins C dx fs) ∧ sp [.ref a] H (fun v H' => ∃ n : Nat, v = .int n ∧ n < 2 ^ 62 ∧ Q (.int n) H') E0
section
variable {X : Cx} {k : Nat} {ps : List Str} {sp : Sp} {c : Str}
theorem call_lenO (F : Fm X.prog X.w X.K X.mg X.base CX0 k c "__len__" ps sp) (hr : Room (k + 1) X.A) : CallR X (.builtin "len") (rLenO (He.ga X.K c) sp) := by
  obtain ⟨⟨fd, f1, b1⟩, me⟩ := F
  intro pins s σ H vs us Q I r h
  obtain ⟨a, dx, fs, rfl, ha, q⟩ := h
  rw [Vals.ref1 r]
  obtain ⟨mA, J, _⟩ := ins_get I.hok ha
  obtain ⟨od, J, _⟩ := J.look
  obtain ⟨mm, hF⟩ := I.fr
  have hl := f1.len _ _ _ _ q
  have r2 : Vals [V.ref a] [Value.ref a] := .cons rfl .nil
  have bb := b1 s [.ref a] I.kIn (by simpa using hl)
  refine PySem.W.len_K hF I.ok.mod.kin J me.at_ me.fn (wpAny_call (codeAny_mono (f1.run X.A.in1 X.stack s H ⟨[.ref a], []⟩ [.ref a] [.ref a] _ E0 hr.in1 I.env0.in1 (by simpa using bb) r2 q) fun r s' hq => ?_))
  cases r with
  | error e => exact hq.elim
  | ok fl =>
    cases fl with
    | ret u =>
      obtain ⟨v, H', I', rv, n, rfl, hn, q'⟩ := I.after hq
      obtain ⟨t, rfl⟩ := rv
      exact ⟨⟨by omega, by omega⟩, .int n, H', I'.tok _, ⟨_, rfl⟩, q'⟩
    | next => exact False.elim hq
    | brk => exact False.elim hq
    | cont => exact False.elim hq
end
end Rd
namespace Rd
open PySem L2
theorem _root_.L2.Room.units65 {k : Nat} {A : Around} (r : Room k A) : A.units + 65 < cLine := by have := r.un; omega
end Rd
namespace Rd
open PySem L2
section
variable {X : Cx} {K : PySem.W.Frag}
theorem kIx {r : PySem.W.Frag → R2} (hK : X.K = K) (h : IxR X (r X.K)) : IxR X (r K) := hK ▸ h
theorem kSl {r : PySem.W.Frag → _} (hK : X.K = K) (h : SlR X (r X.K)) : SlR X (r K) := hK ▸ h
end
end Rd
namespace Rd
open PySem L2
def tCallE (K : PySem.W.Frag) (L : List (Str × Sp)) (tf : TE) (t : TA) : TE := fun σ H Q => tf σ H fun x H1 => ∃ p ∈ L, x = .ref (He.ga K p.1) ∧ t σ H1 fun vs H2 => p.2 vs H2 Q E0
section
variable {X : Cx} {k : Nat} {e f : Expr} {es : List Expr} {tf : TE} {t : TA} {pos : Pos}
theorem pe_callE (L : List (Str × Sp)) (hL : ∀ p ∈ L, ∃ ps, Fk X.prog X.w X.K X.mg X.base CX0 k p.1 ps p.2) (hr : Room k X.A) (hf : PE X f tf) (ha : PA X (e :: es) t)
    (hc : eval (.Call f (e :: es) [] pos) X.env = (do callWith pos (← eval f X.env) [] (backTo pos (starEach (e :: es) X.env)) (backToKw pos (keywordEach [] X.env))) := by rfl)
    (he : starEach (e :: es) X.env = (false, eval e X.env) :: starEach es X.env := by rfl) (hpl : (backTo pos (starEach es X.env)).any (·.1) = false := by rfl) :
    PE X (.Call f (e :: es) [] pos) (tCallE X.K L tf t) := by
  refine ⟨fun pins s σ H Q I h => ?_⟩
  rw [hc]
  refine wpAny_bind (thn (hf.run pins s σ H _ I h) fun u s1 ⟨x, H1, I1, rx, p, hp, ex, q⟩ => ?_)
  subst ex
  obtain rfl : u = Value.ref (He.ga X.K p.1) := rx
  obtain ⟨ps, ⟨fd, F, b⟩, g, kp⟩ := hL p hp
  refine PySem.W.callWith_K (first := []) (h₀ := X.base) I1.ok.mod.kin kp (thn (ha.run pos pins _ σ H1 _ I1 q) fun us s2 ⟨vs, H2, I2, r2, q2⟩ => ⟨I2.kIn, ?_⟩) he hpl
  exact run_fnS (E := fun _ => E0) F hr b at0 I2 r2 q2
end
end Rd
namespace Rd
open PySem PySem.Spec L2
section
variable {X : Cx} {K : PySem.W.Frag}
theorem pe_fldk {e : Expr} {f : Str} {pos : Pos} {ta : TE} (hK : X.K = K) (he : PE X e ta) (hb : attributeBase e f X.env (eval e X.env) = eval e X.env) : PE X (.Attribute e f pos) (tFld K ta f) := by subst hK; exact pe_fld he hb
end
end Rd
namespace Rd
open PySem L2
def strsB : List Value → List Str → Bool
  | [], [] => true
  | .str z _ :: r, x :: s => decide (z = x) && strsB r s
  | _, _ => false
def ktB (K : PySem.W.Frag) (a : Addr) (xs : List Str) : Bool := match K.lookup a with
  | some ⟨.type "tuple", _, .seq its _, _⟩ => strsB its.toList xs && decide (its.size ≤ sizeLine)
  | _ => false
theorem strsB_ok : ∀ {us : List Value} {xs : List Str}, strsB us xs = true → Vals (xs.map V.str) us
  | [], [], _ => .nil
  | .str z t :: r, x :: s, h => by
    obtain ⟨h1, h2⟩ := He.ba h
    cases of_decide_eq_true h1
    exact .cons ⟨t, rfl⟩ (strsB_ok h2)
structure Ktu (K : PySem.W.Frag) (mg : Str → Option Value) (x : Str) (xs : List Str) : Prop where
  g : mg x = some (.ref (He.ga K x))
  tp : ∀ H, SqT K H (He.ga K x) (xs.map V.str)
theorem ktB_ok {K : PySem.W.Frag} {mg : Str → Option Value} {x : Str} {xs : List Str} (g : mg x = some (.ref (He.ga K x))) (h : ktB K (He.ga K x) xs = true) : Ktu K mg x xs := by
  refine ⟨g, fun H => .inr ?_⟩
  unfold ktB at h
  split at h
  · rename_i d its n sl e
    obtain ⟨h1, h2⟩ := He.ba h
    exact ⟨_, its, n, e, rfl, rfl, of_decide_eq_true h2, strsB_ok h1⟩
  · cases h
theorem pe_ktk {X : Cx} {K : PySem.W.Frag} {x : Str} {xs : List Str} {pos : Pos} (hK : X.K = K) (D : Ktu X.K X.mg x xs) (hg : Gl X x := by rfl) (hd : (x == ("__debug__" : Str)) = false := by decide) : PE X (.Name x pos) (tC (.ref (He.ga K x))) := by subst hK; exact pe_glob hg D.g rfl hd
end Rd
namespace PySem
namespace AutoSeq1
end AutoSeq1
end PySem
namespace PySem.W
open Lean Elab Tactic Meta PySem PySem.Calls PyProof.Rows
end PySem.W
namespace Rd
open PySem L2
structure BoD (K : PySem.W.Frag) (c d : Str) (m r : Str) : Prop where
  ne : He.ga K c ≠ He.ga K d
  rc : PySem.W.findIn K (.ref (He.ga K c)) r = some none
  rd : PySem.W.findIn K (.ref (He.ga K d)) r = some none
  sub : PySem.W.subIn K (.ref (He.ga K d)) (.ref (He.ga K c)) = some false
def noneB : Option (Option Value) → Bool
  | some none => true
  | _ => false
theorem noneB_ok {o : Option (Option Value)} (h : noneB o = true) : o = some none := by
  unfold noneB at h
  split at h
  · rfl
  · cases h
def boB (K : PySem.W.Frag) (c d r : Str) : Bool := decide (He.ga K c ≠ He.ga K d) && (noneB (PySem.W.findIn K (.ref (He.ga K c)) r) && (noneB (PySem.W.findIn K (.ref (He.ga K d)) r) && decide (PySem.W.subIn K (.ref (He.ga K d)) (.ref (He.ga K c)) = some false)))
theorem boB_ok {K : PySem.W.Frag} {c d m r : Str} (h : boB K c d r = true) : BoD K c d m r := by
  obtain ⟨h1, h⟩ := He.ba h
  obtain ⟨h2, h⟩ := He.ba h
  obtain ⟨h3, h4⟩ := He.ba h
  exact ⟨of_decide_eq_true h1, noneB_ok h2, noneB_ok h3, of_decide_eq_true h4⟩
end Rd
namespace Rd
open PySem PySem.Spec PyProof.Rows L2
structure KdS (w : World) (K : PySem.W.Frag) (mg : Str → Option Value) (x : Str) (kvs : List (Str × Str)) : Prop where
  g : mg x = some (.ref (He.ga K x))
  kd : ∃ es n, KDict K w (He.ga K x) es n
  ys : ∀ p ∈ kvs, ∃ t, PySem.W.nsIn K (He.ga K x) p.1 = some (some (.str p.2 t))
def kdsB (K : PySem.W.Frag) (a : Addr) (kvs : List (Str × Str)) : Bool := kvs.all fun p => (match PySem.W.nsIn K a p.1 with
    | some (some (.str i _)) => decide (i = p.2)
    | _ => false)
theorem kds_ok {w : World} {K : PySem.W.Frag} {mg : Str → Option Value} {x : Str} {kvs : List (Str × Str)} (g : mg x = some (.ref (He.ga K x))) (kd : ∃ es n, KDict K w (He.ga K x) es n) (h : kdsB K (He.ga K x) kvs = true) : KdS w K mg x kvs := by
  refine ⟨g, kd, fun p hp => ?_⟩
  have h3 := List.all_eq_true.mp h p hp
  split at h3
  · rename_i i t e
    rw [e]
    exact ⟨t, by rw [of_decide_eq_true h3]⟩
  · cases h3
section
variable {X : Cx} {x : Str} {kvs : List (Str × Str)} {pos : Pos}
theorem pe_kdS (D : KdS X.w X.K X.mg x kvs) (hg : Gl X x := by rfl) (hd : (x == ("__debug__" : Str)) = false := by decide) : PE X (.Name x pos) (tC (.ref (He.ga X.K x))) := pe_glob hg D.g rfl hd
def rIxKS (K : PySem.W.Frag) (x : Str) (kvs : List (Str × Str)) : R2 := fun a b H Q => ∃ p ∈ kvs, a = .ref (He.ga K x) ∧ b = .str p.1 ∧ Q (.str p.2) H
theorem ix_KS (D : KdS X.w X.K X.mg x kvs) : IxR X (rIxKS X.K x kvs) := by
  intro value slice pins s σ H a b v u Q I ra rb h hs
  obtain ⟨p, hp, rfl, rfl, q⟩ := h
  obtain ⟨es, n, kd⟩ := D.kd
  obtain ⟨t, e⟩ := D.ys p hp
  exact ix_kdict value slice pins s σ H _ _ v u Q I ra rb ⟨_, _, V.str p.2, rfl, rfl, ⟨es, n, _, kd.at_, kd.lit, e, ⟨t, rfl⟩⟩, q⟩ hs
/-- None in a list of data of any depth -/
def rInNone (K : PySem.W.Frag) : R2 := fun x y H Q => ∃ ds, x = .non ∧ Dp K H y (.list ds) ∧ PyData.canLayAll0 ds = true ∧ Q (.bl (ds.any fun z => PyData.eqv z .none)) H
theorem op_inNone (hu : X.A.units + 65 < cLine) : OpR X (compareOp .In) (rInNone X.K) := by
  intro pins s σ H x y v u Q I rx ry h
  obtain ⟨ds, rfl, he, se, q⟩ := h
  obtain ⟨as, r1⟩ := Dp.reads I .none .non v .non rx
  obtain ⟨bs, r2⟩ := Dp.reads I (.list ds) y u he ry
  exact SeqAt.in_list_reads r2 r1 se (by rfl) (by show X.A.units + 1 + min (PyData.depthAll ds) 0 < cLine; omega) ⟨.bl _, H, I, rfl, q⟩
end
end Rd
namespace Rd
open PySem PySem.Spec PyProof.Rows L2
section
variable {X : Cx}
/-- == and != of data of any depth up to 500 -/
def LayW (d : PyData) : Prop := d.canLay0 = true ∧ d.depth ≤ 500
def rEqW (K : PySem.W.Frag) : R2 := fun x y H Q => ∃ d e, Dp K H x d ∧ Dp K H y e ∧ LayW d ∧ LayW e ∧ Q (.bl (PyData.eqv d e)) H
def rNeW (K : PySem.W.Frag) : R2 := fun x y H Q => ∃ d e, Dp K H x d ∧ Dp K H y e ∧ LayW d ∧ LayW e ∧ Q (.bl (!PyData.eqv d e)) H
theorem op_eqW (hu : X.A.units + 500 < cLine) : OpR X (compareOp .Eq) (rEqW X.K) := by
  intro pins s σ H x y v u Q I rx ry h
  obtain ⟨d, e, hd, he, sd, se, q⟩ := h
  obtain ⟨as, r1⟩ := Dp.reads I d x v hd rx
  obtain ⟨bs, r2⟩ := Dp.reads I e y u he ry
  exact SeqAt.compareEq_reads r1 r2 sd.1 se.1 (by have := sd.2; omega) ⟨.bl _, H, I, rfl, q⟩
theorem op_neW (hu : X.A.units + 500 < cLine) : OpR X (compareOp .NotEq) (rNeW X.K) := by
  intro pins s σ H x y v u Q I rx ry h
  obtain ⟨d, e, hd, he, sd, se, q⟩ := h
  obtain ⟨as, r1⟩ := Dp.reads I d x v hd rx
  obtain ⟨bs, r2⟩ := Dp.reads I e y u he ry
  exact SeqAt.compareNe_reads r1 r2 sd.1 se.1 (by have := sd.2; omega) ⟨.bl _, H, I, rfl, q⟩
end
theorem units500 {k : Nat} {A : Around} (r : Room k A) (h : 20 ≤ k) : A.units + 500 < cLine := by have := r.un; omega
end Rd
namespace Rz2
open PySem PySem.Spec PyProof.Rows PySem.W
/-- the zip at z: no tuple is out, or one was given out whose fate is open -/
def ZS (h : Heap) (z TI TO : Addr) : Prop := IsZip h z TI TO .none ∨ ∃ (T : Addr) (f : Bool), IsZipHeld h z TI TO T f
section
variable {prog : Program} {w : World} {A : Around} {E : Value → Shared → Prop} {s : Shared}
theorem dead {a : Addr} {Q : Option Obj → Shared → Prop} (ho : s.heap.get? a = none) (h : Q none s) : wpAny (model prog w) A (loadIfAlive a) Q E s := by
  have h' : Q (s.heap.get? a) s := by rw [ho]; exact h
  exact fun _ _ _ => h'
abbrev ZEl (h : Heap) (z TI TO : Addr) (f : Bool) : Prop := h.get? z = some { cls := .type "zip", dict := none, data := .fields #[.ellipsis, .bool f, .bool false, .ref TI, .ref TO], slots := #[] }
theorem zip_next_item_dead {z TI TO i1 i2 l1 l2 T : Addr} {f : Bool} {k1 k2 : Nat} {xs ys : Array Value} {x y a b : Value} {Q : Value → Shared → Prop} (D : ZipApart z TI TO i1 i2 l1 l2)
    (hz : IsZipHeld s.heap z TI TO T f) (hT : s.heap.get? T = none) (hTI : IsPair s.heap TI (.ref i1) (.ref i2)) (hTO : IsPair s.heap TO a b)
    (h1 : s.heap.IsListIter i1 l1 k1) (h2 : s.heap.IsListIter i2 l2 k2) (hl1 : s.heap.IsList l1 xs) (hl2 : s.heap.IsList l2 ys) (hx : xs[k1]? = some x) (hy : ys[k2]? = some y)
    (hQ : ∀ h', IsZip h' z TI TO (rawInt s.heap.objs.size) → IsPair h' TO x y → h'.IsListIter i1 l1 (k1 + 1) → h'.IsListIter i2 l2 (k2 + 1) → IsPair h' s.heap.objs.size x y → h'.objs.size = s.heap.objs.size + 1 →
      (∀ c o, c ≠ z → c ≠ TO → c ≠ i1 → c ≠ i2 → s.heap.get? c = some o → h'.get? c = some o) → Q (.ref s.heap.objs.size) { s with heap := h' }) :
    wpAny (model prog w) A (Builtin.«zip.__next__» ⟨[.ref z], []⟩) (fun fin s' => ∃ v, fin = .done (.ret v) ∧ Q v s') E s := by
  show wpAny _ _ (field (.ref z) 2 >>= _) _ _ _
  refine wpAny_bind (wpAny_field hz rfl (x := .bool false) rfl ?_)
  show wpAny _ _ (field (.ref z) 3 >>= _) _ _ _
  refine wpAny_bind (wpAny_field hz rfl (x := .ref TI) rfl ?_)
  refine wpAny_bind (wpAny_seqItems hTI rfl ?_)
  show wpAny _ _ (Builtin.SmallTypes.ownedTupleIsFree (.ref z) >>= _) _ _ _
  refine wpAny_bind ?_
  unfold Builtin.SmallTypes.ownedTupleIsFree
  refine wpAny_bind (wpAny_field hz rfl (x := rawInt T) rfl ?_)
  show wpAny _ _ (loadIfAlive ((T : Int).toNat) >>= _) _ _ _
  rw [Int.toNat_natCast]
  refine wpAny_bind (dead hT ?_)
  simp only [Option.isNone_none, if_true]
  refine wpAny_pure ?_
  simp only [if_true]
  refine wpAny_bind (wpAny_rule ?_)
  refine wpAny_bind (wpAny_field hz rfl (x := .ref TO) rfl ?_)
  refine wpAny_bind (wpAny_setField_rec hz (by simp) fun h₁ hz₁ hs₁ => ?_)
  replace hz₁ : ZEl h₁ z TI TO f := hz₁
  refine wpAny_bind ?_
  simp only [List.zipIdx_cons, List.zipIdx_nil, List.forIn_cons, List.forIn_nil]
  refine wpAny_bind (wpAny_bind (wpAny_onRaise ?_))
  show wpAny _ _ (Builtin.SmallTypes.nextOf (.ref i1) >>= _) _ _ _
  refine wpAny_bind (wpAny_nextOf_list_item (h1.extBut hs₁.extBut D.i1z) (hl1.extBut hs₁.extBut D.l1z) hx fun h₂ h1₂ hs₂ => wpAny_pure ?_)
  have hTO₂ : IsPair h₂ TO a b := hs₂.extBut _ _ D.TOi1 (hs₁.extBut _ _ D.TOz hTO)
  refine wpAny_bind (wpAny_seqItems hTO₂ rfl ?_)
  refine wpAny_bind (wpAny_updateSeq_pair hTO₂ fun h₃ hTO₃ hs₃ => ?_)
  replace hTO₃ : IsPair h₃ TO x b := hTO₃
  refine wpAny_bind (wpAny_letGo (wpAny_pure ?_))
  refine wpAny_bind (wpAny_bind (wpAny_onRaise ?_))
  show wpAny _ _ (Builtin.SmallTypes.nextOf (.ref i2) >>= _) _ _ _
  refine wpAny_bind (wpAny_nextOf_list_item (((h2.extBut hs₁.extBut D.i2z).extBut hs₂.extBut D.i12.symm).extBut hs₃.extBut D.TOi2.symm)
    (((hl2.extBut hs₁.extBut D.l2z).extBut hs₂.extBut D.l2i1).extBut hs₃.extBut D.l2TO) hy fun h₄ h2₄ hs₄ => wpAny_pure ?_)
  have hTO₄ : IsPair h₄ TO x b := hs₄.extBut _ _ D.TOi2 hTO₃
  refine wpAny_bind (wpAny_seqItems hTO₄ rfl ?_)
  refine wpAny_bind (wpAny_updateSeq_pair hTO₄ fun h₅ hTO₅ hs₅ => ?_)
  replace hTO₅ : IsPair h₅ TO x y := hTO₅
  refine wpAny_bind (wpAny_letGo (wpAny_pure (wpAny_pure ?_)))
  refine wpAny_bind (wpAny_seqItems hTO₅ rfl ?_)
  refine wpAny_bind (wpAny_newTuple ?_)
  have hsz : h₅.objs.size = s.heap.objs.size := by rw [hs₅.1, hs₄.1, hs₃.1, hs₂.1, hs₁.1]
  have hz₅ : ZEl h₅ z TI TO f := hs₅.extBut _ _ D.TOz.symm (hs₄.extBut _ _ D.i2z.symm (hs₃.extBut _ _ D.TOz.symm (hs₂.extBut _ _ D.i1z.symm hz₁)))
  have hk₅ : ∀ c o, c ≠ z → c ≠ TO → c ≠ i1 → c ≠ i2 → s.heap.get? c = some o → h₅.get? c = some o := fun c o c1 c2 c3 c4 e =>
    hs₅.extBut _ _ c2 (hs₄.extBut _ _ c4 (hs₃.extBut _ _ c2 (hs₂.extBut _ _ c3 (hs₁.extBut _ _ c1 e))))
  have h1₅ : h₅.IsListIter i1 l1 (k1 + 1) := ((h1₂.extBut hs₃.extBut D.TOi1.symm).extBut hs₄.extBut D.i12).extBut hs₅.extBut D.TOi1.symm
  have h2₅ : h₅.IsListIter i2 l2 (k2 + 1) := h2₄.extBut hs₅.extBut D.TOi2.symm
  have hzlt : z < h₅.objs.size := Heap.lt_size hz₅
  have hTOlt : TO < h₅.objs.size := Heap.lt_size hTO₅
  have hi1lt : i1 < h₅.objs.size := by obtain ⟨_, e, _⟩ := h1₅; exact Heap.lt_size e
  have hi2lt : i2 < h₅.objs.size := by obtain ⟨_, e, _⟩ := h2₅; exact Heap.lt_size e
  show wpAny _ _ (Builtin.SmallTypes.ownedTupleHandOut (.ref z) (.ref h₅.objs.size) >>= _) _ _ _
  refine wpAny_bind ?_
  unfold Builtin.SmallTypes.ownedTupleHandOut
  have hz₆ : ZEl (h₅.push { cls := .type "tuple", data := .seq #[x, y] }) z TI TO f := Heap.get?_push_of_some _ hz₅
  refine wpAny_bind (wpAny_setField_rec hz₆ (by simp) fun h₇ hz₇ hs₇ => ?_)
  replace hz₇ : IsZipHeld h₇ z TI TO h₅.objs.size f := hz₇
  refine wpAny_setField_rec hz₇ (by simp) fun h₈ hz₈ hs₈ => ?_
  replace hz₈ : IsZip h₈ z TI TO (rawInt h₅.objs.size) := hz₈
  have up : ∀ c o, c ≠ z → h₅.get? c = some o → h₈.get? c = some o := fun c o c1 e => hs₈.extBut _ _ c1 (hs₇.extBut _ _ c1 (Heap.get?_push_of_some _ e))
  have hT₈ : IsPair h₈ h₅.objs.size x y := hs₈.extBut _ _ (Nat.ne_of_gt hzlt) (hs₇.extBut _ _ (Nat.ne_of_gt hzlt) (Heap.get?_push_size _ rfl))
  have hz8 : h₈.objs.size = h₅.objs.size + 1 := by rw [hs₈.1, hs₇.1, Heap.size_push]
  rw [hsz] at hz₈ hT₈ hz8
  refine wpAny_pure ⟨_, rfl, ?_⟩
  show Q (.ref h₅.objs.size) _
  rw [hsz]
  exact hQ h₈ hz₈ (up _ _ D.TOz hTO₅) (h1₅.at fun o e => up _ o D.i1z e) (h2₅.at fun o e => up _ o D.i2z e) hT₈ hz8 fun c o c1 c2 c3 c4 e => up c o c1 (hk₅ c o c1 c2 c3 c4 e)
theorem zip_next_end_dead {z TI TO i1 i2 l1 l2 T : Addr} {f : Bool} {k1 k2 : Nat} {xs ys : Array Value} {a b : Value} {Q : Fin → Shared → Prop} (hh : A.handled = none) (D : ZipApart z TI TO i1 i2 l1 l2)
    (hz : IsZipHeld s.heap z TI TO T f) (hT : s.heap.get? T = none) (hTI : IsPair s.heap TI (.ref i1) (.ref i2)) (hTO : IsPair s.heap TO a b)
    (h1 : s.heap.IsListIter i1 l1 k1) (h2 : s.heap.IsListIter i2 l2 k2) (hl1 : s.heap.IsList l1 xs) (hl2 : s.heap.IsList l2 ys) (hend : xs[k1]? = none ∨ ys[k2]? = none)
    (hE : ∀ h' e, (∀ c o, c ≠ z → c ≠ TO → c ≠ i1 → c ≠ i2 → s.heap.get? c = some o → h'.get? c = some o) → (∃ o, h'.get? e = some o ∧ o.cls = .type "StopIteration") → E (.ref e) { s with heap := h' }) :
    wpAny (model prog w) A (Builtin.«zip.__next__» ⟨[.ref z], []⟩) Q E s := by
  show wpAny _ _ (field (.ref z) 2 >>= _) _ _ _
  refine wpAny_bind (wpAny_field hz rfl (x := .bool false) rfl ?_)
  show wpAny _ _ (field (.ref z) 3 >>= _) _ _ _
  refine wpAny_bind (wpAny_field hz rfl (x := .ref TI) rfl ?_)
  refine wpAny_bind (wpAny_seqItems hTI rfl ?_)
  show wpAny _ _ (Builtin.SmallTypes.ownedTupleIsFree (.ref z) >>= _) _ _ _
  refine wpAny_bind ?_
  unfold Builtin.SmallTypes.ownedTupleIsFree
  refine wpAny_bind (wpAny_field hz rfl (x := rawInt T) rfl ?_)
  show wpAny _ _ (loadIfAlive ((T : Int).toNat) >>= _) _ _ _
  rw [Int.toNat_natCast]
  refine wpAny_bind (dead hT ?_)
  simp only [Option.isNone_none, if_true]
  refine wpAny_pure ?_
  simp only [if_true]
  refine wpAny_bind (wpAny_rule ?_)
  refine wpAny_bind (wpAny_field hz rfl (x := .ref TO) rfl ?_)
  refine wpAny_bind (wpAny_setField_rec hz (by simp) fun h₁ hz₁ hs₁ => ?_)
  replace hz₁ : ZEl h₁ z TI TO f := hz₁
  refine wpAny_bind ?_
  simp only [List.zipIdx_cons, List.zipIdx_nil, List.forIn_cons, List.forIn_nil]
  refine wpAny_bind (wpAny_bind (wpAny_onRaise ?_))
  show wpAny _ _ (Builtin.SmallTypes.nextOf (.ref i1) >>= _) _ _ _
  cases hx : xs[k1]? with
  | none =>
    refine wpAny_bind (wpAny_nextOf_list_end hh (h1.extBut hs₁.extBut D.i1z) (hl1.extBut hs₁.extBut D.l1z) hx fun h₂ e hs₂ he => ?_)
    obtain ⟨oe, hoe, hce⟩ := he
    have hz₂ : ZEl h₂ z TI TO f := hs₂ _ _ D.i1z.symm hz₁
    have hez : e ≠ z := fun x => by subst x; rw [hz₂] at hoe; cases hoe; simp at hce
    refine wpAny_setField_rec hz₂ (by simp) fun h₃ _ hs₃ => hE h₃ e (fun c o c1 _ c3 _ x => hs₃.extBut _ _ c1 (hs₂ _ _ c3 (hs₁.extBut _ _ c1 x))) ⟨oe, hs₃.extBut _ _ hez hoe, hce⟩
  | some x =>
    have hy : ys[k2]? = none := by rcases hend with h | h; rw [hx] at h; cases h; exact h
    refine wpAny_bind (wpAny_nextOf_list_item (h1.extBut hs₁.extBut D.i1z) (hl1.extBut hs₁.extBut D.l1z) hx fun h₂ h1₂ hs₂ => wpAny_pure ?_)
    have hTO₂ : IsPair h₂ TO a b := hs₂.extBut _ _ D.TOi1 (hs₁.extBut _ _ D.TOz hTO)
    refine wpAny_bind (wpAny_seqItems hTO₂ rfl ?_)
    refine wpAny_bind (wpAny_updateSeq_pair hTO₂ fun h₃ hTO₃ hs₃ => ?_)
    refine wpAny_bind (wpAny_letGo (wpAny_pure ?_))
    refine wpAny_bind (wpAny_bind (wpAny_onRaise ?_))
    show wpAny _ _ (Builtin.SmallTypes.nextOf (.ref i2) >>= _) _ _ _
    refine wpAny_bind (wpAny_nextOf_list_end hh (((h2.extBut hs₁.extBut D.i2z).extBut hs₂.extBut D.i12.symm).extBut hs₃.extBut D.TOi2.symm)
      (((hl2.extBut hs₁.extBut D.l2z).extBut hs₂.extBut D.l2i1).extBut hs₃.extBut D.l2TO) hy fun h₄ e hs₄ he => ?_)
    obtain ⟨oe, hoe, hce⟩ := he
    have hz₄ : ZEl h₄ z TI TO f := hs₄ _ _ D.i2z.symm (hs₃.extBut _ _ D.TOz.symm (hs₂.extBut _ _ D.i1z.symm hz₁))
    have hez : e ≠ z := fun x => by subst x; rw [hz₄] at hoe; cases hoe; simp at hce
    refine wpAny_setField_rec hz₄ (by simp) fun h₅ _ hs₅ => hE h₅ e (fun c o c1 c2 c3 c4 x => hs₅.extBut _ _ c1 (hs₄ _ _ c4 (hs₃.extBut _ _ c2 (hs₂.extBut _ _ c3 (hs₁.extBut _ _ c1 x))))) ⟨oe, hs₅.extBut _ _ hez hoe, hce⟩
/-- the zip's next, in whatever state it is -/
theorem zs_item {z TI TO i1 i2 l1 l2 : Addr} {k1 k2 : Nat} {xs ys : Array Value} {x y a b : Value} {Q : Value → Shared → Prop} (D : ZipApart z TI TO i1 i2 l1 l2)
    (hz : ZS s.heap z TI TO) (hTI : IsPair s.heap TI (.ref i1) (.ref i2)) (hTO : IsPair s.heap TO a b)
    (h1 : s.heap.IsListIter i1 l1 k1) (h2 : s.heap.IsListIter i2 l2 k2) (hl1 : s.heap.IsList l1 xs) (hl2 : s.heap.IsList l2 ys) (hx : xs[k1]? = some x) (hy : ys[k2]? = some y)
    (hQ : ∀ h', ZS h' z TI TO → (∃ a b, IsPair h' TO a b) → h'.IsListIter i1 l1 (k1 + 1) → h'.IsListIter i2 l2 (k2 + 1) → IsPair h' s.heap.objs.size x y → h'.objs.size = s.heap.objs.size + 1 →
      (∀ c o, c ≠ z → c ≠ TO → c ≠ i1 → c ≠ i2 → s.heap.get? c = some o → h'.get? c = some o) → Q (.ref s.heap.objs.size) { s with heap := h' }) :
    wpAny (model prog w) A (Builtin.SmallTypes.nextOf (.ref z)) Q E s := by
  have hTy : s.TypeIs (.ref z) "zip" := by
    rcases hz with h | ⟨T, f, h⟩
    · exact ⟨_, h, rfl⟩
    · exact ⟨_, h, rfl⟩
  unfold Builtin.SmallTypes.nextOf
  refine wpAny_bind (wpAny_callSpecial?_slot (name := Str.ofString "__next__") hTy F.slot_zip_next (wpAny_call_entry F.slot_zip_next hTy F.entry_zip_next ?_ (F.args_zip_next_1 _)))
  rcases hz with h | ⟨T, f, h⟩
  · exact zip_next_item D h hTI hTO h1 h2 hl1 hl2 hx hy fun h' a1 a2 a3 a4 a5 a6 a7 => wpAny_pure (hQ h' (.inr ⟨_, _, a1⟩) ⟨_, _, a2⟩ a3 a4 a5 a6 a7)
  · cases hT : s.heap.get? T with
    | none => exact zip_next_item_dead D h hT hTI hTO h1 h2 hl1 hl2 hx hy fun h' a1 a2 a3 a4 a5 a6 a7 => wpAny_pure (hQ h' (.inr ⟨_, _, a1⟩) ⟨_, _, a2⟩ a3 a4 a5 a6 a7)
    | some oT => exact zip_next_item_held D h hT hTI h1 h2 hl1 hl2 hx hy fun h' a1 a3 a4 a5 a6 a7 => wpAny_pure (hQ h' (.inr ⟨_, _, a1⟩) ⟨_, _, a7 _ _ D.TOz D.TOi1 D.TOi2 hTO⟩ a3 a4 a5 a6 fun c o c1 c2 c3 c4 e => a7 c o c1 c3 c4 e)
theorem zs_end {z TI TO i1 i2 l1 l2 : Addr} {k1 k2 : Nat} {xs ys : Array Value} {a b : Value} {Q : Value → Shared → Prop} (hh : A.handled = none) (D : ZipApart z TI TO i1 i2 l1 l2)
    (hz : ZS s.heap z TI TO) (hTI : IsPair s.heap TI (.ref i1) (.ref i2)) (hTO : IsPair s.heap TO a b)
    (h1 : s.heap.IsListIter i1 l1 k1) (h2 : s.heap.IsListIter i2 l2 k2) (hl1 : s.heap.IsList l1 xs) (hl2 : s.heap.IsList l2 ys) (hend : xs[k1]? = none ∨ ys[k2]? = none)
    (hE : ∀ h' e, (∀ c o, c ≠ z → c ≠ TO → c ≠ i1 → c ≠ i2 → s.heap.get? c = some o → h'.get? c = some o) → (∃ o, h'.get? e = some o ∧ o.cls = .type "StopIteration") → E (.ref e) { s with heap := h' }) :
    wpAny (model prog w) A (Builtin.SmallTypes.nextOf (.ref z)) Q E s := by
  have hTy : s.TypeIs (.ref z) "zip" := by
    rcases hz with h | ⟨T, f, h⟩
    · exact ⟨_, h, rfl⟩
    · exact ⟨_, h, rfl⟩
  unfold Builtin.SmallTypes.nextOf
  refine wpAny_bind (wpAny_callSpecial?_slot (name := Str.ofString "__next__") hTy F.slot_zip_next (wpAny_call_entry F.slot_zip_next hTy F.entry_zip_next ?_ (F.args_zip_next_1 _)))
  rcases hz with h | ⟨T, f, h⟩
  · exact zip_next_end hh D h hTI hTO h1 h2 hl1 hl2 hend hE
  · cases hT : s.heap.get? T with
    | none => exact zip_next_end_dead hh D h hT hTI hTO h1 h2 hl1 hl2 hend hE
    | some oT => exact zip_next_end_held hh D h hT hTI h1 h2 hl1 hl2 hend fun h' e hk he => hE h' e (fun c o c1 c2 c3 c4 x => hk c o c1 c3 c4 x) he
theorem enum_zip_item {e z TI TO i1 i2 l1 l2 : Addr} {i : Nat} {xs ys : Array Value} {x y a b old : Value} {Q : Value → Shared → Prop} (D : ZipApart z TI TO i1 i2 l1 l2)
    (he : IsEnum s.heap e z i old) (hz : ZS s.heap z TI TO) (hTI : IsPair s.heap TI (.ref i1) (.ref i2)) (hTO : IsPair s.heap TO a b)
    (h1 : s.heap.IsListIter i1 l1 i) (h2 : s.heap.IsListIter i2 l2 i) (hl1 : s.heap.IsList l1 xs) (hl2 : s.heap.IsList l2 ys) (hx : xs[i]? = some x) (hy : ys[i]? = some y)
    (ez : e ≠ z) (eTO : e ≠ TO) (ei1 : e ≠ i1) (ei2 : e ≠ i2)
    (hQ : ∀ h₁ h', ZS h₁ z TI TO → (∃ a b, IsPair h₁ TO a b) → h₁.IsListIter i1 l1 (i + 1) → h₁.IsListIter i2 l2 (i + 1) → IsPair h₁ s.heap.objs.size x y → h₁.objs.size = s.heap.objs.size + 1 →
      (∀ c o, c ≠ z → c ≠ TO → c ≠ i1 → c ≠ i2 → s.heap.get? c = some o → h₁.get? c = some o) →
      IsEnumOut h' e z ((i : Int) + 1) (.ref s.heap.objs.size) (s.heap.objs.size + 1) →
      h'.get? (s.heap.objs.size + 1) = some { cls := .type "tuple", data := .seq #[.int i s.toks, .ref s.heap.objs.size] } → h'.objs.size = s.heap.objs.size + 2 →
      (∀ b o, b ≠ e → h₁.get? b = some o → h'.get? b = some o) → Q (.ref (s.heap.objs.size + 1)) { s with heap := h', toks := s.toks + 1 }) :
    wpAny (model prog w) A (Builtin.«enumerate.__next__» ⟨[.ref e], []⟩) (fun fin s' => ∃ v, fin = .done (.ret v) ∧ Q v s') E s := by
  obtain ⟨hp, g, d, tk, os⟩ := s
  show wpAny _ _ (field (.ref e) 2 >>= _) _ _ _
  refine wpAny_bind (wpAny_field he rfl (x := .ref z) rfl ?_)
  refine wpAny_bind (zs_item D hz hTI hTO h1 h2 hl1 hl2 hx hy fun h₁ a1 a2 a3 a4 a5 a6 a7 => ?_)
  replace a5 : IsPair h₁ hp.objs.size x y := a5
  replace a6 : h₁.objs.size = hp.objs.size + 1 := a6
  have he₁ : IsEnum h₁ e z i old := a7 _ _ ez eTO ei1 ei2 he
  show wpAny _ _ (field (.ref e) 3 >>= _) _ _ ⟨h₁, g, d, tk, os⟩
  refine wpAny_bind (wpAny_field he₁ rfl (x := rawInt i) rfl ?_)
  show wpAny _ _ (field (.ref e) 4 >>= _) _ _ ⟨h₁, g, d, tk, os⟩
  refine wpAny_bind (wpAny_field he₁ rfl (x := .none) rfl ?_)
  show wpAny _ _ (mkInt i >>= _) _ _ ⟨h₁, g, d, tk, os⟩
  refine wpAny_bind (wpAny_mkInt ?_)
  show wpAny _ _ (setField (.ref e) 3 (rawInt ((i : Int) + 1)) >>= _) _ _ ⟨h₁, g, d, tk + 1, os⟩
  refine wpAny_bind (wpAny_setField_rec he₁ (by simp) fun h₂ he₂ hs₂ => ?_)
  replace hs₂ : Heap.SameBut e h₁ h₂ := hs₂
  replace he₂ : IsEnum h₂ e z ((i : Int) + 1) old := he₂
  show wpAny _ _ (setField (.ref e) 4 .none >>= _) _ _ ⟨h₂, g, d, tk + 1, os⟩
  refine wpAny_bind (wpAny_setField_rec he₂ (by simp) fun h₃ he₃ hs₃ => ?_)
  replace hs₃ : Heap.SameBut e h₂ h₃ := hs₃
  replace he₃ : IsEnum h₃ e z ((i : Int) + 1) old := he₃
  show wpAny _ _ (newTuple [.int i tk, .ref hp.objs.size] >>= _) _ _ ⟨h₃, g, d, tk + 1, os⟩
  refine wpAny_bind (wpAny_newTuple ?_)
  have he₄ : IsEnum (h₃.push { cls := .type "tuple", data := .seq #[.int i tk, .ref hp.objs.size] }) e z ((i : Int) + 1) old := Heap.get?_push_of_some _ he₃
  generalize hh₄ : h₃.push { cls := .type "tuple", data := .seq #[.int i tk, .ref hp.objs.size] } = h₄ at he₄
  have hsz : h₃.objs.size = hp.objs.size + 1 := by rw [hs₃.1, hs₂.1, a6]
  have hel : e < hp.objs.size := Heap.lt_size he
  have hel1 : e < hp.objs.size + 1 := Nat.lt_succ_of_lt hel
  have ht₄ : h₄.get? (hp.objs.size + 1) = some { cls := .type "tuple", data := .seq #[.int i tk, .ref hp.objs.size] } := by rw [← hh₄, ← hsz]; exact Heap.get?_push_size _ rfl
  have hz₄ : h₄.objs.size = hp.objs.size + 2 := by rw [← hh₄, Heap.size_push, hsz]
  have hk₄ : ∀ b o, b ≠ e → h₁.get? b = some o → h₄.get? b = some o := fun b o hbe hb => by
    rw [← hh₄]; exact Heap.get?_push_of_some _ (hs₃.extBut b o hbe (hs₂.extBut b o hbe hb))
  show wpAny _ _ (Builtin.SmallTypes.ownedTupleIsFree (.ref e) >>= _) _ _ ⟨h₄, g, d, tk + 1, os⟩
  rw [hsz]
  clear hh₄ he₃ hs₃ he₂ hs₂ hsz h₃ h₂
  refine wpAny_bind ?_
  · unfold Builtin.SmallTypes.ownedTupleIsFree
    refine wpAny_bind (wpAny_field he₄ rfl (x := .none) rfl (wpAny_pure ?_))
    simp only [if_true]
    refine wpAny_bind (wpAny_rule ?_)
    refine wpAny_bind (wpAny_field he₄ rfl (x := old) rfl ?_)
    refine wpAny_bind (wpAny_setField_rec he₄ (by simp) fun h₅ he₅ hs₅ => ?_)
    replace hs₅ : Heap.SameBut e h₄ h₅ := hs₅
    replace he₅ : IsEnum h₅ e z ((i : Int) + 1) (.ref hp.objs.size) := he₅
    show wpAny _ _ (Builtin.SmallTypes.ownedTupleHandOut (.ref e) (.ref (hp.objs.size + 1)) >>= _) _ _ ⟨h₅, g, d, tk + 1, os⟩
    refine wpAny_bind ?_
    · unfold Builtin.SmallTypes.ownedTupleHandOut
      refine wpAny_bind (wpAny_setField_rec he₅ (by simp) fun h₆ he₆ hs₆ => ?_)
      replace hs₆ : Heap.SameBut e h₅ h₆ := hs₆
      replace he₆ : IsEnumOut h₆ e z ((i : Int) + 1) (.ref hp.objs.size) (hp.objs.size + 1) := he₆
      refine wpAny_setField_rec he₆ (by simp) fun h₇ he₇ hs₇ => ?_
      replace hs₇ : Heap.SameBut e h₆ h₇ := hs₇
      replace he₇ : IsEnumOut h₇ e z ((i : Int) + 1) (.ref hp.objs.size) (hp.objs.size + 1) := he₇
      refine wpAny_bind (wpAny_letGo (wpAny_pure ⟨_, rfl, hQ h₁ h₇ a1 a2 a3 a4 a5 a6 a7 he₇ ?_ ?_ ?_⟩))
      · exact hs₇.extBut _ _ (Nat.ne_of_gt hel1) (hs₆.extBut _ _ (Nat.ne_of_gt hel1) (hs₅.extBut _ _ (Nat.ne_of_gt hel1) ht₄))
      · rw [hs₇.1, hs₆.1, hs₅.1, hz₄]
      · exact fun b o hbe hb => hs₇.extBut b o hbe (hs₆.extBut b o hbe (hs₅.extBut b o hbe (hk₄ b o hbe hb)))
theorem pyNext_ez_item {e z TI TO i1 i2 l1 l2 : Addr} {i : Nat} {xs ys : Array Value} {x y a b old : Value} {Q : Option Value → Shared → Prop} (D : ZipApart z TI TO i1 i2 l1 l2)
    (he : IsEnum s.heap e z i old) (hz : ZS s.heap z TI TO) (hTI : IsPair s.heap TI (.ref i1) (.ref i2)) (hTO : IsPair s.heap TO a b)
    (h1 : s.heap.IsListIter i1 l1 i) (h2 : s.heap.IsListIter i2 l2 i) (hl1 : s.heap.IsList l1 xs) (hl2 : s.heap.IsList l2 ys) (hx : xs[i]? = some x) (hy : ys[i]? = some y)
    (ez : e ≠ z) (eTO : e ≠ TO) (ei1 : e ≠ i1) (ei2 : e ≠ i2)
    (hQ : ∀ h₁ h', ZS h₁ z TI TO → (∃ a b, IsPair h₁ TO a b) → h₁.IsListIter i1 l1 (i + 1) → h₁.IsListIter i2 l2 (i + 1) → IsPair h₁ s.heap.objs.size x y → h₁.objs.size = s.heap.objs.size + 1 →
      (∀ c o, c ≠ z → c ≠ TO → c ≠ i1 → c ≠ i2 → s.heap.get? c = some o → h₁.get? c = some o) →
      IsEnumOut h' e z ((i : Int) + 1) (.ref s.heap.objs.size) (s.heap.objs.size + 1) →
      h'.get? (s.heap.objs.size + 1) = some { cls := .type "tuple", data := .seq #[.int i s.toks, .ref s.heap.objs.size] } → h'.objs.size = s.heap.objs.size + 2 →
      (∀ b o, b ≠ e → h₁.get? b = some o → h'.get? b = some o) → Q (some (.ref (s.heap.objs.size + 1))) { s with heap := h', toks := s.toks + 1 }) :
    wpAny (model prog w) A (pyNext (.ref e)) Q E s := by
  have hT : s.TypeIs (.ref e) "enumerate" := ⟨_, he, rfl⟩
  unfold pyNext
  exact wpAny_bind (wpAny_attempt (wpAny_callSpecial?_slot (name := Str.ofString "__next__") hT F.slot_enumerate_next
    (wpAny_call_entry F.slot_enumerate_next hT F.entry_enumerate_next
      (enum_zip_item D he hz hTI hTO h1 h2 hl1 hl2 hx hy ez eTO ei1 ei2 fun h₁ h' a1 a2 a3 a4 a5 a6 a7 b1 b2 b3 b4 => wpAny_pure (hQ h₁ h' a1 a2 a3 a4 a5 a6 a7 b1 b2 b3 b4)) (F.args_enumerate_next_1 _))))
theorem pyNext_ez_end {e z TI TO i1 i2 l1 l2 : Addr} {i : Nat} {xs ys : Array Value} {a b old : Value} {Q : Option Value → Shared → Prop} (hh : A.handled = none) (D : ZipApart z TI TO i1 i2 l1 l2)
    (he : IsEnum s.heap e z i old) (hz : ZS s.heap z TI TO) (hTI : IsPair s.heap TI (.ref i1) (.ref i2)) (hTO : IsPair s.heap TO a b)
    (h1 : s.heap.IsListIter i1 l1 i) (h2 : s.heap.IsListIter i2 l2 i) (hl1 : s.heap.IsList l1 xs) (hl2 : s.heap.IsList l2 ys) (hend : xs[i]? = none ∨ ys[i]? = none)
    (hQ : ∀ h', (∀ c o, c ≠ z → c ≠ TO → c ≠ i1 → c ≠ i2 → s.heap.get? c = some o → h'.get? c = some o) → Q none { s with heap := h' }) :
    wpAny (model prog w) A (pyNext (.ref e)) Q E s := by
  have hT : s.TypeIs (.ref e) "enumerate" := ⟨_, he, rfl⟩
  unfold pyNext
  refine wpAny_bind (wpAny_attempt (wpAny_callSpecial?_slot (name := Str.ofString "__next__") hT F.slot_enumerate_next
    (wpAny_call_entry F.slot_enumerate_next hT F.entry_enumerate_next ?_ (F.args_enumerate_next_1 _))))
  show wpAny _ _ (field (.ref e) 2 >>= _) _ _ _
  refine wpAny_bind (wpAny_field he rfl (x := .ref z) rfl ?_)
  refine wpAny_bind (zs_end hh D hz hTI hTO h1 h2 hl1 hl2 hend fun h' x he' hx' => ?_)
  obtain ⟨o, ho, hc⟩ := hx'
  refine wpAny_bind (wpAny_isInstance (T := "StopIteration") (b := true) ⟨o, ho, hc⟩ isSubtype_stop ?_)
  exact wpAny_pure (hQ _ he')
end
open AutoSeq1 (wpAny_loadPart') in
set_option maxHeartbeats 4000000 in
theorem meets_enumerate_newZ (z TI TO : Addr) :
    Meets (Builtin.«enumerate.__new__» ⟨[.type "enumerate", .ref z], []⟩) (fun _ R s => IsZip s.heap z TI TO .none ∧
      R (.ok (.ret (.ref s.heap.objs.size))) { s with heap := s.heap.push { cls := .type "enumerate", data := .fields #[.none, .bool false, .ref z, rawInt 0, .none, .none] } }) :=
  .of_wp fun prog w A R s h => by
    obtain ⟨hp, g, d, tk, os⟩ := s; obtain ⟨hz, h⟩ := h
    have hsub := sub_enumerate
    wp_walk using wpAny_loadPart' hz
    refine wpAny_stack_any fun st => wpAny_pure ?_
    split
    · rename_i c _ _ _ _ _
      cases (c == Value.type "enumerate")
      · wp_walk using wpAny_loadPart' hz, wpAny_pyIter_zip hz
        exact ⟨_, rfl, h⟩
      · wp_walk using wpAny_loadPart' hz, wpAny_pyIter_zip hz
        exact ⟨_, rfl, h⟩
    · wp_walk using wpAny_loadPart' hz, wpAny_pyIter_zip hz
      exact ⟨_, rfl, h⟩
section
variable {prog : Program} {w : World} {A : Around} {E : Value → Shared → Prop} {s : Shared}
theorem call_enumerate_zip {z TI TO : Addr} {Q : Value → Shared → Prop} (hz : IsZip s.heap z TI TO .none)
    (h : ∀ h', IsEnum h' s.heap.objs.size z 0 .none → h'.objs.size = s.heap.objs.size + 1 → (∀ b o, s.heap.get? b = some o → h'.get? b = some o) → Q (.ref s.heap.objs.size) { s with heap := h' }) :
    wpAny (model prog w) A (call (.type "enumerate") [.ref z]) Q E s := by
  refine callType_new F.called_enumerate (by decide) (F.typeCall_enumerate_1 _) (F.newCall_enumerate_1 _) (fun obj => F.args_object_init_2 obj _) F.entry_enumerate_new (meets_enumerate_newZ z TI TO) ⟨hz, ?_⟩
  have he : IsEnum (s.heap.push { cls := .type "enumerate", data := .fields #[.none, .bool false, .ref z, rawInt 0, .none, .none] }) s.heap.objs.size z 0 .none := Heap.get?_push_size _ rfl
  refine ⟨⟨_, he, rfl⟩, ?_⟩
  exact h _ he (Heap.size_push ..) fun b o e => Heap.get?_push_of_some _ e
end
end Rz2
namespace Rd
open PySem PySem.Spec PyProof.Rows PySem.W L2 Rz2
/-- the lists at a and b as they stand at each turn, the items in new pairs, each with its number in a new pair -/
def Itez (K : PySem.W.Frag) (a b : Addr) : It :=
  ⟨fun i H => ∃ (xs ys : List V) (x y : V), SqL K H a xs ∧ SqL K H b ys ∧ xs[i]? = some x ∧ ys[i]? = some y,
    fun i H v H' => ∃ T1 T2 x y, v = .ref T1 ∧ H T2 = none ∧ H T1 = none ∧ T1 ≠ T2 ∧ H' = upd (upd H T2 (.tup [x, y])) T1 (.tup [.int (i : Nat), .ref T2]) ∧ (∀ xs, SqL K H a xs → xs[i]? = some x) ∧ ∀ ys, SqL K H b ys → ys[i]? = some y,
    fun i H => ∃ xs ys : List V, SqL K H a xs ∧ SqL K H b ys ∧ (xs.length ≤ i ∨ ys.length ≤ i)⟩
theorem turn_ez {P : Program} {w : World} {K : PySem.W.Frag} {elts : List Expr} {kk : Nat} {tpos : Pos} {a b e z TI TO i1 i2 : Addr} (D : ZipApart z TI TO i1 i2 a b) (ez : e ≠ z) (eTI : e ≠ TI) (eTO : e ≠ TO) (ei1 : e ≠ i1) (ei2 : e ≠ i2) :
    Turn P w K (.Tuple elts kk tpos) (Itez K a b) [e, z, TI, TO, i1, i2] e (fun i h => (∃ old, IsEnum h e z ((i : Nat) : Int) old) ∧ ZS h z TI TO ∧ IsPair h TI (.ref i1) (.ref i2) ∧ (∃ x y, IsPair h TO x y) ∧ h.IsListIter i1 a i ∧ h.IsListIter i2 b i) where
  mem := by simp
  obj := fun i h st c hc => by
    obtain ⟨⟨old, he⟩, hz, hTI, ⟨x, y, hTO⟩, ⟨o1, e1, _, d1⟩, ⟨o2, e2, _, d2⟩⟩ := st
    have e' : c = e ∨ c = z ∨ c = TI ∨ c = TO ∨ c = i1 ∨ c = i2 := by simpa using hc
    rcases e' with q | q | q | q | q | q
    · rw [q]; exact ⟨_, he, fun v q => nomatch q⟩
    · rw [q]
      rcases hz with hz | ⟨T, f, hz⟩
      · exact ⟨_, hz, fun v q => nomatch q⟩
      · exact ⟨_, hz, fun v q => nomatch q⟩
    · rw [q]; exact ⟨_, hTI, fun v q => nomatch q⟩
    · rw [q]; exact ⟨_, hTO, fun v q => nomatch q⟩
    · rw [q]; exact ⟨o1, e1, fun v q => by rw [d1] at q; cases q⟩
    · rw [q]; exact ⟨o2, e2, fun v q => by rw [d2] at q; cases q⟩
  keep := fun i h h' st k => by
    obtain ⟨⟨old, he⟩, hz, hTI, ⟨x, y, hTO⟩, h1, h2⟩ := st
    refine ⟨⟨old, k e (by simp) _ he⟩, ?_, k TI (by simp) _ hTI, ⟨x, y, k TO (by simp) _ hTO⟩, h1.at fun o q => k i1 (by simp) o q, h2.at fun o q => k i2 (by simp) o q⟩
    rcases hz with hz | ⟨T, f, hz⟩
    · exact .inl (k z (by simp) _ hz)
    · exact .inr ⟨T, f, k z (by simp) _ hz⟩
  item := by
    intro X hP hw hK hc i pins s σ H E I hf st hg
    subst hP hw hK
    obtain ⟨⟨old, he⟩, hz, hTI, ⟨x0, y0, hTO⟩, h1, h2⟩ := st
    obtain ⟨xs, ys, x, y, hqx, hqy, hx, hy⟩ := hg
    obtain ⟨its, rv, p, _⟩ := I.list hqx
    obtain ⟨its2, rv2, p2, _⟩ := I.list hqy
    obtain ⟨u, hu, ru⟩ := rv.get hx
    obtain ⟨u2, hu2, ru2⟩ := rv2.get hy
    have hel : e < s.heap.objs.size := Heap.lt_size he
    have hel1 : e < s.heap.objs.size + 1 := Nat.lt_succ_of_lt hel
    refine pyNext_ez_item D he hz hTI hTO h1 h2 p.isList p2.isList (x := u) (y := u2) (by simpa using hu) (by simpa using hu2) ez eTO ei1 ei2 fun h₁ h' a1 a2 a3 a4 a5 a6 a7 b1 b2 b3 b4 => ?_
    refine ⟨_, rfl, wpAny_letOwnedTupleGo_enum (s := { s with heap := h', toks := s.toks + 1 }) b1 fun h'' he'' sb => ?_⟩
    replace sb : Heap.SameBut e h' h'' := sb
    have n2 : H s.heap.objs.size = none := I.hok.fresh (Nat.le_refl _)
    have n1 : H (s.heap.objs.size + 1) = none := I.hok.fresh (Nat.le_succ _)
    have ne12 : s.heap.objs.size + 1 ≠ s.heap.objs.size := Nat.succ_ne_self _
    have new1 : ObjOk X.prog X.w (upd H s.heap.objs.size (.tup [x, y])) h₁ s.heap.objs.size (.tup [x, y]) :=
      ⟨by show 2 ≤ sizeLine; decide, [u, u2], .cons ru (.cons ru2 .nil), ⟨_, a5, rfl, _, rfl⟩⟩
    have I1 : Inv X pins σ (upd H s.heap.objs.size (.tup [x, y])) { s with heap := h₁ } :=
      I.turnedNew (t' := s.toks) (ch := [e, z, TI, TO, i1, i2]) (fun c o hb q => a7 c o (fun q' => hb (by simp [q'])) (fun q' => hb (by simp [q'])) (fun q' => hb (by simp [q'])) (fun q' => hb (by simp [q'])) q) hf (Nat.le_refl _) new1
    have hT1 : h''.get? (s.heap.objs.size + 1) = some { cls := .type "tuple", data := .seq #[.int i s.toks, .ref s.heap.objs.size] } := (sb.2 _ (Nat.ne_of_gt hel1)).trans b2
    have new2 : ObjOk X.prog X.w (upd (upd H s.heap.objs.size (.tup [x, y])) (s.heap.objs.size + 1) (.tup [.int (i : Nat), .ref s.heap.objs.size])) h'' (s.heap.objs.size + 1) (.tup [.int (i : Nat), .ref s.heap.objs.size]) :=
      ⟨by show 2 ≤ sizeLine; decide, [.int i s.toks, .ref s.heap.objs.size], .cons ⟨_, rfl⟩ (.cons rfl .nil), ⟨_, hT1, rfl, _, rfl⟩⟩
    have hfe : ∀ b' ∈ [e], FpOk X pins (upd H s.heap.objs.size (.tup [x, y])) b' := fun b' hb' => by
      have eb : b' = e := by simpa using hb'
      obtain ⟨f0, f1, f2, f3, f4, f5⟩ := hf e (by simp)
      rw [eb]
      exact ⟨by rw [upd_ne (Nat.ne_of_lt hel)]; exact f0, f1, f2, f3, f4, f5⟩
    have I2 : Inv X pins σ (upd (upd H s.heap.objs.size (.tup [x, y])) (s.heap.objs.size + 1) (.tup [.int (i : Nat), .ref s.heap.objs.size])) { s with heap := h'', toks := s.toks + 1 } :=
      I1.turnedNew (t' := s.toks + 1) (ch := [e]) (fun c o hb q => (sb.2 c (fun q' => hb (by simp [q']))).trans (b4 c o (fun q' => hb (by simp [q'])) q)) hfe (by show h₁.objs.size ≤ _; rw [a6]; exact Nat.le_refl _) new2
    have up : ∀ c o, c ≠ e → h₁.get? c = some o → h''.get? c = some o := fun c o hc q => (sb.2 c hc).trans (b4 c o hc q)
    refine ⟨.ref (s.heap.objs.size + 1), _, I2, rfl, ⟨_, _, x, y, rfl, n2, n1, ne12, rfl, fun l hl => by rw [I.list_inj hl hqx]; exact hx, fun l hl => by rw [I.list_inj hl hqy]; exact hy⟩, ⟨⟨.ref s.heap.objs.size, ?_⟩, ?_, ?_, ?_, ?_, ?_⟩, fun c hcm => ?_⟩
    · have e1 : ((i + 1 : Nat) : Int) = (i : Int) + 1 := by omega
      rw [e1]; exact he''
    · rcases a1 with q | ⟨T, f, q⟩
      · exact .inl (up _ _ ez.symm q)
      · exact .inr ⟨T, f, up _ _ ez.symm q⟩
    · exact up _ _ eTI.symm (a7 _ _ D.TIz D.TITO D.TIi1 D.TIi2 hTI)
    · obtain ⟨x', y', q⟩ := a2
      exact ⟨x', y', up _ _ eTO.symm q⟩
    · exact a3.at fun o q => up _ o ei1.symm q
    · exact a4.at fun o q => up _ o ei2.symm q
    · have hlt : c < s.heap.objs.size := by
        have e' : c = e ∨ c = z ∨ c = TI ∨ c = TO ∨ c = i1 ∨ c = i2 := by simpa using hcm
        rcases e' with q | q | q | q | q | q
        · rw [q]; exact hel
        · rw [q]
          rcases hz with hz | ⟨T, f, hz⟩
          · exact Heap.lt_size hz
          · exact Heap.lt_size hz
        · rw [q]; exact Heap.lt_size hTI
        · rw [q]; exact Heap.lt_size hTO
        · rw [q]; obtain ⟨_, e1, _⟩ := h1; exact Heap.lt_size e1
        · rw [q]; obtain ⟨_, e2, _⟩ := h2; exact Heap.lt_size e2
      rw [upd_ne (Nat.ne_of_lt (Nat.lt_succ_of_lt hlt)), upd_ne (Nat.ne_of_lt hlt)]
      exact (hf c hcm).1
  done := by
    intro X hP hw hK hc i pins s σ H E I hf st hg
    subst hP hw hK
    obtain ⟨⟨old, he⟩, hz, hTI, ⟨x0, y0, hTO⟩, h1, h2⟩ := st
    obtain ⟨xs, ys, hqx, hqy, hend⟩ := hg
    obtain ⟨its, rv, p, _⟩ := I.list hqx
    obtain ⟨its2, rv2, p2, _⟩ := I.list hqy
    have l1 := rv.length
    have l2 := rv2.length
    have hd : its.toArray[i]? = none ∨ its2.toArray[i]? = none := by
      rcases hend with q | q
      · exact .inl (by simp; omega)
      · exact .inr (by simp; omega)
    exact pyNext_ez_end (I.ok.hd hc) D he hz hTI hTO h1 h2 p.isList p2.isList hd fun h' hk => ⟨rfl, I.turnedL (t' := s.toks) (ch := [e, z, TI, TO, i1, i2]) (fun c o hb q =>
      hk c o (fun q' => hb (by simp [q'])) (fun q' => hb (by simp [q'])) (fun q' => hb (by simp [q'])) (fun q' => hb (by simp [q'])) q) hf⟩
  self := fun A i s Q E st h => let ⟨⟨_, he⟩, _⟩ := st; wpAny_pyIter_enum he h
def iEnumZip (K : PySem.W.Frag) (ta : TA) : TI := fun σ H R => ta σ H fun vs H1 => ∃ a b xs ys, vs = [.ref a, .ref b] ∧ SqL K H1 a xs ∧ SqL K H1 b ys ∧ R (Itez K a b) H1
theorem pi_enumZip {X : Cx} {e e2 : Expr} {ta : TA} {p pos p1 pos1 tpos : Pos} {elts : List Expr} {kk : Nat} (hg0 : Gl X "enumerate") (hm0 : X.mg "enumerate" = none) (hg : Gl X "zip") (hm : X.mg "zip" = none) (ha : PA X [e, e2] ta)
    (hs0 : starEach [.Call (.Name "zip" p1) [e, e2] [] pos1] X.env = [(false, eval (.Call (.Name "zip" p1) [e, e2] [] pos1) X.env)] := by rfl)
    (hs : starEach [e, e2] X.env = (false, eval e X.env) :: starEach [e2] X.env := by rfl) (hpl : (backTo pos1 (starEach [e2] X.env)).any (·.1) = false := by rfl) :
    PI X (.Tuple elts kk tpos) (.Call (.Name "enumerate" p) [.Call (.Name "zip" p1) [e, e2] [] pos1] [] pos) (iEnumZip X.K ta) := by
  refine ⟨fun pins s σ H R I h => ?_⟩
  refine Call_ (ld_blt I hg0 hm0 boot_enumerate (PyProof.Rows.callWith_type1 ?_ hs0 rfl))
  rw [hs0]
  show wpAny _ _ (spliced [(false, eval (.Call (.Name "zip" p1) [e, e2] [] pos1) X.env)]) _ _ _
  refine Calls.spliced_cons ?_
  refine Call_ (ld_blt I hg hm PyProof.Rows.boot_zip (PyProof.Rows.callWith_type1 (thn (ha.run pos1 pins s σ H _ I h) fun us s1 ⟨vs, H1, I1, r1, q1⟩ => ?_) hs hpl))
  obtain ⟨a, b, xs, ys, ex, hqx, hqy, q⟩ := q1
  subst ex
  cases r1 with
  | cons r rr =>
    cases rr with
    | cons r' rr =>
      cases rr
      cases r
      cases r'
      obtain ⟨its, rv, p1', _⟩ := I1.list hqx
      obtain ⟨its2, rv2, p2', _⟩ := I1.list hqy
      have la : a < s1.heap.objs.size := p1'.lt
      have lb : b < s1.heap.objs.size := p2'.lt
      refine call_zip_2 p1'.isList p2'.isList fun h' hz hTI hTO h1 h2 hsz hk => ?_
      refine Calls.spliced_nil ?_
      refine call_enumerate_zip (s := { s1 with heap := h' }) hz fun h'' he hsz2 hk2 => wpAny_pyIter_enum he ?_
      have I2 : Inv X pins σ H1 { s1 with heap := h'' } := I1.kept (t' := s1.toks) fun b o e => hk2 b o (hk b o e)
      replace hsz2 : h''.objs.size = h'.objs.size + 1 := hsz2
      replace he : IsEnum h'' h'.objs.size (s1.heap.objs.size + 4) 0 .none := he
      rw [hsz] at he
      have nn : ∀ k : Nat, k < 5 → s1.heap.objs.size + 5 ≠ s1.heap.objs.size + k := fun k hk => by omega
      refine ⟨s1.heap.objs.size + 5, [s1.heap.objs.size + 5, s1.heap.objs.size + 4, s1.heap.objs.size + 2, s1.heap.objs.size + 3, s1.heap.objs.size, s1.heap.objs.size + 1], _, _, H1, by rw [← hsz], I2,
        turn_ez (PySem.W.ktu_apart s1.heap.objs.size a b la lb) (nn 4 (by decide)) (nn 2 (by decide)) (nn 3 (by decide)) (nn 0 (by decide)) (nn 1 (by decide)), ⟨⟨.none, he⟩, .inl (hk2 _ _ hz), hk2 _ _ hTI, ⟨_, _, hk2 _ _ hTO⟩, h1.at fun o q => hk2 _ o q, h2.at fun o q => hk2 _ o q⟩, fun c hcm => ?_, q⟩
      have e' : c = s1.heap.objs.size + 5 ∨ c = s1.heap.objs.size + 4 ∨ c = s1.heap.objs.size + 2 ∨ c = s1.heap.objs.size + 3 ∨ c = s1.heap.objs.size ∨ c = s1.heap.objs.size + 1 := by simpa using hcm
      have hle : s1.heap.objs.size ≤ c := by
        rcases e' with z | z | z | z | z | z <;> rw [z] <;> omega
      exact I1.fpOk hle (I1.hok.fresh hle)
/-- a loop over enumerate(zip(a, b)) of two lists of one length -/
theorem for_ez {K : PySem.W.Frag} {a b : Addr} {xs ys : List V} {g : TG} {tb : TS} {D : Ends} {σ : L2.St} {H : Hp} (hl : xs.length = ys.length) (Pv : Nat → L2.St → Hp → Prop) (h0 : Pv 0 σ H) (hq : ∀ i σ H, Pv i σ H → SqL K H a xs ∧ SqL K H b ys)
    (hs : ∀ (i : Nat) (x y : V) (T1 T2 : Addr) (σ : L2.St) (H : Hp), xs[i]? = some x → ys[i]? = some y → Pv i σ H → H T2 = none → H T1 = none → T1 ≠ T2 → g (.ref T1) σ (upd (upd H T2 (.tup [x, y])) T1 (.tup [.int (i : Nat), .ref T2])) fun σ2 H2 => tb { D with nx := Pv (i + 1), ct := Pv (i + 1), bk := D.nx } σ2 H2) (hd : ∀ σ H, Pv xs.length σ H → D.nx σ H) :
    ∃ W : Nat → Nat → L2.St → Hp → Prop, (∃ m, W 0 m σ H) ∧ ∀ i m σ H, W i m σ H →
      ((Itez K a b).stop i H ∧ D.nx σ H) ∨ ((Itez K a b).go i H ∧ ∃ N : L2.St → Hp → Prop, (∀ σ' H', N σ' H' → ∃ m', m' < m ∧ W (i + 1) m' σ' H') ∧ ∀ v H', (Itez K a b).yld i H v H' → g v σ H' fun σ2 H2 => tb { D with nx := N, ct := N, bk := D.nx } σ2 H2) := by
  refine ⟨fun i m σ H => m = xs.length - i ∧ i ≤ xs.length ∧ Pv i σ H, ⟨xs.length, rfl, Nat.zero_le _, h0⟩, ?_⟩
  rintro i m σ H ⟨rfl, hi, p⟩
  obtain ⟨qx, qy⟩ := hq i σ H p
  by_cases hlt : i < xs.length
  · have hx : xs[i]? = some xs[i] := List.getElem?_eq_getElem hlt
    have hlt2 : i < ys.length := by omega
    have hy : ys[i]? = some ys[i] := List.getElem?_eq_getElem hlt2
    refine .inr ⟨⟨xs, ys, _, _, qx, qy, hx, hy⟩, Pv (i + 1), fun σ' H' p' => ⟨xs.length - (i + 1), by omega, rfl, hlt, p'⟩, fun v H' y => ?_⟩
    obtain ⟨T1, T2, x', y', rfl, h2, h1, ne, rfl, f1, f2⟩ := y
    exact hs i x' y' T1 T2 σ H (f1 xs qx) (f2 ys qy) p h2 h1 ne
  · have e : i = xs.length := by omega
    subst e
    exact .inl ⟨⟨xs, ys, qx, qy, Or.inl (Nat.le_refl _)⟩, hd σ H p⟩
end Rd
namespace Rd
open PySem L2
def top (i : Nat) : Stmt := PySem.Challenge.pw_openroads_k49_what_parts_heaps.main.body.getD i (.Pass ⟨0, 0, 0, 0⟩)
structure Tx (w : World) (K : PySem.W.Frag) (mg : Str → Option Value) : Prop where
  z_len : mg "len" = none
  z_all : mg "all" = none
  z_abs : mg "abs" = none
  z_int : mg "int" = none
  z_list : mg "list" = none
  z_tuple : mg "tuple" = none
  z_range : mg "range" = none
  z_max : mg "max" = none
  z_isinstance : mg "isinstance" = none
  z_sorted : mg "sorted" = none
  z_str : mg "str" = none
  z_enumerate : mg "enumerate" = none
  z_zip : mg "zip" = none
  c_SMALL : ∃ t, mg "SMALL" = some (.str "abcdefghijklmnopqrstuvwxyz" t)
  c_GREAT : ∃ t, mg "GREAT" = some (.str "ABCDEFGHIJKLMNOPQRSTUVWXYZ" t)
  c_DIGITS : ∃ t, mg "DIGITS" = some (.str "0123456789" t)
  D_SIGNS : Kd w K mg "SIGNS" [("pair", 2), ("seal", 2), ("lock", 2), ("mark", 1), ("open", 1), ("own", 1)]
  U_MAKEABLE : Ktu K mg "MAKEABLE" ["pair", "seal", "lock", "mark", "open"]
  U_SHUT : Ktu K mg "SHUT" ["seal", "lock"]
  D_OPENERS : KdS w K mg "OPENERS" [("seal", "unseal"), ("lock", "unlock")]
  U_SOME_WORD : Ktu K mg "SOME_WORD" ["word", "a"]
  U_KEYS : Ktu K mg "KEYS" ["open", "own"]
  F_is_word : Fh K mg "is_word" (top 14)
  F_is_unknown : Fh K mg "is_unknown" (top 15)
  F_is_name : Fh K mg "is_name" (top 16)
  F_atom_tree : Fh K mg "atom_tree" (top 17)
  F_is_atom_form : Fh K mg "is_atom_form" (top 18)
  F_check_form : Fh K mg "check_form" (top 19)
  F_parts_of : Fh K mg "parts_of" (top 20)
  F_atoms_of : Fh K mg "atoms_of" (top 21)
  F_tree_text : Fh K mg "tree_text" (top 22)
  F_is_plain : Fh K mg "is_plain" (top 26)
  F_partner : Fh K mg "partner" (top 30)
  F_undoing_key : Fh K mg "undoing_key" (top 31)
  F_worked : Fh K mg "worked" (top 37)
  F_tree_parting : Fh K mg "tree_parting" (top 46)
  F_parting : Fh K mg "parting" (top 47)
  F_alike : Fh K mg "alike" (top 48)
  F_check_plain : Fh K mg "check_plain" (top 50)
  F__law_cell_at : Fh K mg "_law_cell_at" (top 53)
  F__law_mixed : Fh K mg "_law_mixed" (top 54)
  F__law_row : Fh K mg "_law_row" (top 55)
  F__law_partner : Fh K mg "_law_partner" (top 56)
  F__law_undoing : Fh K mg "_law_undoing" (top 57)
  F__law_heap : Fh K mg "_law_heap" (top 58)
  F__law_run : Fh K mg "_law_run" (top 59)
  F__law_step : Fh K mg "_law_step" (top 60)
  F__law_parts_them : Fh K mg "_law_parts_them" (top 61)
  F__law_tuples : Fh K mg "_law_tuples" (top 62)
  F__law_pairs_of_heaps : Fh K mg "_law_pairs_of_heaps" (top 63)
  F__law_more : Fh K mg "_law_more" (top 64)
  g_RoadError : mg "RoadError" = some (.ref (He.ga K "RoadError"))
  r_RoadError : REx K (He.ga K "RoadError")
  X_BadAtom : Xh K mg "BadAtom" "text" "BadAtom.__init__" (inClass (top 3) 0)
  X_BadForm : Xh K mg "BadForm" "path" "BadForm.__init__" (inClass (top 4) 0)
  k_Letter : Cls K (He.ga K "Letter")
  n_Letter_tree : NoAttr K (He.ga K "Letter") "tree"
  I_Letter : Ih K mg "Letter" "Letter.__init__" (inClass (top 25) 0) [.non]
  S_Letter_of : Sh K mg "Letter" "of" "Letter.of" (inClass (top 25) 1)
  M_Letter_unknowns : Mh K "Letter" "unknowns" "Letter.unknowns" (inClass (top 25) 5)
  k_Pairing : Cls K (He.ga K "Pairing")
  g_Pairing : mg "Pairing" = some (.ref (He.ga K "Pairing"))
  n_Pairing_met : NoAttr K (He.ga K "Pairing") "met"
  n_Pairing_tables : NoAttr K (He.ga K "Pairing") "tables"
  n_Pairing_test : NoAttr K (He.ga K "Pairing") "test"
  J_Pairing : Mk K (He.ga K "Pairing") (He.ma K (He.ga K "Pairing") "__init__")
  M_Pairing_init : Mh K "Pairing" "__init__" "Pairing.__init__" (inClass (top 45) 0)
  M_Pairing_comes : Mh K "Pairing" "comes" "Pairing.comes" (inClass (top 45) 1)
  M_Pairing_is_known : Mh K "Pairing" "is_known" "Pairing.is_known" (inClass (top 45) 2)
  M_Pairing_kinds : Mh K "Pairing" "kinds" "Pairing.kinds" (inClass (top 45) 3)
  M_Pairing_over : Mh K "Pairing" "over" "Pairing.over" (inClass (top 45) 4)
  M_Pairing_built : Mh K "Pairing" "built" "Pairing.built" (inClass (top 45) 5)
  M_Pairing_opens : Mh K "Pairing" "opens" "Pairing.opens" (inClass (top 45) 6)
  M_Pairing_opens_one : Mh K "Pairing" "opens_one" "Pairing.opens_one" (inClass (top 45) 7)
  M_Pairing_looks_at : Mh K "Pairing" "looks_at" "Pairing.looks_at" (inClass (top 45) 8)
  M_Pairing_looks : Mh K "Pairing" "looks" "Pairing.looks" (inClass (top 45) 9)
  k_Heap : Cls K (He.ga K "Heap")
  g_Heap : mg "Heap" = some (.ref (He.ga K "Heap"))
  n_Heap_trees : NoAttr K (He.ga K "Heap") "trees"
  J_Heap : Mk K (He.ga K "Heap") (He.ma K (He.ga K "Heap") "__init__")
  M_Heap_init : Mh K "Heap" "__init__" "Heap.__init__" (inClass (top 51) 0)
  M_Heap_len : Mh K "Heap" "__len__" "Heap.__len__" (inClass (top 51) 9)
  B_Heap : BoD K "Heap" "Letter" "__add__" "__radd__"
section
set_option maxHeartbeats 0
def d0 : He.DefD := ⟨("is_word", none), "is_word", "is_word", defArgs (top 14), defBody (top 14), defScope (top 14), [], []⟩
def d1 : He.DefD := ⟨("is_unknown", none), "is_unknown", "is_unknown", defArgs (top 15), defBody (top 15), defScope (top 15), [], []⟩
def d2 : He.DefD := ⟨("is_name", none), "is_name", "is_name", defArgs (top 16), defBody (top 16), defScope (top 16), [], []⟩
def d3 : He.DefD := ⟨("atom_tree", none), "atom_tree", "atom_tree", defArgs (top 17), defBody (top 17), defScope (top 17), [], []⟩
def d4 : He.DefD := ⟨("is_atom_form", none), "is_atom_form", "is_atom_form", defArgs (top 18), defBody (top 18), defScope (top 18), [], []⟩
def d5 : He.DefD := ⟨("check_form", none), "check_form", "check_form", defArgs (top 19), defBody (top 19), defScope (top 19), [], []⟩
def d6 : He.DefD := ⟨("parts_of", none), "parts_of", "parts_of", defArgs (top 20), defBody (top 20), defScope (top 20), [], []⟩
def d7 : He.DefD := ⟨("atoms_of", none), "atoms_of", "atoms_of", defArgs (top 21), defBody (top 21), defScope (top 21), [], []⟩
def d8 : He.DefD := ⟨("tree_text", none), "tree_text", "tree_text", defArgs (top 22), defBody (top 22), defScope (top 22), [], []⟩
def d9 : He.DefD := ⟨("is_plain", none), "is_plain", "is_plain", defArgs (top 26), defBody (top 26), defScope (top 26), [], []⟩
def d10 : He.DefD := ⟨("partner", none), "partner", "partner", defArgs (top 30), defBody (top 30), defScope (top 30), [], []⟩
def d11 : He.DefD := ⟨("undoing_key", none), "undoing_key", "undoing_key", defArgs (top 31), defBody (top 31), defScope (top 31), [], []⟩
def d12 : He.DefD := ⟨("worked", none), "worked", "worked", defArgs (top 37), defBody (top 37), defScope (top 37), [], []⟩
def d13 : He.DefD := ⟨("tree_parting", none), "tree_parting", "tree_parting", defArgs (top 46), defBody (top 46), defScope (top 46), [], []⟩
def d14 : He.DefD := ⟨("parting", none), "parting", "parting", defArgs (top 47), defBody (top 47), defScope (top 47), [], []⟩
def d15 : He.DefD := ⟨("alike", none), "alike", "alike", defArgs (top 48), defBody (top 48), defScope (top 48), [], []⟩
def d16 : He.DefD := ⟨("check_plain", none), "check_plain", "check_plain", defArgs (top 50), defBody (top 50), defScope (top 50), [], []⟩
def d17 : He.DefD := ⟨("_law_cell_at", none), "_law_cell_at", "_law_cell_at", defArgs (top 53), defBody (top 53), defScope (top 53), [], []⟩
def d18 : He.DefD := ⟨("_law_mixed", none), "_law_mixed", "_law_mixed", defArgs (top 54), defBody (top 54), defScope (top 54), [], []⟩
def d19 : He.DefD := ⟨("_law_row", none), "_law_row", "_law_row", defArgs (top 55), defBody (top 55), defScope (top 55), [], []⟩
def d20 : He.DefD := ⟨("_law_partner", none), "_law_partner", "_law_partner", defArgs (top 56), defBody (top 56), defScope (top 56), [], []⟩
def d21 : He.DefD := ⟨("_law_undoing", none), "_law_undoing", "_law_undoing", defArgs (top 57), defBody (top 57), defScope (top 57), [], []⟩
def d22 : He.DefD := ⟨("_law_heap", none), "_law_heap", "_law_heap", defArgs (top 58), defBody (top 58), defScope (top 58), [], []⟩
def d23 : He.DefD := ⟨("_law_run", none), "_law_run", "_law_run", defArgs (top 59), defBody (top 59), defScope (top 59), [], []⟩
def d24 : He.DefD := ⟨("_law_step", none), "_law_step", "_law_step", defArgs (top 60), defBody (top 60), defScope (top 60), [], []⟩
def d25 : He.DefD := ⟨("_law_parts_them", none), "_law_parts_them", "_law_parts_them", defArgs (top 61), defBody (top 61), defScope (top 61), [], []⟩
def d26 : He.DefD := ⟨("_law_tuples", none), "_law_tuples", "_law_tuples", defArgs (top 62), defBody (top 62), defScope (top 62), [], []⟩
def d27 : He.DefD := ⟨("_law_pairs_of_heaps", none), "_law_pairs_of_heaps", "_law_pairs_of_heaps", defArgs (top 63), defBody (top 63), defScope (top 63), [], []⟩
def d28 : He.DefD := ⟨("_law_more", none), "_law_more", "_law_more", defArgs (top 64), defBody (top 64), defScope (top 64), [], []⟩
def d29 : He.DefD := ⟨("law", none), "law", "law", defArgs (top 65), defBody (top 65), defScope (top 65), [], []⟩
def d30 : He.DefD := ⟨("BadAtom", some "__init__"), "__init__", "BadAtom.__init__", defArgs (inClass (top 3) 0), defBody (inClass (top 3) 0), defScope (inClass (top 3) 0), [], []⟩
def d31 : He.DefD := ⟨("BadForm", some "__init__"), "__init__", "BadForm.__init__", defArgs (inClass (top 4) 0), defBody (inClass (top 4) 0), defScope (inClass (top 4) 0), [], []⟩
def d32 : He.DefD := ⟨("Letter", some "__init__"), "__init__", "Letter.__init__", defArgs (inClass (top 25) 0), defBody (inClass (top 25) 0), defScope (inClass (top 25) 0), [.non], []⟩
def d33 : He.DefD := ⟨("Letter", some "unknowns"), "unknowns", "Letter.unknowns", defArgs (inClass (top 25) 5), defBody (inClass (top 25) 5), defScope (inClass (top 25) 5), [], []⟩
def d34 : He.DefD := ⟨("Pairing", some "__init__"), "__init__", "Pairing.__init__", defArgs (inClass (top 45) 0), defBody (inClass (top 45) 0), defScope (inClass (top 45) 0), [], []⟩
def d35 : He.DefD := ⟨("Pairing", some "comes"), "comes", "Pairing.comes", defArgs (inClass (top 45) 1), defBody (inClass (top 45) 1), defScope (inClass (top 45) 1), [], []⟩
def d36 : He.DefD := ⟨("Pairing", some "is_known"), "is_known", "Pairing.is_known", defArgs (inClass (top 45) 2), defBody (inClass (top 45) 2), defScope (inClass (top 45) 2), [], []⟩
def d37 : He.DefD := ⟨("Pairing", some "kinds"), "kinds", "Pairing.kinds", defArgs (inClass (top 45) 3), defBody (inClass (top 45) 3), defScope (inClass (top 45) 3), [], []⟩
def d38 : He.DefD := ⟨("Pairing", some "over"), "over", "Pairing.over", defArgs (inClass (top 45) 4), defBody (inClass (top 45) 4), defScope (inClass (top 45) 4), [], []⟩
def d39 : He.DefD := ⟨("Pairing", some "built"), "built", "Pairing.built", defArgs (inClass (top 45) 5), defBody (inClass (top 45) 5), defScope (inClass (top 45) 5), [], []⟩
def d40 : He.DefD := ⟨("Pairing", some "opens"), "opens", "Pairing.opens", defArgs (inClass (top 45) 6), defBody (inClass (top 45) 6), defScope (inClass (top 45) 6), [], []⟩
def d41 : He.DefD := ⟨("Pairing", some "opens_one"), "opens_one", "Pairing.opens_one", defArgs (inClass (top 45) 7), defBody (inClass (top 45) 7), defScope (inClass (top 45) 7), [], []⟩
def d42 : He.DefD := ⟨("Pairing", some "looks_at"), "looks_at", "Pairing.looks_at", defArgs (inClass (top 45) 8), defBody (inClass (top 45) 8), defScope (inClass (top 45) 8), [], []⟩
def d43 : He.DefD := ⟨("Pairing", some "looks"), "looks", "Pairing.looks", defArgs (inClass (top 45) 9), defBody (inClass (top 45) 9), defScope (inClass (top 45) 9), [], []⟩
def d44 : He.DefD := ⟨("Heap", some "__init__"), "__init__", "Heap.__init__", defArgs (inClass (top 51) 0), defBody (inClass (top 51) 0), defScope (inClass (top 51) 0), [], []⟩
def d45 : He.DefD := ⟨("Heap", some "__len__"), "__len__", "Heap.__len__", defArgs (inClass (top 51) 9), defBody (inClass (top 51) 9), defScope (inClass (top 51) 9), [], []⟩
def fa0 : List He.Fa := [.free "len", .free "all", .free "abs", .free "int", .free "list", .free "tuple", .free "range", .free "max", .free "isinstance", .free "sorted", .free "str", .free "enumerate", .free "zip", .str "SMALL" "abcdefghijklmnopqrstuvwxyz", .str "GREAT" "ABCDEFGHIJKLMNOPQRSTUVWXYZ", .str "DIGITS" "0123456789", .glo "SIGNS", .glo "MAKEABLE", .glo "SHUT", .glo "OPENERS", .glo "SOME_WORD", .glo "KEYS", .glo "is_word", .glo "is_unknown", .glo "is_name", .glo "atom_tree", .glo "is_atom_form", .glo "check_form", .glo "parts_of", .glo "atoms_of"]
def fa1 : List He.Fa := [.glo "tree_text", .glo "is_plain", .glo "partner", .glo "undoing_key", .glo "worked", .glo "tree_parting", .glo "parting", .glo "alike", .glo "check_plain", .glo "_law_cell_at", .glo "_law_mixed", .glo "_law_row", .glo "_law_partner", .glo "_law_undoing", .glo "_law_heap", .glo "_law_run", .glo "_law_step", .glo "_law_parts_them", .glo "_law_tuples", .glo "_law_pairs_of_heaps", .glo "_law_more", .glo "law", .glo "RoadError", .glo "BadAtom", .exm "BadAtom" "BadAtom" true, .meth "BadAtom" "__init__", .noat "BadAtom" "text", .glo "BadForm", .exm "BadForm" "BadForm" true, .meth "BadForm" "__init__"]
def fa2 : List He.Fa := [.noat "BadForm" "path", .glo "Letter", .cls "Letter", .noat "Letter" "tree", .mkr "Letter", .meth "Letter" "unknowns", .glo "Pairing", .cls "Pairing", .noat "Pairing" "met", .noat "Pairing" "tables", .noat "Pairing" "test", .meth "Pairing" "__init__", .mkr "Pairing", .meth "Pairing" "comes", .meth "Pairing" "is_known", .meth "Pairing" "kinds", .meth "Pairing" "over", .meth "Pairing" "built", .meth "Pairing" "opens", .meth "Pairing" "opens_one", .meth "Pairing" "looks_at", .meth "Pairing" "looks", .glo "Heap", .cls "Heap", .noat "Heap" "trees", .meth "Heap" "__init__", .mkr "Heap", .meth "Heap" "__len__"]
def fa : List He.Fa := fa0 ++ fa1 ++ fa2
def fn0 : List He.DefD := [d0, d1, d2, d3, d4, d5, d6, d7, d8, d9, d10, d11, d12, d13, d14, d15, d16, d17, d18, d19, d20, d21, d22, d23, d24, d25, d26, d27, d28, d29]
def fn1 : List He.DefD := [d30, d31, d32, d33, d34, d35, d36, d37, d38, d39, d40, d41, d42, d43, d44, d45]
def fn : List He.DefD := fn0 ++ fn1
def loo0 : List PySem.Str := ["_wall", "RoadError", "BadAtom", "BadForm", "BadKey", "BadText", "BadHeap", "BadHeaps", "SMALL", "GREAT", "DIGITS", "SIGNS", "is_word", "is_unknown", "is_name", "atom_tree", "is_atom_form", "check_form", "parts_of", "atoms_of", "tree_text", "made_tree", "Reader", "Letter", "is_plain", "MAKEABLE", "SHUT", "partner", "undoing_key", "is_made"]
def loo1 : List PySem.Str := ["halves_of", "opened_parts", "OPENERS", "worked", "made_recipe", "built_recipe", "add_way", "ways_of", "SOME_WORD", "KEYS", "Pairing", "tree_parting", "parting", "alike", "check_plain", "Heap", "_law_cell_at", "_law_mixed", "_law_row", "_law_partner", "_law_undoing", "_law_heap", "_law_run", "_law_step", "_law_parts_them", "_law_tuples", "_law_pairs_of_heaps", "_law_more"]
def loo : List PySem.Str := loo0 ++ loo1
def e0 : He5.DefA := ⟨fun K => sfn K "Letter" "of", "of", "Letter.of", defArgs (inClass (top 25) 1), defBody (inClass (top 25) 1), defScope (inClass (top 25) 1), [], []⟩
def fs : List He5.DefA := [e0]
def ts : List He.Tab := [(fun K => He.ga K "SIGNS", ["pair", "seal", "lock", "mark", "open", "own"]), (fun K => He.ga K "OPENERS", ["seal", "lock"])]
def exl (K : PySem.W.Frag) : List Bool := [kdB K (He.ga K "SIGNS") [("pair", 2), ("seal", 2), ("lock", 2), ("mark", 1), ("open", 1), ("own", 1)], ktB K (He.ga K "MAKEABLE") ["pair", "seal", "lock", "mark", "open"], ktB K (He.ga K "SHUT") ["seal", "lock"], kdsB K (He.ga K "OPENERS") [("seal", "unseal"), ("lock", "unlock")], ktB K (He.ga K "SOME_WORD") ["word", "a"], ktB K (He.ga K "KEYS") ["open", "own"], rexB K "RoadError", oexB K "BadAtom", xfB K (He.ga K "BadAtom"), oexB K "BadForm", xfB K (He.ga K "BadForm"), statB K "Letter" "of", boB K "Heap" "Letter" "__radd__"]
def exq : PySem.W.Frag → Bool := fun K => (exl K).all id
theorem exl_ok {K : PySem.W.Frag} (h : exq K = true) (i : Nat) {b : Bool} (e : (exl K)[i]? = some b) : b = true := List.all_eq_true.mp h b (List.mem_of_getElem? e)
abbrev R : PySem.W.OpenRow := PySem.W.OpenLaw.row PySem.Challenge.rw_openroads_k49_what_parts_heaps
abbrev hk : PySem.W.Hook := hookZ 5 fa fn ts exq fs
def ob (s : PySem.W.SharedT) : AlZ := obsZ 5 fa fn ts exq fs (HandSHeadRun.getT s)
theorem ob_eq (s : PySem.W.SharedT) : ob s = hk.obs s.abs := obsZ_eq (HandSHeadRun.getT_eq s)
abbrev qv : Program := PySem.W.view R.prog [65]
theorem join3 {α β γ δ : Type _} {o : Option α} {f : α → β} {g : α → γ} {h : α → δ} {a : β} {b : γ} {c : δ} (e1 : o.map f = some a) (e2 : o.map g = some b) (e3 : o.map h = some c) : o.map (fun s => (f s, g s, h s)) = some (a, b, c) := by
  cases o with
  | none => cases e1
  | some s =>
    cases e1
    cases e2
    cases e3
    rfl
open PySem PySem.W PySem.Calls PyProof.Rows HandSHeadRun in
theorem run0a (w : World) (os : OsState) : (HandSHeadRun.endF (HandSHeadRun.stepQ (HandSHeadRun.denQ HandSHeadRun.tabQ) R.prog (w.withFollow "special-get-raises" false)) 8000 R.prog (w.withFollow "special-get-raises" false) os).map (fun s => looksF R.prog (boot_heap (w.withFollow "special-get-raises" false).params) s.abs) = some true := by
  kernel_rfl
open PySem PySem.W PySem.Calls PyProof.Rows HandSHeadRun in
theorem run0b (w : World) (os : OsState) : (HandSHeadRun.endF (HandSHeadRun.stepQ (HandSHeadRun.denQ HandSHeadRun.tabQ) R.prog (w.withFollow "special-get-raises" false)) 8000 R.prog (w.withFollow "special-get-raises" false) os).map (fun s => seenQ qv loo (importedModules R.prog.main.body) (fun s => xlAt qv [] s && recOk R.toRowW.records s) s.abs) = some (openGood qv loo) := by
  kernel_rfl
open PySem PySem.W PySem.Calls PyProof.Rows HandSHeadRun in
theorem run0c (w : World) (os : OsState) : (HandSHeadRun.endF (HandSHeadRun.stepQ (HandSHeadRun.denQ HandSHeadRun.tabQ) R.prog (w.withFollow "special-get-raises" false)) 8000 R.prog (w.withFollow "special-get-raises" false) os).map ob = some (hk.val (w.withFollow "special-get-raises" false)) := by
  kernel_rfl
theorem run0 (w : World) : HandSHeadRun.RunEq R qv hk ob 8000 loo (w.withFollow "special-get-raises" false) := fun os => join3 (run0a w os) (run0b w os) (run0c w os)
open PySem PySem.W PySem.Calls PyProof.Rows HandSHeadRun in
theorem run1a (w : World) (os : OsState) : (HandSHeadRun.endF (HandSHeadRun.stepQ (HandSHeadRun.denQ HandSHeadRun.tabQ) R.prog (w.withFollow "special-get-raises" true)) 8000 R.prog (w.withFollow "special-get-raises" true) os).map (fun s => looksF R.prog (boot_heap (w.withFollow "special-get-raises" true).params) s.abs) = some true := by
  kernel_rfl
open PySem PySem.W PySem.Calls PyProof.Rows HandSHeadRun in
theorem run1b (w : World) (os : OsState) : (HandSHeadRun.endF (HandSHeadRun.stepQ (HandSHeadRun.denQ HandSHeadRun.tabQ) R.prog (w.withFollow "special-get-raises" true)) 8000 R.prog (w.withFollow "special-get-raises" true) os).map (fun s => seenQ qv loo (importedModules R.prog.main.body) (fun s => xlAt qv [] s && recOk R.toRowW.records s) s.abs) = some (openGood qv loo) := by
  kernel_rfl
open PySem PySem.W PySem.Calls PyProof.Rows HandSHeadRun in
theorem run1c (w : World) (os : OsState) : (HandSHeadRun.endF (HandSHeadRun.stepQ (HandSHeadRun.denQ HandSHeadRun.tabQ) R.prog (w.withFollow "special-get-raises" true)) 8000 R.prog (w.withFollow "special-get-raises" true) os).map ob = some (hk.val (w.withFollow "special-get-raises" true)) := by
  kernel_rfl
theorem run1 (w : World) : HandSHeadRun.RunEq R qv hk ob 8000 loo (w.withFollow "special-get-raises" true) := fun os => join3 (run1a w os) (run1b w os) (run1c w os)
theorem run (w : World) : HandSHeadRun.RunEq R qv hk ob 8000 loo w := PySem.W.byRow2 "special-get-raises" (P := fun w => HandSHeadRun.RunEq R qv hk ob 8000 loo w) run0 run1 w
end
end Rd
namespace Rd
open PySem L2
def SMALL : Str := "abcdefghijklmnopqrstuvwxyz"
def GREAT : Str := "ABCDEFGHIJKLMNOPQRSTUVWXYZ"
def DIGITS : Str := "0123456789"
def inS (s : Str) (c : Nat) : Bool := decide (c ∈ s.cps.toList)
def isWord (z : Str) : Bool := decide (1 ≤ z.length) && (decide (z.length ≤ 8) && z.cps.toList.all (inS SMALL))
def isUnk (z : Str) : Bool := isWord z && decide (z.length ≤ 7)
def isName (z : Str) : Bool := decide (1 ≤ (Txt.rstripChars z DIGITS).length) && (decide (z.length ≤ 8) && (Txt.rstripChars z DIGITS).cps.toList.all (inS GREAT))
theorem lineBig : 200000 ≤ sizeLine := by decide
theorem allId (l : List Nat) (p : Nat → Bool) : (l.map p).all id = l.all p := by simp [List.all_map]
theorem decNat {a b : Nat} : decide ((a : Int) ≤ (b : Int)) = decide (a ≤ b) := by
  by_cases h : a ≤ b
  · rw [decide_eq_true h, decide_eq_true (by omega)]
  · rw [decide_eq_false h, decide_eq_false (by omega)]
def spTB (f : Str → Bool) : Sp := fun vs H Q _ => ∃ z : Str, vs = [.str z] ∧ z.length ≤ 200000 ∧ ∀ H', Same H H' → Q (.bl (f z)) H'
section
variable {P : Program} {w : World} {K : PySem.W.Frag} {mg : Str → Option Value} {base : Heap}
abbrev s_is_word : Stmt := top 14
theorem sc_is_word : FnScope ["text", "sign"] ["text"] (defScope s_is_word) := ⟨rfl, rfl, rfl, by decide +kernel, rfl, by decide +kernel, by decide +kernel⟩
theorem ok_is_word (T : Tx w K mg) : Fk P w K mg base CX0 1 "is_word" ["text"] (spTB isWord) := by
  refine T.F_is_word.ok0 sc_is_word (fun _ _ _ _ _ _ us hl => match us, hl with | [_], _ => rfl)
    (fun vs H Q E h => ?_) (fun cdv A outer s H vs Q E hr h => ?_)
  · obtain ⟨z, rfl, _⟩ := h
    rfl
  · obtain ⟨z, rfl, hz, k⟩ := h
    have hl : z.length ≤ sizeLine := Nat.le_trans hz lineBig
    refine ⟨_, (pss_one (ps_ret (pe_and (pe_chain op_le op_le pe_int (pe_callB call_len_str (by rfl) T.z_len (by decide +kernel) (pa_cons (pv 0) pa_nil)) pe_int) (pe_one (pe_callB (cr_all rfl) (by rfl) T.z_all (by decide +kernel) (pa_cons (pe_lc (own := [("sign", 1)]) (g := gName 1) (tt := tYes) (by rfl) sc_is_word.nd (pi_str (pv 0)) (blkOk_by (own := [("sign", 1)]) (N := ["text", "sign"]) (sc := defScope s_is_word) (by decide +kernel)) (fun _ _ _ _ _ => (pg_name (i := 1) sc_is_word.nd rfl (Or.inl rfl))) (fun _ _ _ _ _ => pts_nil) (fun _ _ _ _ _ => (pe_cmpR op_in_sign (pv 1) (pe_gstr T.c_SMALL) (by rfl)))) pa_nil)))))), ?_⟩
    refine ⟨_, rfl, z, rfl, hl, _, _, rfl, rfl, _, rfl, ?_⟩
    refine ite2 (fun h1 => ?_) (fun h1 => ⟨false, rfl, ?_⟩)
    · refine ⟨_, _, rfl, rfl, _, rfl, ?_⟩
      refine ite2 (fun h2 => ?_) (fun h2 => ?_)
      · refine ⟨_, rfl, z, rfl, fun D hD => lcs (f := fun c => V.bl (inS SMALL c)) hl (fun c H Q hc q => ⟨_, rfl, _, _, rfl, rfl, q⟩) ?_⟩
        refine ⟨D, z.cps.toList.map (inS SMALL), rfl, SqL.of (by rw [upd_same, List.map_map]; rfl), ?_⟩
        have e : isWord z = (z.cps.toList.map (inS SMALL)).all id := by
          have a1 : decide (1 ≤ z.length) = true := decide_eq_true (by have := of_decide_eq_true h1; omega)
          have a2 : decide (z.length ≤ 8) = true := decide_eq_true (by have := of_decide_eq_true h2; omega)
          rw [isWord, a1, a2, allId] <;> rfl
        show Q (V.bl ((z.cps.toList.map (inS SMALL)).all id)) _
        rw [← e]
        exact k _ (Rd.Same.upd hD)
      · have e : isWord z = false := by
          have a2 : decide (z.length ≤ 8) = false := decide_eq_false (fun q => h2 (decide_eq_true (by omega)))
          rw [isWord, a2] <;> simp
        show Q (V.bl false) _
        rw [← e]
        exact k _ (Same.refl _)
    · have e : isWord z = false := by
        have a1 : decide (1 ≤ z.length) = false := decide_eq_false (fun q => h1 (decide_eq_true (by omega)))
        rw [isWord, a1] <;> rfl
      show Q (V.bl false) _
      rw [← e]
      exact k _ (Same.refl _)
abbrev s_is_unknown : Stmt := top 15
theorem sc_is_unknown : FnScope ["text"] ["text"] (defScope s_is_unknown) := ⟨rfl, rfl, rfl, by decide +kernel, rfl, by decide +kernel, by decide +kernel⟩
theorem ok_is_unknown (T : Tx w K mg) : Fk P w K mg base CX0 2 "is_unknown" ["text"] (spTB isUnk) := by
  refine T.F_is_unknown.ok0 sc_is_unknown (fun _ _ _ _ _ _ us hl => match us, hl with | [_], _ => rfl)
    (fun vs H Q E h => ?_) (fun cdv A outer s H vs Q E hr h => ?_)
  · obtain ⟨z, rfl, _⟩ := h
    rfl
  · obtain ⟨z, rfl, hz, k⟩ := h
    have hl : z.length ≤ sizeLine := Nat.le_trans hz lineBig
    refine ⟨_, (pss_one (ps_ret (pe_and (pe_fk (ok_is_word T) (hr.mono (by omega)) rfl pass0 (pa_cons (pv 0) pa_nil)) (pe_one (pe_cmpR op_le (pe_callB call_len_str (by rfl) T.z_len (by decide +kernel) (pa_cons (pv 0) pa_nil)) pe_int (nomark _)))))), ?_⟩
    refine ⟨_, rfl, z, rfl, hz, fun H1 s1 => ⟨_, rfl, ?_⟩⟩
    refine ite2 (fun h1 => ?_) (fun h1 => ?_)
    · refine ⟨_, rfl, z, rfl, hl, _, _, rfl, rfl, ?_⟩
      have e : isUnk z = decide ((z.length : Int) ≤ 7) := by
        rw [isUnk, h1]
        exact (decNat (b := 7)).symm
      show Q (V.bl (decide ((z.length : Int) ≤ 7))) _
      rw [← e]
      exact k _ s1
    · have e : isUnk z = false := by
        rw [isUnk, Bool.eq_false_iff.mpr h1] <;> rfl
      show Q (V.bl false) _
      rw [← e]
      exact k _ s1
abbrev s_is_name : Stmt := top 16
theorem sc_is_name : FnScope ["text", "letters", "sign"] ["text"] (defScope s_is_name) := ⟨rfl, rfl, rfl, by decide +kernel, rfl, by decide +kernel, by decide +kernel⟩
theorem ok_is_name (T : Tx w K mg) : Fk P w K mg base CX0 1 "is_name" ["text"] (spTB isName) := by
  refine T.F_is_name.ok0 sc_is_name (fun _ _ _ _ _ _ us hl => match us, hl with | [_], _ => rfl)
    (fun vs H Q E h => ?_) (fun cdv A outer s H vs Q E hr h => ?_)
  · obtain ⟨z, rfl, _⟩ := h
    rfl
  · obtain ⟨z, rfl, hz, k⟩ := h
    have hl : z.length ≤ sizeLine := Nat.le_trans hz lineBig
    refine ⟨_, (pss_cons (ps_set (i := 1) sc_is_name.nd rfl (Or.inl rfl) (pe_bm PySem.F.plainAttrs_str PySem.F.slot_str_rstrip PySem.F.type_str_rstrip mt_rstripChars (pv 0) (pa_cons (pe_gstr T.c_DIGITS) pa_nil)))
  (pss_one (ps_ret (pe_and (pe_cmpR op_le pe_int (pe_callB call_len_str (by rfl) T.z_len (by decide +kernel) (pa_cons (pv 1) pa_nil)) (nomark _)) (pe_and (pe_cmpR op_le (pe_callB call_len_str (by rfl) T.z_len (by decide +kernel) (pa_cons (pv 0) pa_nil)) pe_int (nomark _)) (pe_one (pe_callB (cr_all rfl) (by rfl) T.z_all (by decide +kernel) (pa_cons (pe_lc (own := [("sign", 2)]) (g := gName 2) (tt := tYes) (by rfl) sc_is_name.nd (pi_str (pv 1)) (blkOk_by (own := [("sign", 2)]) (N := ["text", "letters", "sign"]) (sc := defScope s_is_name) (by decide +kernel)) (fun _ _ _ _ _ => (pg_name (i := 2) sc_is_name.nd rfl (Or.inl rfl))) (fun _ _ _ _ _ => pts_nil) (fun _ _ _ _ _ => (pe_cmpR op_in_sign (pv 2) (pe_gstr T.c_GREAT) (by rfl)))) pa_nil)))))))), ?_⟩
    have hl2 : (Txt.rstripChars z DIGITS).length ≤ sizeLine := Nat.le_trans (PyProof.Rows.len_rstripChars z DIGITS) hl
    refine ⟨_, rfl, rfl, z, DIGITS, rfl, rfl, hl, ?_⟩
    refine ⟨_, rfl, _, rfl, hl2, _, _, rfl, rfl, _, rfl, ?_⟩
    refine ite2 (fun h1 => ?_) (fun h1 => ?_)
    · refine ⟨_, rfl, z, rfl, hl, _, _, rfl, rfl, _, rfl, ?_⟩
      refine ite2 (fun h2 => ?_) (fun h2 => ?_)
      · refine ⟨_, rfl, _, rfl, fun D hD => lcs (f := fun c => V.bl (inS GREAT c)) hl2 (fun c H Q hc q => ⟨_, rfl, _, _, rfl, rfl, q⟩) ?_⟩
        refine ⟨D, (Txt.rstripChars z DIGITS).cps.toList.map (inS GREAT), rfl, SqL.of (by rw [upd_same, List.map_map]; rfl), ?_⟩
        have e : isName z = ((Txt.rstripChars z DIGITS).cps.toList.map (inS GREAT)).all id := by
          have a1 : decide (1 ≤ (Txt.rstripChars z DIGITS).length) = true := decide_eq_true (by have := of_decide_eq_true h1; omega)
          have a2 : decide (z.length ≤ 8) = true := decide_eq_true (by have := of_decide_eq_true h2; omega)
          rw [isName, a1, a2, allId] <;> rfl
        show Q (V.bl (((Txt.rstripChars z DIGITS).cps.toList.map (inS GREAT)).all id)) _
        rw [← e]
        exact k _ (Rd.Same.upd hD)
      · have e : isName z = false := by
          have a2 : decide (z.length ≤ 8) = false := decide_eq_false (fun q => h2 (decide_eq_true (by omega)))
          rw [isName, a2] <;> simp
        show Q (V.bl false) _
        rw [← e]
        exact k _ (Same.refl _)
    · have e : isName z = false := by
        have a1 : decide (1 ≤ (Txt.rstripChars z DIGITS).length) = false := decide_eq_false (fun q => h1 (decide_eq_true (by omega)))
        rw [isName, a1] <;> rfl
      show Q (V.bl false) _
      rw [← e]
      exact k _ (Same.refl _)
/-- text[1:] -/
def tailS (z : Str) : Str := cutS z (some 1) none
theorem cutS_from (z : Str) (a : Nat) : (cutS z (some (a : Int)) none).cps.toList = z.cps.toList.drop a := by
  show ((z.cps.toList.drop (HT.sIx z.length 0 (some (a : Int)))).take (z.length - HT.sIx z.length 0 (some (a : Int)))) = _
  have hs : z.cps.toList.length = z.length := by rw [Array.length_toList]; rfl
  rw [HT.sIx_nat, List.take_of_length_le (by rw [List.length_drop, hs]; exact Nat.le_refl _)]
  rcases Nat.le_total a z.length with h | h
  · rw [Nat.min_eq_left h]
  · rw [Nat.min_eq_right h, List.drop_of_length_le (by omega), List.drop_of_length_le (by omega)]
theorem len_list (z : Str) : z.length = z.cps.toList.length := by rw [Array.length_toList]; rfl
theorem tailS_list (z : Str) : (tailS z).cps.toList = z.cps.toList.drop 1 := cutS_from z 1
theorem tailS_len (z : Str) : (tailS z).length ≤ z.length := by
  rw [len_list, len_list, tailS_list, List.length_drop]
  omega
def atomOf (z : Str) : Option (Str × Str) := if isWord z = true then some ("word", z) else if isName z = true then some ("name", z) else if (Txt.startswith z "?" && isUnk (tailS z)) = true then some ("unknown", tailS z) else none
def sp_atom_tree : Sp := fun vs H Q _ => ∃ z : Str, vs = [.str z] ∧ z.length ≤ 200000 ∧ (∀ H', Same H H' → atomOf z = none → Q .non H') ∧ ∀ k x p H', Same H H' → atomOf z = some (k, x) → H p = none → H' p = some (.tup [.str k, .str x]) → Q (.ref p) H'
abbrev s_atom_tree : Stmt := top 17
theorem sc_atom_tree : FnScope ["text"] ["text"] (defScope s_atom_tree) := ⟨rfl, rfl, rfl, by decide +kernel, rfl, by decide +kernel, by decide +kernel⟩
theorem ok_atom_tree (T : Tx w K mg) : Fk P w K mg base CX0 3 "atom_tree" ["text"] sp_atom_tree := by
  refine T.F_atom_tree.ok0 sc_atom_tree (fun _ _ _ _ _ _ us hl => match us, hl with | [_], _ => rfl)
    (fun vs H Q E h => ?_) (fun cdv A outer s H vs Q E hr h => ?_)
  · obtain ⟨z, rfl, _⟩ := h
    rfl
  · obtain ⟨z, rfl, hz, k0, k1⟩ := h
    have hl : z.length ≤ sizeLine := Nat.le_trans hz lineBig
    have hz2 : (tailS z).length ≤ 200000 := Nat.le_trans (tailS_len z) hz
    refine ⟨_, (pss_cons (ps_if (pt_val (pe_fk (ok_is_word T) (hr.mono (by omega)) rfl pass0 (pa_cons (pv 0) pa_nil)))
  (pss_one (ps_ret (pe_tup (pa_cons pe_str (pa_cons (pv 0) pa_nil)))))
  pss_nil)
  (pss_cons (ps_if (pt_val (pe_fk (ok_is_name T) (hr.mono (by omega)) rfl pass0 (pa_cons (pv 0) pa_nil)))
  (pss_one (ps_ret (pe_tup (pa_cons pe_str (pa_cons (pv 0) pa_nil)))))
  pss_nil)
  (pss_cons (ps_if (PW.pt (pw_and (pt_val (pe_bm PySem.F.plainAttrs_str PySem.F.slot_str_startswith PySem.F.type_str_startswith mt_startswith (pv 0) (pa_cons pe_str pa_nil))) (pw_and1 (pt_val (pe_fk (ok_is_unknown T) (hr.mono (by omega)) rfl pass0 (pa_cons (pe_slice sl_str (pv 0) (po_some pe_int) po_none) pa_nil))))))
  (pss_one (ps_ret (pe_tup (pa_cons pe_str (pa_cons (pe_slice sl_str (pv 0) (po_some pe_int) po_none) pa_nil)))))
  pss_nil)
  (pss_one (ps_ret pe_non))))), ?_⟩
    refine ⟨_, rfl, z, rfl, hz, fun H1 s1 => ⟨_, rfl, ite2 (fun h1 => ?_) (fun h1 => ?_)⟩⟩
    · refine ⟨_, rfl, (by show 2 ≤ sizeLine; decide), fun p hp => ?_⟩
      exact k1 _ _ p _ (Rd.Same.upd' s1 hp) (by rw [atomOf, if_pos h1]) (s1.free hp) upd_same
    · refine ⟨_, rfl, z, rfl, hz, fun H2 s2 => ⟨_, rfl, ite2 (fun h2 => ?_) (fun h2 => ?_)⟩⟩
      · refine ⟨_, rfl, (by show 2 ≤ sizeLine; decide), fun p hp => ?_⟩
        exact k1 _ _ p _ (Rd.Same.upd' (s1.trans s2) hp) (by rw [atomOf, if_neg h1, if_pos h2]) ((s1.trans s2).free hp) upd_same
      · refine ⟨_, rfl, rfl, z, "?", rfl, rfl, _, rfl, ite2 (fun h3 => ?_) (fun h3 => ?_)⟩
        · refine ⟨_, rfl, _, rfl, z, rfl, hl, tailS z, rfl, hz2, fun H3 s3 => ⟨_, rfl, ite2 (fun h4 => ?_) (fun h4 => ?_)⟩⟩
          · refine ⟨_, rfl, _, rfl, z, rfl, hl, (by show 2 ≤ sizeLine; decide), fun p hp => ?_⟩
            exact k1 _ _ p _ (Rd.Same.upd' ((s1.trans s2).trans s3) hp) (by rw [atomOf, if_neg h1, if_neg h2, if_pos (by rw [h3, h4]; rfl)]; rfl) (((s1.trans s2).trans s3).free hp) upd_same
          · exact k0 _ ((s1.trans s2).trans s3) (by rw [atomOf, if_neg h1, if_neg h2, if_neg (by rw [Bool.eq_false_iff.mpr h4]; simp)])
        · exact k0 _ (s1.trans s2) (by rw [atomOf, if_neg h1, if_neg h2, if_neg (by rw [Bool.eq_false_iff.mpr h3]; simp)])
end
end Rd
namespace Rd
open PySem L2
theorem str_ext {a b : Str} (h : a.cps.toList = b.cps.toList) : a = b := by
  obtain ⟨⟨a⟩⟩ := a
  obtain ⟨⟨b⟩⟩ := b
  have e : a = b := h
  rw [e]
theorem app_list (a b : Str) : (a ++ b).cps.toList = a.cps.toList ++ b.cps.toList := by
  show (a.cps ++ b.cps).toList = _
  rw [Array.toList_append]
theorem contains_in (s : Str) (c : Nat) : s.cps.contains c = inS s c := by
  unfold inS
  rw [Bool.eq_iff_iff, decide_eq_true_iff, Array.contains_iff_mem]
  exact Array.mem_def
theorem rstrip_list (z s : Str) : (Txt.rstripChars z s).cps.toList = (z.cps.toList.reverse.dropWhile (inS s)).reverse := by
  have e0 : s.cps.contains = inS s := funext (contains_in s)
  show (Txt.stripBy s.cps.contains false true z).cps.toList = _
  rw [PyProof.Rows.stripBy_eq, e0]
  show (z.cps.extract 0 (z.length - ((z.cps.toList.drop 0).reverse.takeWhile (inS s)).length)).toList = _
  rw [List.drop_zero, len_list]
  generalize z.cps = a
  obtain ⟨l⟩ := a
  rw [List.extract_toArray]
  show (l.extract 0 (l.length - (l.reverse.takeWhile (inS s)).length)) = (l.reverse.dropWhile (inS s)).reverse
  rw [List.extract_eq_drop_take, List.drop_zero, Nat.sub_zero]
  have e1 : l.reverse = l.reverse.takeWhile (inS s) ++ l.reverse.dropWhile (inS s) := (List.takeWhile_append_dropWhile).symm
  have e2 : l = (l.reverse.dropWhile (inS s)).reverse ++ (l.reverse.takeWhile (inS s)).reverse := by
    have := congrArg List.reverse e1
    rw [List.reverse_reverse, List.reverse_append] at this
    exact this
  have e3 : l.length = (l.reverse.dropWhile (inS s)).length + (l.reverse.takeWhile (inS s)).length := by
    have := congrArg List.length e2
    rw [List.length_append, List.length_reverse, List.length_reverse] at this
    exact this
  rw [e3, Nat.add_sub_cancel]
  have key : ∀ (A B : List Nat), l = A.reverse ++ B.reverse → l.take A.length = A.reverse := fun A B q => by
    rw [q, List.take_append_of_le_length (by rw [List.length_reverse]; exact Nat.le_refl _), List.take_of_length_le (by rw [List.length_reverse]; exact Nat.le_refl _)]
  exact key _ _ e2
theorem starts_q (z : Str) : Txt.startswith z "?" = true ↔ ∃ r, z.cps.toList = 63 :: r := by
  show (decide (0 + ("?" : Str).length ≤ z.length) && (z.cps.extract 0 (0 + ("?" : Str).length) == ("?" : Str).cps)) = true ↔ _
  have e1 : ("?" : Str).length = 1 := by decide
  have e2 : ("?" : Str).cps = #[63] := by decide +kernel
  rw [e1, e2, len_list]
  generalize z.cps = a
  obtain ⟨l⟩ := a
  cases l with
  | nil => simp
  | cons c r =>
    constructor
    · intro h
      obtain ⟨_, h2⟩ := He.ba h
      have h3 : (⟨c :: r⟩ : Array Nat).extract 0 1 = #[63] := eq_of_beq h2
      have h4 := congrArg Array.toList h3
      simp at h4
      exact ⟨r, by rw [h4]⟩
    · rintro ⟨r', e⟩
      have e' : c :: r = 63 :: r' := e
      injection e' with e3 e4
      subst e3
      simp
theorem disj {c : Nat} (h : inS GREAT c = true) : inS DIGITS c = false := by
  have h1 : c ∈ GREAT.cps.toList := of_decide_eq_true h
  have h2 : GREAT.cps.toList.all (fun c => !inS DIGITS c) = true := by decide +kernel
  have h3 := List.all_eq_true.mp h2 c h1
  simpa using h3
theorem disj2 {c : Nat} (h : inS DIGITS c = true) : inS GREAT c = false := by
  cases e : inS GREAT c with
  | false => rfl
  | true => rw [disj e] at h; cases h
theorem dropAll {p : Nat → Bool} : ∀ (l : List Nat), (∀ c ∈ l, p c = true) → l.dropWhile p = []
  | [], _ => rfl
  | a :: r, h => by
    rw [List.dropWhile_cons, if_pos (h a List.mem_cons_self)]
    exact dropAll r fun c hc => h c (List.mem_cons_of_mem _ hc)
theorem name_iff (l : List Nat) : (1 ≤ ((l.reverse.dropWhile (inS DIGITS)).reverse).length ∧ ((l.reverse.dropWhile (inS DIGITS)).reverse).all (inS GREAT) = true) ↔
    ((0 < (l.filter (inS GREAT)).length ∧ (l.take (l.filter (inS GREAT)).length).all (inS GREAT) = true) ∧ (l.drop (l.filter (inS GREAT)).length).all (inS DIGITS) = true) := by
  have e1 : l.reverse = l.reverse.takeWhile (inS DIGITS) ++ l.reverse.dropWhile (inS DIGITS) := (List.takeWhile_append_dropWhile).symm
  have e2 : l = (l.reverse.dropWhile (inS DIGITS)).reverse ++ (l.reverse.takeWhile (inS DIGITS)).reverse := by
    have := congrArg List.reverse e1
    rw [List.reverse_reverse, List.reverse_append] at this
    exact this
  have hD : ∀ c ∈ (l.reverse.takeWhile (inS DIGITS)).reverse, inS DIGITS c = true := fun c hc => by
    rw [List.mem_reverse] at hc
    have := List.all_takeWhile (p := inS DIGITS) (l := l.reverse)
    exact List.all_eq_true.mp this c hc
  constructor
  · rintro ⟨h1, h2⟩
    generalize (l.reverse.dropWhile (inS DIGITS)).reverse = A at e2 h1 h2
    generalize (l.reverse.takeWhile (inS DIGITS)).reverse = B at e2 hD
    subst e2
    have fA : A.filter (inS GREAT) = A := List.filter_eq_self.mpr fun c hc => List.all_eq_true.mp h2 c hc
    have fB : B.filter (inS GREAT) = [] := List.filter_eq_nil_iff.mpr fun c hc q => by rw [disj2 (hD c hc)] at q; cases q
    rw [List.filter_append, fA, fB, List.append_nil]
    refine ⟨⟨h1, ?_⟩, ?_⟩
    · rw [List.take_append_of_le_length (Nat.le_refl _), List.take_length]
      exact h2
    · rw [List.drop_append_of_le_length (Nat.le_refl _), List.drop_length, List.nil_append]
      exact List.all_eq_true.mpr hD
  · rintro ⟨⟨h1, h2⟩, h3⟩
    have hle := List.length_filter_le (inS GREAT) l
    generalize (l.filter (inS GREAT)).length = n at h1 h2 h3 hle
    have el : l = l.take n ++ l.drop n := (List.take_append_drop n l).symm
    have key : l.reverse.dropWhile (inS DIGITS) = (l.take n).reverse := by
      conv => lhs; rw [el]
      rw [List.reverse_append, List.dropWhile_append]
      have z1 : (l.drop n).reverse.dropWhile (inS DIGITS) = [] := by
        exact dropAll _ fun c hc => by
          rw [List.mem_reverse] at hc
          exact List.all_eq_true.mp h3 c hc
      rw [z1]
      simp only [List.isEmpty_nil, if_true]
      cases hr : (l.take n).reverse with
      | nil => rfl
      | cons c r =>
        have hc : c ∈ l.take n := by
          rw [← List.mem_reverse, hr]
          exact List.mem_cons_self
        rw [List.dropWhile_cons, if_neg]
        rw [disj (List.all_eq_true.mp h2 c hc)]
        decide
    rw [key, List.reverse_reverse, List.length_take]
    exact ⟨by omega, h2⟩
theorem isName_first {z : Str} (h : isName z = true) (q : Txt.startswith z "?" = true) : False := by
  obtain ⟨h1, h2⟩ := He.ba h
  obtain ⟨h3, h4⟩ := He.ba h2
  obtain ⟨r, e⟩ := (starts_q z).mp q
  have h1' := of_decide_eq_true h1
  rw [len_list, rstrip_list] at h1'
  rw [rstrip_list] at h4
  obtain ⟨⟨a1, a2⟩, a3⟩ := (name_iff z.cps.toList).mp ⟨h1', h4⟩
  rw [e] at a1 a2
  have hg : inS GREAT 63 = false := by decide +kernel
  generalize ((63 :: r).filter (inS GREAT)).length = n at a1 a2
  cases n with
  | zero => cases a1
  | succ n =>
    have := List.all_eq_true.mp a2 63 (by rw [List.take_succ_cons]; exact List.mem_cons_self)
    rw [hg] at this
    cases this
end Rd
namespace Rd
open PySem L2
/-- a stream's list, with n draws still in the bound -/
def StL (n : Nat) (xs : List V) : Prop := ∃ a b c : Int, xs = [.int a, .int b, .int c] ∧ 0 ≤ a ∧ 0 ≤ b ∧ b ≤ 1099511627776 ∧ 0 ≤ c ∧ c + n ≤ 1099511627776
theorem StL.mono {n m : Nat} {xs : List V} (h : StL n xs) (hm : m ≤ n) : StL m xs := by
  obtain ⟨a, b, c, e, h1, h2, h3, h4, h5⟩ := h
  exact ⟨a, b, c, e, h1, h2, h3, h4, by omega⟩
end Rd
namespace Rd
open PySem L2
/-- all but p stays -/
def But (p : Addr) (H H' : Hp) : Prop := ∀ b o, b ≠ p → H b = some o → H' b = some o
theorem But.refl {p : Addr} {H : Hp} : But p H H := fun _ _ _ e => e
theorem But.trans {p : Addr} {H H1 H2 : Hp} (a : But p H H1) (b : But p H1 H2) : But p H H2 := fun c o hc h => b c o hc (a c o hc h)
theorem But.of_same {p : Addr} {H H' : Hp} (s : Same H H') : But p H H' := fun b o _ e => s b o e
theorem But.upd {p : Addr} {H : Hp} {o : HO} : But p H (L2.upd H p o) := fun b u hb e => by rw [upd_ne hb]; exact e
theorem But.free {p q : Addr} {H H' : Hp} {xs : List V} (s : But p H H') (hp : H' p = some (.lst xs)) (h : H' q = none) : H q = none := by
  cases e : H q with
  | none => rfl
  | some o =>
    have hq : q ≠ p := fun z => by rw [z, hp] at h; cases h
    rw [s q o hq e] at h
    cases h
def imm (C : Addr) : HO → Bool
  | .tup _ => true
  | .ins C' _ _ => C' == C
  | _ => false
/-- tuples and instances of C stay -/
def Kp (C : Addr) (H H' : Hp) : Prop := ∀ b o, imm C o = true → H b = some o → H' b = some o
theorem Kp.refl {C : Addr} {H : Hp} : Kp C H H := fun _ _ _ e => e
theorem Kp.trans {C : Addr} {H H1 H2 : Hp} (a : Kp C H H1) (b : Kp C H1 H2) : Kp C H H2 := fun c o hc h => b c o hc (a c o hc h)
theorem Kp.of_same {C : Addr} {H H' : Hp} (s : Same H H') : Kp C H H' := fun b o _ e => s b o e
theorem But.kp {C p : Addr} {H H' : Hp} {xs : List V} (s : But p H H') (hp : H p = some (.lst xs)) : Kp C H H' := fun b o hi e => s b o (fun z => by
  rw [z, hp] at e
  cases e
  cases hi) e
theorem Kp.upd_lst {C D : Addr} {H : Hp} {xs ys : List V} (h : H D = some (.lst xs)) : Kp C H (L2.upd H D (.lst ys)) := fun b o hi e => by
  have hb : b ≠ D := fun z => by
    rw [z, h] at e
    cases e
    cases hi
  rw [upd_ne hb]
  exact e
/-- signs as Python has them -/
def okS (z : Str) : Prop := ∀ c ∈ z.cps.toList, c < 1114112
theorem okS_by {z : Str} (h : z.cps.toList.all (fun c => decide (c < 1114112)) = true) : okS z := fun c hc => of_decide_eq_true (List.all_eq_true.mp h c hc)
theorem strOk_of {z : Str} (h : okS z) : PySem.PyData.strOk z = true := by
  show z.cps.all (fun c => decide (c < 0x110000)) = true
  rw [Array.all_eq_true']
  intro c hc
  exact decide_eq_true (h c (Array.mem_toList_iff.mpr hc))
/-- a text of these codes -/
def ofC (cs : List Nat) : Str := ⟨cs.toArray⟩
theorem ofC_list (cs : List Nat) : (ofC cs).cps.toList = cs := by show cs.toArray.toList = cs; rw [List.toList_toArray]
theorem word_noname {z : Str} (h : isName z = true) : isWord z = false := by
  cases e : isWord z with
  | false => rfl
  | true =>
    obtain ⟨h1, h2⟩ := He.ba h
    obtain ⟨h3, h4⟩ := He.ba h2
    have h1' := of_decide_eq_true h1
    rw [len_list, rstrip_list] at h1'
    rw [rstrip_list] at h4
    obtain ⟨⟨a1, a2⟩, a3⟩ := (name_iff z.cps.toList).mp ⟨h1', h4⟩
    obtain ⟨w1, w2⟩ := He.ba e
    obtain ⟨w3, w4⟩ := He.ba w2
    obtain ⟨c, hc⟩ := List.exists_mem_of_length_pos a1
    rw [List.mem_filter] at hc
    have s1 := List.all_eq_true.mp w4 c hc.1
    have dj : GREAT.cps.toList.all (fun c => !inS SMALL c) = true := by decide +kernel
    have s2 := List.all_eq_true.mp dj c (of_decide_eq_true hc.2)
    rw [s1] at s2
    cases s2
theorem word_len {z : Str} (h : isWord z = true) : 1 ≤ z.length ∧ z.length ≤ 8 ∧ okS z := by
  obtain ⟨h1, h2⟩ := He.ba h
  obtain ⟨h3, h4⟩ := He.ba h2
  have dj : SMALL.cps.toList.all (fun c => decide (c < 1114112)) = true := by decide +kernel
  exact ⟨of_decide_eq_true h1, of_decide_eq_true h3, fun c hc => of_decide_eq_true (List.all_eq_true.mp dj c (of_decide_eq_true (List.all_eq_true.mp h4 c hc)))⟩
theorem name_len {z : Str} (h : isName z = true) : z.length ≤ 8 ∧ okS z := by
  obtain ⟨h1, h2⟩ := He.ba h
  obtain ⟨h3, h4⟩ := He.ba h2
  have h1' := of_decide_eq_true h1
  rw [len_list, rstrip_list] at h1'
  rw [rstrip_list] at h4
  obtain ⟨⟨a1, a2⟩, a3⟩ := (name_iff z.cps.toList).mp ⟨h1', h4⟩
  have dj : GREAT.cps.toList.all (fun c => decide (c < 1114112)) = true := by decide +kernel
  have dk : DIGITS.cps.toList.all (fun c => decide (c < 1114112)) = true := by decide +kernel
  refine ⟨of_decide_eq_true h3, fun c hc => ?_⟩
  rw [← List.take_append_drop (z.cps.toList.filter (inS GREAT)).length z.cps.toList] at hc
  rcases List.mem_append.mp hc with q | q
  · exact of_decide_eq_true (List.all_eq_true.mp dj c (of_decide_eq_true (List.all_eq_true.mp a2 c q)))
  · exact of_decide_eq_true (List.all_eq_true.mp dk c (of_decide_eq_true (List.all_eq_true.mp a3 c q)))
end Rd
namespace Rd
open PySem L2
inductive Tr where
  | am (k x : Str)
  | un (s : Str) (a : Tr)
  | bi (s : Str) (a b : Tr)
  deriving DecidableEq
def Tr.dep : Tr → Nat
  | .am _ _ => 0
  | .un _ a => a.dep + 1
  | .bi _ a b => max a.dep b.dep + 1
def Tr.nod : Tr → Nat
  | .am _ _ => 0
  | .un _ a => a.nod + 1
  | .bi _ a b => a.nod + b.nod + 1
/-- how large a drawn form is -/
def Tr.unkIn (us : List V) : Tr → Prop
  | .am k x => k = "unknown" → V.str x ∈ us
  | .un _ a => a.unkIn us
  | .bi _ a b => a.unkIn us ∧ b.unkIn us
def dpN (d : Nat) (us : List V) (t : Tr) : Prop := t.dep ≤ 2 * d ∧ t.nod + 2 ≤ 2 ^ (d + 1) ∧ t.unkIn us
theorem dpN.am {d : Nat} {us : List V} {k x : Str} (h : k = "unknown" → V.str x ∈ us) : dpN d us (.am k x) := by
  refine ⟨Nat.zero_le _, ?_, h⟩
  show 0 + 2 ≤ 2 ^ (d + 1)
  rw [Nat.pow_succ]
  have := Nat.pow_pos (n := d) (show 0 < 2 by decide)
  omega
theorem dpN.un {d : Nat} {us : List V} {s : Str} {a : Tr} (h : dpN d us a) : dpN (d + 1) us (.un s a) := by
  obtain ⟨h1, h2, h3⟩ := h
  have e : 2 ^ (d + 1 + 1) = 2 * 2 ^ (d + 1) := by rw [Nat.pow_succ]; omega
  refine ⟨?_, ?_, h3⟩
  · show a.dep + 1 ≤ 2 * (d + 1)
    omega
  · show a.nod + 1 + 2 ≤ 2 ^ (d + 1 + 1)
    omega
theorem dpN.bi {d : Nat} {us : List V} {s : Str} {a b : Tr} (h : dpN d us a) (g : dpN d us b) : dpN (d + 1) us (.bi s a b) := by
  obtain ⟨h1, h2, h3⟩ := h
  obtain ⟨g1, g2, g3⟩ := g
  have e : 2 ^ (d + 1 + 1) = 2 * 2 ^ (d + 1) := by rw [Nat.pow_succ]; omega
  refine ⟨?_, ?_, h3, g3⟩
  · show max a.dep b.dep + 1 ≤ 2 * (d + 1)
    omega
  · show a.nod + b.nod + 1 + 2 ≤ 2 ^ (d + 1 + 1)
    omega
theorem dpN.lk {d : Nat} {us : List V} {s s' : Str} {a b : Tr} (h : dpN d us a) (g : dpN d us b) : dpN (d + 1) us (.bi s a (.un s' b)) := by
  obtain ⟨h1, h2, h3⟩ := h
  obtain ⟨g1, g2, g3⟩ := g
  have e : 2 ^ (d + 1 + 1) = 2 * 2 ^ (d + 1) := by rw [Nat.pow_succ]; omega
  refine ⟨?_, ?_, h3, g3⟩
  · show max a.dep (b.dep + 1) + 1 ≤ 2 * (d + 1)
    omega
  · show a.nod + (b.nod + 1) + 1 + 2 ≤ 2 ^ (d + 1 + 1)
    omega
def kindOk (k x : Str) : Prop := (k = "word" ∧ isWord x = true) ∨ (k = "name" ∧ isName x = true) ∨ (k = "unknown" ∧ isUnk x = true)
inductive Wf : Tr → Prop
  | am {k x : Str} : kindOk k x → Wf (.am k x)
  | un {s : Str} {a : Tr} : s ∈ (["mark", "open", "own"] : List Str) → Wf a → Wf (.un s a)
  | bi {s : Str} {a b : Tr} : s ∈ (["pair", "seal"] : List Str) → Wf a → Wf b → Wf (.bi s a b)
  | lk {s : Str} {a b : Tr} : s ∈ (["open", "own"] : List Str) → Wf a → Wf b → Wf (.bi "lock" a (.un s b))
def IsT (H : Hp) : Tr → V → Prop
  | .am k x, v => ∃ p, v = .ref p ∧ H p = some (.tup [.str k, .str x])
  | .un s a, v => ∃ p u, v = .ref p ∧ H p = some (.tup [.str s, u]) ∧ IsT H a u
  | .bi s a b, v => ∃ p u1 u2, v = .ref p ∧ H p = some (.tup [.str s, u1, u2]) ∧ IsT H a u1 ∧ IsT H b u2
theorem IsT.mono {C : Addr} {H H' : Hp} (k : Kp C H H') : ∀ {t : Tr} {v : V}, IsT H t v → IsT H' t v
  | .am _ _, _, ⟨p, e, h⟩ => ⟨p, e, k p _ rfl h⟩
  | .un _ _, _, ⟨p, u, e, h, h1⟩ => ⟨p, u, e, k p _ rfl h, IsT.mono k h1⟩
  | .bi _ _ _, _, ⟨p, u1, u2, e, h, h1, h2⟩ => ⟨p, u1, u2, e, k p _ rfl h, IsT.mono k h1, IsT.mono k h2⟩
theorem IsT.same {H H' : Hp} {t : Tr} {v : V} (s : Same H H') (h : IsT H t v) : IsT H' t v := h.mono (C := 0) (Kp.of_same s)
theorem IsT.but {p : Addr} {H H' : Hp} {xs : List V} {t : Tr} {v : V} (s : But p H H') (hp : H p = some (.lst xs)) (h : IsT H t v) : IsT H' t v := h.mono (C := 0) (s.kp hp)
theorem IsT.ref {H : Hp} {t : Tr} {v : V} (h : IsT H t v) : ∃ p, v = .ref p := by
  cases t with
  | am k x => obtain ⟨p, e, _⟩ := h; exact ⟨p, e⟩
  | un s a => obtain ⟨p, u, e, _⟩ := h; exact ⟨p, e⟩
  | bi s a b => obtain ⟨p, u, u2, e, _⟩ := h; exact ⟨p, e⟩
theorem unk_len {z : Str} (h : isUnk z = true) : z.length ≤ 7 ∧ 1 ≤ z.length ∧ okS z := by
  obtain ⟨h1, h2⟩ := He.ba h
  obtain ⟨a, b, c⟩ := word_len h1
  exact ⟨of_decide_eq_true h2, a, c⟩
def dr (d : Nat) : Nat := 40 * 3 ^ d
end Rd
namespace Rd
open PySem L2
section
variable {P : Program} {w : World} {K : PySem.W.Frag} {mg : Str → Option Value} {base : Heap}
abbrev s_BadAtom_init : Stmt := inClass (top 3) 0
theorem sc_BadAtom_init : FnScope ["self", "text"] ["self", "text"] (defScope s_BadAtom_init) := ⟨rfl, rfl, rfl, by decide +kernel, rfl, by decide +kernel, by decide +kernel⟩
theorem ok_BadAtom (T : Tx w K mg) : Fm P w K mg base CX0 1 "BadAtom" "__init__" ["self", "text"] (spX1 K "text") := by
  refine T.X_BadAtom.init.ok0 sc_BadAtom_init (fun _ _ _ _ _ _ us hl => match us, hl with | [_, _], _ => rfl)
    (fun vs H Q E h => ?_) (fun cdv A outer s H vs Q E hr h => ?_)
  · obtain ⟨a, C, v, rfl, _⟩ := h
    rfl
  · obtain ⟨a, C, v, rfl, TC, no, ha, k⟩ := h
    refine ⟨_, (pss_cons (ps_expr (pe_reinit rfl T.g_RoadError T.r_RoadError (pa_cons (pv 0) (pa_cons pe_str pa_nil))))
  (pss_one (ps_ost (pv 0) (pv 1)))), ?_⟩
    refine ⟨_, rfl, a, C, [.str "no atom"], rfl, (by show 1 ≤ 1000; decide), TC, ha, _, rfl, _, rfl, a, C, rfl, TC, no, .inl ⟨ha, fun dx hdx ne => k dx hdx ne⟩⟩
/-- Letter(text), Letter("", tree) -/
def sp_Linit (K : PySem.W.Frag) : Sp := fun vs H Q E => ∃ (x dx : Addr) (z : Str) (v : V), vs = [.ref x, .str z, v] ∧ H x = some (.ins (He.ga K "Letter") dx []) ∧
  ((v ≠ .non ∧ Q .non (upd H x (.ins (He.ga K "Letter") dx [("tree", v)]))) ∨
   (v = .non ∧ z.length ≤ 200000 ∧ (∀ k y p H', But x H H' → atomOf z = some (k, y) → H p = none → H' p = some (.tup [.str k, .str y]) → H' x = some (.ins (He.ga K "Letter") dx [("tree", .ref p)]) → Q .non H') ∧
     ∀ d H', But x H H' → atomOf z = none → H d = none → H' d = some (.xd [("text", .str z)]) → E (.ref (He.ga K "BadAtom")) (some d) H'))
theorem look1 (v : V) : ([("tree", v)] : List (Str × V)).lookup ("tree" : Str) = some v := by simp [List.lookup]
theorem putTree (v u : V) : putF "tree" u ([("tree", v)] : List (Str × V)) = ([("tree", u)] : List (Str × V)) := by
  show (if ("tree" : Str) = "tree" then ([(("tree" : Str), u)] : List (Str × V)) else _) = _
  rw [if_pos rfl]
abbrev s_Letter_init : Stmt := inClass (top 25) 0
theorem sc_Letter_init : FnScope ["self", "atom", "tree"] ["self", "atom", "tree"] (defScope s_Letter_init) := ⟨rfl, rfl, rfl, by decide +kernel, rfl, by decide +kernel, by decide +kernel⟩
theorem ok_Letter (T : Tx w K mg) : Fi P w K mg base (L2N.CX P w) 4 "Letter" ["self", "atom", "tree"] (sp_Linit K) .non := by
  refine T.I_Letter.ok (n := 2) sc_Letter_init rfl (fun _ _ _ _ _ _ _ us its hu hi => match us, its, hu, hi with | [_, _], [_], _, _ => ⟨_, rfl, rfl⟩) (fun _ _ _ _ _ _ _ us its hu hi => match us, its, hu, hi with | [_, _, _], [_], _, _ => ⟨_, rfl, rfl⟩)
    (fun vs H Q E h => ?_) (fun cdv A outer s H vs Q E hr h => ?_)
  · obtain ⟨x, dx, z, v, rfl, _⟩ := h
    rfl
  · obtain ⟨x, dx, z, v, rfl, hx, hv⟩ := h
    refine ⟨_, (pss_cons (ps_fld (pv 0) (pv 2) rfl)
  (pss_one (ps_if (pt_cmpR op_isN (pv 2) pe_non (nomark _))
  (pss_cons (ps_fld (pv 0) (pe_fk (ok_atom_tree T) (hr.mono (by omega)) rfl pass0 (pa_cons (pv 1) pa_nil)) rfl)
  (pss_one (ps_if (pt_cmpR op_isN (pe_fld (pv 0) rfl) pe_non (nomark _))
  (pss_one (L2N.ps_raise rfl (L2N.takes_of rfl rfl rfl rfl) (pmk_xN T.X_BadAtom (ok_BadAtom T) (hr.mono (by omega)) rfl (pa_cons (pv 1) pa_nil))))
  pss_nil)))
  pss_nil))), ?_⟩
    refine ⟨_, rfl, _, rfl, x, _, dx, [], rfl, hx, T.k_Letter, T.n_Letter_tree, (by show 0 < 1000; decide), ?_⟩
    refine ⟨_, rfl, rfl, _, rfl, ?_⟩
    rcases hv with ⟨hne, q⟩ | ⟨rfl, hz, k1, k0⟩
    · exact ite2 (fun h => absurd (of_decide_eq_true h) hne) (fun _ => q)
    refine ite2 (fun _ => ?_) (fun h => absurd (decide_eq_true rfl) h)
    have b0 : But x H (upd H x (.ins (He.ga K "Letter") dx [("tree", .non)])) := But.upd
    refine ⟨_, rfl, z, rfl, hz, fun H1 s1 en => ?_, fun k y p H1 s1 es hp hp1 => ?_⟩
    · have hx1 : H1 x = some (.ins (He.ga K "Letter") dx [("tree", .non)]) := s1 x _ upd_same
      refine ⟨_, rfl, x, _, dx, _, rfl, hx1, T.k_Letter, T.n_Letter_tree, (by show 1 < 1000; decide), ?_⟩
      refine ⟨_, rfl, x, _, dx, _, .non, rfl, upd_same, T.k_Letter, T.n_Letter_tree, (by rw [putTree]; exact look1 _), rfl, _, rfl, ite2 (fun _ => ?_) (fun h => absurd (decide_eq_true rfl) h)⟩
      refine ⟨_, rfl, rd_raise1 T.X_BadAtom.oex T.X_BadAtom.no fun d H' s' nd hd => k0 d H' ?_ en ?_ hd⟩
      · exact ((b0.trans (But.of_same s1)).trans But.upd).trans (But.of_same s')
      · have nx : d ≠ x := fun e => by rw [e, upd_same] at nd; cases nd
        rw [upd_ne nx] at nd
        have n2 := s1.free nd
        rw [upd_ne nx] at n2
        exact n2
    · have hx1 : H1 x = some (.ins (He.ga K "Letter") dx [("tree", .non)]) := s1 x _ upd_same
      have npx : p ≠ x := fun e => by rw [e, hx1] at hp1; cases hp1
      refine ⟨_, rfl, x, _, dx, _, rfl, hx1, T.k_Letter, T.n_Letter_tree, (by show 1 < 1000; decide), ?_⟩
      refine ⟨_, rfl, x, _, dx, _, .ref p, rfl, upd_same, T.k_Letter, T.n_Letter_tree, (by rw [putTree]; exact look1 _), rfl, _, rfl, ite2 (fun h => absurd (of_decide_eq_true h) (fun e => by cases e)) (fun _ => ?_)⟩
      refine k1 k y p _ ((b0.trans (But.of_same s1)).trans But.upd) es ?_ (by rw [upd_ne npx]; exact hp1) (by rw [upd_same, putTree])
      rw [upd_ne npx] at hp
      exact hp
/-- a letter at a: its field -/
def IsL (K : PySem.W.Frag) (H : Hp) (a : Addr) (v : V) : Prop := ∃ dx, H a = some (.ins (He.ga K "Letter") dx [("tree", v)])
end
end Rd
namespace Rd
open PySem L2
theorem lookT {m : Str} {v : V} (h : (m == ("tree" : Str)) = false) : ([("tree", v)] : List (Str × V)).lookup m = none := by simp [List.lookup, h]
theorem IsL.mono {K : PySem.W.Frag} {H H' : Hp} {a : Addr} {v : V} (k : Kp (He.ga K "Letter") H H') (h : IsL K H a v) : IsL K H' a v := by
  obtain ⟨dx, e⟩ := h
  exact ⟨dx, k a _ (by show ((He.ga K "Letter") == (He.ga K "Letter")) = true; exact beq_self_eq_true _) e⟩
theorem IsL.same {K : PySem.W.Frag} {H H' : Hp} {a : Addr} {v : V} (k : Same H H') (h : IsL K H a v) : IsL K H' a v := h.mono (Kp.of_same k)
/-- a letter with a form -/
def IsLet (K : PySem.W.Frag) (H : Hp) (t : Tr) (v : V) : Prop := ∃ a u, v = .ref a ∧ IsL K H a u ∧ IsT H t u
theorem IsLet.mono {K : PySem.W.Frag} {H H' : Hp} {t : Tr} {v : V} (k : Kp (He.ga K "Letter") H H') (h : IsLet K H t v) : IsLet K H' t v := by
  obtain ⟨a, u, e, h1, h2⟩ := h
  exact ⟨a, u, e, h1.mono k, h2.mono k⟩
theorem IsLet.same {K : PySem.W.Frag} {H H' : Hp} {t : Tr} {v : V} (k : Same H H') (h : IsLet K H t v) : IsLet K H' t v := h.mono (Kp.of_same k)
def Tr.head : Tr → Str
  | .am k _ => k
  | .un s _ => s
  | .bi s _ _ => s
def isKey (t : Tr) : Bool := decide (t.head ∈ (["open", "own"] : List Str))
theorem IsT.hd {H : Hp} {t : Tr} {v : V} (h : IsT H t v) : ∃ p us, v = .ref p ∧ H p = some (.tup (.str t.head :: us)) := by
  cases t with
  | am k x => obtain ⟨p, e, h⟩ := h; exact ⟨p, _, e, h⟩
  | un s a => obtain ⟨p, u, e, h, _⟩ := h; exact ⟨p, _, e, h⟩
  | bi s a b => obtain ⟨p, u, u2, e, h, _⟩ := h; exact ⟨p, _, e, h⟩
/-- Letter("", tree) behind its arguments -/
theorem rd_mkL {K : PySem.W.Frag} {H1 : Hp} {q : Addr} {Q : VK} {E : XK} {xs : List V} (hq : H1 q = some (.tup xs))
    (k : ∀ x H', Same H1 H' → IsL K H' x (.ref q) → Q (.ref x) H') :
    ∀ x dx, H1 x = none → H1 dx = none → dx ≠ x → sp_Linit K (.ref x :: ([.str "", .ref q] ++ [])) (upd (upd H1 dx (.own x)) x (.ins (He.ga K "Letter") dx [])) (fun v H2 => v = .non ∧ Q (.ref x) H2) E := fun x dx nx ndx ne => by
  refine ⟨x, dx, "", .ref q, rfl, upd_same, .inl ⟨(fun e => by cases e), rfl, k x _ (fun b o e => ?_) ⟨dx, upd_same⟩⟩⟩
  rw [upd_ne (ne_of_none e nx), upd_ne (ne_of_none e nx), upd_ne (ne_of_none e ndx)]
  exact e
end Rd
namespace Rd
open PySem L2
theorem SqT.kept {K : PySem.W.Frag} {H H' : Hp} {a : Addr} {xs : List V} (h : SqT K H a xs) (s : Same H H') : SqT K H' a xs := by
  rcases h with (h | ⟨n, h⟩) | h
  · exact .inl (.inl (s _ _ h))
  · exact .inl (.inr ⟨n, s _ _ h⟩)
  · exact .inr h
theorem iteN {c A B : Prop} [Decidable c] (h : ¬ c) (b : B) : if c then A else B := ite2 (fun q => absurd q h) fun _ => b
theorem iteP {c A B : Prop} [Decidable c] (h : c) (a : A) : if c then A else B := ite2 (fun _ => a) fun q => absurd h q
def Tr.parts : Tr → List Tr
  | .am _ _ => []
  | .un _ a => [a]
  | .bi _ a b => [a, b]
theorem mem_to {l m : List Str} {z : Str} (h : l.all (fun y => decide (y ∈ m)) = true) (hz : z ∈ l) : z ∈ m := of_decide_eq_true (List.all_eq_true.mp h z hz)
theorem Wf.sign {t : Tr} (h : Wf t) (hn : t.parts ≠ []) : t.head ∈ (["mark", "open", "own", "pair", "seal", "lock"] : List Str) ∧ (∀ u ∈ t.parts, Wf u ∧ u.dep + 1 ≤ t.dep) := by
  cases h with
  | am => exact absurd rfl hn
  | @un s a hs w =>
    refine ⟨mem_to (by decide +kernel) hs, fun u hu => ?_⟩
    rw [List.mem_singleton.mp hu]
    exact ⟨w, Nat.le_refl _⟩
  | @bi s a b hs wa wb =>
    refine ⟨mem_to (by decide +kernel) hs, fun u hu => ?_⟩
    have e : (Tr.bi s a b).dep = max a.dep b.dep + 1 := rfl
    rcases List.mem_cons.mp hu with rfl | hu
    · exact ⟨wa, by omega⟩
    · rw [List.mem_singleton.mp hu]
      exact ⟨wb, by omega⟩
  | @lk s a b hs wa wb =>
    have hs' : s ∈ (["mark", "open", "own"] : List Str) := List.mem_cons_of_mem _ hs
    refine ⟨mem_to (l := ["lock"]) (by decide +kernel) List.mem_cons_self, fun u hu => ?_⟩
    have e : (Tr.bi "lock" a (.un s b)).dep = max a.dep (Tr.un s b).dep + 1 := rfl
    rcases List.mem_cons.mp hu with rfl | hu
    · exact ⟨wa, by omega⟩
    · rw [List.mem_singleton.mp hu]
      exact ⟨.un hs' wb, by omega⟩
theorem IsT.parts {H : Hp} {t : Tr} {v : V} (h : IsT H t v) (hn : t.parts ≠ []) : ∃ p us, v = .ref p ∧ H p = some (.tup (.str t.head :: us)) ∧ us.length = t.parts.length ∧ us.length ≤ 2 ∧ us ≠ [] ∧ ∀ (i : Nat) u, us[i]? = some u → ∃ r, t.parts[i]? = some r ∧ IsT H r u := by
  cases t with
  | am k x => exact absurd rfl hn
  | un s a =>
    obtain ⟨p, u, e, h, h1⟩ := h
    refine ⟨p, [u], e, h, rfl, (by show 1 ≤ 2; decide), (fun e => by cases e), fun i v hv => ?_⟩
    cases i with
    | zero => cases hv; exact ⟨a, rfl, h1⟩
    | succ i => cases i <;> cases hv
  | bi s a b =>
    obtain ⟨p, u, u2, e, h, h1, h2⟩ := h
    refine ⟨p, [u, u2], e, h, rfl, Nat.le_refl _, (fun e => by cases e), fun i v hv => ?_⟩
    cases i with
    | zero => cases hv; exact ⟨a, rfl, h1⟩
    | succ i =>
      cases i with
      | zero => cases hv; exact ⟨b, rfl, h2⟩
      | succ i => cases i <;> cases hv
theorem cut1 {x : V} {us : List V} : cutV (x :: us) (some 1) none = us := by
  unfold cutV
  have e : HT.sIx (x :: us).length 0 (some 1) = 1 := by
    rw [show (1 : Int) = ((1 : Nat) : Int) from rfl, HT.sIx_nat, List.length_cons]
    omega
  have e2 : HT.sIx (x :: us).length (x :: us).length none = us.length + 1 := rfl
  rw [e, e2]
  show us.take (us.length + 1 - 1) = us
  rw [Nat.add_sub_cancel, List.take_length]
/-- [e for x in a tuple], each item's value by R -/
theorem lct {K : PySem.W.Frag} {C a D : Addr} {xs : List V} {te : TE} {i0 : Nat} {σ : St} {H1 : Hp} {Qd : Hp → Prop} (R : Nat → Hp → V → Prop) (rm : ∀ i H H' v, Kp C H H' → R i H v → R i H' v) (hS : SqT K H1 a xs) (hl : xs.length ≤ 100000) (hD : H1 D = none)
    (hte : ∀ (i : Nat) (x : V) (H : Hp) (Q : VK), xs[i]? = some x → Same H1 H → (∀ v H', Same H H' → R i H' v → Q v H') → te ((wipe σ [i0]).set i0 (some x)) H Q)
    (hq : ∀ vs H', Same H1 H' → H' D = some (.lst vs) → vs.length = xs.length → (∀ (i : Nat) v, vs[i]? = some v → R i H' v) → Qd H') :
    ∃ W : Nat → Nat → Hp → Prop, (∃ m, W 0 m (L2.upd H1 D (.lst []))) ∧ ∀ i m H, W i m H →
      ((Itt K a).stop i H ∧ Qd H) ∨ ((Itt K a).go i H ∧ ∃ Nx : Hp → Prop, (∀ H', Nx H' → ∃ m', m' < m ∧ W (i + 1) m' H') ∧ ∀ x H', (Itt K a).yld i H x H' → gName i0 x (wipe σ [i0]) H' fun σ2 H2 => wipe σ2 [i0] = wipe σ [i0] ∧ tYes σ2 H2 fun b H3 =>
        if b = true then te σ2 H3 fun y H4 => ∃ acc, H4 D = some (.lst acc) ∧ acc.length < sizeLine ∧ Nx (L2.upd H4 D (.lst (acc ++ [y]))) else Nx H3) := by
  refine lc_tup (K := K) (a := a) (xs := xs) (fun i H => ∃ vs, Same H1 H ∧ H D = some (.lst vs) ∧ vs.length = i ∧ (∀ (j : Nat) v, vs[j]? = some v → R j H v)) ?_ ?_ ?_ ?_
  · exact ⟨[], Rd.Same.upd hD, upd_same, rfl, fun j v h => by simp at h⟩
  · rintro i H hi ⟨vs, s, _⟩
    exact SqT.kept hS s
  · rintro i x H hx ⟨vs, s, hDv, hlv, hg⟩
    refine ⟨by simp [wipe], hte i x H _ hx s fun v H' s' hv => ⟨vs, s' _ _ hDv, ?_, ?_⟩⟩
    · have : 100000 < sizeLine := by decide
      have := (List.getElem?_eq_some_iff.mp hx).1
      omega
    · have hDv' := s' _ _ hDv
      refine ⟨vs ++ [v], fun c o e => ?_, upd_same, by rw [List.length_append, hlv]; rfl, fun j v' hv' => ?_⟩
      · rw [upd_ne (ne_of_none e hD)]
        exact s' c o (s c o e)
      · have kp := Kp.upd_lst (C := C) (ys := vs ++ [v]) hDv'
        by_cases hj : j < vs.length
        · rw [List.getElem?_append_left hj] at hv'
          exact rm _ _ _ _ kp (rm _ _ _ _ (Kp.of_same s') (hg j v' hv'))
        · have e : j = vs.length := by
            have := (List.getElem?_eq_some_iff.mp hv').1
            rw [List.length_append, List.length_singleton] at this
            omega
          subst e
          rw [List.getElem?_append_right (Nat.le_refl _), Nat.sub_self] at hv'
          have e2 : v = v' := Option.some.inj hv'
          rw [← e2, hlv]
          exact rm _ _ _ _ kp hv
  · rintro H ⟨vs, s, hDv, hlv, hg⟩
    exact hq vs H s hDv hlv hg
theorem q_starts (x : Str) : Txt.startswith ("?" ++ x) "?" = true := by
  rw [starts_q, app_list]
  have e2 : ("?" : Str).cps.toList = [63] := by decide +kernel
  exact ⟨_, by rw [e2]; rfl⟩
theorem q_tail2 (x : Str) : tailS ("?" ++ x) = x := by
  refine str_ext ?_
  rw [tailS_list, app_list]
  have e2 : ("?" : Str).cps.toList = [63] := by decide +kernel
  rw [e2]
  rfl
theorem atomOf_word {x : Str} (h : isWord x = true) : atomOf x = some (("word" : Str), x) := by rw [atomOf, if_pos h]
theorem atomOf_name {x : Str} (h : isName x = true) : atomOf x = some (("name" : Str), x) := by rw [atomOf, if_neg (by rw [word_noname h]; decide), if_pos h]
theorem atomOf_unk {x : Str} (h : isUnk x = true) : atomOf ("?" ++ x) = some (("unknown" : Str), x) := by
  have hw : ¬ isWord ("?" ++ x) = true := fun q => by
    obtain ⟨_, h2⟩ := He.ba q
    obtain ⟨_, h4⟩ := He.ba h2
    have e2 : ("?" : Str).cps.toList = [63] := by decide +kernel
    have := List.all_eq_true.mp h4 63 (by rw [app_list, e2]; exact List.mem_cons_self)
    have e3 : inS SMALL 63 = false := by decide +kernel
    rw [e3] at this
    cases this
  rw [atomOf, if_neg hw, if_neg (fun q => isName_first q (q_starts x)), q_starts, q_tail2, h]
  rfl
end Rd
namespace Rd
open PySem L2
def dat : Tr → PyData
  | .am k x => .tuple [.str k, .str x]
  | .un s a => .tuple [.str s, dat a]
  | .bi s a b => .tuple [.str s, dat a, dat b]
theorem IsT.dp {K : PySem.W.Frag} {H : Hp} : ∀ {t : Tr} {v : V}, IsT H t v → Dp K H v (dat t)
  | .am _ _, _, ⟨p, e, h⟩ => by subst e; exact .tup (SqT.of h) (.cons (.str _) (.cons (.str _) .nil))
  | .un _ _, _, ⟨p, u, e, h, h1⟩ => by subst e; exact .tup (SqT.of h) (.cons (.str _) (.cons (IsT.dp h1) .nil))
  | .bi _ _ _, _, ⟨p, u1, u2, e, h, h1, h2⟩ => by subst e; exact .tup (SqT.of h) (.cons (.str _) (.cons (IsT.dp h1) (.cons (IsT.dp h2) .nil)))
def Tr.fine : Tr → Prop
  | .am k x => okS k ∧ okS x
  | .un s a => okS s ∧ a.fine
  | .bi s a b => okS s ∧ a.fine ∧ b.fine
theorem okS_of {l : List Str} {z : Str} (h : l.all (fun y => y.cps.toList.all (fun c => decide (c < 1114112))) = true) (hz : z ∈ l) : okS z := by
  exact okS_by (List.all_eq_true.mp h z hz)
theorem dat_lay : ∀ {t : Tr}, t.fine → (dat t).canLay0 = true
  | .am k x, ⟨h1, h2⟩ => by
    show (PySem.PyData.strOk k && (PySem.PyData.strOk x && true)) = true
    rw [strOk_of h1, strOk_of h2]
    rfl
  | .un s a, ⟨h1, h2⟩ => by
    show (PySem.PyData.strOk s && ((dat a).canLay0 && true)) = true
    rw [strOk_of h1, dat_lay h2]
    rfl
  | .bi s a b, ⟨h1, h2, h3⟩ => by
    show (PySem.PyData.strOk s && ((dat a).canLay0 && ((dat b).canLay0 && true))) = true
    rw [strOk_of h1, dat_lay h2, dat_lay h3]
    rfl
theorem dat_dep : ∀ {t : Tr}, (dat t).depth ≤ t.dep + 1
  | .am k x => by show max 0 (max 0 0) + 1 ≤ 0 + 1; decide
  | .un s a => by
    show max 0 (max (dat a).depth 0) + 1 ≤ a.dep + 1 + 1
    have := dat_dep (t := a)
    omega
  | .bi s a b => by
    show max 0 (max (dat a).depth (max (dat b).depth 0)) + 1 ≤ max a.dep b.dep + 1 + 1
    have := dat_dep (t := a)
    have := dat_dep (t := b)
    omega
theorem kindOk.fine {k x : Str} (h : kindOk k x) : okS k ∧ okS x := by
  rcases h with ⟨rfl, h⟩ | ⟨rfl, h⟩ | ⟨rfl, h⟩
  · exact ⟨okS_of (l := ["word"]) (by decide +kernel) List.mem_cons_self, (word_len h).2.2⟩
  · exact ⟨okS_of (l := ["name"]) (by decide +kernel) List.mem_cons_self, (name_len h).2⟩
  · exact ⟨okS_of (l := ["unknown"]) (by decide +kernel) List.mem_cons_self, (unk_len h).2.2⟩
theorem Wf.fine {t : Tr} (h : Wf t) : t.fine := by
  induction h with
  | am h => exact h.fine
  | un hs _ ih => exact ⟨okS_of (by decide +kernel) hs, ih⟩
  | bi hs _ _ ih1 ih2 => exact ⟨okS_of (by decide +kernel) hs, ih1, ih2⟩
  | lk hs _ _ ih1 ih2 => exact ⟨okS_of (l := ["lock"]) (by decide +kernel) List.mem_cons_self, ih1, okS_of (by decide +kernel) hs, ih2⟩
theorem seqJoin {s1 rest : TS} {D : Ends} {σ : St} {H : Hp} (R : St → Hp → Prop) (h : ∀ K : St → Hp → Prop, (∀ σ' H', R σ' H' → K σ' H') → s1 { D with nx := K } σ H) (hR : ∀ σ' H', R σ' H' → rest D σ' H') : tSeq s1 rest D σ H := h _ hR
theorem But.fresh {p : Addr} {H0 H H' : Hp} (s : Same H0 H) (n : H0 p = none) (b : But p H H') : Same H0 H' := fun c o e => b c o (ne_of_none e n) (s c o e)
theorem SqL.kept {K : PySem.W.Frag} {H H' : Hp} {a : Addr} {xs : List V} (h : SqL K H a xs) (s : Same H H') : SqL K H' a xs := by
  rcases h with (h | ⟨n, h⟩) | h
  · exact .inl (.inl (s _ _ h))
  · exact .inl (.inr ⟨n, s _ _ h⟩)
  · exact .inr h
end Rd
namespace Rd
open PySem L2
theorem Wf.parts_wf {t : Tr} (h : Wf t) : ∀ u ∈ t.parts, Wf u := by
  by_cases hp : t.parts ≠ []
  · exact fun u hu => ((h.sign hp).2 u hu).1
  · intro u hu
    cases t with
    | am => cases hu
    | un => exact absurd (fun e => by cases e) hp
    | bi => exact absurd (fun e => by cases e) hp
def Tr.all : Tr → List Tr
  | .am k x => [.am k x]
  | .un s a => .un s a :: a.all
  | .bi s a b => .bi s a b :: (a.all ++ b.all)
theorem all_len : ∀ t : Tr, t.all.length + 1 ≤ 2 ^ (t.dep + 1)
  | .am k x => by show 1 + 1 ≤ 2 ^ 1; decide
  | .un s a => by
    have := all_len a
    show a.all.length + 1 + 1 ≤ 2 ^ (a.dep + 1 + 1)
    rw [Nat.pow_succ]
    have : 1 ≤ 2 ^ (a.dep + 1) := Nat.one_le_two_pow
    omega
  | .bi s a b => by
    have h1 := all_len a
    have h2 := all_len b
    show (a.all ++ b.all).length + 1 + 1 ≤ 2 ^ (max a.dep b.dep + 1 + 1)
    rw [List.length_append, Nat.pow_succ]
    have e1 : 2 ^ (a.dep + 1) ≤ 2 ^ (max a.dep b.dep + 1) := Nat.pow_le_pow_right (by decide) (by omega)
    have e2 : 2 ^ (b.dep + 1) ≤ 2 ^ (max a.dep b.dep + 1) := Nat.pow_le_pow_right (by decide) (by omega)
    omega
theorem all_parts (t : Tr) : t.all = t :: t.parts.flatMap Tr.all := by
  cases t with
  | am k x => rfl
  | un s a => show _ :: a.all = _ :: (a.all ++ []); rw [List.append_nil]
  | bi s a b => show _ :: (a.all ++ b.all) = _ :: (a.all ++ (b.all ++ [])); rw [List.append_nil]
theorem all_wf {t : Tr} (h : Wf t) : ∀ u ∈ t.all, Wf u ∧ u.dep ≤ t.dep := by
  induction t with
  | am k x => intro u hu; rw [List.mem_singleton.mp hu]; exact ⟨h, Nat.le_refl _⟩
  | un s a ih =>
    intro u hu
    rcases List.mem_cons.mp hu with rfl | hu
    · exact ⟨h, Nat.le_refl _⟩
    · have := ih (h.parts_wf a List.mem_cons_self) u hu
      exact ⟨this.1, by show _ ≤ a.dep + 1; omega⟩
  | bi s a b iha ihb =>
    intro u hu
    rcases List.mem_cons.mp hu with rfl | hu
    · exact ⟨h, Nat.le_refl _⟩
    · rcases List.mem_append.mp hu with hu | hu
      · have := iha (h.parts_wf a List.mem_cons_self) u hu
        exact ⟨this.1, by show _ ≤ max a.dep b.dep + 1; omega⟩
      · have := ihb (h.parts_wf b (List.mem_cons_of_mem _ List.mem_cons_self)) u hu
        exact ⟨this.1, by show _ ≤ max a.dep b.dep + 1; omega⟩
/-- values that are the forms ts, one behind another -/
structure TsAt (H : Hp) (ts : List Tr) (vs : List V) : Prop where
  len : vs.length = ts.length
  get : ∀ (i : Nat) t v, ts[i]? = some t → vs[i]? = some v → IsT H t v
theorem TsAt.mono {C : Addr} {H H' : Hp} {ts : List Tr} {vs : List V} (k : Kp C H H') (h : TsAt H ts vs) : TsAt H' ts vs := ⟨h.len, fun i t v h1 h2 => (h.get i t v h1 h2).mono k⟩
theorem TsAt.same {H H' : Hp} {ts : List Tr} {vs : List V} (s : Same H H') (h : TsAt H ts vs) : TsAt H' ts vs := h.mono (C := 0) (Kp.of_same s)
theorem TsAt.one {H : Hp} {t : Tr} {v : V} (h : IsT H t v) : TsAt H [t] [v] := ⟨rfl, fun i t' v' h1 h2 => by
  cases i with
  | zero => cases h1; cases h2; exact h
  | succ i => cases i <;> cases h1⟩
theorem TsAt.app {H : Hp} {ts us : List Tr} {vs ws : List V} (h : TsAt H ts vs) (g : TsAt H us ws) : TsAt H (ts ++ us) (vs ++ ws) := ⟨by rw [List.length_append, List.length_append, h.len, g.len], fun i t v h1 h2 => by
  by_cases hi : i < ts.length
  · rw [List.getElem?_append_left hi] at h1
    rw [List.getElem?_append_left (by rw [h.len]; exact hi)] at h2
    exact h.get i t v h1 h2
  · rw [List.getElem?_append_right (by omega)] at h1
    rw [List.getElem?_append_right (by rw [h.len]; omega), h.len] at h2
    exact g.get _ t v h1 h2⟩
theorem TsAt.at_ {H : Hp} {ts : List Tr} {vs : List V} (h : TsAt H ts vs) {i : Nat} {v : V} (hv : vs[i]? = some v) : ∃ t, ts[i]? = some t ∧ IsT H t v := by
  have hl := (List.getElem?_eq_some_iff.mp hv).1
  rw [h.len] at hl
  exact ⟨_, List.getElem?_eq_getElem hl, h.get i _ v (List.getElem?_eq_getElem hl) hv⟩
def sp_parts (d : Nat) : Sp := fun vs H Q _ => ∃ (v : V) (t : Tr), vs = [v] ∧ IsT H t v ∧ Wf t ∧ t.dep ≤ d ∧ d ≤ 12 ∧ ∀ p ws H', Same H H' → H p = none → H' p = some (.lst ws) → TsAt H' t.all ws → Q (.ref p) H'
def spPR : Nat → Sp
  | 0 => fun _ _ _ _ => False
  | d + 1 => sp_parts d
/-- the loop over a form's parts: p holds what is found, p2 the parts -/
structure PInv (H0 : Hp) (p p2 : Addr) (us : List V) (t : Tr) (i : Nat) (H : Hp) : Prop where
  same : Same H0 H
  free : H0 p = none
  tup : H p2 = some (.tup us)
  found : ∃ ws, H p = some (.lst ws) ∧ TsAt H (t :: (t.parts.take i).flatMap Tr.all) ws
theorem take_flat {l : List Tr} {i : Nat} {r : Tr} (h : l[i]? = some r) : (l.take (i + 1)).flatMap Tr.all = (l.take i).flatMap Tr.all ++ r.all := by
  rw [List.take_add_one, h, List.flatMap_append]
  simp
theorem flat_le {t : Tr} (i : Nat) : ((t.parts.take i).flatMap Tr.all).length + 1 ≤ t.all.length := by
  rw [all_parts t, List.length_cons]
  have e : t.parts.flatMap Tr.all = (t.parts.take i).flatMap Tr.all ++ (t.parts.drop i).flatMap Tr.all := by rw [← List.flatMap_append, List.take_append_drop]
  rw [e, List.length_append]
  omega
/-- [e for x in a list], each item's value by R -/
theorem lcl {K : PySem.W.Frag} {C a D : Addr} {xs : List V} {te : TE} {i0 : Nat} {σ : St} {H1 : Hp} {Qd : Hp → Prop} (R : Nat → Hp → V → Prop) (rm : ∀ i H H' v, Kp C H H' → R i H v → R i H' v) (hS : SqL K H1 a xs) (hl : xs.length ≤ 100000) (hD : H1 D = none)
    (hte : ∀ (i : Nat) (x : V) (H : Hp) (Q : VK), xs[i]? = some x → Same H1 H → (∀ v H', Same H H' → R i H' v → Q v H') → te ((wipe σ [i0]).set i0 (some x)) H Q)
    (hq : ∀ vs H', Same H1 H' → H' D = some (.lst vs) → vs.length = xs.length → (∀ (i : Nat) v, vs[i]? = some v → R i H' v) → Qd H') :
    ∃ W : Nat → Nat → Hp → Prop, (∃ m, W 0 m (L2.upd H1 D (.lst []))) ∧ ∀ i m H, W i m H →
      ((Itl K a).stop i H ∧ Qd H) ∨ ((Itl K a).go i H ∧ ∃ Nx : Hp → Prop, (∀ H', Nx H' → ∃ m', m' < m ∧ W (i + 1) m' H') ∧ ∀ x H', (Itl K a).yld i H x H' → gName i0 x (wipe σ [i0]) H' fun σ2 H2 => wipe σ2 [i0] = wipe σ [i0] ∧ tYes σ2 H2 fun b H3 =>
        if b = true then te σ2 H3 fun y H4 => ∃ acc, H4 D = some (.lst acc) ∧ acc.length < sizeLine ∧ Nx (L2.upd H4 D (.lst (acc ++ [y]))) else Nx H3) := by
  refine lc_list (K := K) (a := a) (xs := xs) (fun i H => ∃ vs, Same H1 H ∧ H D = some (.lst vs) ∧ vs.length = i ∧ (∀ (j : Nat) v, vs[j]? = some v → R j H v)) ?_ ?_ ?_ ?_
  · exact ⟨[], Rd.Same.upd hD, upd_same, rfl, fun j v h => by simp at h⟩
  · rintro i H hi ⟨vs, s, _⟩
    exact SqL.kept hS s
  · rintro i x H hx ⟨vs, s, hDv, hlv, hg⟩
    refine ⟨by simp [wipe], hte i x H _ hx s fun v H' s' hv => ⟨vs, s' _ _ hDv, ?_, ?_⟩⟩
    · have : 100000 < sizeLine := by decide
      have := (List.getElem?_eq_some_iff.mp hx).1
      omega
    · have hDv' := s' _ _ hDv
      refine ⟨vs ++ [v], fun c o e => ?_, upd_same, by rw [List.length_append, hlv]; rfl, fun j v' hv' => ?_⟩
      · rw [upd_ne (ne_of_none e hD)]
        exact s' c o (s c o e)
      · have kp := Kp.upd_lst (C := C) (ys := vs ++ [v]) hDv'
        by_cases hj : j < vs.length
        · rw [List.getElem?_append_left hj] at hv'
          exact rm _ _ _ _ kp (rm _ _ _ _ (Kp.of_same s') (hg j v' hv'))
        · have e : j = vs.length := by
            have := (List.getElem?_eq_some_iff.mp hv').1
            rw [List.length_append, List.length_singleton] at this
            omega
          subst e
          rw [List.getElem?_append_right (Nat.le_refl _), Nat.sub_self] at hv'
          have e2 : v = v' := Option.some.inj hv'
          rw [← e2, hlv]
          exact rm _ _ _ _ kp hv
  · rintro H ⟨vs, s, hDv, hlv, hg⟩
    exact hq vs H s hDv hlv hg
end Rd
namespace Rd
open PySem L2
theorem eqv_dat : ∀ t u : Tr, PyData.eqv (dat t) (dat u) = decide (t = u)
  | .am k x, .am k' x' => by
    show ((k == k') && ((x == x') && true)) = _
    by_cases h : k = k'
    · subst h
      by_cases h2 : x = x'
      · subst h2
        simp
      · simp [h2]
    · simp [h]
  | .am k x, .un s a => by
    have e : PyData.eqv (.str x) (dat a) = false := by cases a <;> rfl
    show ((k == s) && (PyData.eqv (.str x) (dat a) && true)) = _
    rw [e]
    simp
  | .am k x, .bi s a b => by
    show ((k == s) && (PyData.eqv (.str x) (dat a) && false)) = _
    simp
  | .un s a, .am k x => by
    have e : PyData.eqv (dat a) (.str x) = false := by cases a <;> rfl
    show ((s == k) && (PyData.eqv (dat a) (.str x) && true)) = _
    rw [e]
    simp
  | .un s a, .un s' a' => by
    show ((s == s') && (PyData.eqv (dat a) (dat a') && true)) = _
    rw [eqv_dat a a']
    by_cases h : s = s'
    · subst h
      by_cases h2 : a = a'
      · subst h2
        simp
      · simp [h2]
    · simp [h]
  | .un s a, .bi s' a' b' => by
    show ((s == s') && (PyData.eqv (dat a) (dat a') && false)) = _
    simp
  | .bi s a b, .am k x => by
    show ((s == k) && (PyData.eqv (dat a) (.str x) && false)) = _
    simp
  | .bi s a b, .un s' a' => by
    show ((s == s') && (PyData.eqv (dat a) (dat a') && false)) = _
    simp
  | .bi s a b, .bi s' a' b' => by
    show ((s == s') && (PyData.eqv (dat a) (dat a') && (PyData.eqv (dat b) (dat b') && true))) = _
    rw [eqv_dat a a', eqv_dat b b']
    by_cases h : s = s'
    · subst h
      by_cases h2 : a = a'
      · subst h2
        by_cases h3 : b = b'
        · subst h3
          simp
        · simp [h3]
      · simp [h2]
    · simp [h]
end Rd
namespace Rd
open PySem L2
/-- the dict at a holds the forms m -/
def DTr (H : Hp) (a : Addr) (m : Str → Option Tr) : Prop := ∃ kvs, L2.Rd H a (.dK kvs) ∧ (∀ x t, m x = some t → ∃ v, valV kvs (.inr x) = some v ∧ IsT H t v) ∧ ∀ x, m x = none → valV kvs (.inr x) = none
theorem DTr.same {H H' : Hp} {a : Addr} {m : Str → Option Tr} (s : Same H H') (h : DTr H a m) : DTr H' a m := by
  obtain ⟨kvs, h1, h2, h3⟩ := h
  refine ⟨kvs, ?_, fun x t e => ?_, h3⟩
  · rcases h1 with h | ⟨o, h⟩
    · exact .inl (s _ _ h)
    · exact .inr ⟨o, s _ _ h⟩
  · obtain ⟨v, e1, e2⟩ := h2 x t e
    exact ⟨v, e1, e2.same s⟩
theorem DTr.get {H : Hp} {a : Addr} {m : Str → Option Tr} {x : Str} (h : DTr H a m) : ∃ o, DGet H a (.str x) o ∧ (∀ t, m x = some t → ∃ v, o = some v ∧ IsT H t v) ∧ (m x = none → o = none) := by
  obtain ⟨kvs, h1, h2, h3⟩ := h
  exact ⟨valV kvs (.inr x), .inl ⟨kvs, .inr x, h1, rfl, rfl⟩, fun t e => h2 x t e, h3 x⟩
def Al (R : Hp → Tr → V → Prop) (H : Hp) : List (Str × Tr) → List (Key × V) → Prop
  | [], [] => True
  | (x, t) :: l, (k, v) :: kvs => k = .inr x ∧ R H t v ∧ Al R H l kvs
  | _, _ => False
def look (l : List (Str × Tr)) (x : Str) : Option Tr := (l.find? fun p => decide (p.1 = x)).map (·.2)
theorem Al.len {R : Hp → Tr → V → Prop} {H : Hp} : ∀ {l : List (Str × Tr)} {kvs : List (Key × V)}, Al R H l kvs → kvs.length = l.length
  | [], [], _ => rfl
  | (x, t) :: l, (k, v) :: kvs, h => congrArg (· + 1) (Al.len h.2.2)
theorem Al.mono {R S : Hp → Tr → V → Prop} {H H' : Hp} (m : ∀ t v, R H t v → S H' t v) : ∀ {l : List (Str × Tr)} {kvs : List (Key × V)}, Al R H l kvs → Al S H' l kvs
  | [], [], _ => trivial
  | (x, t) :: l, (k, v) :: kvs, h => ⟨h.1, m _ _ h.2.1, Al.mono m h.2.2⟩
theorem Al.get {R : Hp → Tr → V → Prop} {H : Hp} : ∀ {l : List (Str × Tr)} {kvs : List (Key × V)} {i : Nat} {k : Key} {v : V}, Al R H l kvs → kvs[i]? = some (k, v) → ∃ x t, l[i]? = some (x, t) ∧ k = .inr x ∧ R H t v
  | (x, t) :: l, (k, v) :: kvs, 0, _, _, h, e => by
    cases e
    exact ⟨x, t, rfl, h.1, h.2.1⟩
  | (x, t) :: l, (k, v) :: kvs, i + 1, _, _, h, e => by
    obtain ⟨y, u, e1, e2, e3⟩ := Al.get (l := l) (kvs := kvs) (i := i) h.2.2 (by simpa using e)
    exact ⟨y, u, by simpa using e1, e2, e3⟩
  | [], [], _, _, _, _, e => by simp at e
theorem Al.snoc {R : Hp → Tr → V → Prop} {H : Hp} {x : Str} {t : Tr} {v : V} (r : R H t v) : ∀ {l : List (Str × Tr)} {kvs : List (Key × V)}, Al R H l kvs → Al R H (l ++ [(x, t)]) (kvs ++ [(.inr x, v)])
  | [], [], _ => ⟨rfl, r, trivial⟩
  | (y, u) :: l, (k, z) :: kvs, h => ⟨h.1, h.2.1, Al.snoc r h.2.2⟩
theorem Al.look {R : Hp → Tr → V → Prop} {H : Hp} {x : Str} : ∀ {l : List (Str × Tr)} {kvs : List (Key × V)}, Al R H l kvs → (∀ t, look l x = some t → ∃ v, valV kvs (.inr x) = some v ∧ R H t v) ∧ (look l x = none → valV kvs (.inr x) = none)
  | [], [], _ => ⟨fun t e => (by cases e), fun _ => rfl⟩
  | (y, u) :: l, (k, z) :: kvs, h => by
    obtain ⟨rfl, h2, h3⟩ := h
    by_cases e : y = x
    · subst e
      refine ⟨fun t e => ?_, fun e => ?_⟩
      · rw [show Rd.look ((y, u) :: l) y = some u by simp [Rd.look]] at e
        cases e
        exact ⟨z, valV_pos rfl, h2⟩
      · rw [show Rd.look ((y, u) :: l) y = some u by simp [Rd.look]] at e
        cases e
    · have e1 : Rd.look ((y, u) :: l) x = Rd.look l x := by simp [Rd.look, e]
      rw [e1, valV_neg (fun q => e (by cases q; rfl))]
      exact Al.look h3
def Pq (H : Hp) : List Addr → List (Key × V) → Prop
  | [], [] => True
  | p :: ps, kv :: kq => H p = some (.tup [kV kv.1, kv.2]) ∧ Pq H ps kq
  | _, _ => False
theorem Pq.mono {C : Addr} {H H' : Hp} (k : Kp C H H') : ∀ {ps : List Addr} {kq : List (Key × V)}, Pq H ps kq → Pq H' ps kq
  | [], [], _ => trivial
  | _ :: _, _ :: _, h => ⟨k _ _ rfl h.1, Pq.mono k h.2⟩
theorem Pq.snoc {H : Hp} {p : Addr} {kv : Key × V} (e : H p = some (.tup [kV kv.1, kv.2])) : ∀ {ps : List Addr} {kq : List (Key × V)}, Pq H ps kq → Pq H (ps ++ [p]) (kq ++ [kv])
  | [], [], _ => ⟨e, trivial⟩
  | _ :: _, _ :: _, h => ⟨h.1, Pq.snoc e h.2⟩
theorem Pq.len {H : Hp} : ∀ {ps : List Addr} {kq : List (Key × V)}, Pq H ps kq → ps.length = kq.length
  | [], [], _ => rfl
  | _ :: _, _ :: _, h => congrArg (· + 1) (Pq.len h.2)
end Rd
namespace Rd
open PySem L2
def ltS (a b : Str) : Bool := PySem.Spec.ltCps a.cps.toList b.cps.toList
theorem ltC_irr : ∀ a : List Nat, PySem.Spec.ltCps a a = false
  | [] => rfl
  | a :: r => by
    show (decide (a < a) || (a == a && PySem.Spec.ltCps r r)) = false
    rw [ltC_irr r]
    simp
theorem ltC_trans : ∀ {a b c : List Nat}, PySem.Spec.ltCps a b = true → PySem.Spec.ltCps b c = true → PySem.Spec.ltCps a c = true
  | [], [], _, h, _ => by cases h
  | [], _ :: _, [], _, h => by cases h
  | [], _ :: _, _ :: _, _, _ => rfl
  | _ :: _, [], _, h, _ => by cases h
  | _ :: _, _ :: _, [], _, h => by cases h
  | a :: r, b :: s, c :: t, h1, h2 => by
    have g1 : (decide (a < b) || (a == b && PySem.Spec.ltCps r s)) = true := h1
    have g2 : (decide (b < c) || (b == c && PySem.Spec.ltCps s t)) = true := h2
    show (decide (a < c) || (a == c && PySem.Spec.ltCps r t)) = true
    rw [Bool.or_eq_true, Bool.and_eq_true, decide_eq_true_eq, beq_iff_eq] at g1 g2 ⊢
    rcases g1 with g1 | ⟨e1, g1⟩
    · rcases g2 with g2 | ⟨e2, g2⟩
      · exact .inl (Nat.lt_trans g1 g2)
      · exact .inl (by omega)
    · rcases g2 with g2 | ⟨e2, g2⟩
      · exact .inl (by omega)
      · exact .inr ⟨by omega, ltC_trans g1 g2⟩
theorem ltC_tot : ∀ {a b : List Nat}, PySem.Spec.ltCps a b = false → PySem.Spec.ltCps b a = false → a = b
  | [], [], _, _ => rfl
  | [], _ :: _, h, _ => by cases h
  | _ :: _, [], _, h => by cases h
  | a :: r, b :: s, h1, h2 => by
    have h1 : (decide (a < b) || (a == b && PySem.Spec.ltCps r s)) = false := h1
    have h2 : (decide (b < a) || (b == a && PySem.Spec.ltCps s r)) = false := h2
    rw [Bool.or_eq_false_iff, decide_eq_false_iff_not] at h1 h2
    have e : a = b := by omega
    subst e
    rw [beq_self_eq_true, Bool.true_and] at h1 h2
    rw [ltC_tot h1.2 h2.2]
theorem ltS_irr (a : Str) : ltS a a = false := ltC_irr _
theorem ltS_trans {a b c : Str} (h1 : ltS a b = true) (h2 : ltS b c = true) : ltS a c = true := ltC_trans h1 h2
theorem ltS_tot {a b : Str} (h1 : ltS a b = false) (h2 : ltS b a = false) : a = b := by
  have e := ltC_tot h1 h2
  cases a; cases b
  exact congrArg Str.mk (Array.toList_inj.mp e)
def asc (l : List Str) : Prop := l.Pairwise fun a b => ltS a b = true
theorem asc_of : ∀ {l : List Str}, PyProof.Rows.sortedS l = true → l.Nodup → asc l
  | [], _, _ => List.Pairwise.nil
  | [x], _, _ => List.pairwise_singleton _ _
  | x :: y :: r, h, n => by
    have h : (!ltS y x && PyProof.Rows.risingS y r) = true := h
    rw [Bool.and_eq_true, Bool.not_eq_true'] at h
    have ih : asc (y :: r) := asc_of (l := y :: r) h.2 (List.nodup_cons.mp n).2
    have ne : x ≠ y := fun e => (List.nodup_cons.mp n).1 (by rw [e]; exact List.mem_cons_self)
    have xy : ltS x y = true := by
      cases e : ltS x y with
      | true => rfl
      | false => exact absurd (ltS_tot e h.1) ne
    refine List.pairwise_cons.mpr ⟨fun z hz => ?_, ih⟩
    rcases List.mem_cons.mp hz with rfl | hz
    · exact xy
    · exact ltS_trans xy ((List.pairwise_cons.mp ih).1 z hz)
theorem asc_uniq : ∀ {l m : List Str}, asc l → asc m → (∀ x, x ∈ l ↔ x ∈ m) → l = m
  | [], [], _, _, _ => rfl
  | [], y :: m, _, _, h => by cases (h y).2 List.mem_cons_self
  | x :: l, [], _, _, h => by cases (h x).1 List.mem_cons_self
  | x :: l, y :: m, hl, hm, h => by
    obtain ⟨l1, l2⟩ := List.pairwise_cons.mp hl
    obtain ⟨m1, m2⟩ := List.pairwise_cons.mp hm
    have e : x = y := by
      rcases List.mem_cons.mp ((h x).1 List.mem_cons_self) with e | e
      · exact e
      · rcases List.mem_cons.mp ((h y).2 List.mem_cons_self) with e' | e'
        · exact e'.symm
        · have a := ltS_trans (m1 x e) (l1 y e')
          rw [ltS_irr] at a
          cases a
    subst e
    rw [asc_uniq l2 m2 fun z => ?_]
    constructor
    · intro hz
      rcases List.mem_cons.mp ((h z).1 (List.mem_cons_of_mem _ hz)) with e | e
      · have a := l1 z hz
        rw [e, ltS_irr] at a
        cases a
      · exact e
    · intro hz
      rcases List.mem_cons.mp ((h z).2 (List.mem_cons_of_mem _ hz)) with e | e
      · have a := m1 z hz
        rw [e, ltS_irr] at a
        cases a
      · exact e
def insS (x : Str) : List Str → List Str
  | [] => [x]
  | y :: r => if x = y then y :: r else if ltS x y = true then x :: y :: r else y :: insS x r
def uniS : List Str → List Str
  | [] => []
  | x :: r => insS x (uniS r)
theorem insS_mem {x z : Str} : ∀ {l : List Str}, z ∈ insS x l ↔ z = x ∨ z ∈ l
  | [] => by simp [insS]
  | y :: r => by
    unfold insS
    split
    · rename_i e
      subst e
      exact ⟨.inr, fun h => h.elim (fun e => by rw [e]; exact List.mem_cons_self) id⟩
    · split
      · exact List.mem_cons
      · rw [List.mem_cons, insS_mem, List.mem_cons]
        constructor
        · rintro (a | a | a)
          · exact .inr (.inl a)
          · exact .inl a
          · exact .inr (.inr a)
        · rintro (a | a | a)
          · exact .inr (.inl a)
          · exact .inl a
          · exact .inr (.inr a)
theorem insS_asc {x : Str} : ∀ {l : List Str}, asc l → asc (insS x l)
  | [], _ => List.pairwise_singleton _ _
  | y :: r, h => by
    obtain ⟨h1, h2⟩ := List.pairwise_cons.mp h
    unfold insS
    split
    · exact h
    · rename_i ne
      split
      · rename_i lt
        refine List.pairwise_cons.mpr ⟨fun z hz => ?_, h⟩
        rcases List.mem_cons.mp hz with rfl | hz
        · exact lt
        · exact ltS_trans lt (h1 z hz)
      · rename_i lt
        have yx : ltS y x = true := by
          cases e : ltS y x with
          | true => rfl
          | false => exact absurd (ltS_tot (by simpa using lt) e) ne
        refine List.pairwise_cons.mpr ⟨fun z hz => ?_, insS_asc h2⟩
        rcases insS_mem.mp hz with rfl | hz
        · exact yx
        · exact h1 z hz
theorem uniS_mem {z : Str} : ∀ {l : List Str}, z ∈ uniS l ↔ z ∈ l
  | [] => Iff.rfl
  | x :: r => by rw [uniS, insS_mem, uniS_mem, List.mem_cons]
theorem uniS_asc : ∀ {l : List Str}, asc (uniS l)
  | [] => List.Pairwise.nil
  | x :: r => insS_asc uniS_asc
theorem uniS_of {l ys : List Str} (h1 : ys.Nodup) (h2 : PyProof.Rows.sortedS ys = true) (h : ∀ x, x ∈ ys ↔ x ∈ l) : ys = uniS l :=
  asc_uniq (asc_of h2 h1) uniS_asc fun x => (h x).trans uniS_mem.symm
/-- the texts of a form's atoms of one kind, as often as they stand -/
def Tr.txt (k : Str) : Tr → List Str
  | .am k' x => if k' = k then [x] else []
  | .un _ a => a.txt k
  | .bi _ a b => a.txt k ++ b.txt k
def txt1 (k : Str) : Tr → List Str
  | .am k' x => if k' = k then [x] else []
  | _ => []
theorem txt_all (k : Str) : ∀ t : Tr, t.all.flatMap (txt1 k) = t.txt k
  | .am k' x => by
    show txt1 k (.am k' x) ++ [] = _
    rw [List.append_nil]
    rfl
  | .un s a => by
    show txt1 k (.un s a) ++ a.all.flatMap (txt1 k) = a.txt k
    rw [txt_all k a]
    rfl
  | .bi s a b => by
    show txt1 k (.bi s a b) ++ (a.all ++ b.all).flatMap (txt1 k) = a.txt k ++ b.txt k
    rw [List.flatMap_append, txt_all k a, txt_all k b]
    rfl
end Rd
namespace Rd
open PySem L2
def txt : Tr → List Nat
  | .am k x => if k = "unknown" then 63 :: x.cps.toList else x.cps.toList
  | .un s a => s.cps.toList ++ 40 :: (txt a ++ [41])
  | .bi s a b => s.cps.toList ++ 40 :: (txt a ++ 44 :: 32 :: (txt b ++ [41]))
def textOf (t : Tr) : Str := ofC (txt t)
theorem sign_len {s : Str} (h : s ∈ (["mark", "open", "own", "pair", "seal", "lock"] : List Str)) : s.cps.toList.length ≤ 4 := by
  have : ∀ z ∈ (["mark", "open", "own", "pair", "seal", "lock"] : List Str), z.cps.toList.length ≤ 4 := by decide +kernel
  exact this s h
theorem txt_len {t : Tr} (h : Wf t) : (txt t).length ≤ 16 * t.all.length := by
  induction t with
  | am k x =>
    cases h with
    | am ko =>
      have hx : x.length ≤ 8 := by
        rcases ko with ⟨rfl, h⟩ | ⟨rfl, h⟩ | ⟨rfl, h⟩
        · exact (word_len h).2.1
        · exact (name_len h).1
        · have := (unk_len h).1; omega
      have e := len_list x
      show (if k = "unknown" then 63 :: x.cps.toList else x.cps.toList).length ≤ 16 * 1
      split
      · rw [List.length_cons]; omega
      · omega
  | un s a ih =>
    have hs := sign_len (h.sign (fun e => by cases e)).1
    have hs : s.cps.toList.length ≤ 4 := hs
    have := ih (h.parts_wf a List.mem_cons_self)
    show (s.cps.toList ++ 40 :: (txt a ++ [41])).length ≤ 16 * (a.all.length + 1)
    rw [List.length_append, List.length_cons, List.length_append, List.length_singleton]
    omega
  | bi s a b iha ihb =>
    have hs := sign_len (h.sign (fun e => by cases e)).1
    have hs : s.cps.toList.length ≤ 4 := hs
    have h1 := iha (h.parts_wf a List.mem_cons_self)
    have h2 := ihb (h.parts_wf b (List.mem_cons_of_mem _ List.mem_cons_self))
    show (s.cps.toList ++ 40 :: (txt a ++ 44 :: 32 :: (txt b ++ [41]))).length ≤ 16 * ((a.all ++ b.all).length + 1)
    rw [List.length_append, List.length_cons, List.length_append, List.length_cons, List.length_cons, List.length_append, List.length_singleton, List.length_append]
    omega
theorem txt_small {t : Tr} (h : Wf t) (hd : t.dep ≤ 12) : (txt t).length ≤ 131072 := by
  have h1 := txt_len h
  have h2 := all_len t
  have h3 : 2 ^ (t.dep + 1) ≤ 2 ^ 13 := Nat.pow_le_pow_right (by decide) (by omega)
  have h4 : 2 ^ 13 = 8192 := by decide
  omega
theorem text_len {t : Tr} : (textOf t).length = (txt t).length := by rw [len_list, textOf, ofC_list]
def sp_text (d : Nat) : Sp := fun vs H Q _ => ∃ (v : V) (t : Tr), vs = [v] ∧ IsT H t v ∧ Wf t ∧ t.dep ≤ d ∧ d ≤ 12 ∧ ∀ H', Same H H' → Q (.str (textOf t)) H'
def spTR : Nat → Sp
  | 0 => fun _ _ _ _ => False
  | d + 1 => sp_text d
theorem join1 (a : Str) : Txt.join ", " [a] = a := by
  show Builtin.Str.glued ", " [a] = a
  rw [PySem.StrLaws.glued_eq_join]
  rfl
theorem join2 (a b : Str) : Txt.join ", " [a, b] = a ++ ", " ++ b := by
  show Builtin.Str.glued ", " [a, b] = a ++ ", " ++ b
  rw [PySem.StrLaws.glued_eq_join]
  rfl
end Rd
namespace Rd
open PySem L2
theorem texts_eq {ts : List Tr} {vs : List V} (hl : vs.length = ts.length) (h : ∀ (i : Nat) v, vs[i]? = some v → ∃ r, ts[i]? = some r ∧ v = .str (textOf r)) : vs = (ts.map textOf).map V.str := by
  refine List.ext_getElem? fun i => ?_
  rw [List.getElem?_map, List.getElem?_map]
  cases e : vs[i]? with
  | none =>
    have := List.getElem?_eq_none_iff.mp e
    rw [List.getElem?_eq_none (by omega)]
    rfl
  | some v =>
    obtain ⟨r, h1, h2⟩ := h i v e
    rw [h1, h2]
    rfl
theorem parts_text {t : Tr} (hp : t.parts ≠ []) : (txt t) = t.head.cps.toList ++ 40 :: ((Txt.join ", " (t.parts.map textOf)).cps.toList ++ [41]) := by
  cases t with
  | am k x => exact absurd rfl hp
  | un s a =>
    show s.cps.toList ++ 40 :: (txt a ++ [41]) = s.cps.toList ++ 40 :: ((Txt.join ", " [textOf a]).cps.toList ++ [41])
    rw [join1, textOf, ofC_list]
  | bi s a b =>
    show s.cps.toList ++ 40 :: (txt a ++ 44 :: 32 :: (txt b ++ [41])) = s.cps.toList ++ 40 :: ((Txt.join ", " [textOf a, textOf b]).cps.toList ++ [41])
    have e : (", " : Str).cps.toList = [44, 32] := by decide +kernel
    rw [join2, app_list, app_list, textOf, textOf, ofC_list, ofC_list, e]
    simp
theorem join_sum {t : Tr} (wf : Wf t) (hd : t.dep ≤ 12) : ((t.parts.map textOf).map (·.length)).sum + (t.parts.map textOf).length * (", " : Str).length ≤ 16777216 := by
  have e : (", " : Str).length = 2 := by decide +kernel
  rw [e]
  cases t with
  | am k x => show 0 + 0 * 2 ≤ 16777216; decide
  | un s a =>
    have h1 := txt_small (wf.parts_wf a List.mem_cons_self) (by have : a.dep + 1 ≤ 12 := hd; omega)
    show (textOf a).length + 0 + 1 * 2 ≤ 16777216
    rw [text_len]
    omega
  | bi s a b =>
    have hd : max a.dep b.dep + 1 ≤ 12 := hd
    have h1 := txt_small (wf.parts_wf a List.mem_cons_self) (by omega)
    have h2 := txt_small (wf.parts_wf b (List.mem_cons_of_mem _ List.mem_cons_self)) (by omega)
    show (textOf a).length + ((textOf b).length + 0) + 2 * 2 ≤ 16777216
    rw [text_len, text_len]
    omega
theorem join_len {t : Tr} (hp : t.parts ≠ []) : (Txt.join ", " (t.parts.map textOf)).length + 2 + t.head.length = (txt t).length := by
  rw [parts_text hp, List.length_append, List.length_cons, List.length_append, List.length_singleton, len_list, len_list]
  omega
theorem text_parts {t : Tr} (hp : t.parts ≠ []) {a : Str} (h : a.cps.toList = t.head.cps.toList ++ 40 :: ((Txt.join ", " (t.parts.map textOf)).cps.toList ++ [41])) : a = textOf t := str_ext (by rw [h, ← parts_text hp, textOf, ofC_list])
theorem text_am {k x : Str} (h : k ≠ "unknown") : textOf (.am k x) = x := str_ext (by rw [textOf, ofC_list]; show (if k = "unknown" then _ else _) = _; rw [if_neg h])
theorem text_unk {x : Str} : textOf (.am "unknown" x) = "?" ++ x := by
  refine str_ext ?_
  have e : ("?" : Str).cps.toList = [63] := by decide +kernel
  rw [textOf, ofC_list, app_list, e]
  show (if ("unknown" : Str) = "unknown" then _ else _) = _
  rw [if_pos rfl]
  rfl
section
variable {P : Program} {w : World} {K : PySem.W.Frag} {mg : Str → Option Value} {base : Heap}
abbrev s_tree_text : Stmt := top 22
theorem sc_tree_text : FnScope ["tree", "inner", "part"] ["tree"] (defScope s_tree_text) := ⟨rfl, rfl, rfl, by decide +kernel, rfl, by decide +kernel, by decide +kernel⟩
theorem tt_step (T : Tx w K mg) (d : Nat) (ih : Fk P w K mg base CX0 (d + 1) "tree_text" ["tree"] (spTR d)) : Fk P w K mg base CX0 (d + 2) "tree_text" ["tree"] (sp_text d) := by
  refine T.F_tree_text.ok0 sc_tree_text (fun _ _ _ _ _ _ us hl => match us, hl with | [_], _ => rfl)
    (fun vs H Q E h => ?_) (fun cdv A outer s H vs Q E hr h => ?_)
  · obtain ⟨v, t, rfl, _⟩ := h
    rfl
  · obtain ⟨v, t, rfl, it, wf, dp, d12, k⟩ := h
    refine ⟨_, (pss_cons (ps_if (pt_cmpR op_eq (pe_ix ix_tup (pv 0) pe_int (fun _ _ => rfl)) pe_str (nomark _))
  (pss_one (ps_ret (pe_op op_add_str pe_str (pe_ix ix_tup (pv 0) pe_int (fun _ _ => rfl)))))
  pss_nil)
  (pss_cons (ps_if (pt_cmpR (op_inK T.D_SIGNS) (pe_ix ix_tup (pv 0) pe_int (fun _ _ => rfl)) (pe_kd T.D_SIGNS) (by rfl))
  (pss_cons (ps_set (i := 1) sc_tree_text.nd rfl (Or.inl rfl) (pe_join pe_str (pe_lc (own := [("part", 2)]) (g := gName 2) (tt := tYes) (by rfl) sc_tree_text.nd (pi_tup (pe_slice sl_tup (pv 0) (po_some pe_int) po_none)) (blkOk_by (own := [("part", 2)]) (N := ["tree", "inner", "part"]) (sc := defScope s_tree_text) (by decide +kernel)) (fun _ _ _ _ _ => (pg_name (i := 2) sc_tree_text.nd rfl (Or.inl rfl))) (fun _ _ _ _ _ => pts_nil) (fun _ _ _ _ _ => (pe_fk ih (hr.mono (by omega)) rfl pass0 (pa_cons (pv 2) pa_nil))))))
  (pss_one (ps_ret (pe_joined (.cons (pe_fmt (pe_ix ix_tup (pv 0) pe_int (fun _ _ => rfl))) (.cons pe_str (.cons (pe_fmt (pv 1)) (.cons pe_str .nil))))))))
  pss_nil)
  (pss_one (ps_ret (pe_ix ix_tup (pv 0) pe_int (fun _ _ => rfl)))))), ?_⟩
    have big : 16777216 ≤ sizeLine := by decide
    by_cases hpt : t.parts ≠ []
    · obtain ⟨hsg, hws⟩ := wf.sign hpt
      obtain ⟨pf, us, rfl, hp, hlu, hl2, hne, hus⟩ := it.parts hpt
      have h4 : ¬ decide (V.str t.head = V.str "unknown") = true := by
        have : ∀ z ∈ (["mark", "open", "own", "pair", "seal", "lock"] : List Str), ¬ decide (V.str z = V.str "unknown") = true := by decide +kernel
        exact this _ hsg
      refine ⟨_, rfl, pf, _, _, _, rfl, rfl, SqT.of hp, at_of (j := 0) rfl rfl, rfl, _, rfl, iteN h4 ?_⟩
      refine ⟨_, rfl, pf, _, _, _, rfl, rfl, SqT.of hp, at_of (j := 0) rfl rfl, _, rfl, rfl, _, rfl, iteP (decide_eq_true (mem_to (by decide +kernel) hsg)) ?_⟩
      refine ⟨⟨_, rfl⟩, _, rfl, _, rfl, pf, _, rfl, SqT.of hp, ?_, fun p2 hp2 => ?_⟩
      · rintro ⟨z, _⟩
        rw [show (1 : Int) = ((1 : Nat) : Int) from rfl, HT.sIx_nat, List.length_cons] at z
        omega
      rw [cut1]
      have s2 := Rd.Same.upd (o := .tup us) hp2
      refine ⟨p2, rfl, ⟨_, SqT.of upd_same⟩, fun D hD => ?_⟩
      refine lct (C := 0) (fun i H v => ∃ r, t.parts[i]? = some r ∧ v = .str (textOf r)) (fun i H H' v _ h => h) (SqT.of upd_same) (by omega) hD (fun i x H1 Q1 hx s1 k1 => ?_) fun vs H1 s1 hD1 hlv hvs => ?_
      · obtain ⟨r, hr1, hr2⟩ := hus i x hx
        obtain ⟨w1, w2⟩ := hws r (List.mem_of_getElem? hr1)
        cases d with
        | zero => exact absurd dp (by omega)
        | succ d => exact ⟨_, rfl, x, r, rfl, hr2.same (s2.trans s1), w1, (by omega), (by omega), fun H' s' => k1 _ H' s' ⟨r, hr1, rfl⟩⟩
      have ev := texts_eq (hlv.trans hlu) hvs
      have hj := join_len hpt
      have hts := txt_small wf (by omega)
      refine ⟨_, D, t.parts.map textOf, rfl, rfl, .inl (SqL.of (by rw [← ev]; exact hD1)), join_sum wf (by omega), ?_⟩
      refine gName_k ?_
      try dsimp only
      have hp1 := s1 _ _ (s2 _ _ hp)
      have e0 : Str.empty.cps.toList = [] := by decide +kernel
      have e1 : ("(" : Str).cps.toList = [40] := by decide +kernel
      have e2 : (")" : Str).cps.toList = [41] := by decide +kernel
      have l0 : ∀ z : Str, Str.empty ++ z = z := fun z => str_ext (by rw [app_list, e0]; rfl)
      have la : ∀ a b : Str, (a ++ b).length = a.length + b.length := fun a b => by rw [len_list, app_list, List.length_append, ← len_list, ← len_list]
      have l1 : ("(" : Str).length = 1 := by decide +kernel
      have l2 : (")" : Str).length = 1 := by decide +kernel
      refine ⟨_, rfl, pf, _, _, _, rfl, rfl, SqT.of hp1, at_of (j := 0) rfl rfl, .inl ⟨t.head, rfl, (by omega), _, rfl, ?_, ?_⟩⟩
      · rw [l0]; omega
      rw [l0]
      refine ⟨"(", rfl, (by rw [la, l1]; omega), ?_⟩
      refine ⟨_, rfl, .inl ⟨_, rfl, (by omega), _, rfl, (by rw [la, la, l1]; omega), ?_⟩⟩
      refine ⟨")", rfl, (by rw [la, la, la, l1, l2]; omega), ?_⟩
      have ez : t.head ++ "(" ++ Txt.join ", " (t.parts.map textOf) ++ ")" = textOf t := text_parts hpt (by rw [app_list, app_list, app_list, e1, e2]; simp)
      show Q (.str (t.head ++ "(" ++ Txt.join ", " (t.parts.map textOf) ++ ")")) H1
      rw [ez]
      exact k _ (s2.trans s1)
    · cases wf with
      | @am k0 x0 ko =>
        obtain ⟨pf, rfl, hp⟩ := it
        refine ⟨_, rfl, pf, _, _, _, rfl, rfl, SqT.of hp, at_of (j := 0) rfl rfl, rfl, _, rfl, ?_⟩
        rcases ko with ⟨rfl, hx⟩ | ⟨rfl, hx⟩ | ⟨rfl, hx⟩
        · refine iteN (by decide +kernel) ?_
          refine ⟨_, rfl, pf, _, _, _, rfl, rfl, SqT.of hp, at_of (j := 0) rfl rfl, _, rfl, rfl, _, rfl, iteN (by decide +kernel) ?_⟩
          refine ⟨_, rfl, pf, _, _, _, rfl, rfl, SqT.of hp, at_of (j := 1) rfl rfl, ?_⟩
          have := k H (Same.refl _)
          rw [text_am (by decide +kernel)] at this
          exact this
        · refine iteN (by decide +kernel) ?_
          refine ⟨_, rfl, pf, _, _, _, rfl, rfl, SqT.of hp, at_of (j := 0) rfl rfl, _, rfl, rfl, _, rfl, iteN (by decide +kernel) ?_⟩
          refine ⟨_, rfl, pf, _, _, _, rfl, rfl, SqT.of hp, at_of (j := 1) rfl rfl, ?_⟩
          have := k H (Same.refl _)
          rw [text_am (by decide +kernel)] at this
          exact this
        · refine iteP (by decide +kernel) ?_
          have hl := unk_len hx
          have hq : ("?" : Str).length = 1 := by decide +kernel
          refine ⟨_, rfl, pf, _, _, _, rfl, rfl, SqT.of hp, at_of (j := 1) rfl rfl, _, _, rfl, rfl, (by omega), ?_⟩
          have := k H (Same.refl _)
          rw [text_unk] at this
          exact this
      | _ => exact absurd (fun e => by cases e) hpt
theorem tt_none (T : Tx w K mg) : Fk P w K mg base CX0 1 "tree_text" ["tree"] (spTR 0) := by
  refine T.F_tree_text.ok0 sc_tree_text (fun _ _ _ _ _ _ us hl => match us, hl with | [_], _ => rfl) (fun vs H Q E h => h.elim) (fun cdv A outer s H vs Q E hr h => h.elim)
theorem ok_tree_text (T : Tx w K mg) : ∀ d : Nat, Fk P w K mg base CX0 (d + 2) "tree_text" ["tree"] (sp_text d)
  | 0 => tt_step T 0 (tt_none T)
  | d + 1 => tt_step T (d + 1) (ok_tree_text T d)
end
end Rd
namespace Rd
open PySem L2
def nb (c : Nat) : Bool := !decide (c ∈ (("(), " : Str).cps.toList))
def wd (cs : List Nat) : List Nat := cs.takeWhile nb
/-- the rest begins by a sign that ends a word -/
def Brk (rs : List Nat) : Prop := rs = [] ∨ ∃ c r, rs = c :: r ∧ nb c = false ∧ c ≠ 40
theorem wd_app {w rs : List Nat} (hw : w.all nb = true) (hr : rs = [] ∨ ∃ c r, rs = c :: r ∧ nb c = false) : wd (w ++ rs) = w := by
  unfold wd
  induction w with
  | nil =>
    rcases hr with rfl | ⟨c, r, rfl, hc⟩
    · rfl
    · show (c :: r).takeWhile nb = []
      simp [List.takeWhile, hc]
  | cons a w ih =>
    rw [List.all_cons, Bool.and_eq_true] at hw
    show (a :: (w ++ rs)).takeWhile nb = a :: w
    rw [List.takeWhile_cons, hw.1, if_pos rfl, ih hw.2]
theorem word_nb {z : Str} (h : isWord z = true) : z.cps.toList.all nb = true := by
  obtain ⟨h1, h2⟩ := He.ba h
  obtain ⟨h3, h4⟩ := He.ba h2
  have dj : SMALL.cps.toList.all nb = true := by decide +kernel
  exact List.all_eq_true.mpr fun c hc => List.all_eq_true.mp dj c (of_decide_eq_true (List.all_eq_true.mp h4 c hc))
theorem name_nb {z : Str} (h : isName z = true) : z.cps.toList.all nb = true := by
  obtain ⟨h1, h2⟩ := He.ba h
  obtain ⟨h3, h4⟩ := He.ba h2
  have h1' := of_decide_eq_true h1
  rw [len_list, rstrip_list] at h1'
  rw [rstrip_list] at h4
  obtain ⟨⟨a1, a2⟩, a3⟩ := (name_iff z.cps.toList).mp ⟨h1', h4⟩
  have dj : GREAT.cps.toList.all nb = true := by decide +kernel
  have dk : DIGITS.cps.toList.all nb = true := by decide +kernel
  refine List.all_eq_true.mpr fun c hc => ?_
  rw [← List.take_append_drop (z.cps.toList.filter (inS GREAT)).length z.cps.toList] at hc
  rcases List.mem_append.mp hc with q | q
  · exact List.all_eq_true.mp dj c (of_decide_eq_true (List.all_eq_true.mp a2 c q))
  · exact List.all_eq_true.mp dk c (of_decide_eq_true (List.all_eq_true.mp a3 c q))
theorem am_text {k x : Str} (h : kindOk k x) : (txt (.am k x)).all nb = true ∧ atomOf (ofC (txt (.am k x))) = some (k, x) := by
  have e : ofC (txt (.am k x)) = textOf (.am k x) := rfl
  rcases h with ⟨rfl, h⟩ | ⟨rfl, h⟩ | ⟨rfl, h⟩
  · rw [e, text_am (by decide +kernel), atomOf_word h]
    refine ⟨?_, rfl⟩
    have e2 : txt (.am "word" x) = x.cps.toList := if_neg (by decide +kernel)
    rw [e2]
    exact word_nb h
  · rw [e, text_am (by decide +kernel), atomOf_name h]
    refine ⟨?_, rfl⟩
    have e2 : txt (.am "name" x) = x.cps.toList := if_neg (by decide +kernel)
    rw [e2]
    exact name_nb h
  · rw [e, text_unk, atomOf_unk h]
    refine ⟨?_, rfl⟩
    have e2 : txt (.am "unknown" x) = 63 :: x.cps.toList := if_pos rfl
    rw [e2, List.all_cons, word_nb (He.ba h).1]
    decide +kernel
end Rd
namespace Rd
open PySem L2
theorem Wf.shp {t : Tr} (h : Wf t) : (∃ k x, t = .am k x ∧ kindOk k x) ∨ (∃ s a, t = .un s a ∧ s ∈ (["mark", "open", "own"] : List Str) ∧ Wf a) ∨ ∃ s a b, t = .bi s a b ∧ s ∈ (["pair", "seal", "lock"] : List Str) ∧ Wf a ∧ Wf b := by
  cases h with
  | am ko => exact .inl ⟨_, _, rfl, ko⟩
  | un hs w => exact .inr (.inl ⟨_, _, rfl, hs, w⟩)
  | bi hs w1 w2 => exact .inr (.inr ⟨_, _, _, rfl, mem_to (by decide +kernel) hs, w1, w2⟩)
  | lk hs w1 w2 => exact .inr (.inr ⟨_, _, _, rfl, by decide +kernel, w1, .un (mem_to (by decide +kernel) hs) w2⟩)
theorem sg_nb {s : Str} (h : s ∈ (["mark", "open", "own", "pair", "seal", "lock"] : List Str)) : s.cps.toList.all nb = true := by
  have : ∀ z ∈ (["mark", "open", "own", "pair", "seal", "lock"] : List Str), z.cps.toList.all nb = true := by decide +kernel
  exact this _ h
theorem wd_sg {s : Str} {r : List Nat} (h : s ∈ (["mark", "open", "own", "pair", "seal", "lock"] : List Str)) : wd (s.cps.toList ++ 40 :: r) = s.cps.toList := wd_app (sg_nb h) (.inr ⟨40, r, rfl, by decide +kernel⟩)
theorem Brk.or {r : List Nat} (h : Brk r) : r = [] ∨ ∃ c q, r = c :: q ∧ nb c = false := by
  rcases h with h | ⟨c, q, h1, h2, _⟩
  · exact .inl h
  · exact .inr ⟨c, q, h1, h2⟩
theorem Brk.no40 {r q : List Nat} (h : Brk (40 :: q)) : False := by
  rcases h with h | ⟨c, q, h1, _, h3⟩
  · cases h
  · injection h1 with h1 _
    exact h3 h1.symm
theorem Brk.c {c : Nat} {r : List Nat} (h : nb c = false) (h2 : c ≠ 40) : Brk (c :: r) := .inr ⟨c, r, rfl, h, h2⟩
theorem sgUB {s s' : Str} (h1 : s ∈ (["mark", "open", "own"] : List Str)) (h2 : s' ∈ (["pair", "seal", "lock"] : List Str)) : s ≠ s' := by
  have : ∀ a ∈ (["mark", "open", "own"] : List Str), ∀ b ∈ (["pair", "seal", "lock"] : List Str), a ≠ b := by decide +kernel
  exact this _ h1 _ h2
theorem uT {s : Str} (h : s ∈ (["mark", "open", "own"] : List Str)) : s ∈ (["mark", "open", "own", "pair", "seal", "lock"] : List Str) := mem_to (by decide +kernel) h
theorem bT {s : Str} (h : s ∈ (["pair", "seal", "lock"] : List Str)) : s ∈ (["mark", "open", "own", "pair", "seal", "lock"] : List Str) := mem_to (by decide +kernel) h
theorem txt_un (s : Str) (a : Tr) (r : List Nat) : txt (.un s a) ++ r = s.cps.toList ++ 40 :: (txt a ++ 41 :: r) := by
  show (s.cps.toList ++ 40 :: (txt a ++ [41])) ++ r = _
  simp
theorem txt_bi (s : Str) (a b : Tr) (r : List Nat) : txt (.bi s a b) ++ r = s.cps.toList ++ 40 :: (txt a ++ 44 :: 32 :: (txt b ++ 41 :: r)) := by
  show (s.cps.toList ++ 40 :: (txt a ++ 44 :: 32 :: (txt b ++ [41]))) ++ r = _
  simp
theorem am_no {k x s : Str} {r q : List Nat} (ko : kindOk k x) (hr : Brk r) (hs : s ∈ (["mark", "open", "own", "pair", "seal", "lock"] : List Str)) (e : txt (.am k x) ++ r = s.cps.toList ++ 40 :: q) : False := by
  have h1 : wd (txt (.am k x) ++ r) = txt (.am k x) := wd_app (am_text ko).1 hr.or
  rw [e, wd_sg hs] at h1
  rw [← h1] at e
  have := List.append_cancel_left e
  rw [this] at hr
  exact Brk.no40 (r := []) hr
theorem txt_inj : ∀ (t u : Tr), Wf t → Wf u → ∀ r r' : List Nat, Brk r → Brk r' → txt t ++ r = txt u ++ r' → t = u ∧ r = r' := by
  intro t
  induction t with
  | am k x =>
    intro u wt wu r r' hr hr' e
    rcases wt.shp with ⟨_, _, e0, ko⟩ | ⟨_, _, e0, _⟩ | ⟨_, _, _, e0, _⟩
    · cases e0
      rcases wu.shp with ⟨k', x', rfl, ko'⟩ | ⟨s, a, rfl, hs, _⟩ | ⟨s, a, b, rfl, hs, _⟩
      · have h1 : wd (txt (.am k x) ++ r) = txt (.am k x) := wd_app (am_text ko).1 hr.or
        rw [e, wd_app (am_text ko').1 hr'.or] at h1
        have h2 := (am_text ko).2
        rw [← h1, (am_text ko').2] at h2
        injection h2 with h2
        injection h2 with h3 h4
        subst h3 h4
        exact ⟨rfl, List.append_cancel_left e⟩
      · rw [txt_un] at e
        exact (am_no ko hr (uT hs) e).elim
      · rw [txt_bi] at e
        exact (am_no ko hr (bT hs) e).elim
    · cases e0
    · cases e0
  | un s a ih =>
    intro u wt wu r r' hr hr' e
    rcases wt.shp with ⟨_, _, e0, _⟩ | ⟨_, _, e0, hs, wa⟩ | ⟨_, _, _, e0, _⟩
    · cases e0
    · cases e0
      rw [txt_un] at e
      rcases wu.shp with ⟨k', x', rfl, ko'⟩ | ⟨s', b, rfl, hs', wb⟩ | ⟨s', a', b, rfl, hs', _⟩
      · exact (am_no ko' hr' (uT hs) e.symm).elim
      · rw [txt_un] at e
        have h1 := wd_sg (r := txt a ++ 41 :: r) (uT hs)
        rw [e, wd_sg (uT hs')] at h1
        have h2 : s' = s := str_ext h1
        subst h2
        have h3 := List.append_cancel_left e
        injection h3 with _ h3
        obtain ⟨h4, h5⟩ := ih b wa wb _ _ (Brk.c (by decide +kernel) (by decide)) (Brk.c (by decide +kernel) (by decide)) h3
        injection h5 with _ h5
        exact ⟨by rw [h4], h5⟩
      · rw [txt_bi] at e
        have h1 := wd_sg (r := txt a ++ 41 :: r) (uT hs)
        rw [e, wd_sg (bT hs')] at h1
        exact absurd (str_ext h1).symm (sgUB hs hs')
    · cases e0
  | bi s a b iha ihb =>
    intro u wt wu r r' hr hr' e
    rcases wt.shp with ⟨_, _, e0, _⟩ | ⟨_, _, e0, _⟩ | ⟨_, _, _, e0, hs, wa, wb⟩
    · cases e0
    · cases e0
    · cases e0
      rw [txt_bi] at e
      rcases wu.shp with ⟨k', x', rfl, ko'⟩ | ⟨s', c, rfl, hs', _⟩ | ⟨s', c, d, rfl, hs', wc, wd'⟩
      · exact (am_no ko' hr' (bT hs) e.symm).elim
      · rw [txt_un] at e
        have h1 := wd_sg (r := txt a ++ 44 :: 32 :: (txt b ++ 41 :: r)) (bT hs)
        rw [e, wd_sg (uT hs')] at h1
        exact absurd (str_ext h1) (sgUB hs' hs)
      · rw [txt_bi] at e
        have h1 := wd_sg (r := txt a ++ 44 :: 32 :: (txt b ++ 41 :: r)) (bT hs)
        rw [e, wd_sg (bT hs')] at h1
        have h2 : s' = s := str_ext h1
        subst h2
        have h3 := List.append_cancel_left e
        injection h3 with _ h3
        obtain ⟨h4, h5⟩ := iha c wa wc _ _ (Brk.c (by decide +kernel) (by decide)) (Brk.c (by decide +kernel) (by decide)) h3
        injection h5 with _ h5
        injection h5 with _ h5
        obtain ⟨h6, h7⟩ := ihb d wb wd' _ _ (Brk.c (by decide +kernel) (by decide)) (Brk.c (by decide +kernel) (by decide)) h5
        injection h7 with _ h7
        exact ⟨by rw [h4, h6], h7⟩
theorem text_inj {t u : Tr} (wt : Wf t) (wu : Wf u) (e : textOf t = textOf u) : t = u := by
  have e1 : txt t = txt u := by
    have := congrArg (fun z : Str => z.cps.toList) e
    simpa [textOf, ofC_list] using this
  refine (txt_inj t u wt wu [] [] (.inl rfl) (.inl rfl) (by rw [e1])).1
def mka (O : List Tr) : Tr → Bool
  | .am k x => decide (k = "word") || decide (Tr.am k x ∈ O)
  | .un s a => decide (Tr.un s a ∈ O) || (decide (s ∈ (["mark", "open"] : List Str)) && mka O a)
  | .bi s a b => decide (Tr.bi s a b ∈ O) || (mka O a && mka O b)
theorem mka_mono {O O' : List Tr} (h : ∀ t ∈ O, t ∈ O') : ∀ {t : Tr}, mka O t = true → mka O' t = true
  | .am k x, e => by
    simp only [mka, Bool.or_eq_true, decide_eq_true_eq] at e ⊢
    rcases e with e | e
    · exact .inl e
    · exact .inr (h _ e)
  | .un s a, e => by
    simp only [mka, Bool.or_eq_true, Bool.and_eq_true, decide_eq_true_eq] at e ⊢
    rcases e with e | ⟨e1, e2⟩
    · exact .inl (h _ e)
    · exact .inr ⟨e1, mka_mono h e2⟩
  | .bi s a b, e => by
    simp only [mka, Bool.or_eq_true, Bool.and_eq_true, decide_eq_true_eq] at e ⊢
    rcases e with e | ⟨e1, e2⟩
    · exact .inl (h _ e)
    · exact .inr ⟨mka_mono h e1, mka_mono h e2⟩
theorem mka_congr {O O' : List Tr} (h : ∀ t, t ∈ O ↔ t ∈ O') (t : Tr) : mka O t = mka O' t := by
  cases e : mka O' t with
  | true => exact mka_mono (fun t => (h t).mpr) e
  | false =>
    cases e2 : mka O t with
    | false => rfl
    | true =>
      rw [mka_mono (fun t => (h t).mp) e2] at e
      cases e
def prt (s : Str) : Str := if s = "open" then "own" else "open"
def lkey : Tr → Option Tr
  | .un s k => some (.un (prt s) k)
  | _ => none
def ukey : Tr → Option Tr
  | .bi s _ k => if s = "seal" then some k else if s = "lock" then lkey k else none
  | _ => none
def PCl (O : List Tr) : Prop := ∀ a b, Tr.bi "pair" a b ∈ O → a ∈ O ∧ b ∈ O
def SCl (O O' : List Tr) : Prop := ∀ s c k key, Tr.bi s c k ∈ O → ukey (.bi s c k) = some key → mka O key = true → c ∈ O'
structure IsOpen (ts os : List Tr) : Prop where
  base : ∀ t ∈ ts, t ∈ os
  pcl : PCl os
  scl : SCl os os
  least : ∀ O' : List Tr, (∀ t ∈ ts, t ∈ O') → PCl O' → SCl O' O' → ∀ t ∈ os, t ∈ O'
theorem all_self (t : Tr) : t ∈ t.all := by rw [all_parts]; exact List.mem_cons_self
theorem all_trans : ∀ {t u v : Tr}, u ∈ t.all → v ∈ u.all → v ∈ t.all := by
  intro t
  induction t with
  | am k x =>
    intro u v hu hv
    rw [show (Tr.am k x).all = [.am k x] from rfl, List.mem_singleton] at hu
    subst hu
    exact hv
  | un s a ih =>
    intro u v hu hv
    rw [show (Tr.un s a).all = .un s a :: a.all from rfl] at hu ⊢
    rcases List.mem_cons.mp hu with rfl | hu
    · exact hv
    · exact List.mem_cons_of_mem _ (ih hu hv)
  | bi s a b iha ihb =>
    intro u v hu hv
    rw [show (Tr.bi s a b).all = .bi s a b :: (a.all ++ b.all) from rfl] at hu ⊢
    rcases List.mem_cons.mp hu with rfl | hu
    · exact hv
    · refine List.mem_cons_of_mem _ (List.mem_append.mpr ?_)
      rcases List.mem_append.mp hu with h | h
      · exact .inl (iha h hv)
      · exact .inr (ihb h hv)
theorem all_l {s : Str} {a b : Tr} : a ∈ (Tr.bi s a b).all := List.mem_cons_of_mem _ (List.mem_append_left _ (all_self a))
theorem all_r {s : Str} {a b : Tr} : b ∈ (Tr.bi s a b).all := List.mem_cons_of_mem _ (List.mem_append_right _ (all_self b))
def allOf (ts : List Tr) : List Tr := ts.flatMap Tr.all
theorem allOf_pcl (ts : List Tr) : PCl (allOf ts) := fun a b h => by
  obtain ⟨t, ht, h⟩ := List.mem_flatMap.mp h
  exact ⟨List.mem_flatMap.mpr ⟨t, ht, all_trans h all_l⟩, List.mem_flatMap.mpr ⟨t, ht, all_trans h all_r⟩⟩
theorem allOf_scl (ts : List Tr) : SCl (allOf ts) (allOf ts) := fun s c k key h _ _ => by
  obtain ⟨t, ht, h⟩ := List.mem_flatMap.mp h
  exact List.mem_flatMap.mpr ⟨t, ht, all_trans h all_l⟩
theorem allOf_base (ts : List Tr) : ∀ t ∈ ts, t ∈ allOf ts := fun t h => List.mem_flatMap.mpr ⟨t, h, all_self t⟩
theorem IsOpen.inAll {ts os : List Tr} (h : IsOpen ts os) : ∀ t ∈ os, t ∈ allOf ts := h.least _ (allOf_base ts) (allOf_pcl ts) (allOf_scl ts)
theorem IsOpen.mono {ts us os ps : List Tr} (h : IsOpen ts os) (g : IsOpen us ps) (s : ∀ t ∈ ts, t ∈ us) : ∀ t ∈ os, t ∈ ps := h.least _ (fun t ht => g.base t (s t ht)) g.pcl g.scl
end Rd
namespace Rd
open PySem L2
def sp_partner : Sp := fun vs H Q _ => ∃ (v : V) (s : Str) (a : Tr), vs = [v] ∧ IsT H (.un s a) v ∧ s ∈ (["open", "own"] : List Str) ∧ ∀ u H', Same H H' → IsT H' (.un (prt s) a) u → Q u H'
def sp_ukey : Sp := fun vs H Q _ => ∃ (v : V) (t key : Tr), vs = [v] ∧ IsT H t v ∧ Wf t ∧ ukey t = some key ∧ ∀ u H', Same H H' → IsT H' key u → Q u H'
theorem ukey_seal {c k key : Tr} (h : ukey (.bi "seal" c k) = some key) : key = k := by
  rw [ukey, if_pos rfl] at h
  cases h
  rfl
theorem ukey_inv {t key : Tr} (wf : Wf t) (h : ukey t = some key) : (∃ c, t = .bi "seal" c key) ∨ ∃ c s k, t = .bi "lock" c (.un s k) ∧ s ∈ (["open", "own"] : List Str) ∧ key = .un (prt s) k := by
  cases t with
  | am k x => cases h
  | un s a => cases h
  | bi s c k =>
    by_cases e : s = "seal"
    · subst e
      exact .inl ⟨c, by rw [ukey_seal h]⟩
    · rw [ukey, if_neg e] at h
      by_cases e2 : s = "lock"
      · subst e2
        rw [if_pos rfl] at h
        cases wf with
        | bi hs _ _ => exact absurd hs (by decide +kernel)
        | @lk s' _ k' hs _ _ =>
          cases h
          exact .inr ⟨c, s', k', rfl, hs, rfl⟩
      · rw [if_neg e2] at h
        cases h
def MKL : List Str := ["pair", "seal", "lock", "mark", "open"]
theorem mka_step {ts : List Tr} {t : Tr} (wf : Wf t) : mka ts t = ((decide (t.head = "word") || decide (t ∈ ts)) || (decide (t.head ∈ MKL) && t.parts.all (mka ts))) := by
  rcases wf.shp with ⟨k, x, rfl, ko⟩ | ⟨s, a, rfl, hs, _⟩ | ⟨s, a, b, rfl, hs, _⟩
  · have h : decide ((Tr.am k x).head ∈ MKL) = false := by
      rcases ko with ⟨rfl, _⟩ | ⟨rfl, _⟩ | ⟨rfl, _⟩
      · show decide (("word" : Str) ∈ MKL) = false
        decide +kernel
      · show decide (("name" : Str) ∈ MKL) = false
        decide +kernel
      · show decide (("unknown" : Str) ∈ MKL) = false
        decide +kernel
    rw [h, mka, Bool.false_and, Bool.or_false]
    rfl
  · have h1 : decide ((Tr.un s a).head = "word") = false := by
      have : ∀ z ∈ (["mark", "open", "own"] : List Str), decide (z = "word") = false := by decide +kernel
      exact this s hs
    have h2 : decide ((Tr.un s a).head ∈ MKL) = decide (s ∈ (["mark", "open"] : List Str)) := by
      have : ∀ z ∈ (["mark", "open", "own"] : List Str), decide (z ∈ MKL) = decide (z ∈ (["mark", "open"] : List Str)) := by decide +kernel
      exact this s hs
    rw [h1, h2, mka, Bool.false_or]
    show _ = (decide (Tr.un s a ∈ ts) || (_ && (mka ts a && true)))
    rw [Bool.and_true]
  · have h1 : decide ((Tr.bi s a b).head = "word") = false := by
      have : ∀ z ∈ (["pair", "seal", "lock"] : List Str), decide (z = "word") = false := by decide +kernel
      exact this s hs
    have h2 : decide ((Tr.bi s a b).head ∈ MKL) = true := by
      have : ∀ z ∈ (["pair", "seal", "lock"] : List Str), decide (z ∈ MKL) = true := by decide +kernel
      exact this s hs
    rw [h1, h2, mka, Bool.false_or, Bool.true_and]
    show _ = (decide (Tr.bi s a b ∈ ts) || (mka ts a && (mka ts b && true)))
    rw [Bool.and_true]
theorem decS (a b : Str) : decide (V.str a = V.str b) = decide (a = b) := decide_eq_decide.mpr ⟨V.str.inj, fun e => by rw [e]⟩
theorem mkl_parts {t : Tr} (wf : Wf t) (h : t.head ∈ MKL) : t.parts ≠ [] := by
  rcases wf.shp with ⟨k, x, rfl, ko⟩ | ⟨s, a, rfl, hs, _⟩ | ⟨s, a, b, rfl, hs, _⟩
  · rcases ko with ⟨rfl, _⟩ | ⟨rfl, _⟩ | ⟨rfl, _⟩
    · exact absurd (show ("word" : Str) ∈ MKL from h) (by decide +kernel)
    · exact absurd (show ("name" : Str) ∈ MKL from h) (by decide +kernel)
    · exact absurd (show ("unknown" : Str) ∈ MKL from h) (by decide +kernel)
  · exact fun e => by cases e
  · exact fun e => by cases e
section
variable {P : Program} {w : World} {K : PySem.W.Frag} {mg : Str → Option Value} {base : Heap}
abbrev s_partner : Stmt := top 30
theorem sc_partner : FnScope ["key"] ["key"] (defScope s_partner) := ⟨rfl, rfl, rfl, by decide +kernel, rfl, by decide +kernel, by decide +kernel⟩
theorem ok_partner (T : Tx w K mg) : Fk P w K mg base CX0 1 "partner" ["key"] sp_partner := by
  refine T.F_partner.ok0 sc_partner (fun _ _ _ _ _ _ us hl => match us, hl with | [_], _ => rfl)
    (fun vs H Q E h => ?_) (fun cdv A outer s H vs Q E hr h => ?_)
  · obtain ⟨v, s, a, rfl, _⟩ := h
    rfl
  · obtain ⟨v, s, a, rfl, it, hs, k⟩ := h
    refine ⟨_, (pss_cons (ps_if (pt_cmpR op_eq (pe_ix ix_tup (pv 0) pe_int (fun _ _ => rfl)) pe_str (nomark _))
  (pss_one (ps_ret (pe_tup (pa_cons pe_str (pa_cons (pe_ix ix_tup (pv 0) pe_int (fun _ _ => rfl)) pa_nil)))))
  pss_nil)
  (pss_one (ps_ret (pe_tup (pa_cons pe_str (pa_cons (pe_ix ix_tup (pv 0) pe_int (fun _ _ => rfl)) pa_nil)))))), ?_⟩
    obtain ⟨p, u, rfl, hp, iu⟩ := it
    refine ⟨_, rfl, p, _, _, _, rfl, rfl, SqT.of hp, at_of (j := 0) rfl rfl, rfl, _, rfl, ?_⟩
    by_cases e : s = "open"
    · subst e
      refine iteP (by decide +kernel) ⟨_, rfl, p, _, _, _, rfl, rfl, SqT.of hp, at_of (j := 1) rfl rfl, (by show 2 ≤ sizeLine; decide), fun q hq => ?_⟩
      exact k _ _ (Rd.Same.upd hq) ⟨q, u, rfl, upd_same, iu.same (Rd.Same.upd hq)⟩
    · refine iteN (by intro z; exact e (V.str.inj (of_decide_eq_true z))) (nxt ?_)
      try dsimp only
      refine ⟨_, rfl, p, _, _, _, rfl, rfl, SqT.of hp, at_of (j := 1) rfl rfl, (by show 2 ≤ sizeLine; decide), fun q hq => ?_⟩
      refine k _ _ (Rd.Same.upd hq) ⟨q, u, rfl, ?_, iu.same (Rd.Same.upd hq)⟩
      rw [upd_same, prt, if_neg e]
abbrev s_undoing_key : Stmt := top 31
theorem sc_undoing_key : FnScope ["tree"] ["tree"] (defScope s_undoing_key) := ⟨rfl, rfl, rfl, by decide +kernel, rfl, by decide +kernel, by decide +kernel⟩
theorem ok_undoing_key (T : Tx w K mg) : Fk P w K mg base CX0 2 "undoing_key" ["tree"] sp_ukey := by
  refine T.F_undoing_key.ok0 sc_undoing_key (fun _ _ _ _ _ _ us hl => match us, hl with | [_], _ => rfl)
    (fun vs H Q E h => ?_) (fun cdv A outer s H vs Q E hr h => ?_)
  · obtain ⟨v, t, key, rfl, _⟩ := h
    rfl
  · obtain ⟨v, t, key, rfl, it, wf, hk, k⟩ := h
    refine ⟨_, (pss_cons (ps_if (pt_cmpR op_eq (pe_ix ix_tup (pv 0) pe_int (fun _ _ => rfl)) pe_str (nomark _))
  (pss_one (ps_ret (pe_ix ix_tup (pv 0) pe_int (fun _ _ => rfl))))
  pss_nil)
  (pss_one (ps_ret (pe_fk (ok_partner T) (hr.mono (by omega)) rfl pass0 (pa_cons (pe_ix ix_tup (pv 0) pe_int (fun _ _ => rfl)) pa_nil))))), ?_⟩
    rcases ukey_inv wf hk with ⟨c, rfl⟩ | ⟨c, s, k0, rfl, hs, rfl⟩
    · obtain ⟨p, u1, u2, rfl, hp, i1, i2⟩ := it
      refine ⟨_, rfl, p, _, _, _, rfl, rfl, SqT.of hp, at_of (j := 0) rfl rfl, rfl, _, rfl, iteP (by decide +kernel) ?_⟩
      exact ⟨_, rfl, p, _, _, _, rfl, rfl, SqT.of hp, at_of (j := 2) rfl rfl, k _ _ (Same.refl _) i2⟩
    · obtain ⟨p, u1, u2, rfl, hp, i1, i2⟩ := it
      refine ⟨_, rfl, p, _, _, _, rfl, rfl, SqT.of hp, at_of (j := 0) rfl rfl, rfl, _, rfl, iteN (by decide +kernel) (nxt ?_)⟩
      try dsimp only
      exact ⟨_, rfl, p, _, _, _, rfl, rfl, SqT.of hp, at_of (j := 2) rfl rfl, u2, s, k0, rfl, i2, hs, fun u H' s' iu => k _ _ s' iu⟩
end
end Rd
namespace Rd
open PySem L2
theorem nodup_sub {α : Type} : ∀ {l m : List α}, l.Nodup → (∀ x ∈ l, x ∈ m) → l.length ≤ m.length
  | [], _, _, _ => Nat.zero_le _
  | a :: l, m, h, s => by
    obtain ⟨h1, h2⟩ := List.nodup_cons.mp h
    obtain ⟨p, q, rfl⟩ := List.append_of_mem (s a List.mem_cons_self)
    have := nodup_sub (l := l) (m := p ++ q) h2 fun x hx => by
      rcases List.mem_append.mp (s x (List.mem_cons_of_mem _ hx)) with h | h
      · exact List.mem_append_left _ h
      · rcases List.mem_cons.mp h with rfl | h
        · exact absurd hx h1
        · exact List.mem_append_right _ h
    rw [List.length_append] at this ⊢
    simp only [List.length_cons]
    omega
structure Halves (ts hs : List Tr) : Prop where
  nd : hs.Nodup
  base : ∀ t ∈ ts, t ∈ hs
  pcl : PCl hs
  least : ∀ O' : List Tr, (∀ t ∈ ts, t ∈ O') → PCl O' → ∀ t ∈ hs, t ∈ O'
/-- the state of halves_of: found (l), waiting (wt) -/
structure HI (d : Nat) (ts : List Tr) (l : List (Str × Tr)) (wt : List Tr) : Prop where
  key : ∀ p ∈ l, p.1 = textOf p.2
  wl : ∀ p ∈ l, Wf p.2 ∧ p.2.dep ≤ d
  ww : ∀ t ∈ wt, Wf t ∧ t.dep ≤ d
  nd : (l.map (·.1)).Nodup
  base : ∀ t ∈ ts, t ∈ l.map (·.2) ∨ t ∈ wt
  pcl : ∀ a b, Tr.bi "pair" a b ∈ l.map (·.2) → (a ∈ l.map (·.2) ∨ a ∈ wt) ∧ (b ∈ l.map (·.2) ∨ b ∈ wt)
  least : ∀ O' : List Tr, (∀ t ∈ ts, t ∈ O') → PCl O' → (∀ t ∈ l.map (·.2), t ∈ O') ∧ ∀ t ∈ wt, t ∈ O'
def szs (ts : List Tr) : Nat := (ts.map fun t => t.all.length).sum
theorem szs_app (a b : List Tr) : szs (a ++ b) = szs a + szs b := by simp [szs]
theorem szs_one (t : Tr) : szs [t] = t.all.length := by simp [szs]
theorem allOf_len : ∀ ts : List Tr, (allOf ts).length = szs ts
  | [] => rfl
  | t :: ts => by
    show (t.all ++ allOf ts).length = szs ([t] ++ ts)
    rw [List.length_append, allOf_len ts, szs_app, szs_one]
theorem snd_nodup : ∀ {l : List (Str × Tr)}, (∀ p ∈ l, p.1 = textOf p.2) → (l.map (·.1)).Nodup → (l.map (·.2)).Nodup
  | [], _, _ => List.nodup_nil
  | p :: l, hk, h => by
    obtain ⟨h1, h2⟩ := List.nodup_cons.mp h
    refine List.nodup_cons.mpr ⟨fun hm => ?_, snd_nodup (fun q hq => hk q (List.mem_cons_of_mem _ hq)) h2⟩
    obtain ⟨q, hq, e⟩ := List.mem_map.mp hm
    refine h1 (List.mem_map.mpr ⟨q, hq, ?_⟩)
    show q.1 = p.1
    have e : q.2 = p.2 := e
    rw [hk q (List.mem_cons_of_mem _ hq), hk p List.mem_cons_self, e]
theorem HI.len {d : Nat} {ts wt : List Tr} {l : List (Str × Tr)} (h : HI d ts l wt) : l.length ≤ (allOf ts).length := by
  have := nodup_sub (snd_nodup h.key h.nd) (h.least _ (allOf_base ts) (allOf_pcl ts)).1
  rwa [List.length_map] at this
theorem HI.init {d : Nat} {ts : List Tr} (h : ∀ t ∈ ts, Wf t ∧ t.dep ≤ d) : HI d ts [] ts := ⟨(fun p hp => by cases hp), (fun p hp => by cases hp), h, List.nodup_nil, fun t ht => .inr ht, (fun a b hp => by cases hp), fun O' h1 _ => ⟨fun t ht => (by cases ht), h1⟩⟩
end Rd
namespace Rd
open PySem L2
open Ob (RcOp lexAt lexAt_succ lexAt_zero)
def Tr.its : Tr → List PyData
  | .am k x => [.str k, .str x]
  | .un s a => [.str s, dat a]
  | .bi s a b => [.str s, dat a, dat b]
theorem IsT.all {K : PySem.W.Frag} {H : Hp} {t : Tr} {v : V} (h : IsT H t v) : ∃ p us, v = .ref p ∧ H p = some (.tup (.str t.head :: us)) ∧ DpAll K H (.str t.head :: us) t.its := by
  cases t with
  | am k x => obtain ⟨p, e, h⟩ := h; exact ⟨p, _, e, h, .cons (.str _) (.cons (.str _) .nil)⟩
  | un s a => obtain ⟨p, u, e, h, h1⟩ := h; exact ⟨p, _, e, h, .cons (.str _) (.cons h1.dp .nil)⟩
  | bi s a b => obtain ⟨p, u, u2, e, h, h1, h2⟩ := h; exact ⟨p, _, e, h, .cons (.str _) (.cons h1.dp (.cons h2.dp .nil))⟩
end Rd
namespace Rd
open PySem L2
theorem TsAt.cons {H : Hp} {ts : List Tr} {t : Tr} {v : V} {vs : List V} (h : IsT H t v) (g : TsAt H ts vs) : TsAt H (t :: ts) (v :: vs) := TsAt.app (ts := [t]) (vs := [v]) (TsAt.one h) g
def opn (O : List Tr) (t : Tr) : Bool := match ukey t with
  | some key => mka O key
  | none => false
def cnt1 : Tr → Tr
  | .bi _ c _ => c
  | t => t
def inn (O : List Tr) : List Tr := (O.filter (opn O)).map cnt1
structure OI (ts o : List Tr) : Prop where
  nd : o.Nodup
  base : ∀ t ∈ ts, t ∈ o
  pcl : PCl o
  least : ∀ O' : List Tr, (∀ t ∈ ts, t ∈ O') → PCl O' → SCl O' O' → ∀ t ∈ o, t ∈ O'
theorem OI.inAll {ts os : List Tr} (h : OI ts os) : ∀ t ∈ os, t ∈ allOf ts := h.least _ (allOf_base ts) (allOf_pcl ts) (allOf_scl ts)
theorem OI.len {ts os : List Tr} (h : OI ts os) : os.length ≤ (allOf ts).length := nodup_sub h.nd h.inAll
theorem inn_sub {O O' : List Tr} (h : ∀ t ∈ O, t ∈ O') (sc : SCl O' O') : ∀ t ∈ inn O, t ∈ O' := fun t ht => by
  obtain ⟨r, hr, rfl⟩ := List.mem_map.mp ht
  obtain ⟨hr1, hr2⟩ := List.mem_filter.mp hr
  unfold opn at hr2
  cases e : ukey r with
  | none => rw [e] at hr2; cases hr2
  | some key =>
    rw [e] at hr2
    cases r with
    | am k x => cases e
    | un s a => cases e
    | bi s c k => exact sc s c k key (h _ hr1) e (mka_mono h hr2)
theorem OI.next {ts o o' : List Tr} (h : OI ts o) (g : Halves (o ++ inn o) o') : OI ts o' ∧ ∀ t ∈ o, t ∈ o' :=
  ⟨⟨g.nd, fun t ht => g.base t (List.mem_append_left _ (h.base t ht)), g.pcl, fun O' a b c => g.least O' (fun t ht => by
    rcases List.mem_append.mp ht with q | q
    · exact h.least O' a b c t q
    · exact inn_sub (h.least O' a b c) c t q) b⟩, fun t ht => g.base t (List.mem_append_left _ ht)⟩
theorem nodup_full {α : Type} [DecidableEq α] : ∀ {l m : List α}, l.Nodup → (∀ x ∈ l, x ∈ m) → m.length ≤ l.length → ∀ x ∈ m, x ∈ l
  | [], m, _, _, h3, x, hx => by
    rw [List.length_eq_zero_iff.mp (Nat.le_zero.mp h3)] at hx
    exact hx
  | a :: l, m, h1, h2, h3, x, hx => by
    obtain ⟨n1, n2⟩ := List.nodup_cons.mp h1
    obtain ⟨p, q, rfl⟩ := List.append_of_mem (h2 a List.mem_cons_self)
    by_cases e : x = a
    · rw [e]; exact List.mem_cons_self
    · refine List.mem_cons_of_mem _ (nodup_full (l := l) (m := p ++ q) n2 (fun y hy => ?_) ?_ x ?_)
      · rcases List.mem_append.mp (h2 y (List.mem_cons_of_mem _ hy)) with z | z
        · exact List.mem_append_left _ z
        · rcases List.mem_cons.mp z with rfl | z
          · exact absurd hy n1
          · exact List.mem_append_right _ z
      · rw [List.length_append, List.length_cons] at h3
        rw [List.length_append]
        simp only [List.length_cons] at h3
        omega
      · rcases List.mem_append.mp hx with z | z
        · exact List.mem_append_left _ z
        · rcases List.mem_cons.mp z with rfl | z
          · exact absurd rfl e
          · exact List.mem_append_right _ z
theorem OI.done {ts o o' : List Tr} (h : OI ts o) (g : Halves (o ++ inn o) o') (e : o'.length ≤ o.length) : IsOpen ts o' := by
  obtain ⟨h1, h2⟩ := h.next g
  have h3 := nodup_full h.nd h2 e
  refine ⟨h1.base, h1.pcl, fun s c k key a b c' => ?_, h1.least⟩
  have a' := h3 _ a
  have m' : mka o key = true := by rw [mka_congr (fun t => ⟨h2 t, h3 t⟩)]; exact c'
  refine g.base _ (List.mem_append_right _ (List.mem_map.mpr ⟨_, List.mem_filter.mpr ⟨a', ?_⟩, rfl⟩))
  unfold opn
  rw [b]
  exact m'
theorem szs_le {S : Nat} : ∀ {l : List Tr}, (∀ t ∈ l, t.all.length ≤ S) → szs l ≤ l.length * S
  | [], _ => Nat.zero_le _
  | t :: l, h => by
    have h1 := szs_le (l := l) fun t ht => h t (List.mem_cons_of_mem _ ht)
    have h2 := h t List.mem_cons_self
    show szs ([t] ++ l) ≤ (l.length + 1) * S
    rw [szs_app, szs_one, Nat.add_mul, Nat.one_mul]
    omega
theorem shut_iff {t : Tr} (wf : Wf t) : decide (t.head ∈ (["seal", "lock"] : List Str)) = (ukey t).isSome := by
  rcases wf.shp with ⟨k, x, rfl, ko⟩ | ⟨s, a, rfl, hs, _⟩ | ⟨s, a, b, rfl, hs, _⟩
  · rcases ko with ⟨rfl, _⟩ | ⟨rfl, _⟩ | ⟨rfl, _⟩
    · show decide (("word" : Str) ∈ (["seal", "lock"] : List Str)) = false
      decide +kernel
    · show decide (("name" : Str) ∈ (["seal", "lock"] : List Str)) = false
      decide +kernel
    · show decide (("unknown" : Str) ∈ (["seal", "lock"] : List Str)) = false
      decide +kernel
  · have : ∀ z ∈ (["mark", "open", "own"] : List Str), decide (z ∈ (["seal", "lock"] : List Str)) = false := by decide +kernel
    exact this s hs
  · cases wf with
    | bi hs' _ _ =>
      have : ∀ z ∈ (["pair", "seal"] : List Str), decide (z ∈ (["seal", "lock"] : List Str)) = decide (z = "seal") ∧ z ≠ "lock" := by decide +kernel
      obtain ⟨h1, h2⟩ := this s hs'
      show decide (s ∈ (["seal", "lock"] : List Str)) = _
      rw [h1]
      show _ = (if s = "seal" then some b else if s = "lock" then lkey b else none).isSome
      by_cases e : s = "seal"
      · rw [if_pos e, decide_eq_true e]; rfl
      · rw [if_neg e, if_neg h2, decide_eq_false e]; rfl
    | lk hs' _ _ =>
      show decide (("lock" : Str) ∈ (["seal", "lock"] : List Str)) = true
      decide +kernel
theorem ukey_wf {t key : Tr} (wf : Wf t) (h : ukey t = some key) : Wf key ∧ key.dep ≤ t.dep := by
  rcases ukey_inv wf h with ⟨c, rfl⟩ | ⟨c, s, k, rfl, hs, rfl⟩
  · rcases wf.shp with ⟨_, _, e, _⟩ | ⟨_, _, e, _⟩ | ⟨_, _, _, e, _, _, w⟩
    · cases e
    · cases e
    · cases e
      exact ⟨w, by show key.dep ≤ max c.dep key.dep + 1; omega⟩
  · have hp : prt s ∈ (["open", "own"] : List Str) := by
      have : ∀ z ∈ (["open", "own"] : List Str), prt z ∈ (["open", "own"] : List Str) := by decide +kernel
      exact this s hs
    cases wf with
    | bi hs' _ _ => exact absurd hs' (by decide +kernel)
    | lk hs' _ w => exact ⟨.un (mem_to (by decide +kernel) hp) w, by show k.dep + 1 ≤ max c.dep (k.dep + 1) + 1; omega⟩
end Rd
namespace Rd
open PySem L2
theorem take_flat1 {τ α : Type} {f : τ → List α} {l : List τ} {i : Nat} {r : τ} (h : l[i]? = some r) : (l.take (i + 1)).flatMap f = (l.take i).flatMap f ++ f r := by
  rw [List.take_add_one, h, List.flatMap_append]
  simp
theorem flat1_le {τ α : Type} {f : τ → List α} (hf : ∀ t, (f t).length ≤ 1) : ∀ l : List τ, (l.flatMap f).length ≤ l.length
  | [] => Nat.le_refl _
  | t :: l => by
    rw [List.flatMap_cons, List.length_append, List.length_cons]
    have := hf t
    have := flat1_le hf l
    omega
/-- {text for x in a list if ..}: f tells of each item no text or one -/
theorem scl {w : World} {K : PySem.W.Frag} {a D : Addr} {xs : List V} {τ : Type} {ts : List τ} {tt : TT} {te : TE} {i0 : Nat} {σ : St} {H1 : Hp} {Qd : Hp → Prop} (f : τ → List Str) (hf : ∀ t, (f t).length ≤ 1) (hS : SqL K H1 a xs) (he : xs.length = ts.length) (hl : xs.length + 1 < scanBound) (hD : H1 D = none)
    (hte : ∀ (i : Nat) (x : V) (t : τ) (H : Hp) (Q : VK), xs[i]? = some x → ts[i]? = some t → Same H1 H → (f t = [] → tt ((wipe σ [i0]).set i0 (some x)) H fun b H' => b = false ∧ H' = H) ∧ ∀ c, f t = [c] → (tt ((wipe σ [i0]).set i0 (some x)) H fun b H' => b = true ∧ H' = H) ∧ (Q (.str c) H → te ((wipe σ [i0]).set i0 (some x)) H Q))
    (tm : ∀ (σ : St) (H : Hp) (P Q : Bool → Hp → Prop), (∀ b H', P b H' → Q b H') → tt σ H P → tt σ H Q)
    (hq : ∀ H', Same H1 H' → H' D = some (SetSO w D (putS [] (ts.flatMap f))) → Qd H') :
    ∃ W : Nat → Nat → Hp → Prop, (∃ m, W 0 m (L2.upd H1 D (SetSO w D []))) ∧ ∀ i m H, W i m H →
      ((Itl K a).stop i H ∧ Qd H) ∨ ((Itl K a).go i H ∧ ∃ Nx : Hp → Prop, (∀ H', Nx H' → ∃ m', m' < m ∧ W (i + 1) m' H') ∧ ∀ x H', (Itl K a).yld i H x H' → gName i0 x (wipe σ [i0]) H' fun σ2 H2 => wipe σ2 [i0] = wipe σ [i0] ∧ tt σ2 H2 fun b H3 =>
        if b = true then te σ2 H3 fun y H4 => ∃ (c : Str) (l : List Str), y = .str c ∧ H4 D = some (SetSO w D l) ∧ l.length + 1 < scanBound ∧ Nx (L2.upd H4 D (SetSO w D (addS l c))) else Nx H3) := by
  refine ⟨fun i m H => m = xs.length - i ∧ i ≤ xs.length ∧ Same H1 H ∧ H D = some (SetSO w D (putS [] ((ts.take i).flatMap f))), ⟨xs.length, by simp, Nat.zero_le _, Rd.Same.upd hD, upd_same⟩, ?_⟩
  rintro i m H ⟨rfl, hi, sm, hd⟩
  have q := SqL.kept hS sm
  by_cases hlt : i < xs.length
  · refine .inr ⟨⟨xs, xs[i], q, by simp [hlt]⟩, fun H' => Same H1 H' ∧ H' D = some (SetSO w D (putS [] ((ts.take (i + 1)).flatMap f))), fun H' p' => ⟨xs.length - (i + 1), by omega, rfl, hlt, p'⟩, fun x H' y => ?_⟩
    obtain ⟨e, y⟩ := y
    subst e
    have hx := y xs q
    have ht : ts[i]? = some ts[i] := List.getElem?_eq_getElem (by omega)
    refine gName_k ⟨by simp [wipe], ?_⟩
    cases hft : f ts[i] with
    | nil =>
      refine tm _ _ _ _ (fun b H2 z => ?_) ((hte i x ts[i] H' (fun _ _ => True) hx ht sm).1 hft)
      obtain ⟨rfl, rfl⟩ := z
      refine iteF ⟨sm, ?_⟩
      rw [take_flat1 ht, hft, List.append_nil]
      exact hd
    | cons c r =>
      have hr : r = [] := by
        have := hf ts[i]
        rw [hft, List.length_cons] at this
        exact List.eq_nil_of_length_eq_zero (by omega)
      subst hr
      refine tm _ _ _ _ (fun b H2 z => ?_) ((hte i x ts[i] H' (fun _ _ => True) hx ht sm).2 c hft).1
      obtain ⟨rfl, rfl⟩ := z
      refine iteT (((hte i x ts[i] _ _ hx ht sm).2 c hft).2 ⟨c, _, rfl, hd, ?_, fun b o e => ?_, ?_⟩)
      · have h1 := putS_len (l := []) (r := (ts.take i).flatMap f)
        have h2 := flat1_le hf (ts.take i)
        rw [List.length_take] at h2
        rw [List.length_nil] at h1
        omega
      · rw [upd_ne (ne_of_none e hD)]
        exact sm _ _ e
      · rw [upd_same, take_flat1 ht, hft, putS_app]
        rfl
  · have e : i = xs.length := by omega
    subst e
    refine .inl ⟨⟨xs, q, Nat.le_refl _⟩, hq H sm ?_⟩
    rw [he, List.take_length] at hd
    exact hd
theorem txt1_le (k : Str) : ∀ t : Tr, (txt1 k t).length ≤ 1
  | .am k' x => by
    show (if k' = k then [x] else []).length ≤ 1
    split
    · exact Nat.le_refl _
    · exact Nat.zero_le _
  | .un _ _ => Nat.zero_le _
  | .bi _ _ _ => Nat.zero_le _
end Rd
namespace Rd
open PySem L2
def sgns : List Str := ([("pair", 2), ("seal", 2), ("lock", 2), ("mark", 1), ("open", 1), ("own", 1)] : List (Str × Int)).map (·.1)
theorem sgn_yes {t : Tr} (wf : Wf t) (h : t.parts ≠ []) : decide (t.head ∈ sgns) = true := by
  have : ∀ z ∈ (["mark", "open", "own", "pair", "seal", "lock"] : List Str), decide (z ∈ sgns) = true := by decide +kernel
  exact this _ (wf.sign h).1
theorem sgn_no {k x : Str} (ko : kindOk k x) : decide ((Tr.am k x).head ∈ sgns) = false := by
  rcases ko with ⟨rfl, _⟩ | ⟨rfl, _⟩ | ⟨rfl, _⟩
  · show decide (("word" : Str) ∈ sgns) = false; decide +kernel
  · show decide (("name" : Str) ∈ sgns) = false; decide +kernel
  · show decide (("unknown" : Str) ∈ sgns) = false; decide +kernel
section
variable {P : Program} {w : World} {K : PySem.W.Frag} {mg : Str → Option Value} {base : Heap}
abbrev s_parts_of : Stmt := top 20
theorem sc_parts_of : FnScope ["tree", "found", "part"] ["tree"] (defScope s_parts_of) := ⟨rfl, rfl, rfl, by decide +kernel, rfl, by decide +kernel, by decide +kernel⟩
theorem partsOf_step (T : Tx w K mg) (d : Nat) (ih : Fk P w K mg base CX0 (d + 1) "parts_of" ["tree"] (spPR d)) : Fk P w K mg base CX0 (d + 2) "parts_of" ["tree"] (sp_parts d) := by
  refine T.F_parts_of.ok0 sc_parts_of (fun _ _ _ _ _ _ us hl => match us, hl with | [_], _ => rfl)
    (fun vs H Q E h => ?_) (fun cdv A outer s H vs Q E hr h => ?_)
  · obtain ⟨v, t, rfl, _⟩ := h
    rfl
  · obtain ⟨v, t, rfl, it, wf, dp, d12, k⟩ := h
    obtain ⟨pf, vs0, rfl, hpv⟩ := it.hd
    refine ⟨_, (pss_cons (ps_set (i := 1) sc_parts_of.nd rfl (Or.inl rfl) (pe_lst (pa_cons (pv 0) pa_nil)))
  (pss_cons (ps_if (pt_cmpR (op_inK T.D_SIGNS) (pe_ix ix_tup (pv 0) pe_int (fun _ _ => rfl)) (pe_kd T.D_SIGNS) (by rfl))
  (pss_one (ps_for PassesOwn.never rfl (pi_tup (pe_slice sl_tup (pv 0) (po_some pe_int) po_none)) (pg_name (i := 2) sc_parts_of.nd rfl (Or.inl rfl))
  (pss_one (ps_expr (pe_bm PySem.F.plainAttrs_list PySem.F.slot_list_extend PySem.F.type_list_extend mt_extend (pv 1) (pa_cons (pe_fk ih (hr.mono (by omega)) rfl pass0 (pa_cons (pv 2) pa_nil)) pa_nil))))))
  pss_nil)
  (pss_one (ps_ret (pv 1))))), ?_⟩
    refine ⟨_, rfl, (by show 1 ≤ sizeLine; decide), fun p np => ?_⟩
    refine gName_k ?_
    try dsimp only
    have s1 := Rd.Same.upd (o := .lst [.ref pf]) np
    refine ⟨_, rfl, pf, _, _, _, rfl, rfl, SqT.of (s1 _ _ hpv), at_of (j := 0) rfl rfl, _, rfl, rfl, _, rfl, ?_⟩
    show if decide (t.head ∈ sgns) = true then _ else _
    by_cases hpt : t.parts ≠ []
    · obtain ⟨hsg, hws⟩ := wf.sign hpt
      obtain ⟨p', us, e, hpu, hlu, hl2, hne, hus⟩ := it.parts hpt
      cases e
      refine iteP (sgn_yes wf hpt) ?_
      refine ⟨_, rfl, _, rfl, pf, _, rfl, SqT.of (s1 _ _ hpu), ?_, fun p2 hp2 => ?_⟩
      · rintro ⟨z, _⟩
        rw [show (1 : Int) = ((1 : Nat) : Int) from rfl, HT.sIx_nat, List.length_cons] at z
        omega
      rw [cut1]
      have s2 := Rd.Same.upd (o := .tup us) hp2
      refine ⟨p2, rfl, ⟨_, SqT.of upd_same⟩, ?_⟩
      refine for_tup (xs := us) (fun i σ H' => PInv H p p2 us t i H' ∧ ∃ t2, σ = [some (.ref pf), some (.ref p), t2]) ⟨⟨s1.trans s2, np, upd_same, [.ref pf], s2 _ _ upd_same, TsAt.one (it.same (s1.trans s2))⟩, _, rfl⟩ ?_ ?_ ?_
      · rintro i σ H' hi ⟨hI, _⟩
        exact SqT.of hI.tup
      · rintro i x σ H1 hx ⟨⟨sm, _, htu, ws, hws1, hts⟩, t2, rfl⟩
        refine gName_k ?_
        try dsimp only
        obtain ⟨r, hr1, hr2⟩ := hus i x hx
        obtain ⟨w1, w2⟩ := hws r (List.mem_of_getElem? hr1)
        cases d with
        | zero => exact absurd dp (by omega)
        | succ d =>
          refine ⟨_, rfl, .inl ⟨rfl, _, SqL.of hws1⟩, _, rfl, x, r, rfl, hr2.same sm, w1, (by omega), (by omega), fun b zs H2 sm2 nb hb htz => ?_⟩
          have hl1 := all_len t
          have hf := flat_le (t := t) (i + 1)
          rw [take_flat hr1, List.length_append] at hf
          have hpw : 2 ^ (t.dep + 1) ≤ 2 ^ 13 := Nat.pow_le_pow_right (by decide) (by omega)
          have h13 : 2 ^ 13 ≤ sizeLine := by decide
          have e1 := hts.len
          have e2 := htz.len
          rw [List.length_cons] at e1
          refine ⟨p, b, ws, zs, rfl, rfl, sm2 _ _ hws1, hb, (by omega), ?_⟩
          have kp := Kp.upd_lst (C := 0) (ys := ws ++ zs) (sm2 _ _ hws1)
          have nbp : b ≠ p := fun z => by rw [z, hws1] at nb; cases nb
          refine ⟨⟨fun c o e => ?_, np, ?_, ws ++ zs, upd_same, ?_⟩, _, rfl⟩
          · rw [upd_ne (ne_of_none e np)]
            exact sm2 _ _ (sm _ _ e)
          · rw [upd_ne (fun z => by rw [z, hws1] at htu; cases htu)]
            exact sm2 _ _ htu
          · rw [take_flat hr1, ← List.cons_append]
            exact ((hts.same sm2).mono kp).app (htz.mono kp)
      · rintro σ H1 ⟨⟨sm, _, htu, ws, hws1, hts⟩, t2, rfl⟩
        refine ⟨_, rfl, k p ws H1 sm np hws1 ?_⟩
        rw [all_parts]
        rw [hlu, List.take_length] at hts
        exact hts
    · cases wf with
      | @am k0 x0 ko =>
        rw [sgn_no ko]
        exact iteF ⟨_, rfl, k p _ _ s1 np upd_same (TsAt.one (it.same s1))⟩
      | _ => exact absurd (fun e => by cases e) hpt
theorem partsOf_none (T : Tx w K mg) : Fk P w K mg base CX0 1 "parts_of" ["tree"] (spPR 0) := by
  refine T.F_parts_of.ok0 sc_parts_of (fun _ _ _ _ _ _ us hl => match us, hl with | [_], _ => rfl) (fun vs H Q E h => h.elim) (fun cdv A outer s H vs Q E hr h => h.elim)
theorem ok_parts_of (T : Tx w K mg) : ∀ d : Nat, Fk P w K mg base CX0 (d + 2) "parts_of" ["tree"] (sp_parts d)
  | 0 => partsOf_step T 0 (partsOf_none T)
  | d + 1 => partsOf_step T (d + 1) (ok_parts_of T d)
/-- the texts of the atoms of one kind, ascending, each once, in a new list -/
def sp_atoms (d : Nat) : Sp := fun vs H Q _ => ∃ (v : V) (t : Tr) (kd : Str), vs = [v, .str kd] ∧ IsT H t v ∧ Wf t ∧ t.dep ≤ d ∧ d ≤ 10 ∧ ∀ p H', Same H H' → H p = none → H' p = some (.lst ((uniS (t.txt kd)).map V.str)) → Q (.ref p) H'
/-- part[0] == kind, part[1] of a form's part -/
theorem txt_at {H : Hp} {t : Tr} {v : V} {kd : Str} (it : IsT H t v) (wf : Wf t) : ∃ p us, v = .ref p ∧ H p = some (.tup (.str t.head :: us)) ∧ (txt1 kd t = [] → t.head ≠ kd ∨ ∃ u, us[0]? = some u ∧ ¬ ∃ z, u = .str z) ∧ ∀ c, txt1 kd t = [c] → t.head = kd ∧ us = [.str c] := by
  cases t with
  | am k x =>
    obtain ⟨p, rfl, h⟩ := it
    refine ⟨p, [.str x], rfl, h, fun e => .inl fun z => ?_, fun c e => ?_⟩
    · have e : (if k = kd then [x] else []) = [] := e
      rw [if_pos (show k = kd from z)] at e
      cases e
    · have e : (if k = kd then [x] else []) = [c] := e
      by_cases z : k = kd
      · rw [if_pos z] at e
        cases e
        exact ⟨z, rfl⟩
      · rw [if_neg z] at e
        cases e
  | un s a =>
    obtain ⟨p, u, rfl, h, i1⟩ := it
    refine ⟨p, [u], rfl, h, fun _ => .inr ⟨u, rfl, fun ⟨z, e⟩ => ?_⟩, fun c e => by cases e⟩
    obtain ⟨q, e'⟩ := i1.ref
    rw [e'] at e
    cases e
  | bi s a b =>
    obtain ⟨p, u, u2, rfl, h, i1, i2⟩ := it
    refine ⟨p, [u, u2], rfl, h, fun _ => .inr ⟨u, rfl, fun ⟨z, e⟩ => ?_⟩, fun c e => by cases e⟩
    obtain ⟨q, e'⟩ := i1.ref
    rw [e'] at e
    cases e
def kinds : List Str := ["word", "name", "unknown"]
theorem head_kd {t : Tr} {kd : Str} (wf : Wf t) (hk : kd ∈ kinds) (h : txt1 kd t = []) : t.head ≠ kd := fun e => by
  by_cases hp : t.parts ≠ []
  · have a := (wf.sign hp).1
    have : ∀ z ∈ (["mark", "open", "own", "pair", "seal", "lock"] : List Str), z ∉ kinds := by decide +kernel
    exact this _ a (by rw [e]; exact hk)
  · cases t with
    | am k x =>
      have h : (if k = kd then [x] else []) = [] := h
      rw [if_pos (show k = kd from e)] at h
      cases h
    | un s a => exact hp (fun e => by cases e)
    | bi s a b => exact hp (fun e => by cases e)
abbrev s_atoms_of : Stmt := top 21
theorem sc_atoms_of : FnScope ["tree", "kind", "part"] ["tree", "kind"] (defScope s_atoms_of) := ⟨rfl, rfl, rfl, by decide +kernel, rfl, by decide +kernel, by decide +kernel⟩
theorem ok_atoms_of (T : Tx w K mg) (d : Nat) : Fk P w K mg base CX0 (d + 3) "atoms_of" ["tree", "kind"] (fun vs H Q E => sp_atoms d vs H Q E ∧ ∃ kd ∈ kinds, vs[1]? = some (.str kd)) := by
  refine T.F_atoms_of.ok0 sc_atoms_of (fun _ _ _ _ _ _ us hl => match us, hl with | [_, _], _ => rfl)
    (fun vs H Q E h => ?_) (fun cdv A outer s H vs Q E hr h => ?_)
  · obtain ⟨⟨v, t, kd, rfl, _⟩, _⟩ := h
    rfl
  · obtain ⟨⟨v, t, kd, rfl, it, wf, dp, d10, k⟩, kd', hk, e⟩ := h
    obtain rfl : kd = kd' := by cases e; rfl
    refine ⟨_, (pss_one (ps_ret (pe_callB (cr_sortedSS rfl) (by rfl) T.z_sorted (by decide +kernel) (pa_cons (pe_scS (own := [("part", 2)]) (g := gName 2)  (by rfl) sc_atoms_of.nd (pi_list (pe_fk (ok_parts_of T d) (hr.mono (by omega)) rfl pass0 (pa_cons (pv 0) pa_nil))) (blkOk_by (own := [("part", 2)]) (N := ["tree", "kind", "part"]) (sc := defScope s_atoms_of) (by decide +kernel)) (fun _ _ _ _ _ => (pg_name (i := 2) sc_atoms_of.nd rfl (Or.inl rfl))) (fun _ _ _ _ _ => (pts_one (pt_cmpR op_eq (pe_ix (kIx (r := rIxT) (K := K) rfl ix_tup) (pv 2) pe_int (fun _ _ => rfl)) (pv 1) (nomark _)))) (fun _ _ _ _ _ => (pe_ix (kIx (r := rIxT) (K := K) rfl ix_tup) (pv 2) pe_int (fun _ _ => rfl)))) pa_nil)))), ?_⟩
    refine ⟨_, rfl, v, t, rfl, it, wf, dp, (by omega), fun p ws H1 s1 np hp htz => ?_⟩
    refine ⟨p, rfl, ⟨_, SqL.of hp⟩, fun D hD => ?_⟩
    have hl1 := all_len t
    have hpw : 2 ^ (t.dep + 1) ≤ 2 ^ 11 := Nat.pow_le_pow_right (by decide) (by omega)
    have h13 : 2 ^ 11 + 1 < scanBound := by decide
    refine scl (txt1 kd) (txt1_le kd) (SqL.of hp) htz.len (by rw [htz.len]; omega) hD (fun i x t1 H2 Q2 hx ht s2 => ?_) (fun σ H P Q h z => ?_) fun H2 s2 hD2 => ?_
    · have i1 := (htz.get i t1 x ht hx).same s2
      have w1 := (all_wf wf t1 (List.mem_of_getElem? ht)).1
      obtain ⟨q, us, rfl, hq, _, h1⟩ := txt_at (kd := kd) i1 w1
      refine ⟨fun e => ?_, fun c e => ⟨?_, fun z => ?_⟩⟩
      · exact ⟨_, rfl, q, _, _, _, rfl, rfl, SqT.of hq, at_of (j := 0) rfl rfl, _, rfl, rfl, _, rfl, decide_eq_false (fun z => head_kd w1 hk e (by cases z; rfl)), rfl⟩
      · exact ⟨_, rfl, q, _, _, _, rfl, rfl, SqT.of hq, at_of (j := 0) rfl rfl, _, rfl, rfl, _, rfl, decide_eq_true (by rw [(h1 c e).1]), rfl⟩
      · rw [(h1 c e).2] at hq
        exact ⟨_, rfl, q, _, _, _, rfl, rfl, SqT.of hq, at_of (j := 1) rfl rfl, z⟩
    · obtain ⟨_, h1, q, a, b, c, h2, h3, h4, h5, d, h6, h7, e, h8, h9⟩ := z
      exact ⟨_, h1, q, a, b, c, h2, h3, h4, h5, d, h6, h7, e, h8, h _ _ h9⟩
    · refine ⟨D, _, rfl, hD2, fun ys q pm nd so hq => ?_⟩
      have e : ys = uniS (t.txt kd) := uniS_of nd so fun z => by rw [pm.mem_iff, putS_mem, txt_all]; simp
      rw [e]
      exact k q _ ((s1.trans s2).trans (Rd.Same.upd hq)) ((s1.trans s2).free hq) upd_same
def sp_txts (K : PySem.W.Frag) (d : Nat) (kd : Str) : Sp := fun vs H Q _ => ∃ (a : Addr) (v : V) (t : Tr), vs = [.ref a] ∧ IsL K H a v ∧ IsT H t v ∧ Wf t ∧ t.dep ≤ d ∧ d ≤ 10 ∧ ∀ p H', Same H H' → H p = none → H' p = some (.lst ((uniS (t.txt kd)).map V.str)) → Q (.ref p) H'
abbrev s_Letter_unknowns : Stmt := inClass (top 25) 5
theorem sc_Letter_unknowns : FnScope ["self"] ["self"] (defScope s_Letter_unknowns) := ⟨rfl, rfl, rfl, by decide +kernel, rfl, by decide +kernel, by decide +kernel⟩
theorem ok_unknowns (T : Tx w K mg) (d : Nat) : Fm P w K mg base CX0 (d + 4) "Letter" "unknowns" ["self"] (sp_txts K d "unknown") := by
  refine T.M_Letter_unknowns.ok0 sc_Letter_unknowns (fun _ _ _ _ _ _ us hl => match us, hl with | [_], _ => rfl)
    (fun vs H Q E h => ?_) (fun cdv A outer s H vs Q E hr h => ?_)
  · obtain ⟨a, v, t, rfl, _⟩ := h
    rfl
  · obtain ⟨a, v, t, rfl, ⟨dx, ha⟩, it, wf, dp, d10, k⟩ := h
    refine ⟨_, (pss_one (ps_ret (pe_fk (ok_atoms_of T d) (hr.mono (by omega)) rfl pass0 (pa_cons (pe_fld (pv 0) rfl) (pa_cons pe_str pa_nil))))), ?_⟩
    exact ⟨_, rfl, a, _, dx, _, v, rfl, ha, T.k_Letter, T.n_Letter_tree, look1 _, ⟨v, t, "unknown", rfl, it, wf, dp, d10, k⟩, "unknown", (by decide +kernel), rfl⟩
end
end Rd
namespace Rd
open PySem L2
inductive Th where
  | non
  | int (n : Int)
  | str (s : Str)
  | tup (l : List Th)
  | lst (l : List Th)
/-- at most n deep -/
def Th.le : Nat → Th → Prop
  | _, .non => True
  | _, .int _ => True
  | _, .str _ => True
  | 0, .tup l => l = []
  | 0, .lst l => l = []
  | n + 1, .tup l => ∀ u ∈ l, u.le n
  | n + 1, .lst l => ∀ u ∈ l, u.le n
/-- such a thing at v; q is none of its objects -/
inductive IsTh (q : Addr) (H : Hp) : Th → V → Prop
  | non : IsTh q H .non .non
  | int (n : Int) : IsTh q H (.int n) (.int n)
  | str (s : Str) : IsTh q H (.str s) (.str s)
  | tup {p : Addr} {us : List V} {l : List Th} : p ≠ q → H p = some (.tup us) → us.length = l.length → (∀ (i : Nat) t u, l[i]? = some t → us[i]? = some u → IsTh q H t u) → IsTh q H (.tup l) (.ref p)
  | lst {p : Addr} {us : List V} {l : List Th} : p ≠ q → H p = some (.lst us) → us.length = l.length → (∀ (i : Nat) t u, l[i]? = some t → us[i]? = some u → IsTh q H t u) → IsTh q H (.lst l) (.ref p)
theorem IsTh.but {q : Addr} {H H' : Hp} {t : Th} {v : V} (b : But q H H') (h : IsTh q H t v) : IsTh q H' t v := by
  induction h with
  | non => exact .non
  | int n => exact .int n
  | str s => exact .str s
  | tup hq hp hl _ ih => exact .tup hq (b _ _ hq hp) hl ih
  | lst hq hp hl _ ih => exact .lst hq (b _ _ hq hp) hl ih
theorem IsTh.same {q : Addr} {H H' : Hp} {t : Th} {v : V} (s : Same H H') (h : IsTh q H t v) : IsTh q H' t v := h.but (But.of_same s)
/-- a form as a thing -/
def Tr.th : Tr → Th
  | .am k x => .tup [.str k, .str x]
  | .un s a => .tup [.str s, a.th]
  | .bi s a b => .tup [.str s, a.th, b.th]
theorem get2 {α β : Type} {R : α → β → Prop} {a1 a2 : α} {b1 b2 : β} (h1 : R a1 b1) (h2 : R a2 b2) : ∀ (i : Nat) a b, [a1, a2][i]? = some a → [b1, b2][i]? = some b → R a b
  | 0, _, _, e, e' => by cases e; cases e'; exact h1
  | 1, _, _, e, e' => by cases e; cases e'; exact h2
  | _ + 2, _, _, e, _ => by simp at e
theorem get3 {α β : Type} {R : α → β → Prop} {a1 a2 a3 : α} {b1 b2 b3 : β} (h1 : R a1 b1) (h2 : R a2 b2) (h3 : R a3 b3) : ∀ (i : Nat) a b, [a1, a2, a3][i]? = some a → [b1, b2, b3][i]? = some b → R a b
  | 0, _, _, e, e' => by cases e; cases e'; exact h1
  | 1, _, _, e, e' => by cases e; cases e'; exact h2
  | 2, _, _, e, e' => by cases e; cases e'; exact h3
  | _ + 3, _, _, e, _ => by simp at e
theorem IsT.th {q : Addr} {H : Hp} {t : Tr} {v : V} (hq : ∀ us, H q ≠ some (.tup us)) (h : IsT H t v) : IsTh q H t.th v := by
  have ne : ∀ {p : Addr} {us : List V}, H p = some (.tup us) → p ≠ q := fun {p us} e z => hq us (by rw [← z]; exact e)
  induction t generalizing v with
  | am k x =>
    obtain ⟨p, rfl, h⟩ := h
    exact .tup (ne h) h rfl (get2 (.str _) (.str _))
  | un s a ih =>
    obtain ⟨p, u, rfl, h, h1⟩ := h
    exact .tup (ne h) h rfl (get2 (.str _) (ih h1))
  | bi s a b iha ihb =>
    obtain ⟨p, u, u2, rfl, h, h1, h2⟩ := h
    exact .tup (ne h) h rfl (get3 (.str _) (iha h1) (ihb h2))
theorem Tr.th_le : ∀ {t : Tr} {n : Nat}, t.dep + 1 ≤ n → t.th.le n
  | .am k x, n + 1, _ => fun u hu => by
    rcases List.mem_cons.mp hu with rfl | hu
    · cases n <;> exact trivial
    · rw [List.mem_singleton.mp hu]
      cases n <;> exact trivial
  | .un s a, n + 1, h => fun u hu => by
    have h : a.dep + 1 + 1 ≤ n + 1 := h
    rcases List.mem_cons.mp hu with rfl | hu
    · cases n <;> exact trivial
    · rw [List.mem_singleton.mp hu]
      exact Tr.th_le (t := a) (by omega)
  | .bi s a b, n + 1, h => fun u hu => by
    have h : max a.dep b.dep + 1 + 1 ≤ n + 1 := h
    rcases List.mem_cons.mp hu with rfl | hu
    · cases n <;> exact trivial
    rcases List.mem_cons.mp hu with rfl | hu
    · exact Tr.th_le (t := a) (by omega)
    · rw [List.mem_singleton.mp hu]
      exact Tr.th_le (t := b) (by omega)
def kindL : List Str := ["word", "name", "unknown"]
def kOk (h x : Str) : Bool := if h = "word" then isWord x else if h = "name" then isName x else isUnk x
def atOk (h : Str) : List Th → Bool
  | [.str x] => kOk h x
  | _ => false
def sgv : List (Str × Int) := [("pair", 2), ("seal", 2), ("lock", 2), ("mark", 1), ("open", 1), ("own", 1)]
def keyTh : List Th → Bool
  | _ :: .tup (.str h :: _) :: _ => decide (h ∈ (["open", "own"] : List Str))
  | _ => false
def fltL (f : Th → Option (List Int)) : Int → List Th → Option (List Int)
  | _, [] => none
  | k, t :: r => match f t with
    | some p => some (k :: p)
    | none => fltL f (k + 1) r
def flt : Nat → Th → Option (List Int)
  | 0, _ => some []
  | n + 1, .tup (.str h :: r) =>
    if h ∈ kindL then (if atOk h r = true then none else some [])
    else match sgv.lookup h with
      | none => some []
      | some m => if (r.length : Int) ≠ m then some [] else match fltL (flt n) 1 r with
        | some p => some p
        | none => if h = "lock" ∧ keyTh r = false then some [] else none
  | _ + 1, _ => some []
theorem kOk_of {k x : Str} (h : kindOk k x) : k ∈ kindL ∧ kOk k x = true := by
  rcases h with ⟨rfl, h⟩ | ⟨rfl, h⟩ | ⟨rfl, h⟩
  · exact ⟨by decide +kernel, by rw [kOk, if_pos rfl]; exact h⟩
  · exact ⟨by decide +kernel, by rw [kOk, if_neg (by decide +kernel), if_pos rfl]; exact h⟩
  · exact ⟨by decide +kernel, by rw [kOk, if_neg (by decide +kernel), if_neg (by decide +kernel)]; exact h⟩
theorem flt_form : ∀ {t : Tr}, Wf t → ∀ n, t.dep + 1 ≤ n → flt n t.th = none
  | .am k x, wf, n + 1, _ => by
    cases wf with
    | am ko =>
      obtain ⟨h1, h2⟩ := kOk_of ko
      show (if k ∈ kindL then (if kOk k x = true then none else some []) else _) = none
      rw [if_pos h1, if_pos h2]
  | .un s a, wf, n + 1, h => by
    cases wf with
    | un hs wa =>
      have h : a.dep + 1 + 1 ≤ n + 1 := h
      have ih := flt_form wa n (by omega)
      have h1 : ∀ z ∈ (["mark", "open", "own"] : List Str), z ∉ kindL ∧ sgv.lookup z = some 1 ∧ z ≠ "lock" := by decide +kernel
      obtain ⟨a1, a2, a3⟩ := h1 s hs
      show (if s ∈ kindL then _ else match sgv.lookup s with | none => some [] | some m => if (([a.th] : List Th).length : Int) ≠ m then some [] else match fltL (flt n) 1 [a.th] with | some p => some p | none => if s = "lock" ∧ keyTh [a.th] = false then some [] else none) = none
      rw [if_neg a1, a2]
      simp only [List.length_singleton, fltL, ih]
      rw [if_neg (fun z => z rfl), if_neg (fun z => a3 z.1)]
  | .bi s a b, wf, n + 1, h => by
    have h : max a.dep b.dep + 1 + 1 ≤ n + 1 := h
    cases wf with
    | bi hs wa wb =>
      have ia := flt_form wa n (by omega)
      have ib := flt_form wb n (by omega)
      have h1 : ∀ z ∈ (["pair", "seal"] : List Str), z ∉ kindL ∧ sgv.lookup z = some 2 ∧ z ≠ "lock" := by decide +kernel
      obtain ⟨a1, a2, a3⟩ := h1 s hs
      show (if s ∈ kindL then _ else match sgv.lookup s with | none => some [] | some m => if (([a.th, b.th] : List Th).length : Int) ≠ m then some [] else match fltL (flt n) 1 [a.th, b.th] with | some p => some p | none => if s = "lock" ∧ keyTh [a.th, b.th] = false then some [] else none) = none
      rw [if_neg a1, a2]
      simp only [fltL, ia, ib]
      rw [if_neg (fun z => z rfl), if_neg (fun z => a3 z.1)]
    | @lk s' _ b' hs wa wb =>
      have ia := flt_form wa n (by omega)
      have hs' : s' ∈ (["mark", "open", "own"] : List Str) := List.mem_cons_of_mem _ hs
      have ib := flt_form (t := .un s' b') (.un hs' wb) n (by omega)
      have a1 : ("lock" : Str) ∉ kindL := by decide +kernel
      have a2 : sgv.lookup ("lock" : Str) = some 2 := by decide +kernel
      show (if ("lock" : Str) ∈ kindL then _ else match sgv.lookup ("lock" : Str) with | none => some [] | some m => if (([a.th, (Tr.un s' b').th] : List Th).length : Int) ≠ m then some [] else match fltL (flt n) 1 [a.th, (Tr.un s' b').th] with | some p => some p | none => if ("lock" : Str) = "lock" ∧ keyTh [a.th, (Tr.un s' b').th] = false then some [] else none) = none
      rw [if_neg a1, a2]
      simp only [fltL, ia, ib]
      rw [if_neg (fun z => z rfl), if_neg]
      rintro ⟨_, z⟩
      have z : decide (s' ∈ (["open", "own"] : List Str)) = false := z
      rw [decide_eq_true hs] at z
      cases z
end Rd
namespace Rd
open PySem L2
theorem look_mem {β : Type} {k : Str} {v : β} : ∀ {l : List (Str × β)}, l.lookup k = some v → (k, v) ∈ l
  | [], h => by cases h
  | (a, b) :: l, h => by
    rw [List.lookup_cons] at h
    cases e : k == a with
    | true =>
      rw [e] at h
      cases h
      rw [eq_of_beq e]
      exact List.mem_cons_self
    | false =>
      rw [e] at h
      exact List.mem_cons_of_mem _ (look_mem h)
theorem fltL_none {f : Th → Option (List Int)} : ∀ {r : List Th} {k : Int}, (∀ (j : Nat) t, r[j]? = some t → f t = none) → fltL f k r = none
  | [], _, _ => rfl
  | t :: r, k, h => by
    rw [fltL, h 0 t rfl]
    exact fltL_none fun j t h' => h (j + 1) t h'
theorem fltL_at {f : Th → Option (List Int)} {rel : List Int} {u : Th} : ∀ {r : List Th} {k : Int} {i : Nat}, (∀ (j : Nat) t, j < i → r[j]? = some t → f t = none) → r[i]? = some u → f u = some rel → fltL f k r = some ((k + i) :: rel)
  | [], _, _, _, h, _ => by cases h
  | t :: r, k, 0, _, h, e => by
    cases h
    rw [fltL, e]
    show some (k :: rel) = some ((k + 0) :: rel)
    rw [Int.add_zero]
  | t :: r, k, i + 1, h, h1, e => by
    rw [fltL, h 0 t (Nat.succ_pos _) rfl]
    have ih := fltL_at (r := r) (k := k + 1) (i := i) (fun j t hj h' => h (j + 1) t (Nat.succ_lt_succ hj) h') h1 e
    rw [show k + ((i + 1 : Nat) : Int) = k + 1 + i by omega]
    exact ih
theorem flt_sg {n : Nat} {h : Str} {r : List Th} {m : Int} (hk : h ∉ kindL) (hm : sgv.lookup h = some m) (hl : ¬ (r.length : Int) ≠ m) :
    (∀ rel, fltL (flt n) 1 r = some rel → flt (n + 1) (.tup (.str h :: r)) = some rel) ∧ (fltL (flt n) 1 r = none → flt (n + 1) (.tup (.str h :: r)) = if h = "lock" ∧ keyTh r = false then some [] else none) := by
  refine ⟨fun rel e => ?_, fun e => ?_⟩
  · rw [flt, if_neg hk, hm]
    dsimp only
    rw [if_neg hl, e]
  · rw [flt, if_neg hk, hm]
    dsimp only
    rw [if_neg hl, e]
theorem flt_hd {n : Nat} {t : Th} (h : flt n t = none) : ∃ s r, t = .tup (.str s :: r) := by
  cases n with
  | zero => cases h
  | succ n =>
    cases t with
    | tup l =>
      cases l with
      | nil => cases h
      | cons x r =>
        cases x with
        | str s => exact ⟨s, r, rfl⟩
        | _ => cases h
    | _ => cases h
def spAF : Sp := fun vs H Q _ => ∃ (v : V) (q : Addr) (h : Str) (r : List Th), vs = [v] ∧ IsTh q H (.tup (.str h :: r)) v ∧ h ∈ kindL ∧ (∀ x, r = [.str x] → x.length ≤ 200000) ∧ ∀ H', Same H H' → Q (.bl (atOk h r)) H'
def lookL : List (Str × Sp) := [("is_word", spTB isWord), ("is_name", spTB isName), ("is_unknown", spTB isUnk)]
theorem IsTh.tup_inv {q : Addr} {H : Hp} {l : List Th} {v : V} (h : IsTh q H (.tup l) v) : ∃ p us, v = .ref p ∧ H p = some (.tup us) ∧ us.length = l.length ∧ (∀ (i : Nat) t u, l[i]? = some t → us[i]? = some u → IsTh q H t u) := by
  cases h with
  | tup hq hp hl hi => exact ⟨_, _, rfl, hp, hl, hi⟩
theorem IsTh.str_inv {q : Addr} {H : Hp} {s : Str} {v : V} (h : IsTh q H (.str s) v) : v = .str s := by
  cases h
  rfl
/-- the built-in type of a thing -/
def Th.ty : Th → String
  | .non => "NoneType"
  | .int _ => "int"
  | .str _ => "str"
  | .tup _ => "tuple"
  | .lst _ => "list"
theorem IsTh.tyx {K : PySem.W.Frag} {q : Addr} {H : Hp} {t : Th} {v : V} (h : IsTh q H t v) : TyX K H v (.type t.ty) := by
  cases h with
  | non => exact .base .non
  | int n => exact .base (.int n)
  | str s => exact .base (.str s)
  | tup _ hp _ _ => exact .base (.tup hp)
  | lst _ hp _ _ => exact .base (.lst hp)
theorem isi_th {K : PySem.W.Frag} {t : Th} {n : String} (hn : n = "tuple" ∨ n = "str") : PySem.W.kitOne K (.type t.ty) (.type n) = some (decide (t.ty = n)) := by
  have h1 : ∀ m ∈ (["NoneType", "int", "str", "tuple", "list"] : List String), kitB m "tuple" = some (decide (m = "tuple")) ∧ kitB m "str" = some (decide (m = "str")) := by decide +kernel
  have h2 : t.ty ∈ (["NoneType", "int", "str", "tuple", "list"] : List String) := by cases t <;> simp [Th.ty]
  rcases hn with rfl | rfl
  · exact kit_ty (h1 _ h2).1
  · exact kit_ty (h1 _ h2).2
section
variable {P : Program} {w : World} {K : PySem.W.Frag} {mg : Str → Option Value} {base : Heap}
theorem lookL_ok (T : Tx w K mg) : ∀ p ∈ lookL, ∃ ps, Fk P w K mg base CX0 2 p.1 ps p.2 := by
  intro p hp
  rcases List.mem_cons.mp hp with rfl | hp
  · exact ⟨_, (ok_is_word T).mono (by decide)⟩
  rcases List.mem_cons.mp hp with rfl | hp
  · exact ⟨_, (ok_is_name T).mono (by decide)⟩
  rw [List.mem_singleton.mp hp]
  exact ⟨_, ok_is_unknown T⟩
abbrev s_is_atom_form : Stmt := top 18
theorem sc_is_atom_form : FnScope ["form", "looks"] ["form"] (defScope s_is_atom_form) := ⟨rfl, rfl, rfl, by decide +kernel, rfl, by decide +kernel, by decide +kernel⟩
theorem ok_is_atom_form (T : Tx w K mg) : Fk P w K mg base CX0 3 "is_atom_form" ["form"] spAF := by
  refine T.F_is_atom_form.ok0 sc_is_atom_form (fun _ _ _ _ _ _ us hl => match us, hl with | [_], _ => rfl)
    (fun vs H Q E h => ?_) (fun cdv A outer s H vs Q E hr h => ?_)
  · obtain ⟨v, q, h, r, rfl, _⟩ := h
    rfl
  · obtain ⟨v, q, h, r, rfl, it, hk, hs, k⟩ := h
    obtain ⟨p, us, rfl, hp, hl, hi⟩ := it.tup_inv
    refine ⟨_, (pss_cons (ps_set (i := 1) sc_is_atom_form.nd rfl (Or.inl rfl) (pe_disp (pps_cons pe_str (pe_gcls rfl T.F_is_word.g) (pps_cons pe_str (pe_gcls rfl T.F_is_name.g) (pps_cons pe_str (pe_gcls rfl T.F_is_unknown.g) pps_nil))) (by rfl) (by rfl) (fun z => by cases z) (by decide)))
  (pss_one (ps_ret (pe_and (pe_cmpR op_eq (pe_callB call_len_seq (by rfl) T.z_len (by decide +kernel) (pa_cons (pv 0) pa_nil)) pe_int (nomark _)) (pe_and (pe_callB call_isi (by rfl) T.z_isinstance (by decide +kernel) (pa_cons (pe_ix ix_tup (pv 0) pe_int (fun _ _ => rfl)) (pa_cons (pe_bltn (v := .ty "str") (u := .type "str") rfl T.z_str (by decide +kernel) rfl) pa_nil))) (pe_one (pe_callE lookL (lookL_ok T) (hr.mono (by omega)) (pe_dget (hu_of hr) (pv 1) (pe_ix ix_tup (pv 0) pe_int (fun _ _ => rfl)) (fun _ _ => rfl)) (pa_cons (pe_ix ix_tup (pv 0) pe_int (fun _ _ => rfl)) pa_nil)))))))), ?_⟩
    refine fun dp hdp => ⟨upd_same, [(.inr "word", .ref (He.ga K "is_word")), (.inr "name", .ref (He.ga K "is_name")), (.inr "unknown", .ref (He.ga K "is_unknown"))], rfl, (by show 3 ≤ 15; decide), ?_⟩
    refine gName_k ?_
    try dsimp only
    rw [upd_upd]
    have s1 := Rd.Same.upd (o := .dK (mergeK [] [(.inr "word", .ref (He.ga K "is_word")), (.inr "name", .ref (He.ga K "is_name")), (.inr "unknown", .ref (He.ga K "is_unknown"))])) hdp
    have hd1 : upd H dp (.dK (mergeK [] [(.inr "word", .ref (He.ga K "is_word")), (.inr "name", .ref (He.ga K "is_name")), (.inr "unknown", .ref (He.ga K "is_unknown"))])) dp = _ := upd_same
    generalize upd H dp (.dK (mergeK [] [(.inr "word", .ref (He.ga K "is_word")), (.inr "name", .ref (He.ga K "is_name")), (.inr "unknown", .ref (He.ga K "is_unknown"))])) = H1 at s1 hd1 ⊢
    have hp1 := s1 _ _ hp
    refine ⟨_, rfl, p, _, rfl, .inr (SqT.of hp1), rfl, _, rfl, ?_⟩
    match us, r, hl, hi, it, hp, hp1, hs, k with
    | [u0], [], _, _, _, _, _, _, k => exact iteN (by show ¬ decide (V.int 1 = V.int 2) = true; decide) (k _ s1)
    | [u0, u1], [x1], _, hi, _, _, hp1, hs, k =>
      refine iteP (by show decide (V.int 2 = V.int 2) = true; decide) ?_
      have i1 := (hi 1 x1 u1 rfl rfl).same s1
      refine ⟨_, rfl, p, _, _, _, rfl, rfl, SqT.of hp1, at_of (j := 1) rfl rfl, u1, .ty "str", _, _, _, rfl, .ty "str", i1.tyx, isi_th (.inr rfl), _, rfl, ?_⟩
      cases x1 with
      | str x =>
        refine iteP (by show decide (("str" : String) = "str") = true; decide) ?_
        obtain rfl := i1.str_inv
        obtain rfl := (hi 0 (.str h) u0 rfl rfl).str_inv
        have hx := hs x rfl
        obtain ⟨f, g, hf, e1, e2⟩ : ∃ f g, ((f, spTB g) ∈ lookL) ∧ valV (mergeK [] [(.inr "word", .ref (He.ga K "is_word")), (.inr "name", .ref (He.ga K "is_name")), (.inr "unknown", .ref (He.ga K "is_unknown"))]) (.inr h) = some (.ref (He.ga K f)) ∧ kOk h x = g x := by
          unfold mergeK
          simp only [List.foldl]
          rcases List.mem_cons.mp hk with rfl | hk
          · exact ⟨"is_word", isWord, List.mem_cons_self, by rw [valV_put, if_neg (by decide +kernel), valV_put, if_neg (by decide +kernel), valV_put, if_pos rfl], by rw [kOk, if_pos rfl]⟩
          rcases List.mem_cons.mp hk with rfl | hk
          · exact ⟨"is_name", isName, List.mem_cons_of_mem _ List.mem_cons_self, by rw [valV_put, if_neg (by decide +kernel), valV_put, if_pos rfl], by rw [kOk, if_neg (by decide +kernel), if_pos rfl]⟩
          cases List.mem_singleton.mp hk
          exact ⟨"is_unknown", isUnk, List.mem_cons_of_mem _ (List.mem_cons_of_mem _ List.mem_cons_self), by rw [valV_put, if_pos rfl], by rw [kOk, if_neg (by decide +kernel), if_neg (by decide +kernel)]⟩
        have dg := DGet.k (k := .inr h) hd1
        rw [e1] at dg
        refine ⟨_, rfl, _, rfl, p, _, _, _, rfl, rfl, SqT.of hp1, at_of (j := 0) rfl rfl, dp, _, rfl, dg, (f, spTB g), hf, rfl, _, rfl, p, _, _, _, rfl, rfl, SqT.of hp1, at_of (j := 1) rfl rfl, x, rfl, hx, fun H2 s2 => ?_⟩
        have e3 : atOk h [.str x] = g x := e2
        rw [← e3]
        exact k _ (s1.trans s2)
      | non => exact iteN (by show ¬ decide (("NoneType" : String) = "str") = true; decide) (k _ s1)
      | int n => exact iteN (by show ¬ decide (("int" : String) = "str") = true; decide) (k _ s1)
      | tup l => exact iteN (by show ¬ decide (("tuple" : String) = "str") = true; decide) (k _ s1)
      | lst l => exact iteN (by show ¬ decide (("list" : String) = "str") = true; decide) (k _ s1)
    | u0 :: u1 :: u2 :: us, x1 :: x2 :: r, hl, _, _, _, _, _, k =>
      have e0 : atOk h (x1 :: x2 :: r) = false := by cases x1 <;> rfl
      rw [e0] at k
      refine iteN (fun z => ?_) (k _ s1)
      have z := of_decide_eq_true z
      rw [V.int.injEq, List.length_cons, List.length_cons, List.length_cons] at z
      omega
abbrev s_BadForm_init : Stmt := inClass (top 4) 0
theorem sc_BadForm_init : FnScope ["self", "path"] ["self", "path"] (defScope s_BadForm_init) := ⟨rfl, rfl, rfl, by decide +kernel, rfl, by decide +kernel, by decide +kernel⟩
theorem ok_BadForm (T : Tx w K mg) : Fm P w K mg base CX0 1 "BadForm" "__init__" ["self", "path"] (spX1 K "path") := by
  refine T.X_BadForm.init.ok0 sc_BadForm_init (fun _ _ _ _ _ _ us hl => match us, hl with | [_, _], _ => rfl)
    (fun vs H Q E h => ?_) (fun cdv A outer s H vs Q E hr h => ?_)
  · obtain ⟨a, C, v, rfl, _⟩ := h
    rfl
  · obtain ⟨a, C, v, rfl, TC, no, ha, k⟩ := h
    refine ⟨_, (pss_cons (ps_expr (pe_reinit rfl T.g_RoadError T.r_RoadError (pa_cons (pv 0) (pa_cons pe_str pa_nil))))
  (pss_one (ps_ost (pv 0) (pv 1)))), ?_⟩
    refine ⟨_, rfl, a, C, [.str "no form"], rfl, (by show 1 ≤ 1000; decide), TC, ha, _, rfl, _, rfl, a, C, rfl, TC, no, .inl ⟨ha, fun dx hdx ne => k dx hdx ne⟩⟩
/-- texts in a thing are not too long -/
def Th.short : Nat → Th → Prop
  | _, .str s => s.length ≤ 200000
  | n + 1, .tup l => l.length ≤ 1000 ∧ ∀ u ∈ l, u.short n
  | 0, .tup l => l.length ≤ 1000
  | _, _ => True
def sp_chk (K : PySem.W.Frag) (n : Nat) : Sp := fun vs H Q E => ∃ (v : V) (t : Th) (q0 q : Addr) (pth : List Int), vs = [v, .ref q] ∧ IsTh q0 H t v ∧ t.le n ∧ t.short n ∧ SqT K H q (pth.map V.int) ∧ pth.length + n ≤ 100 ∧
  (flt (n + 1) t = none → ∀ H', Same H H' → Q .non H') ∧
  ∀ rel, flt (n + 1) t = some rel → ∀ d r H', Same H H' → H' d = some (.xd [("path", .ref r)]) → SqT K H' r ((pth ++ rel).map V.int) → E (.ref (He.ga K "BadForm")) (some d) H'
def spCR (K : PySem.W.Frag) : Nat → Sp
  | 0 => fun _ _ _ _ => False
  | n + 1 => sp_chk K n
abbrev s_check_form : Stmt := top 19
theorem sc_check_form : FnScope ["form", "path", "k"] ["form", "path"] (defScope s_check_form) := ⟨rfl, rfl, rfl, by decide +kernel, rfl, by decide +kernel, by decide +kernel⟩
theorem chk_step (T : Tx w K mg) (n : Nat) (ih : Fk P w K mg base (L2N.CX P w) (n + 4) "check_form" ["form", "path"] (spCR K n)) : Fk P w K mg base (L2N.CX P w) (n + 5) "check_form" ["form", "path"] (sp_chk K n) := by
  refine T.F_check_form.ok sc_check_form (fun _ _ _ _ _ _ us hl => match us, hl with | [_, _], _ => rfl)
    (fun vs H Q E h => ?_) (fun cdv A outer s H vs Q E hr h => ?_)
  · obtain ⟨v, t, q0, q, pth, rfl, _⟩ := h
    rfl
  · obtain ⟨v, t, q0, q, pth, rfl, it, le, sh, hq, hl, k1, k0⟩ := h
    refine ⟨_, (pss_cons (ps_if (PW.pt (pw_or (pt_not (pt_val (pe_callB call_isi (by rfl) T.z_isinstance (by decide +kernel) (pa_cons (pv 0) (pa_cons (pe_bltn (v := .ty "tuple") (u := .type "tuple") rfl T.z_tuple (by decide +kernel) rfl) pa_nil))))) (pw_or (pt_cmpR op_eq (pe_callB call_len_seq (by rfl) T.z_len (by decide +kernel) (pa_cons (pv 0) pa_nil)) pe_int (nomark _)) (pw_or1 (pt_not (pt_val (pe_callB call_isi (by rfl) T.z_isinstance (by decide +kernel) (pa_cons (pe_ix ix_tup (pv 0) pe_int (fun _ _ => rfl)) (pa_cons (pe_bltn (v := .ty "str") (u := .type "str") rfl T.z_str (by decide +kernel) rfl) pa_nil)))))))))
  (pss_one (L2N.ps_raise rfl (L2N.takes_of rfl rfl rfl rfl) (pmk_xN T.X_BadForm (ok_BadForm T) (hr.mono (by omega)) rfl (pa_cons (pv 1) pa_nil))))
  pss_nil)
  (pss_one (ps_if (pt_cmpR op_inT (pe_ix ix_tup (pv 0) pe_int (fun _ _ => rfl)) (pe_tup (pa_cons pe_str (pa_cons pe_str (pa_cons pe_str pa_nil)))) (by rfl))
  (pss_one (ps_if (pt_not (pt_val (pe_fk (ok_is_atom_form T) (hr.mono (by omega)) rfl pass0 (pa_cons (pv 0) pa_nil))))
  (pss_one (L2N.ps_raise rfl (L2N.takes_of rfl rfl rfl rfl) (pmk_xN T.X_BadForm (ok_BadForm T) (hr.mono (by omega)) rfl (pa_cons (pv 1) pa_nil))))
  pss_nil))
  (pss_one (ps_if (PW.pt (pw_or (pt_cmpR (op_notInK T.D_SIGNS) (pe_ix ix_tup (pv 0) pe_int (fun _ _ => rfl)) (pe_kd T.D_SIGNS) (by rfl)) (pw_or1 (pt_cmpR op_ne (pe_callB call_len_seq (by rfl) T.z_len (by decide +kernel) (pa_cons (pv 0) pa_nil)) (pe_op op_add (pe_ix (ix_K T.D_SIGNS) (pe_kd T.D_SIGNS) (pe_ix ix_tup (pv 0) pe_int (fun _ _ => rfl)) (fun _ _ => rfl)) pe_int) (nomark _)))))
  (pss_one (L2N.ps_raise rfl (L2N.takes_of rfl rfl rfl rfl) (pmk_xN T.X_BadForm (ok_BadForm T) (hr.mono (by omega)) rfl (pa_cons (pv 1) pa_nil))))
  (pss_cons (ps_for (passes_of rfl) rfl (pi_range2 rfl T.z_range (pa_cons pe_int (pa_cons (pe_callB call_len_seq (by rfl) T.z_len (by decide +kernel) (pa_cons (pv 0) pa_nil)) pa_nil))) (pg_name (i := 2) sc_check_form.nd rfl (Or.inl rfl))
  (pss_one (ps_expr (pe_fk ih (hr.mono (by omega)) rfl (L2N.passes_call (L2N.takes_of rfl rfl rfl rfl) (fun _ _ _ _ h => h)) (pa_cons (pe_ix ix_tup (pv 0) (pv 2) (fun _ _ => rfl)) (pa_cons (pe_op op_catA (pv 1) (pe_tup (pa_cons (pv 2) pa_nil))) pa_nil))))))
  (pss_one (ps_if (PW.pt (pw_and (pt_cmpR op_eq (pe_ix ix_tup (pv 0) pe_int (fun _ _ => rfl)) pe_str (nomark _)) (pw_and1 (pt_cmpR op_notInT (pe_ix ix_tup (pe_ix ix_tup (pv 0) pe_int (fun _ _ => rfl)) pe_int (fun _ _ => rfl)) (pe_tup (pa_cons pe_str (pa_cons pe_str pa_nil))) (by rfl)))))
  (pss_one (L2N.ps_raise rfl (L2N.takes_of rfl rfl rfl rfl) (pmk_xN T.X_BadForm (ok_BadForm T) (hr.mono (by omega)) rfl (pa_cons (pv 1) pa_nil))))
  pss_nil)))))))), ?_⟩
    have rz : ∀ {H1 : Hp} {σ : St}, Same H H1 → flt (n + 1) t = some [] → σ[1]? = some (some (.ref q)) → tMkO (He.ga K "BadForm") (spX1 K "path") [] (tCons (tVar 1) tNil) σ H1 (fun cls d H' => E cls d H') := fun {H1 σ} s1 e e1 => by
      refine ⟨_, e1, rd_raise1 T.X_BadForm.oex T.X_BadForm.no fun d H' s' nd hd => k0 [] e d q H' (s1.trans s') hd ?_⟩
      rw [List.append_nil]
      exact SqT.kept hq (s1.trans s')
    cases t with
    | tup l =>
      cases l with
      | nil =>
        obtain ⟨p, us, rfl, hp, hl2, hi⟩ := it.tup_inv
        refine seqIf (b := true) (tb_or (b := false) (c := true) (tb_not (b := true) fun Q2 kq => ⟨_, rfl, .ref p, .ty "tuple", _, _, _, rfl, .ty "tuple", it.tyx, isi_th (.inl rfl), _, rfl, kq _ (Same.refl _)⟩) (fun H2 s2 _ => tb_or (b := true) (c := true) (fun Q2 kq => ⟨_, rfl, p, _, rfl, .inr (SqT.of (s2 _ _ hp)), rfl, _, rfl, ?_⟩) (fun _ _ h => by cases h))) fun H1 s1 => iteT (rz s1 (by rfl) rfl)
        rw [hl2]
        exact kq _ (Same.refl _)
      | cons x r =>
        obtain ⟨p, us, rfl, hp, hl2, hi⟩ := it.tup_inv
        cases us with
        | nil => cases hl2
        | cons u us =>
          have i0 := hi 0 x u rfl rfl
          cases x with
          | str h =>
            obtain rfl := i0.str_inv
            refine seqIf (tb_or (b := false) (c := (false || !true)) (tb_not (b := true) fun Q2 kq => ⟨_, rfl, .ref p, .ty "tuple", _, _, _, rfl, .ty "tuple", it.tyx, isi_th (.inl rfl), _, rfl, kq _ (Same.refl _)⟩) (fun H2 s2 _ => tb_or (b := false) (c := !true) (fun Q2 kq => ⟨_, rfl, p, _, rfl, .inr (SqT.of (s2 _ _ hp)), rfl, _, rfl, (by
              rw [decide_eq_false (fun z => by
                rw [V.int.injEq, List.length_cons] at z
                omega)]
              exact kq _ (Same.refl _))⟩) (fun H3 s3 _ => tb_not (b := true) fun Q2 kq => ⟨_, rfl, p, _, _, _, rfl, rfl, SqT.of (s3 _ _ (s2 _ _ hp)), at_of (j := 0) rfl rfl, _, .ty "str", _, _, _, rfl, .ty "str", (i0.same (s2.trans s3)).tyx, isi_th (.inr rfl), _, rfl, (by rw [show decide (_ = ("str" : String)) = true from (by show decide (("str" : String) = "str") = true; decide)]; exact kq _ (Same.refl _))⟩))) fun H1 s1 => iteF (nxt ?_)
            try dsimp only
            refine ⟨_, rfl, p, _, _, _, rfl, rfl, SqT.of (s1 _ _ hp), at_of (j := 0) rfl rfl, (by show 3 ≤ sizeLine; decide), fun q1 hq1 => ⟨_, q1, ["word", "name", "unknown"], rfl, rfl, SqT.of upd_same, _, rfl, ?_⟩⟩
            have s2 := s1.trans (Rd.Same.upd (o := .tup [.str "word", .str "name", .str "unknown"]) hq1)
            generalize upd H1 q1 (.tup [.str "word", .str "name", .str "unknown"]) = H2 at s2 ⊢
            have shr : r.length + 1 ≤ 1000 := by
              cases n with
              | zero => exact sh
              | succ n => exact sh.1
            by_cases hk : h ∈ kindL
            · refine iteP (decide_eq_true hk) ?_
              refine ⟨_, rfl, .ref p, q0, h, r, rfl, it.same s2, hk, (fun x e => ?_), fun H3 s3 => ⟨_, rfl, ?_⟩⟩
              · cases n with
                | zero => cases le
                | succ n =>
                  subst e
                  have z := sh.2 (.str x) (List.mem_cons_of_mem _ List.mem_cons_self)
                  cases n <;> exact z
              · have e : flt (n + 1) (.tup (.str h :: r)) = if atOk h r = true then none else some [] := by rw [flt, if_pos hk]
                cases ha : atOk h r with
                | true =>
                  rw [if_pos ha] at e
                  exact iteF (nxt (k1 e H3 (s2.trans s3)))
                | false =>
                  rw [if_neg (by rw [ha]; decide)] at e
                  exact iteT (rz (s2.trans s3) e rfl)
            · refine iteN (fun z => hk (of_decide_eq_true z)) ?_
              cases hm : sgv.lookup h with
              | none =>
                have e : flt (n + 1) (.tup (.str h :: r)) = some [] := by
                  rw [flt, if_neg hk, hm]
                have nin : h ∉ sgv.map (·.1) := fun z => by
                  have : ∀ y ∈ sgv.map (·.1), sgv.lookup y ≠ none := by decide +kernel
                  exact this h z hm
                refine oneIf (b := true) (tb_or (b := true) (c := true) (fun Q2 kq => ⟨_, rfl, p, _, _, _, rfl, rfl, SqT.of (s2 _ _ hp), at_of (j := 0) rfl rfl, _, rfl, rfl, _, rfl, ?_⟩) (fun _ _ z => by cases z)) fun H3 s3 => iteT (rz (s2.trans s3) e rfl)
                rw [show decide (h ∈ ([("pair", 2), ("seal", 2), ("lock", 2), ("mark", 1), ("open", 1), ("own", 1)] : List (Str × Int)).map (·.1)) = false from decide_eq_false nin]
                exact kq _ (Same.refl _)
              | some m =>
                have mem := look_mem hm
                have hin : h ∈ sgv.map (·.1) := List.mem_map.mpr ⟨_, mem, rfl⟩
                refine oneIf (b := (false || decide ((r.length : Int) ≠ m))) (tb_or (b := false) (c := decide ((r.length : Int) ≠ m)) (fun Q2 kq => ⟨_, rfl, p, _, _, _, rfl, rfl, SqT.of (s2 _ _ hp), at_of (j := 0) rfl rfl, _, rfl, rfl, _, rfl, ?_⟩) (fun H3 s3 _ Q2 kq => ⟨_, rfl, p, _, rfl, .inr (SqT.of (s3 _ _ (s2 _ _ hp))), _, rfl, p, _, _, _, rfl, rfl, SqT.of (s3 _ _ (s2 _ _ hp)), at_of (j := 0) rfl rfl, (h, m), mem, rfl, rfl, _, _, rfl, rfl, rfl, _, rfl, ?_⟩)) fun H3 s3 => ?_
                · rw [show decide (h ∈ ([("pair", 2), ("seal", 2), ("lock", 2), ("mark", 1), ("open", 1), ("own", 1)] : List (Str × Int)).map (·.1)) = true from decide_eq_true hin]
                  exact kq _ (Same.refl _)
                · have e : (!decide (V.int ((V.str h :: us).length : Int) = V.int (m + 1))) = decide ((r.length : Int) ≠ m) := by
                    have hl3 : us.length = r.length := Nat.succ.inj hl2
                    rw [List.length_cons, hl3]
                    by_cases z : (r.length : Int) = m
                    · rw [decide_eq_true (show V.int ((r.length + 1 : Nat) : Int) = V.int (m + 1) by rw [← z]; rfl)]
                      simp [z]
                    · rw [decide_eq_false (show ¬ V.int ((r.length + 1 : Nat) : Int) = V.int (m + 1) from fun y => z (by rw [V.int.injEq] at y; omega))]
                      simp [z]
                  show Q2 (!decide (V.int ((V.str h :: us).length : Int) = V.int (m + 1))) H3
                  rw [e]
                  exact kq _ (Same.refl _)
                rw [Bool.false_or]
                have hl3 : us.length = r.length := Nat.succ.inj hl2
                have s23 := s2.trans s3
                by_cases hlen : (r.length : Int) ≠ m
                · refine iteP (decide_eq_true hlen) (rz s23 ?_ rfl)
                  rw [flt, if_neg hk, hm]
                  show (if _ then _ else _) = _
                  rw [if_pos hlen]
                · refine iteN (fun z => hlen (of_decide_eq_true z)) ?_
                  obtain ⟨ef1, ef0⟩ := flt_sg (n := n) hk hm hlen
                  cases n with
                  | zero => cases le
                  | succ n =>
                    refine ⟨_, rfl, p, _, rfl, .inr (SqT.of (s23 _ _ hp)), _, _, rfl, ⟨(by decide), (by decide), (by rw [List.length_cons]; omega), (by rw [List.length_cons]; omega)⟩, for_range (lo := 1) (fun i σ Hc => Same H Hc ∧ (∀ (j : Nat) t, j < i → r[j]? = some t → flt (n + 1) t = none) ∧ ∃ t2, σ = [some (.ref p), some (.ref q), t2]) ⟨s23, (fun j t hj => by omega), _, rfl⟩ ?_ ?_⟩
                    · rintro i σ Hc hi2 ⟨sc, hno, t2, rfl⟩
                      refine gName_k ?_
                      try dsimp only
                      have hi3 : i < r.length := by
                        rw [List.length_cons] at hi2
                        omega
                      have hr1 : r[i]? = some r[i] := List.getElem?_eq_getElem hi3
                      have hu1 : us[i]? = some us[i] := List.getElem?_eq_getElem (by omega)
                      have iu := (hi (i + 1) r[i] us[i] hr1 hu1).same sc
                      have hle : r[i].le n := le r[i] (List.mem_cons_of_mem _ (List.getElem_mem hi3))
                      have hsh : r[i].short n := sh.2 r[i] (List.mem_cons_of_mem _ (List.getElem_mem hi3))
                      have fin : ∀ {q2 : Addr} {H4 : Hp}, Same H H4 → SqT K H4 q2 ((pth ++ [1 + (i : Int)]).map V.int) → sp_chk K n [us[i], .ref q2] H4 (fun _ H5 => Same H H5 ∧ (∀ (j : Nat) t, j < i + 1 → r[j]? = some t → flt (n + 1) t = none) ∧ ∃ t2, ([some (.ref p), some (.ref q), some (.int (1 + (i : Int)))] : St) = [some (.ref p), some (.ref q), t2]) E := fun {q2 H4} s4 hq2 => by
                        refine ⟨us[i], r[i], q0, q2, pth ++ [1 + (i : Int)], rfl, (hi (i + 1) r[i] us[i] hr1 hu1).same s4, hle, hsh, hq2, (by rw [List.length_append, List.length_singleton]; omega), fun e H5 s5 => ⟨s4.trans s5, fun j t hj ht => ?_, _, rfl⟩, fun rel e d r2 H5 s5 hd hr2 => ?_⟩
                        · by_cases hji : j < i
                          · exact hno j t hji ht
                          · have : j = i := by omega
                            subst this
                            rw [hr1] at ht
                            cases ht
                            exact e
                        · have e1 := ef1 _ (fltL_at (k := 1) hno hr1 e)
                          refine k0 _ e1 d r2 H5 (s4.trans s5) hd ?_
                          rw [List.append_assoc] at hr2
                          exact hr2
                      refine ⟨_, rfl, _, rfl, p, _, _, us[i], rfl, rfl, SqT.of (sc _ _ hp), (by rw [show (1 + (i : Int)) = ((i + 1 : Nat) : Int) by omega]; exact atI_nat hu1), ?_⟩
                      refine ⟨_, rfl, _, rfl, (by show 1 ≤ sizeLine; decide), fun q1 hq1 => ?_⟩
                      have s4 := sc.trans (Rd.Same.upd (o := .tup [.int (1 + (i : Int))]) hq1)
                      refine ⟨q, q1, _, _, rfl, rfl, SqT.kept hq s4, SqT.of upd_same, (by rw [List.length_map, List.length_singleton]; have : 1000 ≤ sizeLine := by decide
                                                                                          omega), fun e => fin s4 ?_, (fun _ e => by cases e), fun _ _ q2 hq2 => fin (s4.trans (Rd.Same.upd hq2)) ?_⟩
                      · have e : pth = [] := List.map_eq_nil_iff.mp e
                        subst e
                        exact SqT.of upd_same
                      · rw [List.map_append]
                        exact SqT.of upd_same
                    · rintro σ Hc ⟨sc, hno, t2, rfl⟩
                      have hall : ∀ (j : Nat) t, r[j]? = some t → flt (n + 1) t = none := fun j t ht => by
                        have := (List.getElem?_eq_some_iff.mp ht).1
                        exact hno j t (by rw [List.length_cons]; omega) ht
                      have ef2 := ef0 (fltL_none hall)
                      have hpc := sc _ _ hp
                      try dsimp only
                      by_cases hlk : h = "lock"
                      · subst hlk
                        have em : m = 2 := by
                          have z : sgv.lookup ("lock" : Str) = some 2 := by decide +kernel
                          rw [z] at hm
                          exact (Option.some.inj hm).symm
                        subst em
                        have hr2 : r.length = 2 := by omega
                        obtain ⟨x1, x2, rfl⟩ : ∃ x1 x2, r = [x1, x2] := by
                          match r, hr2 with
                          | [x1, x2], _ => exact ⟨x1, x2, rfl⟩
                        obtain ⟨u1, u2, rfl⟩ : ∃ u1 u2, us = [u1, u2] := by
                          match us, hl3 with
                          | [u1, u2], _ => exact ⟨u1, u2, rfl⟩
                        · skip
                          obtain ⟨h2, r2, rfl⟩ := flt_hd (hall 1 x2 rfl)
                          obtain ⟨p2, us2, rfl, hp2, hl4, hi4⟩ := ((hi 2 _ u2 rfl rfl).same sc).tup_inv
                          cases us2 with
                          | nil => cases hl4
                          | cons u3 us2 =>
                            obtain rfl := (hi4 0 (.str h2) u3 rfl rfl).str_inv
                            refine oneIf (b := (true && !decide (h2 ∈ (["open", "own"] : List Str)))) (tb_and (b := true) (c := !decide (h2 ∈ (["open", "own"] : List Str))) (fun Q2 kq => ⟨_, rfl, p, _, _, _, rfl, rfl, SqT.of hpc, at_of (j := 0) rfl rfl, rfl, _, rfl, kq _ (Same.refl _)⟩) (fun H3 s3 _ Q2 kq => ⟨_, rfl, p, _, _, _, rfl, rfl, SqT.of (s3 _ _ hpc), at_of (j := 2) rfl rfl, p2, _, _, _, rfl, rfl, SqT.of (s3 _ _ hp2), at_of (j := 0) rfl rfl, (by show 2 ≤ sizeLine; decide), fun q3 hq3 => ⟨_, q3, ["open", "own"], rfl, rfl, SqT.of upd_same, _, rfl, kq _ (Rd.Same.upd hq3)⟩⟩)) fun H3 s3 => ?_
                            have ek : keyTh [x1, .tup (.str h2 :: r2)] = decide (h2 ∈ (["open", "own"] : List Str)) := rfl
                            rw [← ek]
                            cases hky : keyTh [x1, .tup (.str h2 :: r2)] with
                            | true =>
                              rw [if_neg (fun z => by rw [hky] at z; cases z.2)] at ef2
                              exact iteF (nxt (k1 ef2 H3 (sc.trans s3)))
                            | false =>
                              rw [if_pos ⟨rfl, hky⟩] at ef2
                              exact iteT (rz (sc.trans s3) ef2 rfl)
                      · rw [if_neg (fun z => hlk z.1)] at ef2
                        refine oneIf (b := false) (tb_and (b := false) (c := false) (fun Q2 kq => ⟨_, rfl, p, _, _, _, rfl, rfl, SqT.of hpc, at_of (j := 0) rfl rfl, rfl, _, rfl, ?_⟩) (fun _ _ z => by cases z)) fun H3 s3 => iteF (nxt (k1 ef2 H3 (sc.trans s3)))
                        rw [decide_eq_false (fun z => hlk (by cases z; rfl))]
                        exact kq _ (Same.refl _)
          | non => exact seqIf (tb_or (b := false) (c := (false || !false)) (tb_not (b := true) fun Q2 kq => ⟨_, rfl, .ref p, .ty "tuple", _, _, _, rfl, .ty "tuple", it.tyx, isi_th (.inl rfl), _, rfl, kq _ (Same.refl _)⟩) (fun H2 s2 _ => tb_or (b := false) (c := !false) (fun Q2 kq => ⟨_, rfl, p, _, rfl, .inr (SqT.of (s2 _ _ hp)), rfl, _, rfl, (by
              rw [decide_eq_false (fun z => by
                rw [V.int.injEq, List.length_cons] at z
                omega)]
              exact kq _ (Same.refl _))⟩) (fun H3 s3 _ => tb_not (b := false) fun Q2 kq => ⟨_, rfl, p, _, _, _, rfl, rfl, SqT.of (s3 _ _ (s2 _ _ hp)), at_of (j := 0) rfl rfl, _, .ty "str", _, _, _, rfl, .ty "str", (i0.same (s2.trans s3)).tyx, isi_th (.inr rfl), _, rfl, (by rw [show decide (_ = ("str" : String)) = false from (by show decide (("NoneType" : String) = "str") = false; decide)]; exact kq _ (Same.refl _))⟩))) fun H1 s1 => iteT (rz s1 (by rfl) rfl)
          | int m => exact seqIf (tb_or (b := false) (c := (false || !false)) (tb_not (b := true) fun Q2 kq => ⟨_, rfl, .ref p, .ty "tuple", _, _, _, rfl, .ty "tuple", it.tyx, isi_th (.inl rfl), _, rfl, kq _ (Same.refl _)⟩) (fun H2 s2 _ => tb_or (b := false) (c := !false) (fun Q2 kq => ⟨_, rfl, p, _, rfl, .inr (SqT.of (s2 _ _ hp)), rfl, _, rfl, (by
              rw [decide_eq_false (fun z => by
                rw [V.int.injEq, List.length_cons] at z
                omega)]
              exact kq _ (Same.refl _))⟩) (fun H3 s3 _ => tb_not (b := false) fun Q2 kq => ⟨_, rfl, p, _, _, _, rfl, rfl, SqT.of (s3 _ _ (s2 _ _ hp)), at_of (j := 0) rfl rfl, _, .ty "str", _, _, _, rfl, .ty "str", (i0.same (s2.trans s3)).tyx, isi_th (.inr rfl), _, rfl, (by rw [show decide (_ = ("str" : String)) = false from (by show decide (("int" : String) = "str") = false; decide)]; exact kq _ (Same.refl _))⟩))) fun H1 s1 => iteT (rz s1 (by rfl) rfl)
          | tup m => exact seqIf (tb_or (b := false) (c := (false || !false)) (tb_not (b := true) fun Q2 kq => ⟨_, rfl, .ref p, .ty "tuple", _, _, _, rfl, .ty "tuple", it.tyx, isi_th (.inl rfl), _, rfl, kq _ (Same.refl _)⟩) (fun H2 s2 _ => tb_or (b := false) (c := !false) (fun Q2 kq => ⟨_, rfl, p, _, rfl, .inr (SqT.of (s2 _ _ hp)), rfl, _, rfl, (by
              rw [decide_eq_false (fun z => by
                rw [V.int.injEq, List.length_cons] at z
                omega)]
              exact kq _ (Same.refl _))⟩) (fun H3 s3 _ => tb_not (b := false) fun Q2 kq => ⟨_, rfl, p, _, _, _, rfl, rfl, SqT.of (s3 _ _ (s2 _ _ hp)), at_of (j := 0) rfl rfl, _, .ty "str", _, _, _, rfl, .ty "str", (i0.same (s2.trans s3)).tyx, isi_th (.inr rfl), _, rfl, (by rw [show decide (_ = ("str" : String)) = false from (by show decide (("tuple" : String) = "str") = false; decide)]; exact kq _ (Same.refl _))⟩))) fun H1 s1 => iteT (rz s1 (by rfl) rfl)
          | lst m => exact seqIf (tb_or (b := false) (c := (false || !false)) (tb_not (b := true) fun Q2 kq => ⟨_, rfl, .ref p, .ty "tuple", _, _, _, rfl, .ty "tuple", it.tyx, isi_th (.inl rfl), _, rfl, kq _ (Same.refl _)⟩) (fun H2 s2 _ => tb_or (b := false) (c := !false) (fun Q2 kq => ⟨_, rfl, p, _, rfl, .inr (SqT.of (s2 _ _ hp)), rfl, _, rfl, (by
              rw [decide_eq_false (fun z => by
                rw [V.int.injEq, List.length_cons] at z
                omega)]
              exact kq _ (Same.refl _))⟩) (fun H3 s3 _ => tb_not (b := false) fun Q2 kq => ⟨_, rfl, p, _, _, _, rfl, rfl, SqT.of (s3 _ _ (s2 _ _ hp)), at_of (j := 0) rfl rfl, _, .ty "str", _, _, _, rfl, .ty "str", (i0.same (s2.trans s3)).tyx, isi_th (.inr rfl), _, rfl, (by rw [show decide (_ = ("str" : String)) = false from (by show decide (("list" : String) = "str") = false; decide)]; exact kq _ (Same.refl _))⟩))) fun H1 s1 => iteT (rz s1 (by rfl) rfl)
    | _ =>
      refine seqIf (b := true) (tb_or (b := true) (c := true) (tb_not (b := false) fun Q2 kq => ⟨_, rfl, v, .ty "tuple", _, _, _, rfl, .ty "tuple", it.tyx, isi_th (.inl rfl), _, rfl, kq _ (Same.refl _)⟩) (fun _ _ h => by cases h)) fun H1 s1 => iteT (rz s1 (by rfl) rfl)
theorem chk_none (T : Tx w K mg) : Fk P w K mg base (L2N.CX P w) 1 "check_form" ["form", "path"] (spCR K 0) := by
  refine T.F_check_form.ok sc_check_form (fun _ _ _ _ _ _ us hl => match us, hl with | [_, _], _ => rfl) (fun vs H Q E h => h.elim) (fun cdv A outer s H vs Q E hr h => h.elim)
theorem ok_check_form (T : Tx w K mg) : ∀ n : Nat, Fk P w K mg base (L2N.CX P w) (n + 5) "check_form" ["form", "path"] (sp_chk K n)
  | 0 => chk_step T 0 ((chk_none T).mono (by decide))
  | n + 1 => chk_step T (n + 1) (ok_check_form T n)
/-- Letter.of(form) -/
def sp_of (K : PySem.W.Frag) (n : Nat) : Sp := fun vs H Q E => ∃ (v : V) (t : Th) (q0 : Addr), vs = [v] ∧ IsTh q0 H t v ∧ t.le n ∧ t.short n ∧ n ≤ 100 ∧
  (flt (n + 1) t = none → ∀ x H', Same H H' → IsL K H' x v → Q (.ref x) H') ∧
  ∀ rel, flt (n + 1) t = some rel → ∀ d r H', Same H H' → H' d = some (.xd [("path", .ref r)]) → SqT K H' r (rel.map V.int) → E (.ref (He.ga K "BadForm")) (some d) H'
abbrev s_Letter_of : Stmt := inClass (top 25) 1
theorem sc_Letter_of : FnScope ["form"] ["form"] (defScope s_Letter_of) := ⟨rfl, rfl, rfl, by decide +kernel, rfl, by decide +kernel, by decide +kernel⟩
theorem ok_of (T : Tx w K mg) (d : Nat) : Fs P w K mg base (L2N.CX P w) (d + 6) "Letter" "of" "Letter.of" (inClass (top 25) 1) ["form"] (sp_of K d) := by
  refine T.S_Letter_of.ok sc_Letter_of (fun _ _ _ _ _ _ us hl => match us, hl with | [_], _ => rfl)
    (fun vs H Q E h => ?_) (fun cdv A outer s H vs Q E hr h => ?_)
  · obtain ⟨v, t, q0, rfl, _⟩ := h
    rfl
  · obtain ⟨v, t, q0, rfl, it, le, sh, hn, k1, k0⟩ := h
    refine ⟨_, (pss_cons (ps_expr (pe_fk (ok_check_form T d) (hr.mono (by omega)) rfl (L2N.passes_call (L2N.takes_of rfl rfl rfl rfl) (fun _ _ _ _ h => h)) (pa_cons (pv 0) (pa_cons (pe_tup pa_nil) pa_nil))))
  (pss_one (ps_ret (pe_mk2 (ok_Letter T) (hr.mono (by omega)) (by rfl) passN (pa_cons pe_str (pa_cons (pv 0) pa_nil)))))), ?_⟩
    refine ⟨_, rfl, (by show 0 ≤ sizeLine; decide), fun q hq => ?_⟩
    have s1 := Rd.Same.upd (o := .tup []) hq
    refine ⟨v, t, q0, q, [], rfl, it.same s1, le, sh, SqT.of upd_same, (by show 0 + d ≤ 100; omega), fun e H2 s2 => ?_, fun rel e dd r H2 s2 hd hr2 => k0 rel e dd r H2 (s1.trans s2) hd hr2⟩
    obtain ⟨s0, r0, rfl⟩ := flt_hd e
    obtain ⟨p, us, rfl, hp, _⟩ := it.tup_inv
    exact ⟨_, rfl, rd_mkL ((s1.trans s2) _ _ hp) fun x H' s' hl' => k1 e x H' ((s1.trans s2).trans s') hl'⟩
end
end Rd
namespace Rd
open PySem L2
section
variable {P : Program} {w : World} {K : PySem.W.Frag} {mg : Str → Option Value} {base : Heap}
theorem Wf.short {t : Tr} (w : Wf t) : ∀ n, t.dep + 1 ≤ n → t.th.short n := by
  have kd : ∀ {k x : Str}, kindOk k x → k.length ≤ 200000 ∧ x.length ≤ 200000 := fun {k x} h => by
    rcases h with ⟨rfl, h⟩ | ⟨rfl, h⟩ | ⟨rfl, h⟩
    · exact ⟨by decide, by have := (word_len h).2.1; omega⟩
    · exact ⟨by decide, by have := (name_len h).1; omega⟩
    · exact ⟨by decide, by have := (unk_len h).1; omega⟩
  have st : ∀ {n : Nat} {s : Str}, s.length ≤ 200000 → (Th.str s).short n := fun {n s} h => by cases n <;> exact h
  have sg : ∀ {s : Str} {l : List Str}, s ∈ l → l.all (fun z => decide (z.length ≤ 200000)) = true → s.length ≤ 200000 := fun {s l} h e => of_decide_eq_true (List.all_eq_true.mp e s h)
  induction w with
  | @am k x ko =>
    intro n h
    cases n with
    | zero => omega
    | succ n =>
      refine ⟨(by show 2 ≤ 1000; decide), fun u hu => ?_⟩
      rcases List.mem_cons.mp hu with rfl | hu
      · exact st (kd ko).1
      · rw [List.mem_singleton.mp hu]
        exact st (kd ko).2
  | @un s a hs _ ih =>
    intro n h
    have h : a.dep + 1 + 1 ≤ n := h
    cases n with
    | zero => omega
    | succ n =>
      refine ⟨(by show 2 ≤ 1000; decide), fun u hu => ?_⟩
      rcases List.mem_cons.mp hu with rfl | hu
      · exact st (sg hs (by decide))
      · rw [List.mem_singleton.mp hu]
        exact ih n (by omega)
  | @bi s a b hs _ _ iha ihb =>
    intro n h
    have h : max a.dep b.dep + 1 + 1 ≤ n := h
    cases n with
    | zero => omega
    | succ n =>
      refine ⟨(by show 3 ≤ 1000; decide), fun u hu => ?_⟩
      rcases List.mem_cons.mp hu with rfl | hu
      · exact st (sg hs (by decide))
      rcases List.mem_cons.mp hu with rfl | hu
      · exact iha n (by omega)
      · rw [List.mem_singleton.mp hu]
        exact ihb n (by omega)
  | @lk s a b hs _ _ iha ihb =>
    intro n h
    have h : max a.dep (b.dep + 1) + 1 + 1 ≤ n := h
    cases n with
    | zero => omega
    | succ n =>
      refine ⟨(by show 3 ≤ 1000; decide), fun u hu => ?_⟩
      rcases List.mem_cons.mp hu with rfl | hu
      · exact st (by decide)
      rcases List.mem_cons.mp hu with rfl | hu
      · exact iha n (by omega)
      · rw [List.mem_singleton.mp hu]
        cases n with
        | zero => omega
        | succ n =>
          refine ⟨(by show 2 ≤ 1000; decide), fun u hu => ?_⟩
          rcases List.mem_cons.mp hu with rfl | hu
          · exact st (sg hs (by decide))
          · rw [List.mem_singleton.mp hu]
            exact ihb n (by omega)
end
end Rd
namespace Rd
open PySem L2
theorem pe_new {X : Cx} {CX : CXT} {k : Nat} {c : Str} {ps : List Str} {sp : Sp} {e : Expr} {es : List Expr} {t : TA} {p pos : Pos} {E : XK} (M : Mk X.K (He.ga X.K c) (He.ma X.K (He.ga X.K c) "__init__")) (g : X.mg c = some (.ref (He.ga X.K c))) (F : Fm X.prog X.w X.K X.mg X.base CX k c "__init__" ps sp) (hr : Room (k + 1) X.A) (hg : Gl X c) (hx : Passes CX X E) (ha : PA X (e :: es) t)
    (hdb : (c == ("__debug__" : Str)) = false := by decide) (he : starEach (e :: es) X.env = (false, eval e X.env) :: starEach es X.env := by rfl) (hpl : (backTo pos (starEach es X.env)).any (·.1) = false := by rfl) :
    PE X (.Call (.Name c p) (e :: es) [] pos) (tMake (He.ga X.K c) sp [] E t) := by
  obtain ⟨⟨fd, a, b⟩, me⟩ := F
  exact pe_make M a hr hg g b .nil hx ha hdb he hpl
/-- a list of letters -/
structure LsAt (K : PySem.W.Frag) (H : Hp) (ts : List Tr) (vs : List V) : Prop where
  len : vs.length = ts.length
  get : ∀ (i : Nat) t v, ts[i]? = some t → vs[i]? = some v → IsLet K H t v
theorem LsAt.mono {K : PySem.W.Frag} {H H' : Hp} {ts : List Tr} {vs : List V} (k : Kp (He.ga K "Letter") H H') (h : LsAt K H ts vs) : LsAt K H' ts vs := ⟨h.len, fun i t v h1 h2 => (h.get i t v h1 h2).mono k⟩
theorem LsAt.same {K : PySem.W.Frag} {H H' : Hp} {ts : List Tr} {vs : List V} (s : Same H H') (h : LsAt K H ts vs) : LsAt K H' ts vs := h.mono (Kp.of_same s)
theorem LsAt.app {K : PySem.W.Frag} {H : Hp} {ts us : List Tr} {vs ws : List V} (h : LsAt K H ts vs) (g : LsAt K H us ws) : LsAt K H (ts ++ us) (vs ++ ws) := ⟨by rw [List.length_append, List.length_append, h.len, g.len], fun i t v h1 h2 => by
  by_cases hi : i < ts.length
  · rw [List.getElem?_append_left hi] at h1
    rw [List.getElem?_append_left (by rw [h.len]; exact hi)] at h2
    exact h.get i t v h1 h2
  · rw [List.getElem?_append_right (by omega)] at h1
    rw [List.getElem?_append_right (by rw [h.len]; omega), h.len] at h2
    exact g.get _ t v h1 h2⟩
theorem LsAt.of {K : PySem.W.Frag} {H : Hp} {ts : List Tr} {vs : List V} (hl : vs.length = ts.length) (h : ∀ (i : Nat) v, vs[i]? = some v → ∃ t, ts[i]? = some t ∧ IsLet K H t v) : LsAt K H ts vs := ⟨hl, fun i t v h1 h2 => by
  obtain ⟨t', e, q⟩ := h i v h2
  rw [h1] at e
  cases e
  exact q⟩
theorem TsAt.of {H : Hp} {ts : List Tr} {vs : List V} (hl : vs.length = ts.length) (h : ∀ (i : Nat) v, vs[i]? = some v → ∃ t, ts[i]? = some t ∧ IsT H t v) : TsAt H ts vs := ⟨hl, fun i t v h1 h2 => by
  obtain ⟨t', e, q⟩ := h i v h2
  rw [h1] at e
  cases e
  exact q⟩
/-- the heap at h holds the forms ts -/
def IsHp (K : PySem.W.Frag) (H : Hp) (h : Addr) (ts : List Tr) : Prop := ∃ dx q ws, H h = some (.ins (He.ga K "Heap") dx [("trees", .ref q)]) ∧ H q = some (.lst ws) ∧ TsAt H ts ws
theorem IsHp.same {K : PySem.W.Frag} {H H' : Hp} {h : Addr} {ts : List Tr} (s : Same H H') (x : IsHp K H h ts) : IsHp K H' h ts := by
  obtain ⟨dx, q, ws, a, b, c⟩ := x
  exact ⟨dx, q, ws, s _ _ a, s _ _ b, c.same s⟩
theorem lookTr (v : V) : ([("trees", v)] : List (Str × V)).lookup ("trees" : Str) = some v := by simp [List.lookup]
def plainT (t : Tr) : Prop := t.txt "unknown" = []
def sp_isPlain (K : PySem.W.Frag) (d : Nat) : Sp := fun vs H Q _ => ∃ (a : Addr) (v : V) (t : Tr), vs = [.ref a] ∧ IsL K H a v ∧ IsT H t v ∧ Wf t ∧ t.dep ≤ d ∧ d ≤ 10 ∧ plainT t ∧ ∀ H', Same H H' → Q (.bl true) H'
def sp_chkPlain (K : PySem.W.Frag) (d : Nat) : Sp := fun vs H Q _ => ∃ (a : Addr) (v i : V) (t : Tr), vs = [.ref a, i] ∧ IsL K H a v ∧ IsT H t v ∧ Wf t ∧ t.dep ≤ d ∧ d ≤ 10 ∧ plainT t ∧ ∀ H', Same H H' → Q .non H'
def okTs (d : Nat) (ts : List Tr) : Prop := ts.length ≤ 1000 ∧ ∀ t ∈ ts, Wf t ∧ t.dep ≤ d ∧ plainT t
def sp_Hinit (K : PySem.W.Frag) (d : Nat) : Sp := fun vs H Q _ => ∃ (x dx a : Addr) (ws : List V) (ts : List Tr), vs = [.ref x, .ref a] ∧ H x = some (.ins (He.ga K "Heap") dx []) ∧ H a = some (.lst ws) ∧ LsAt K H ts ws ∧ okTs d ts ∧ d ≤ 10 ∧
  ∀ q us H', But x H H' → H q = none → H' x = some (.ins (He.ga K "Heap") dx [("trees", .ref q)]) → H' q = some (.lst us) → TsAt H' ts us → Q .non H'
def bigTs (d : Nat) (ts : List Tr) : Prop := ∃ S, (∀ t ∈ ts, Wf t ∧ t.dep ≤ d ∧ t.all.length ≤ S) ∧ 2 * ((allOf ts).length * S) ≤ 100000 ∧ (allOf ts).length ≤ 50000
/-- Heap(letters) behind its argument -/
theorem rd_mkH {K : PySem.W.Frag} {H1 : Hp} {a : Addr} {ws : List V} {ts : List Tr} {d : Nat} {Q : VK} {E : XK} (ha : H1 a = some (.lst ws)) (hl : LsAt K H1 ts ws) (ok : okTs d ts) (hd : d ≤ 10)
    (k : ∀ h H', Same H1 H' → IsHp K H' h ts → Q (.ref h) H') :
    ∀ x dx, H1 x = none → H1 dx = none → dx ≠ x → sp_Hinit K d (.ref x :: ([.ref a] ++ [])) (upd (upd H1 dx (.own x)) x (.ins (He.ga K "Heap") dx [])) (fun v H2 => v = .non ∧ Q (.ref x) H2) E := fun x dx nx ndx ne => by
  have s0 : Same H1 (upd (upd H1 dx (.own x)) x (.ins (He.ga K "Heap") dx [])) := fun b o e => by
    rw [upd_ne (ne_of_none e nx), upd_ne (ne_of_none e ndx)]
    exact e
  exact ⟨x, dx, a, ws, ts, rfl, upd_same, s0 _ _ ha, hl.same s0, ok, hd, fun q us H' b nq hx hq ht => ⟨rfl, k x H' (fun c o e => b c o (ne_of_none e nx) (s0 _ _ e)) ⟨dx, q, us, hx, hq, ht⟩⟩⟩
section
variable {P : Program} {w : World} {K : PySem.W.Frag} {mg : Str → Option Value} {base : Heap}
abbrev s_is_plain : Stmt := top 26
theorem sc_is_plain : FnScope ["letter"] ["letter"] (defScope s_is_plain) := ⟨rfl, rfl, rfl, by decide +kernel, rfl, by decide +kernel, by decide +kernel⟩
theorem ok_is_plain (T : Tx w K mg) (d : Nat) : Fk P w K mg base CX0 (d + 5) "is_plain" ["letter"] (sp_isPlain K d) := by
  refine T.F_is_plain.ok0 sc_is_plain (fun _ _ _ _ _ _ us hl => match us, hl with | [_], _ => rfl)
    (fun vs H Q E h => ?_) (fun cdv A outer s H vs Q E hr h => ?_)
  · obtain ⟨a, v, t, rfl, _⟩ := h
    rfl
  · obtain ⟨a, v, t, rfl, ⟨dx, ha⟩, it, wf, dp, d10, hp, k⟩ := h
    refine ⟨_, (pss_one (ps_ret (pe_cmpR (op_eqD hr.units) (pe_fm0 (pv 0) T.k_Letter (ok_unknowns T d) (hr.mono (by omega)) pass0) (pe_lst pa_nil) (nomark _)))), ?_⟩
    refine ⟨_, rfl, a, dx, _, rfl, ha, lookT (by decide +kernel), a, v, t, rfl, ⟨dx, ha⟩, it, wf, dp, d10, fun p H1 s1 np hp1 => ?_⟩
    have hp : t.txt "unknown" = [] := hp
    rw [hp] at hp1
    refine ⟨Nat.zero_le _, fun q hq => ?_⟩
    have sq := Rd.Same.upd (o := .lst []) hq
    exact ⟨.list [], .list [], .lst (SqL.of (sq _ _ hp1)) .nil, .lst (SqL.of upd_same) .nil, rfl, rfl, k _ (s1.trans sq)⟩
abbrev s_check_plain : Stmt := top 50
theorem sc_check_plain : FnScope ["letter", "index"] ["letter", "index"] (defScope s_check_plain) := ⟨rfl, rfl, rfl, by decide +kernel, rfl, by decide +kernel, by decide +kernel⟩
theorem ok_check_plain (T : Tx w K mg) (d : Nat) : Fk P w K mg base CX0 (d + 6) "check_plain" ["letter", "index"] (sp_chkPlain K d) := by
  refine T.F_check_plain.ok0 sc_check_plain (fun _ _ _ _ _ _ us hl => match us, hl with | [_, _], _ => rfl)
    (fun vs H Q E h => ?_) (fun cdv A outer s H vs Q E hr h => ?_)
  · obtain ⟨a, v, i, t, rfl, _⟩ := h
    rfl
  · obtain ⟨a, v, i, t, rfl, hL, it, wf, dp, d10, hp, k⟩ := h
    refine ⟨_, (pss_one (ps_if (pt_not (pt_val (pe_fk (ok_is_plain T d) (hr.mono (by omega)) rfl pass0 (pa_cons (pv 0) pa_nil)))) pss_never pss_nil)), ?_⟩
    exact ⟨_, rfl, a, v, t, rfl, hL, it, wf, dp, d10, hp, fun H1 s1 => ⟨_, rfl, iteN (by decide) (k _ s1)⟩⟩
abbrev s_Heap_init : Stmt := inClass (top 51) 0
theorem sc_Heap_init : FnScope ["self", "letters", "index", "letter"] ["self", "letters"] (defScope s_Heap_init) := ⟨rfl, rfl, rfl, by decide +kernel, rfl, by decide +kernel, by decide +kernel⟩
theorem ok_Hinit (T : Tx w K mg) (d : Nat) : Fm P w K mg base CX0 (d + 7) "Heap" "__init__" ["self", "letters"] (sp_Hinit K d) := by
  refine T.M_Heap_init.ok0 sc_Heap_init (fun _ _ _ _ _ _ us hl => match us, hl with | [_, _], _ => rfl)
    (fun vs H Q E h => ?_) (fun cdv A outer s H vs Q E hr h => ?_)
  · obtain ⟨x, dx, a, ws, ts, rfl, _⟩ := h
    rfl
  · obtain ⟨x, dx, a, ws, ts, rfl, hx, ha, hl, ok, d10, k⟩ := h
    refine ⟨_, (pss_cons (ps_for PassesOwn.never rfl (pi_enum rfl T.z_enumerate (pa_cons (pv 1) pa_nil)) (pg_tup rfl (pgs_cons (pg_name (i := 2) sc_Heap_init.nd rfl (Or.inl rfl)) (pgs_cons (pg_name (i := 3) sc_Heap_init.nd rfl (Or.inl rfl)) pgs_nil)))
  (pss_one (ps_expr (pe_fk (ok_check_plain T d) (hr.mono (by omega)) rfl pass0 (pa_cons (pv 3) (pa_cons (pv 2) pa_nil))))))
  (pss_one (ps_fld (pv 0) (pe_lc (own := [("letter", 3)]) (g := gName 3) (tt := tYes) (by rfl) sc_Heap_init.nd (pi_list (pv 1)) (blkOk_by (own := [("letter", 3)]) (N := ["self", "letters", "index", "letter"]) (sc := defScope s_Heap_init) (by decide +kernel)) (fun _ _ _ _ _ => (pg_name (i := 3) sc_Heap_init.nd rfl (Or.inl rfl))) (fun _ _ _ _ _ => pts_nil) (fun _ _ _ _ _ => (pe_fldk (K := K) rfl (pv 3) rfl))) rfl))), ?_⟩
    have big : 16777216 ≤ sizeLine := by decide
    have hll := hl.len
    have hlo := ok.1
    refine ⟨_, rfl, a, ws, rfl, SqL.of ha, ?_⟩
    refine ⟨fun i m σ Hc => m = ws.length - i ∧ i ≤ ws.length ∧ (∃ t2 t3 : Option V, σ = [some (.ref x), some (.ref a), t2, t3]) ∧ Same H Hc, ⟨_, rfl, Nat.zero_le _, ⟨_, _, rfl⟩, Same.refl _⟩, ?_⟩
    rintro i m σ Hc ⟨rfl, hi, ⟨t2, t3, rfl⟩, sc⟩
    by_cases hlt : i < ws.length
    · refine .inr ⟨⟨ws, ws[i], SqL.of (sc _ _ ha), List.getElem?_eq_getElem hlt⟩, fun σ H' => (∃ t2 t3 : Option V, σ = [some (.ref x), some (.ref a), t2, t3]) ∧ Same H H', fun σ' H' h => ⟨ws.length - (i + 1), by omega, rfl, hlt, h⟩, ?_⟩
      rintro _ _ ⟨Tq, v, rfl, hT, rfl, gx⟩
      have ex := gx _ (SqL.of (sc _ _ ha))
      have ht : ts[i]? = some ts[i] := List.getElem?_eq_getElem (by omega)
      obtain ⟨w1, w2, w3⟩ := ok.2 _ (List.mem_of_getElem? ht)
      obtain ⟨b, u, rfl, hb, iu⟩ := hl.get i _ v ht ex
      have sT := sc.trans (Rd.Same.upd (o := .tup [.int (i : Nat), .ref b]) hT)
      refine ⟨Tq, [.int (i : Nat), .ref b], rfl, SqT.of upd_same, rfl, _, _, rfl, _, _, rfl, rfl, ?_⟩
      exact ⟨_, rfl, _, rfl, b, u, _, ts[i], rfl, hb.same sT, iu.same sT, w1, w2, d10, w3, fun H2 s2 => ⟨⟨_, _, rfl⟩, sT.trans s2⟩⟩
    · refine .inl ⟨⟨ws, SqL.of (sc _ _ ha), by omega⟩, ?_⟩
      try dsimp only
      refine ⟨_, rfl, a, rfl, ⟨_, SqL.of (sc _ _ ha)⟩, fun D hD => ?_⟩
      refine lcl (C := He.ga K "Letter") (fun i H v => ∃ t, ts[i]? = some t ∧ IsT H t v) (fun i H H' v kp ⟨t, e, h⟩ => ⟨t, e, h.mono kp⟩) (SqL.of (sc _ _ ha)) (by omega) hD (fun i y H2 Q2 hy s2 k2 => ?_) fun vs H2 s2 hD2 hv2 hvs => ?_
      · have hil := (List.getElem?_eq_some_iff.mp hy).1
        have ht : ts[i]? = some ts[i] := List.getElem?_eq_getElem (by omega)
        obtain ⟨b, u, rfl, ⟨db, hb⟩, iu⟩ := hl.get i _ y ht hy
        have sT := sc.trans s2
        exact ⟨_, rfl, b, _, db, _, u, rfl, sT _ _ hb, T.k_Letter, T.n_Letter_tree, look1 _, k2 _ _ (Same.refl _) ⟨_, ht, iu.same sT⟩⟩
      · have sT := sc.trans s2
        refine ⟨_, rfl, x, _, dx, [], rfl, sT _ _ hx, T.k_Heap, T.n_Heap_trees, (by show 0 < 1000; decide), ?_⟩
        have nDx : D ≠ x := fun z => by rw [z, sc _ _ hx] at hD; cases hD
        have nDH : H D = none := sc.free hD
        have kp : Kp (He.ga K "Letter") H2 (upd H2 x (.ins (He.ga K "Heap") dx [("trees", .ref D)])) := fun c o hi e => by
          rw [upd_ne (fun z => by rw [z, sT _ _ hx] at e; cases e; exact T.B_Heap.ne (of_decide_eq_true hi))]
          exact e
        exact k D vs _ (fun c o hc e => by rw [upd_ne hc]; exact sT _ _ e) nDH upd_same (by rw [upd_ne nDx]; exact hD2) ((TsAt.of (hv2.trans hll) hvs).mono kp)
end
end Rd
namespace Rd
open PySem L2
def sp_cell (K : PySem.W.Frag) : Sp := fun vs H Q _ => ∃ (a : Addr) (ns : List Int) (k : Int), vs = [.ref a, .int k] ∧ SqL K H a (ns.map V.int) ∧ ns.length ≤ 63 ∧ 0 ≤ k ∧ ∀ c : Int, Q (.int c) H
def sp_mixed : Sp := fun vs H Q _ => ∃ (c k : Int), vs = [.int c, .int k] ∧ 0 ≤ k ∧ k ≤ 1000 ∧ ∀ r : Int, 0 ≤ r → Q (.int r) H
def rowOk (m : Nat) (ds : List Int) : Prop := ds.length = m ∧ ∀ d ∈ ds, 0 ≤ d ∧ d < 1000
def sp_row : Sp := fun vs H Q _ => ∃ (c : Int) (m : Nat), vs = [.int c, .int m] ∧ m ≤ 1000 ∧ ∀ q ds H', Same H H' → H q = none → H' q = some (.lst (ds.map V.int)) → rowOk m ds → Q (.ref q) H'
section
variable {P : Program} {w : World} {K : PySem.W.Frag} {mg : Str → Option Value} {base : Heap}
abbrev s__law_cell_at : Stmt := top 53
theorem sc__law_cell_at : FnScope ["_law_script", "_law_k"] ["_law_script", "_law_k"] (defScope s__law_cell_at) := ⟨rfl, rfl, rfl, by decide +kernel, rfl, by decide +kernel, by decide +kernel⟩
theorem ok__law_cell_at (T : Tx w K mg) : Fk P w K mg base CX0 1 "_law_cell_at" ["_law_script", "_law_k"] (sp_cell K) := by
  refine T.F__law_cell_at.ok0 sc__law_cell_at (fun _ _ _ _ _ _ us hl => match us, hl with | [_, _], _ => rfl)
    (fun vs H Q E h => ?_) (fun cdv A outer s H vs Q E hr h => ?_)
  · obtain ⟨a, ns, k, rfl, _⟩ := h
    rfl
  · obtain ⟨a, ns, k, rfl, hS, hn, hk, kk⟩ := h
    refine ⟨_, (pss_cons (ps_if (pt_cmpR op_lt (pv 1) (pe_callB call_len_seq (by rfl) T.z_len (by decide +kernel) (pa_cons (pv 0) pa_nil)) (nomark _))
  (pss_one (ps_ret (pe_ix ix_list (pv 0) (pv 1) (fun _ _ => rfl))))
  pss_nil)
  (pss_one (ps_ret pe_int))), ?_⟩
    refine ⟨_, rfl, _, rfl, a, _, rfl, .inl hS, _, _, rfl, rfl, _, rfl, ite2 (fun h1 => ?_) (fun h1 => ?_)⟩
    · have hk : k.toNat < ns.length := by
        have := of_decide_eq_true h1
        rw [List.length_map] at this
        omega
      have ea : atI (ns.map V.int) k = some (V.int (ns[k.toNat]'hk)) := at_of (j := k.toNat) (by omega) (by rw [List.getElem?_map, List.getElem?_eq_getElem hk]; rfl)
      exact ⟨_, rfl, _, rfl, a, _, _, _, rfl, rfl, hS, ea, kk _⟩
    · exact kk 0
abbrev s__law_mixed : Stmt := top 54
theorem sc__law_mixed : FnScope ["_law_cell", "_law_k", "_law_spread"] ["_law_cell", "_law_k"] (defScope s__law_mixed) := ⟨rfl, rfl, rfl, by decide +kernel, rfl, by decide +kernel, by decide +kernel⟩
theorem ok__law_mixed (T : Tx w K mg) : Fk P w K mg base CX0 1 "_law_mixed" ["_law_cell", "_law_k"] sp_mixed := by
  refine T.F__law_mixed.ok0 sc__law_mixed (fun _ _ _ _ _ _ us hl => match us, hl with | [_, _], _ => rfl)
    (fun vs H Q E h => ?_) (fun cdv A outer s H vs Q E hr h => ?_)
  · obtain ⟨c, k, rfl, _⟩ := h
    rfl
  · obtain ⟨c, k, rfl, hk0, hk1, kk⟩ := h
    refine ⟨_, (pss_cons (ps_set (i := 2) sc__law_mixed.nd rfl (Or.inl rfl) (pe_op op_mod (pe_callTy call_int1 (by rfl) T.z_int (by decide +kernel) (pa_cons (pe_op op_pow (pe_op op_add (pe_op op_add (pe_op op_mod (pe_callTy call_int1 (by rfl) T.z_int (by decide +kernel) (pa_cons (pv 0) pa_nil)) pe_int) (pe_op op_mul pe_int (pv 1))) pe_int) pe_int) pa_nil)) pe_int))
  (pss_one (ps_ret (pe_op op_mod (pe_callTy call_int1 (by rfl) T.z_int (by decide +kernel) (pa_cons (pe_op op_mul (pe_op op_add (pv 2) (pv 1)) pe_int) pa_nil)) pe_int)))), ?_⟩
    have m0 : 0 ≤ c % 2147483647 := Int.emod_nonneg _ (by decide)
    have m1 : c % 2147483647 < 2147483647 := Int.emod_lt_of_pos _ (by decide)
    refine ⟨_, rfl, .inl ⟨_, rfl, _, _, rfl, rfl, (by show (0 : Int) < 2147483647; decide), _, rfl, _, _, rfl, rfl, .inl ⟨by decide, by decide⟩, _, _, rfl, rfl, _, _, rfl, rfl, _, _, rfl, rfl, ⟨by decide, by decide, ?_⟩, .inl ⟨_, rfl, _, _, rfl, rfl, (by show (0 : Int) < 2147483647; decide), ?_⟩⟩⟩
    · show (c % 2147483647 + 7919 * k + 104729).natAbs < 18446744073709551616
      omega
    have s0 : 0 ≤ (c % 2147483647 + 7919 * k + 104729) ^ Int.toNat 5 % 2147483647 := Int.emod_nonneg _ (by decide)
    have s1 : (c % 2147483647 + 7919 * k + 104729) ^ Int.toNat 5 % 2147483647 < 2147483647 := Int.emod_lt_of_pos _ (by decide)
    refine ⟨_, rfl, _, rfl, _, _, rfl, rfl, _, _, rfl, rfl, .inl ⟨?_, ?_⟩, .inl ⟨_, rfl, _, _, rfl, rfl, (by show (0 : Int) < 2147483629; decide), ?_⟩⟩
    · show -(18446744073709551616 : Int) < (c % 2147483647 + 7919 * k + 104729) ^ Int.toNat 5 % 2147483647 + k
      generalize (c % 2147483647 + 7919 * k + 104729) ^ Int.toNat 5 % 2147483647 = sp at s0 s1 ⊢
      omega
    · show (c % 2147483647 + 7919 * k + 104729) ^ Int.toNat 5 % 2147483647 + k < (18446744073709551616 : Int)
      generalize (c % 2147483647 + 7919 * k + 104729) ^ Int.toNat 5 % 2147483647 = sp at s0 s1 ⊢
      omega
    · exact kk _ (Int.emod_nonneg _ (by decide))
abbrev s__law_row : Stmt := top 55
theorem sc__law_row : FnScope ["_law_cell", "_law_many", "_law_rest", "_law_row_here", "_law_k"] ["_law_cell", "_law_many"] (defScope s__law_row) := ⟨rfl, rfl, rfl, by decide +kernel, rfl, by decide +kernel, by decide +kernel⟩
theorem ok__law_row (T : Tx w K mg) : Fk P w K mg base CX0 2 "_law_row" ["_law_cell", "_law_many"] sp_row := by
  refine T.F__law_row.ok0 sc__law_row (fun _ _ _ _ _ _ us hl => match us, hl with | [_, _], _ => rfl)
    (fun vs H Q E h => ?_) (fun cdv A outer s H vs Q E hr h => ?_)
  · obtain ⟨c, m, rfl, _⟩ := h
    rfl
  · obtain ⟨c, m, rfl, hm, kk⟩ := h
    refine ⟨_, (pss_cons (ps_set (i := 2) sc__law_row.nd rfl (Or.inl rfl) (pe_ifExp (pt_cmpR op_ge (pe_callB call_abs (by rfl) T.z_abs (by decide +kernel) (pa_cons (pv 0) pa_nil)) (pe_op op_pow pe_int pe_int) (nomark _)) (pe_callB call_abs (by rfl) T.z_abs (by decide +kernel) (pa_cons (pv 0) pa_nil)) pe_int))
  (pss_cons (ps_set (i := 3) sc__law_row.nd rfl (Or.inl rfl) (pe_lst pa_nil))
  (pss_cons (ps_for PassesOwn.never rfl (pi_range1 rfl T.z_range (pa_cons (pv 1) pa_nil)) (pg_name (i := 4) sc__law_row.nd rfl (Or.inl rfl))
  (pss_cons (ps_expr (pe_bm PySem.F.plainAttrs_list PySem.F.slot_list_append PySem.F.type_list_append mt_append (pv 3) (pa_cons (pe_op op_mod (pe_callTy call_int1 (by rfl) T.z_int (by decide +kernel) (pa_cons (pe_ifExp (pt_cmpR op_gt (pv 2) pe_int (nomark _)) (pv 2) (pe_fk (ok__law_mixed T) (hr.mono (by omega)) rfl pass0 (pa_cons (pv 0) (pa_cons (pv 4) pa_nil)))) pa_nil)) pe_int) pa_nil)))
  (pss_one (ps_set (i := 2) sc__law_row.nd rfl (Or.inl rfl) (pe_op op_fdiv (pv 2) pe_int)))))
  (pss_one (ps_ret (pv 3)))))), ?_⟩
    have big : 16777216 ≤ sizeLine := by decide
    refine seqJoin (fun σ' H' => H' = H ∧ ∃ (r : Int), 0 ≤ r ∧ σ' = [some (.int c), some (.int m), some (.int r), none, none]) (fun KK hK => ?_) ?_
    · refine ⟨_, rfl, _, rfl, _, _, rfl, rfl, ⟨by decide, by decide, by decide⟩, _, _, rfl, rfl, _, rfl, ite2 (fun h1 => ?_) (fun h1 => ?_)⟩
      · refine ⟨_, rfl, _, rfl, ?_⟩
        refine gName_k ?_
        exact hK _ _ ⟨rfl, _, by split <;> omega, rfl⟩
      · refine gName_k ?_
        exact hK _ _ ⟨rfl, 0, Int.le_refl _, rfl⟩
    rintro σ' H ⟨rfl, r0, hr0, rfl⟩
    refine seqAsg ⟨Nat.zero_le _, fun p hp => ?_⟩
    refine gName_k ?_
    try dsimp only
    refine ⟨_, rfl, m, rfl, by omega, by omega, for_range (n := m) (fun i σ Hc => ∃ (ds : List Int) (r : Int) (t4 : Option V), σ = [some (.int c), some (.int m), some (.int r), some (.ref p), t4] ∧ 0 ≤ r ∧ Same H Hc ∧ Hc p = some (.lst (ds.map V.int)) ∧ rowOk i ds) ⟨[], r0, _, rfl, hr0, Rd.Same.upd hp, upd_same, rfl, fun d hd => by cases hd⟩ ?_ ?_⟩
    · rintro i σ Hc hi ⟨ds, r, t4, rfl, hr0, sc, hpc, hds⟩
      refine gName_k ?_
      try dsimp only
      have hdl := hds.1
      have nxt1 : ∀ x : Int, ∃ l xs y, V.ref p = .ref l ∧ [V.int (x % 1000)] = [y] ∧ Hc l = some (.lst xs) ∧ xs.length < sizeLine ∧ (tAsg (tOp (rI CDiv fun i j => V.int (i / j)) (tVar 2) (tC (V.int 1000))) (gName 2)) { nx := fun σ Hc => ∃ (ds : List Int) (r : Int) (t4 : Option V), σ = [some (.int c), some (.int m), some (.int r), some (.ref p), t4] ∧ 0 ≤ r ∧ Same H Hc ∧ Hc p = some (.lst (ds.map V.int)) ∧ rowOk (i + 1) ds, rt := Q, bk := fun _ _ => False, ct := fun _ _ => False } [some (.int c), some (.int m), some (.int r), some (.ref p), some (.int (0 + (i : Int)))] (upd Hc l (.lst (xs ++ [y]))) := fun x => by
        refine ⟨p, ds.map V.int, _, rfl, rfl, hpc, by rw [List.length_map]; omega, _, rfl, _, _, rfl, rfl, ⟨by decide, by decide⟩, ?_⟩
        refine gName_k ?_
        refine ⟨ds ++ [x % 1000], r / 1000, _, rfl, Int.ediv_nonneg hr0 (by decide), fun c o e => by rw [upd_ne (ne_of_none e hp)]; exact sc _ _ e, by rw [upd_same, List.map_append]; rfl, by rw [List.length_append, hdl]; rfl, fun d hd => ?_⟩
        rcases List.mem_append.mp hd with q | q
        · exact hds.2 d q
        · rw [List.mem_singleton.mp q]
          exact ⟨Int.emod_nonneg _ (by decide), Int.emod_lt_of_pos _ (by decide)⟩
      refine ⟨_, rfl, .inl ⟨rfl, _, SqL.of hpc⟩, _, rfl, _, _, rfl, rfl, _, rfl, ite2 (fun _ => ?_) (fun _ => ?_)⟩
      · refine ⟨_, rfl, .inl ⟨_, rfl, _, _, rfl, rfl, (by show (0 : Int) < 1000; decide), nxt1 _⟩⟩
      · refine ⟨_, rfl, _, rfl, _, _, rfl, by omega, by omega, fun r1 _ => .inl ⟨_, rfl, _, _, rfl, rfl, (by show (0 : Int) < 1000; decide), nxt1 _⟩⟩
    · rintro σ Hc ⟨ds, r, t4, rfl, hr0, sc, hpc, hds⟩
      exact ⟨_, rfl, kk p ds Hc sc hp hpc hds⟩
end
end Rd
namespace Rd
open PySem L2
def NodeAt : Nat → Int → Prop
  | 0, n => 7 ≤ n ∧ n ≤ 14
  | 1, n => 3 ≤ n ∧ n ≤ 6
  | 2, n => 1 ≤ n ∧ n ≤ 2
  | _, n => n = 0
theorem NodeAt.le {d : Nat} {n : Int} (h : NodeAt d n) : 0 ≤ n ∧ n ≤ 14 := by
  match d, h with
  | 0, h => exact ⟨by have := h.1; omega, h.2⟩
  | 1, h => exact ⟨by have := h.1; omega, by have := h.2; omega⟩
  | 2, h => exact ⟨by have := h.1; omega, by have := h.2; omega⟩
  | d + 3, h => have h : n = 0 := h; exact ⟨by omega, by omega⟩
theorem NodeAt.kids {d : Nat} {n : Int} (hd : d + 1 ≤ 3) (h : NodeAt (d + 1) n) : NodeAt d (2 * n + 1) ∧ NodeAt d (2 * n + 2) ∧ n ≤ 6 := by
  match d, hd, h with
  | 0, _, h => obtain ⟨h1, h2⟩ := h; exact ⟨⟨by omega, by omega⟩, ⟨by omega, by omega⟩, h2⟩
  | 1, _, h => obtain ⟨h1, h2⟩ := h; exact ⟨⟨by omega, by omega⟩, ⟨by omega, by omega⟩, by omega⟩
  | 2, _, h => have h : n = 0 := h; subst h; exact ⟨⟨by decide, by decide⟩, ⟨by decide, by decide⟩, by decide⟩
structure Fo (d : Nat) (t : Tr) : Prop where
  wf : Wf t
  dep : t.dep ≤ 2 * d
  nod : t.nod + 2 ≤ 2 ^ (d + 1)
  pl : plainT t
theorem Fo.un {d : Nat} {s : Str} {a : Tr} (hs : s ∈ (["mark", "open", "own"] : List Str)) (h : Fo d a) : Fo (d + 1) (.un s a) := by
  have e : 2 ^ (d + 1 + 1) = 2 * 2 ^ (d + 1) := by rw [Nat.pow_succ]; omega
  have h1 := h.dep
  have h2 := h.nod
  exact ⟨.un hs h.wf, by show a.dep + 1 ≤ 2 * (d + 1); omega, by show a.nod + 1 + 2 ≤ 2 ^ (d + 1 + 1); omega, h.pl⟩
theorem Fo.bi {d : Nat} {s : Str} {a b : Tr} (hs : s ∈ (["pair", "seal"] : List Str)) (h : Fo d a) (g : Fo d b) : Fo (d + 1) (.bi s a b) := by
  have e : 2 ^ (d + 1 + 1) = 2 * 2 ^ (d + 1) := by rw [Nat.pow_succ]; omega
  have h1 := h.dep
  have h2 := h.nod
  have g1 := g.dep
  have g2 := g.nod
  exact ⟨.bi hs h.wf g.wf, by show max a.dep b.dep + 1 ≤ 2 * (d + 1); omega, by show a.nod + b.nod + 1 + 2 ≤ 2 ^ (d + 1 + 1); omega, by show a.txt "unknown" ++ b.txt "unknown" = []; rw [h.pl, g.pl]; rfl⟩
theorem Fo.lk {d : Nat} {s : Str} {a b : Tr} (hs : s ∈ (["open", "own"] : List Str)) (h : Fo d a) (g : Fo d b) : Fo (d + 1) (.bi "lock" a (.un s b)) := by
  have e : 2 ^ (d + 1 + 1) = 2 * 2 ^ (d + 1) := by rw [Nat.pow_succ]; omega
  have h1 := h.dep
  have h2 := h.nod
  have g1 := g.dep
  have g2 := g.nod
  exact ⟨.lk hs h.wf g.wf, by show max a.dep (b.dep + 1) + 1 ≤ 2 * (d + 1); omega, by show a.nod + (b.nod + 1) + 1 + 2 ≤ 2 ^ (d + 1 + 1); omega, by show a.txt "unknown" ++ b.txt "unknown" = []; rw [h.pl, g.pl]; rfl⟩
/-- what a drawn form is made of -/
structure FoC (Pd : Nat → Tr → Prop) : Prop where
  un : ∀ {d s a}, s ∈ (["mark", "open", "own"] : List Str) → Pd d a → Pd (d + 1) (.un s a)
  bi : ∀ {d s a b}, s ∈ (["pair", "seal"] : List Str) → Pd d a → Pd d b → Pd (d + 1) (.bi s a b)
  lk : ∀ {d s a b}, s ∈ (["open", "own"] : List Str) → Pd d a → Pd d b → Pd (d + 1) (.bi "lock" a (.un s b))
/-- with other forms in the atoms' place -/
structure FoG (e d : Nat) (t : Tr) : Prop where
  wf : Wf t
  dep : t.dep ≤ e + 2 * d
  pl : plainT t
theorem FoC.g (e : Nat) : FoC (FoG e) := ⟨fun {d s a} hs h => ⟨.un hs h.wf, by show a.dep + 1 ≤ e + 2 * (d + 1); have := h.dep; omega, h.pl⟩,
  fun {d s a b} hs h g => ⟨.bi hs h.wf g.wf, by show max a.dep b.dep + 1 ≤ e + 2 * (d + 1); have := h.dep; have := g.dep; omega, by show a.txt "unknown" ++ b.txt "unknown" = []; rw [h.pl, g.pl]; rfl⟩,
  fun {d s a b} hs h g => ⟨.lk hs h.wf g.wf, by show max a.dep (b.dep + 1) + 1 ≤ e + 2 * (d + 1); have := h.dep; have := g.dep; omega, by show a.txt "unknown" ++ b.txt "unknown" = []; rw [h.pl, g.pl]; rfl⟩⟩
end Rd
namespace Rd
open PySem L2
theorem rd_of {K : PySem.W.Frag} {H : Hp} {t : Tr} {v : V} {n : Nat} {q0 : Addr} {Q : VK} {E : XK} (hq : ∀ us, H q0 ≠ some (.tup us)) (it : IsT H t v) (wf : Wf t) (hn : t.dep + 1 ≤ n) (h100 : n ≤ 100) (k : ∀ x H', Same H H' → IsL K H' x v → IsT H' t v → Q (.ref x) H') : sp_of K n [v] H Q E := by
  have no := flt_form wf (n + 1) (by omega)
  exact ⟨v, t.th, q0, rfl, it.th hq, Tr.th_le (by omega), wf.short n (by omega), h100, fun _ x H' s' hx => k x H' s' hx (it.same s'), fun rel e => by rw [no] at e; cases e⟩
theorem IsOpen.eq {ts o1 o2 : List Tr} (h : IsOpen ts o1) (g : IsOpen ts o2) (t : Tr) : t ∈ o1 ↔ t ∈ o2 := ⟨h.least _ g.base g.pcl g.scl t, g.least _ h.base h.pcl h.scl t⟩
section
variable {P : Program} {w : World} {K : PySem.W.Frag} {mg : Str → Option Value} {base : Heap}
abbrev s__law_partner : Stmt := top 56
theorem sc__law_partner : FnScope ["_law_key"] ["_law_key"] (defScope s__law_partner) := ⟨rfl, rfl, rfl, by decide +kernel, rfl, by decide +kernel, by decide +kernel⟩
abbrev s__law_undoing : Stmt := top 57
theorem sc__law_undoing : FnScope ["_law_form"] ["_law_form"] (defScope s__law_undoing) := ⟨rfl, rfl, rfl, by decide +kernel, rfl, by decide +kernel, by decide +kernel⟩
def sp_mkHeap (K : PySem.W.Frag) : Sp := fun vs H Q _ => ∃ (a : Addr) (ws : List V) (ts : List Tr), vs = [.ref a] ∧ H a = some (.lst ws) ∧ TsAt H ts ws ∧ okTs 6 ts ∧ ∀ h H', Same H H' → IsHp K H' h ts → Q (.ref h) H'
abbrev s__law_heap : Stmt := top 58
theorem sc__law_heap : FnScope ["_law_forms", "_law_form"] ["_law_forms"] (defScope s__law_heap) := ⟨rfl, rfl, rfl, by decide +kernel, rfl, by decide +kernel, by decide +kernel⟩
theorem ok__law_heap (T : Tx w K mg) : Fk P w K mg base CX0 30 "_law_heap" ["_law_forms"] (sp_mkHeap K) := by
  refine T.F__law_heap.ok0 sc__law_heap (fun _ _ _ _ _ _ us hl => match us, hl with | [_], _ => rfl)
    (fun vs H Q E h => ?_) (fun cdv A outer s H vs Q E hr h => ?_)
  · obtain ⟨a, ws, ts, rfl, _⟩ := h
    rfl
  · obtain ⟨a, ws, ts, rfl, ha, hts, ok, k⟩ := h
    refine ⟨_, (pss_one (ps_ret (pe_new T.J_Heap T.g_Heap (ok_Hinit T 6) (hr.mono (by omega)) (by rfl) pass0 (pa_cons (pe_lc (own := [("_law_form", 1)]) (g := gName 1) (tt := tYes) (by rfl) sc__law_heap.nd (pi_list (pv 0)) (blkOk_by (own := [("_law_form", 1)]) (N := ["_law_forms", "_law_form"]) (sc := defScope s__law_heap) (by decide +kernel)) (fun _ _ _ _ _ => (pg_name (i := 1) sc__law_heap.nd rfl (Or.inl rfl))) (fun _ _ _ _ _ => pts_nil) (fun _ _ _ _ _ => (pe_fs (ok_of T 17) (hr.mono (by omega)) rfl (fun _ => atN) (pa_cons (pv 1) pa_nil)))) pa_nil)))), ?_⟩
    have htl := hts.len
    have hok := ok.1
    refine ⟨_, rfl, a, rfl, ⟨_, SqL.of ha⟩, fun D hD => ?_⟩
    refine lcl (C := He.ga K "Letter") (fun i H v => ∃ t, ts[i]? = some t ∧ IsLet K H t v) (fun i H H' v kp ⟨t, e, h⟩ => ⟨t, e, h.mono kp⟩) (SqL.of ha) (by omega) hD (fun i y H2 Q2 hy s2 k2 => ?_) fun vs H2 s2 hD2 hv2 hvs => ?_
    · have hil := (List.getElem?_eq_some_iff.mp hy).1
      have ht : ts[i]? = some ts[i] := List.getElem?_eq_getElem (by omega)
      obtain ⟨w1, w2, w3⟩ := ok.2 _ (List.mem_of_getElem? ht)
      have iu := (hts.get i _ y ht hy).same s2
      exact ⟨_, rfl, rd_of (q0 := a) (fun us z => by rw [s2 _ _ ha] at z; cases z) iu w1 (by omega) (by decide) fun x H3 s3 hx ix => k2 _ H3 s3 ⟨_, ht, x, y, rfl, hx, ix⟩⟩
    · exact rd_mkH hD2 (LsAt.of (hv2.trans htl) hvs) ok (by decide) fun h H3 s3 hp => k h H3 (s2.trans s3) hp
end
end Rd
namespace Rd
open PySem L2
structure AtL {β : Type} (R : Hp → β → V → Prop) (H : Hp) (bs : List β) (vs : List V) : Prop where
  len : vs.length = bs.length
  get : ∀ (i : Nat) b v, bs[i]? = some b → vs[i]? = some v → R H b v
theorem AtL.nil {β : Type} {R : Hp → β → V → Prop} {H : Hp} : AtL R H [] [] := ⟨rfl, fun i r v h => by simp at h⟩
theorem AtL.snoc {β : Type} {R : Hp → β → V → Prop} {H : Hp} {rs : List β} {vs : List V} {r : β} {v : V} (h : AtL R H rs vs) (g : R H r v) : AtL R H (rs ++ [r]) (vs ++ [v]) := by
  have hl := h.len
  refine ⟨by rw [List.length_append, List.length_append, hl]; rfl, fun i p u a b => ?_⟩
  by_cases hi : i < rs.length
  · rw [List.getElem?_append_left hi] at a
    rw [List.getElem?_append_left (by omega)] at b
    exact h.get i p u a b
  · rw [List.getElem?_append_right (by omega)] at a
    rw [List.getElem?_append_right (by omega)] at b
    rw [hl] at b
    cases e : i - rs.length with
    | zero =>
      rw [e] at a b
      cases a
      cases b
      exact g
    | succ j =>
      rw [e] at a
      simp at a
theorem AtL.mp {β : Type} {R R' : Hp → β → V → Prop} {H H' : Hp} {rs : List β} {vs : List V} (h : AtL R H rs vs) (f : ∀ r v, R H r v → R' H' r v) : AtL R' H' rs vs := ⟨h.len, fun i r v a b => f r v (h.get i r v a b)⟩
theorem dpAll_at {β : Type} {K : PySem.W.Frag} {H : Hp} {R : Hp → β → V → Prop} {f : β → PyData} (hf : ∀ b v, R H b v → Dp K H v (f b)) : ∀ {bs : List β} {vs : List V}, AtL R H bs vs → DpAll K H vs (bs.map f)
  | [], [], _ => .nil
  | [], v :: vs, h => by have := h.len; cases this
  | b :: bs, [], h => by have := h.len; cases this
  | b :: bs, v :: vs, h => .cons (hf b v (h.get 0 b v rfl rfl)) (dpAll_at hf ⟨by have := h.len; simpa using this, fun i b v h1 h2 => h.get (i + 1) b v h1 h2⟩)
end Rd
namespace Rd
open PySem L2
def AlG {α : Type} (R : Hp → α → V → Prop) (H : Hp) : List (Str × α) → List (Key × V) → Prop
  | [], [] => True
  | (x, t) :: l, (k, v) :: kvs => k = .inr x ∧ R H t v ∧ AlG R H l kvs
  | _, _ => False
def lookG {α : Type} (l : List (Str × α)) (x : Str) : Option α := (l.find? fun p => decide (p.1 = x)).map (·.2)
theorem AlG.len {α : Type} {R : Hp → α → V → Prop} {H : Hp} : ∀ {l : List (Str × α)} {kvs : List (Key × V)}, AlG R H l kvs → kvs.length = l.length
  | [], [], _ => rfl
  | (x, t) :: l, (k, v) :: kvs, h => congrArg (· + 1) (AlG.len h.2.2)
theorem AlG.mono {α : Type} {R S : Hp → α → V → Prop} {H H' : Hp} (m : ∀ t v, R H t v → S H' t v) : ∀ {l : List (Str × α)} {kvs : List (Key × V)}, AlG R H l kvs → AlG S H' l kvs
  | [], [], _ => trivial
  | (x, t) :: l, (k, v) :: kvs, h => ⟨h.1, m _ _ h.2.1, AlG.mono m h.2.2⟩
theorem AlG.get {α : Type} {R : Hp → α → V → Prop} {H : Hp} : ∀ {l : List (Str × α)} {kvs : List (Key × V)} {i : Nat} {k : Key} {v : V}, AlG R H l kvs → kvs[i]? = some (k, v) → ∃ x t, l[i]? = some (x, t) ∧ k = .inr x ∧ R H t v
  | (x, t) :: l, (k, v) :: kvs, 0, _, _, h, e => by
    cases e
    exact ⟨x, t, rfl, h.1, h.2.1⟩
  | (x, t) :: l, (k, v) :: kvs, i + 1, _, _, h, e => by
    obtain ⟨y, u, e1, e2, e3⟩ := AlG.get (l := l) (kvs := kvs) (i := i) h.2.2 (by simpa using e)
    exact ⟨y, u, by simpa using e1, e2, e3⟩
  | [], [], _, _, _, _, e => by simp at e
theorem AlG.snoc {α : Type} {R : Hp → α → V → Prop} {H : Hp} {x : Str} {t : α} {v : V} (r : R H t v) : ∀ {l : List (Str × α)} {kvs : List (Key × V)}, AlG R H l kvs → AlG R H (l ++ [(x, t)]) (kvs ++ [(.inr x, v)])
  | [], [], _ => ⟨rfl, r, trivial⟩
  | (y, u) :: l, (k, z) :: kvs, h => ⟨h.1, h.2.1, AlG.snoc r h.2.2⟩
theorem AlG.look {α : Type} {R : Hp → α → V → Prop} {H : Hp} {x : Str} : ∀ {l : List (Str × α)} {kvs : List (Key × V)}, AlG R H l kvs → (∀ t, lookG l x = some t → ∃ v, valV kvs (.inr x) = some v ∧ R H t v) ∧ (lookG l x = none → valV kvs (.inr x) = none)
  | [], [], _ => ⟨fun t e => (by cases e), fun _ => rfl⟩
  | (y, u) :: l, (k, z) :: kvs, h => by
    obtain ⟨rfl, h2, h3⟩ := h
    by_cases e : y = x
    · subst e
      have e1 : lookG ((y, u) :: l) y = some u := by simp [lookG]
      refine ⟨fun t e => ?_, fun e => ?_⟩
      · rw [e1] at e
        cases e
        exact ⟨z, valV_pos rfl, h2⟩
      · rw [e1] at e
        cases e
    · have e1 : lookG ((y, u) :: l) x = lookG l x := by simp [lookG, e]
      rw [e1, valV_neg (fun q => e (by cases q; rfl))]
      exact AlG.look h3
theorem lookG_mem {α : Type} {l : List (Str × α)} {x : Str} {t : α} (h : lookG l x = some t) : (x, t) ∈ l := by
  unfold lookG at h
  obtain ⟨p, hp, rfl⟩ := Option.map_eq_some_iff.mp h
  have h1 := List.mem_of_find?_eq_some hp
  have h2 := of_decide_eq_true (List.find?_some (p := fun p : Str × α => decide (p.1 = x)) hp)
  rw [← h2]
  exact h1
theorem lookG_none {α : Type} {l : List (Str × α)} {x : Str} (h : lookG l x = none) : x ∉ l.map (·.1) := by
  unfold lookG at h
  rw [Option.map_eq_none_iff, List.find?_eq_none] at h
  intro hm
  obtain ⟨p, hp, e⟩ := List.mem_map.mp hm
  exact h p hp (decide_eq_true e)
theorem lookG_some {α : Type} {l : List (Str × α)} {x : Str} (h : x ∈ l.map (·.1)) : ∃ t, lookG l x = some t := by
  cases e : lookG l x with
  | some t => exact ⟨t, rfl⟩
  | none => exact absurd h (lookG_none e)
inductive Rc : Type
  | at_ (k : Int) : Rc
  | wd (x : Str) : Rc
  | un (s : Str) (r : Rc) : Rc
  | bi (s : Str) (r q : Rc) : Rc
def IsR (H : Hp) : Rc → V → Prop
  | .at_ k, v => ∃ p, v = .ref p ∧ H p = some (.tup [.str "at", .int k])
  | .wd x, v => ∃ p, v = .ref p ∧ H p = some (.tup [.str "word", .str x])
  | .un s r, v => ∃ p u, v = .ref p ∧ H p = some (.tup [.str s, u]) ∧ IsR H r u
  | .bi s r q, v => ∃ p u u2, v = .ref p ∧ H p = some (.tup [.str s, u, u2]) ∧ IsR H r u ∧ IsR H q u2
theorem IsR.mono {C : Addr} {H H' : Hp} (k : Kp C H H') : ∀ {r : Rc} {v : V}, IsR H r v → IsR H' r v
  | .at_ _, v, ⟨p, e, h⟩ => ⟨p, e, k _ _ rfl h⟩
  | .wd _, v, ⟨p, e, h⟩ => ⟨p, e, k _ _ rfl h⟩
  | .un s r, v, ⟨p, u, e, h, g⟩ => ⟨p, u, e, k _ _ rfl h, IsR.mono k g⟩
  | .bi s r q, v, ⟨p, u, u2, e, h, g1, g2⟩ => ⟨p, u, u2, e, k _ _ rfl h, IsR.mono k g1, IsR.mono k g2⟩
theorem IsR.same {H H' : Hp} {r : Rc} {v : V} (s : Same H H') (h : IsR H r v) : IsR H' r v := h.mono (C := 0) (Kp.of_same s)
def Rc.tag : Rc → Str
  | .at_ _ => "at"
  | .wd _ => "word"
  | .un s _ => s
  | .bi s _ _ => s
def Rc.kids : Rc → List Rc
  | .un _ r => [r]
  | .bi _ r q => [r, q]
  | _ => []
/-- what one step makes -/
def wk1 (s : Str) (t : Tr) : Option Tr :=
  if s = "first" then (match t with | .bi z a _ => if z = "pair" then some a else none | _ => none)
  else if s = "second" then (match t with | .bi z _ b => if z = "pair" then some b else none | _ => none)
  else some (.un s t)
def wk2 (s : Str) (t u : Tr) : Option Tr :=
  if s = "unseal" then (match t with | .bi z a k => if z = "seal" ∧ k = u then some a else none | _ => none)
  else if s = "unlock" then (match t with | .bi z a k => if z = "lock" ∧ ukey (.bi z a k) = some u then some a else none | _ => none)
  else if s = "lock" then (if u.head = "open" ∨ u.head = "own" then some (.bi s t u) else none)
  else some (.bi s t u)
/-- the first part that does not work, or what is made -/
def rcx (ts : List Tr) : Rc → Rc ⊕ Tr
  | .at_ k => if 0 ≤ k then (match ts[k.toNat]? with | some t => .inr t | none => .inl (.at_ k)) else .inl (.at_ k)
  | .wd x => .inr (.am "word" x)
  | .un s r => match rcx ts r with
    | .inl e => .inl e
    | .inr t => match wk1 s t with
      | some u => .inr u
      | none => .inl (.un s r)
  | .bi s r q => match rcx ts r with
    | .inl e => .inl e
    | .inr t => match rcx ts q with
      | .inl e => .inl e
      | .inr t2 => match wk2 s t t2 with
        | some u => .inr u
        | none => .inl (.bi s r q)
def UNL : List Str := ["first", "second", "mark", "open"]
def BIL : List Str := ["unseal", "unlock", "pair", "seal", "lock"]
/-- it is a recipe -/
def RcOk : Rc → Prop
  | .at_ _ => True
  | .wd x => isWord x = true
  | .un s r => s ∈ UNL ∧ RcOk r
  | .bi s r q => s ∈ BIL ∧ RcOk r ∧ RcOk q
abbrev WayL := List (Str × Tr × Rc)
def wtr (W : WayL) : List Tr := W.map fun p => p.2.1
def wy (W : WayL) (t : Tr) : Option Rc := (lookG W (textOf t)).map (·.2)
def mkR (W : WayL) : Tr → Option Rc
  | .am k x => if k = "word" then some (.wd x) else wy W (.am k x)
  | .un s a => match wy W (.un s a) with
    | some r => some r
    | none => if s = "own" then none else (mkR W a).map (Rc.un s)
  | .bi s a b => match wy W (.bi s a b) with
    | some r => some r
    | none => match mkR W a, mkR W b with
      | some r, some q => some (.bi s r q)
      | _, _ => none
/-- the ways are right -/
structure WayOk (d : Nat) (ts : List Tr) (W : WayL) : Prop where
  tx : ∀ p ∈ W, p.1 = textOf p.2.1
  wf : ∀ p ∈ W, Wf p.2.1 ∧ p.2.1.dep ≤ d
  rc : ∀ p ∈ W, rcx ts p.2.2 = .inr p.2.1 ∧ RcOk p.2.2
  nd : (W.map (·.1)).Nodup
  lst : ∀ O', (∀ t ∈ ts, t ∈ O') → PCl O' → SCl O' O' → ∀ t ∈ wtr W, t ∈ O'
theorem WayOk.nil {d : Nat} {ts : List Tr} : WayOk d ts [] := ⟨(fun p h => by cases h), (fun p h => by cases h), (fun p h => by cases h), List.nodup_nil, (fun O' _ _ _ t h => by cases h)⟩
theorem WayOk.look {d : Nat} {ts : List Tr} {W : WayL} (h : WayOk d ts W) {t : Tr} (wf : Wf t) {u : Tr} {r : Rc} (e : lookG W (textOf t) = some (u, r)) : u = t ∧ (textOf t, t, r) ∈ W := by
  have hm := lookG_mem e
  have h1 := h.tx _ hm
  have h2 := (h.wf _ hm).1
  have : u = t := text_inj h2 wf h1.symm
  subst this
  exact ⟨rfl, hm⟩
theorem WayOk.has {d : Nat} {ts : List Tr} {W : WayL} (h : WayOk d ts W) {t : Tr} (wf : Wf t) : (lookG W (textOf t)).isSome = decide (t ∈ wtr W) := by
  rw [Bool.eq_iff_iff, decide_eq_true_eq, Option.isSome_iff_exists]
  constructor
  · rintro ⟨⟨u, r⟩, e⟩
    obtain ⟨rfl, hm⟩ := h.look wf e
    exact List.mem_map.mpr ⟨_, hm, rfl⟩
  · intro hm
    obtain ⟨p, hp, e⟩ := List.mem_map.mp hm
    obtain ⟨q, hq⟩ := lookG_some (l := W) (x := textOf t) (List.mem_map.mpr ⟨p, hp, by rw [h.tx p hp, e]⟩)
    exact ⟨q, hq⟩
theorem WayOk.wy {d : Nat} {ts : List Tr} {W : WayL} (h : WayOk d ts W) {t : Tr} (wf : Wf t) : (wy W t).isSome = decide (t ∈ wtr W) := by
  rw [← h.has wf]
  unfold Rd.wy
  cases lookG W (textOf t) <;> rfl
/-- what is told is a recipe that makes the form -/
theorem Wf.lockKey {a b : Tr} (h : Wf (.bi "lock" a b)) : ∃ s k, b = .un s k ∧ s ∈ (["open", "own"] : List Str) := by
  cases h with
  | bi hs _ _ => exact absurd hs (by decide +kernel)
  | lk hs _ _ => exact ⟨_, _, rfl, hs⟩
/-- something is told just if it can be made -/
theorem mkR_some {d : Nat} {ts : List Tr} {W : WayL} (h : WayOk d ts W) : ∀ {t : Tr}, Wf t → (mkR W t).isSome = mka (wtr W) t
  | .am k x, wf => by
    rw [mka_step wf]
    unfold mkR
    by_cases hk : k = "word"
    · rw [if_pos hk, show (Tr.am k x).head = k from rfl, decide_eq_true hk]
      rfl
    · rw [if_neg hk, show (Tr.am k x).head = k from rfl, decide_eq_false hk, Bool.false_or, h.wy wf]
      have : decide (k ∈ MKL) = false := by
        rcases wf.shp with ⟨_, _, e, ko⟩ | ⟨_, _, e, _⟩ | ⟨_, _, _, e, _⟩
        · cases e
          rcases ko with ⟨rfl, _⟩ | ⟨rfl, _⟩ | ⟨rfl, _⟩ <;> decide +kernel
        · cases e
        · cases e
      rw [this, Bool.false_and, Bool.or_false]
  | .un s a, wf => by
    rw [mka_step wf]
    rcases wf.shp with ⟨_, _, e, _⟩ | ⟨_, _, e, hs, wa⟩ | ⟨_, _, _, e, _⟩
    · cases e
    · cases e
      have hw := h.wy wf
      have hnw : decide (s = "word") = false := decide_eq_false fun e => by subst e; revert hs; decide +kernel
      rw [show (Tr.un s a).head = s from rfl, hnw, Bool.false_or, ← hw, show (Tr.un s a).parts = [a] from rfl]
      unfold mkR
      cases ew : Rd.wy W (.un s a) with
      | some r => rfl
      | none =>
        show (if s = "own" then none else (mkR W a).map (Rc.un s)).isSome = (false || (decide (s ∈ MKL) && ([a].all (mka (wtr W)))))
        by_cases ho : s = "own"
        · rw [if_pos ho, ho]
          have : decide (("own" : Str) ∈ MKL) = false := by decide +kernel
          rw [this]
          rfl
        · have hm : decide (s ∈ MKL) = true := by
            have : ∀ z ∈ (["mark", "open", "own"] : List Str), z ≠ "own" → decide (z ∈ MKL) = true := by decide +kernel
            exact this s hs ho
          rw [if_neg ho, Option.isSome_map, mkR_some h wa, hm, List.all_cons, List.all_nil, Bool.and_true, Bool.true_and, Bool.false_or]
    · cases e
  | .bi s a b, wf => by
    rw [mka_step wf]
    rcases wf.shp with ⟨_, _, e, _⟩ | ⟨_, _, e, _⟩ | ⟨_, _, _, e, hs, wa, wb⟩
    · cases e
    · cases e
    · cases e
      have hw := h.wy wf
      have hnw : decide (s = "word") = false := decide_eq_false fun e => by subst e; revert hs; decide +kernel
      have hm : decide (s ∈ MKL) = true := by
        have : ∀ z ∈ (["pair", "seal", "lock"] : List Str), decide (z ∈ MKL) = true := by decide +kernel
        exact this s hs
      rw [show (Tr.bi s a b).head = s from rfl, hnw, Bool.false_or, ← hw, hm, Bool.true_and, show (Tr.bi s a b).parts = [a, b] from rfl, List.all_cons, List.all_cons, List.all_nil, Bool.and_true, ← mkR_some h wa, ← mkR_some h wb]
      have em : mkR W (.bi s a b) = (match Rd.wy W (.bi s a b) with
        | some r => some r
        | none => match mkR W a, mkR W b with
          | some r, some q => some (.bi s r q)
          | _, _ => none) := rfl
      rw [em]
      cases ew : Rd.wy W (.bi s a b) with
      | some r => rfl
      | none =>
        cases ea : mkR W a with
        | none => rfl
        | some ra =>
          cases eb : mkR W b with
          | none => rfl
          | some rb => rfl
theorem WayOk.snoc {d : Nat} {ts : List Tr} {W : WayL} (h : WayOk d ts W) {t : Tr} {r : Rc} (wf : Wf t) (dp : t.dep ≤ d) (hr : rcx ts r = .inr t) (ok : RcOk r) (hl : (lookG W (textOf t)).isSome = false) (hO : ∀ O', (∀ t ∈ ts, t ∈ O') → PCl O' → SCl O' O' → t ∈ O') : WayOk d ts (W ++ [(textOf t, t, r)]) := by
  refine ⟨fun p hp => ?_, fun p hp => ?_, fun p hp => ?_, ?_, fun O' a b c u hu => ?_⟩
  · rcases List.mem_append.mp hp with hp | hp
    · exact h.tx p hp
    · rw [List.mem_singleton.mp hp]
  · rcases List.mem_append.mp hp with hp | hp
    · exact h.wf p hp
    · rw [List.mem_singleton.mp hp]; exact ⟨wf, dp⟩
  · rcases List.mem_append.mp hp with hp | hp
    · exact h.rc p hp
    · rw [List.mem_singleton.mp hp]; exact ⟨hr, ok⟩
  · rw [List.map_append, List.nodup_append]
    refine ⟨h.nd, by simp, fun x hx y hy e => ?_⟩
    have hy : y = textOf t := by simpa using hy
    subst e
    rw [hy] at hx
    obtain ⟨q, hq⟩ := lookG_some hx
    rw [hq] at hl
    cases hl
  · unfold wtr at hu
    rw [List.map_append] at hu
    rcases List.mem_append.mp hu with hu | hu
    · exact h.lst O' a b c u hu
    · have : u = t := by simpa using hu
      rw [this]
      exact hO O' a b c
/-- what a call of add_way does -/
structure AddOk (W W' : WayL) (t : Tr) : Prop where
  pre : ∃ m, W' = W ++ m
  mem : t ∈ wtr W'
  pcl : ∀ a b, Tr.bi "pair" a b ∈ wtr W' → Tr.bi "pair" a b ∈ wtr W ∨ (a ∈ wtr W' ∧ b ∈ wtr W')
theorem AddOk.sub {W W' : WayL} {t : Tr} (h : AddOk W W' t) : ∀ u ∈ wtr W, u ∈ wtr W' := by
  obtain ⟨m, rfl⟩ := h.pre
  intro u hu
  unfold wtr
  rw [List.map_append]
  exact List.mem_append_left _ hu
/-- closed ways are the opened parts -/
theorem WayOk.done {d : Nat} {ts : List Tr} {W : WayL} (h : WayOk d ts W) (hb : ∀ t ∈ ts, t ∈ wtr W) (hp : PCl (wtr W)) (hs : ∀ t ∈ wtr W, ∀ key, ukey t = some key → (mkR W key).isSome = true → cnt1 t ∈ wtr W) : IsOpen ts (wtr W) := by
  refine ⟨hb, hp, fun s c k key hm hk hmk => ?_, h.lst⟩
  obtain ⟨p, hp1, e⟩ := List.mem_map.mp hm
  have wf := (h.wf p hp1).1
  rw [e] at wf
  obtain ⟨wk, _⟩ := ukey_wf wf hk
  exact hs _ hm key hk (by rw [mkR_some h wk]; exact hmk)
end Rd
namespace Rd
open PySem L2
def rcd : Rc → PyData
  | .at_ k => .tuple [.str "at", .int k]
  | .wd x => .tuple [.str "word", .str x]
  | .un s r => .tuple [.str s, rcd r]
  | .bi s r q => .tuple [.str s, rcd r, rcd q]
theorem IsR.dp {K : PySem.W.Frag} {H : Hp} : ∀ {r : Rc} {v : V}, IsR H r v → Dp K H v (rcd r)
  | .at_ _, v, ⟨p, e, h⟩ => by subst e; exact .tup (SqT.of h) (.cons (.str _) (.cons (.int _) .nil))
  | .wd _, v, ⟨p, e, h⟩ => by subst e; exact .tup (SqT.of h) (.cons (.str _) (.cons (.str _) .nil))
  | .un s r, v, ⟨p, u, e, h, g⟩ => by subst e; exact .tup (SqT.of h) (.cons (.str _) (.cons g.dp .nil))
  | .bi s r q, v, ⟨p, u, u2, e, h, g1, g2⟩ => by subst e; exact .tup (SqT.of h) (.cons (.str _) (.cons g1.dp (.cons g2.dp .nil)))
theorem unl_ok {s : Str} (h : s ∈ UNL) : okS s := okS_of (l := UNL) (by decide +kernel) h
theorem bil_ok {s : Str} (h : s ∈ BIL) : okS s := okS_of (l := BIL) (by decide +kernel) h
theorem atw_ok {s : Str} (h : s ∈ (["at", "word"] : List Str)) : okS s := okS_of (l := ["at", "word"]) (by decide +kernel) h
theorem RcOk.lay : ∀ {r : Rc}, RcOk r → (rcd r).canLay0 = true
  | .at_ k, _ => by
    show (PyData.strOk ("at" : Str) && (true && true)) = true
    rw [strOk_of (atw_ok (by simp))]
    rfl
  | .wd x, h => by
    show (PyData.strOk ("word" : Str) && (PyData.strOk x && true)) = true
    rw [strOk_of (atw_ok (by simp)), strOk_of (word_len h).2.2]
    rfl
  | .un s r, h => by
    show (PyData.strOk s && ((rcd r).canLay0 && true)) = true
    rw [strOk_of (unl_ok h.1), RcOk.lay h.2]
    rfl
  | .bi s r q, h => by
    show (PyData.strOk s && ((rcd r).canLay0 && ((rcd q).canLay0 && true))) = true
    rw [strOk_of (bil_ok h.1), RcOk.lay h.2.1, RcOk.lay h.2.2]
    rfl
/-- a recipe or None -/
def MkV (H : Hp) (o : Option Rc) (v : V) : Prop := (o = none ∧ v = .non) ∨ ∃ r, o = some r ∧ IsR H r v
theorem MkV.mono {C : Addr} {H H' : Hp} {o : Option Rc} {v : V} (k : Kp C H H') (h : MkV H o v) : MkV H' o v := by
  rcases h with h | ⟨r, e, h⟩
  · exact .inl h
  · exact .inr ⟨r, e, h.mono k⟩
theorem MkV.same {H H' : Hp} {o : Option Rc} {v : V} (s : Same H H') (h : MkV H o v) : MkV H' o v := h.mono (C := 0) (Kp.of_same s)
def mkd : Option Rc → PyData
  | none => .none
  | some r => rcd r
theorem MkV.dp {K : PySem.W.Frag} {H : Hp} {o : Option Rc} {v : V} (h : MkV H o v) : Dp K H v (mkd o) := by
  rcases h with ⟨rfl, rfl⟩ | ⟨r, rfl, h⟩
  · exact .non
  · exact h.dp
/-- a way: a form and its recipe -/
def IsW (H : Hp) (p : Tr × Rc) (v : V) : Prop := ∃ q u r, v = .ref q ∧ H q = some (.tup [u, r]) ∧ IsT H p.1 u ∧ IsR H p.2 r
theorem IsW.mono {C : Addr} {H H' : Hp} {p : Tr × Rc} {v : V} (k : Kp C H H') (h : IsW H p v) : IsW H' p v := by
  obtain ⟨q, u, r, e, h1, h2, h3⟩ := h
  exact ⟨q, u, r, e, k _ _ rfl h1, h2.mono k, h3.mono k⟩
theorem IsW.same {H H' : Hp} {p : Tr × Rc} {v : V} (s : Same H H') (h : IsW H p v) : IsW H' p v := h.mono (C := 0) (Kp.of_same s)
end Rd
namespace Rd
open PySem L2
theorem WayOk.inAll {d : Nat} {ts : List Tr} {W : WayL} (h : WayOk d ts W) : ∀ t ∈ wtr W, t ∈ allOf ts := h.lst _ (allOf_base ts) (allOf_pcl ts) (allOf_scl ts)
end Rd
namespace Rd
open PySem L2
theorem inV_strs (t : Str) : ∀ nm : List Str, inV (V.str t) (nm.map V.str) = decide (t ∈ nm)
  | [] => by simp [inV]
  | z :: r => by
    have ih := inV_strs t r
    unfold inV at ih ⊢
    rw [List.map_cons, List.any_cons, ih]
    show ((z == t) || _) = _
    by_cases e : z = t
    · subst e; simp
    · have e' : t ≠ z := fun q => e q.symm
      simp [e, e']
def wtF (l : List (Str × Tr)) : List Tr := l.map (·.2)
/-- the rounds of the law: found forms by their texts -/
structure LwI (d : Nat) (ts : List Tr) (l : List (Str × Tr)) : Prop where
  tx : ∀ p ∈ l, p.1 = textOf p.2
  wf : ∀ p ∈ l, Wf p.2 ∧ p.2.dep ≤ d
  nd : (l.map (·.1)).Nodup
  base : ∀ t ∈ ts, t ∈ wtF l
  lst : ∀ O', (∀ t ∈ ts, t ∈ O') → PCl O' → SCl O' O' → ∀ t ∈ wtF l, t ∈ O'
def putT (l : List (Str × Tr)) (t : Tr) : List (Str × Tr) := if (lookG l (textOf t)).isSome = true then l else l ++ [(textOf t, t)]
theorem look_has {l : List (Str × Tr)} (tx : ∀ p ∈ l, p.1 = textOf p.2) (wl : ∀ p ∈ l, Wf p.2) {t : Tr} (wf : Wf t) : (lookG l (textOf t)).isSome = decide (t ∈ wtF l) := by
  rw [Bool.eq_iff_iff, decide_eq_true_eq, Option.isSome_iff_exists]
  constructor
  · rintro ⟨u, e⟩
    have hm := lookG_mem e
    have : u = t := text_inj (wl _ hm) wf (tx _ hm).symm
    exact List.mem_map.mpr ⟨_, hm, this⟩
  · intro hm
    obtain ⟨p, hp, e⟩ := List.mem_map.mp hm
    exact lookG_some (List.mem_map.mpr ⟨p, hp, by rw [tx p hp, e]⟩)
theorem putT_mem {l : List (Str × Tr)} (tx : ∀ p ∈ l, p.1 = textOf p.2) (wl : ∀ p ∈ l, Wf p.2) {t : Tr} (wf : Wf t) : ∀ u, u ∈ wtF (putT l t) ↔ u ∈ wtF l ∨ u = t := by
  intro u
  unfold putT
  by_cases h : (lookG l (textOf t)).isSome = true
  · rw [if_pos h]
    rw [look_has tx wl wf] at h
    have := of_decide_eq_true h
    exact ⟨.inl, fun e => by rcases e with e | rfl; exact e; exact this⟩
  · rw [if_neg h]
    unfold wtF
    rw [List.map_append, List.mem_append]
    simp
theorem LwI.put {d : Nat} {ts : List Tr} {l : List (Str × Tr)} (h : LwI d ts l) {t : Tr} (wf : Wf t) (dp : t.dep ≤ d) (hO : ∀ O', (∀ t ∈ ts, t ∈ O') → PCl O' → SCl O' O' → t ∈ O') : LwI d ts (putT l t) := by
  have hm := putT_mem h.tx (fun p hp => (h.wf p hp).1) wf
  unfold putT at hm ⊢
  by_cases hl : (lookG l (textOf t)).isSome = true
  · rw [if_pos hl]
    exact h
  · rw [if_neg hl] at hm ⊢
    refine ⟨fun p hp => ?_, fun p hp => ?_, ?_, fun t ht => (hm t).mpr (.inl (h.base t ht)), fun O' a b c u hu => ?_⟩
    · rcases List.mem_append.mp hp with hp | hp
      · exact h.tx p hp
      · rw [List.mem_singleton.mp hp]
    · rcases List.mem_append.mp hp with hp | hp
      · exact h.wf p hp
      · rw [List.mem_singleton.mp hp]; exact ⟨wf, dp⟩
    · rw [List.map_append, List.nodup_append]
      refine ⟨h.nd, by simp, fun x hx y hy e => ?_⟩
      have hy : y = textOf t := by simpa using hy
      subst e
      rw [hy] at hx
      obtain ⟨q, hq⟩ := lookG_some hx
      rw [hq] at hl
      exact hl rfl
    · rcases (hm u).mp hu with hu | rfl
      · exact h.lst O' a b c u hu
      · exact hO O' a b c
theorem wtF_nodup {l : List (Str × Tr)} (tx : ∀ p ∈ l, p.1 = textOf p.2) (nd : (l.map (·.1)).Nodup) : (wtF l).Nodup := by
  induction l with
  | nil => exact List.nodup_nil
  | cons p l ih =>
    rw [List.map_cons, List.nodup_cons] at nd
    unfold wtF
    rw [List.map_cons, List.nodup_cons]
    refine ⟨fun hm => nd.1 ?_, ih (fun q hq => tx q (List.mem_cons_of_mem _ hq)) nd.2⟩
    obtain ⟨q, hq, e⟩ := List.mem_map.mp hm
    refine List.mem_map.mpr ⟨q, hq, ?_⟩
    rw [tx q (List.mem_cons_of_mem _ hq), tx p List.mem_cons_self, e]
theorem LwI.len {d : Nat} {ts : List Tr} {l : List (Str × Tr)} (h : LwI d ts l) : l.length ≤ (allOf ts).length := by
  have e : l.length = (wtF l).length := by unfold wtF; rw [List.length_map]
  rw [e]
  exact nodup_sub (wtF_nodup h.tx h.nd) (h.lst _ (allOf_base ts) (allOf_pcl ts) (allOf_scl ts))
theorem LwI.inAll {d : Nat} {ts : List Tr} {l : List (Str × Tr)} (h : LwI d ts l) : ∀ t ∈ wtF l, t ∈ allOf ts := h.lst _ (allOf_base ts) (allOf_pcl ts) (allOf_scl ts)
/-- what one form opens -/
def inn2 (O : List Tr) (t : Tr) : List Tr := if t.head = "pair" then t.parts else if opn O t = true then [cnt1 t] else []
theorem LwI.done {d : Nat} {ts : List Tr} {l : List (Str × Tr)} (h : LwI d ts l) (hc : ∀ t ∈ wtF l, ∀ u ∈ inn2 (wtF l) t, u ∈ wtF l) : IsOpen ts (wtF l) := by
  refine ⟨h.base, fun a b hab => ?_, fun s c k key hm hk hmk => ?_, h.lst⟩
  · have := hc _ hab
    rw [show inn2 (wtF l) (.bi "pair" a b) = [a, b] from if_pos rfl] at this
    exact ⟨this a (by simp), this b (by simp)⟩
  · refine hc _ hm c ?_
    have hs : s ≠ "pair" := fun e => by
      subst e
      have : ukey (.bi "pair" c k) = none := by
        show (if ("pair" : Str) = "seal" then some k else if ("pair" : Str) = "lock" then lkey k else none) = none
        rw [if_neg (by decide +kernel), if_neg (by decide +kernel)]
      rw [this] at hk
      cases hk
    unfold inn2
    rw [if_neg (show ¬ (Tr.bi s c k).head = "pair" from hs), if_pos]
    · exact List.mem_cons_self
    · unfold opn
      rw [hk]
      exact hmk
end Rd
namespace Rd
open PySem L2
theorem LwI.init {d : Nat} {ts : List Tr} (wt : ∀ t ∈ ts, Wf t ∧ t.dep ≤ d) : LwI d ts (ts.foldl putT []) := by
  have key : ∀ (us : List Tr) (l : List (Str × Tr)), (∀ t ∈ us, t ∈ ts) → (∀ p ∈ l, p.1 = textOf p.2) → (∀ p ∈ l, Wf p.2 ∧ p.2.dep ≤ d) → (l.map (·.1)).Nodup → (∀ t ∈ wtF l, t ∈ ts) →
      (∀ p ∈ us.foldl putT l, p.1 = textOf p.2) ∧ (∀ p ∈ us.foldl putT l, Wf p.2 ∧ p.2.dep ≤ d) ∧ ((us.foldl putT l).map (·.1)).Nodup ∧ (∀ t ∈ wtF (us.foldl putT l), t ∈ ts) ∧ (∀ t ∈ wtF l, t ∈ wtF (us.foldl putT l)) ∧ ∀ t ∈ us, t ∈ wtF (us.foldl putT l) := by
    intro us
    induction us with
    | nil => exact fun l _ a b c e => ⟨a, b, c, e, fun t h => h, fun t h => by cases h⟩
    | cons u us ih =>
      intro l hs tx wl nd hm
      obtain ⟨w1, w2⟩ := wt u (hs u List.mem_cons_self)
      have hmem := putT_mem tx (fun p hp => (wl p hp).1) w1
      have tx' : ∀ p ∈ putT l u, p.1 = textOf p.2 := fun p hp => by
        unfold putT at hp
        split at hp
        · exact tx p hp
        · rcases List.mem_append.mp hp with hp | hp
          · exact tx p hp
          · rw [List.mem_singleton.mp hp]
      have wl' : ∀ p ∈ putT l u, Wf p.2 ∧ p.2.dep ≤ d := fun p hp => by
        unfold putT at hp
        split at hp
        · exact wl p hp
        · rcases List.mem_append.mp hp with hp | hp
          · exact wl p hp
          · rw [List.mem_singleton.mp hp]; exact ⟨w1, w2⟩
      have nd' : ((putT l u).map (·.1)).Nodup := by
        unfold putT
        split
        · exact nd
        · rename_i hl
          rw [List.map_append, List.nodup_append]
          refine ⟨nd, by simp, fun x hx y hy e => ?_⟩
          have hy : y = textOf u := by simpa using hy
          subst e
          rw [hy] at hx
          obtain ⟨q, hq⟩ := lookG_some hx
          rw [hq] at hl
          exact hl rfl
      obtain ⟨a, b, c, e, f, g⟩ := ih (putT l u) (fun t ht => hs t (List.mem_cons_of_mem _ ht)) tx' wl' nd' fun t ht => by
        rcases (hmem t).mp ht with h | rfl
        · exact hm t h
        · exact hs t List.mem_cons_self
      refine ⟨a, b, c, e, fun t ht => f t ((hmem t).mpr (.inl ht)), fun t ht => ?_⟩
      rcases List.mem_cons.mp ht with rfl | ht
      · exact f t ((hmem t).mpr (.inr rfl))
      · exact g t ht
  obtain ⟨a, b, c, e, _, g⟩ := key ts [] (fun t h => h) (fun p h => by cases h) (fun p h => by cases h) List.nodup_nil (fun t h => by cases h)
  exact ⟨a, b, c, g, fun O' x _ _ t ht => x t (e t ht)⟩
end Rd
namespace Rd
open PySem L2
def Rc.dp : Rc → Nat
  | .at_ _ => 0
  | .wd _ => 0
  | .un _ r => r.dp + 1
  | .bi _ r q => max r.dp q.dp + 1
def TrV (H : Hp) (o : Option Tr) (v : V) : Prop := (o = none ∧ v = .non) ∨ ∃ t, o = some t ∧ IsT H t v
theorem TrV.same {H H' : Hp} {o : Option Tr} {v : V} (s : Same H H') (h : TrV H o v) : TrV H' o v := by
  rcases h with h | ⟨t, e, h⟩
  · exact .inl h
  · exact .inr ⟨t, e, h.same s⟩
def wkd (s : Str) : List Tr → Option Tr
  | [t] => wk1 s t
  | [t, u] => wk2 s t u
  | _ => none
theorem unl_cases {s : Str} (h : s ∈ UNL) : s = "first" ∨ s = "second" ∨ s = "mark" ∨ s = "open" := by simpa [UNL] using h
theorem bil_cases {s : Str} (h : s ∈ BIL) : s = "unseal" ∨ s = "unlock" ∨ s = "pair" ∨ s = "seal" ∨ s = "lock" := by simpa [BIL] using h
theorem wk1_wf {s : Str} {t u : Tr} (hs : s ∈ UNL) (wf : Wf t) (e : wk1 s t = some u) : Wf u ∧ u.dep ≤ t.dep + 1 := by
  unfold wk1 at e
  rcases unl_cases hs with rfl | rfl | rfl | rfl
  · rw [if_pos rfl] at e
    rcases wf.shp with ⟨k, x, rfl, _⟩ | ⟨z, a, rfl, _⟩ | ⟨z, a, b, rfl, _, wa, wb⟩
    · cases e
    · cases e
    · have ed : (Tr.bi z a b).dep = max a.dep b.dep + 1 := rfl
      have e : (if z = "pair" then some a else none) = some u := e
      split at e
      · cases e; exact ⟨wa, by omega⟩
      · cases e
  · rw [if_neg (by decide +kernel), if_pos rfl] at e
    rcases wf.shp with ⟨k, x, rfl, _⟩ | ⟨z, a, rfl, _⟩ | ⟨z, a, b, rfl, _, wa, wb⟩
    · cases e
    · cases e
    · have ed : (Tr.bi z a b).dep = max a.dep b.dep + 1 := rfl
      have e : (if z = "pair" then some b else none) = some u := e
      split at e
      · cases e; exact ⟨wb, by omega⟩
      · cases e
  · rw [if_neg (by decide +kernel), if_neg (by decide +kernel)] at e
    cases e
    exact ⟨.un (by decide +kernel) wf, Nat.le_refl _⟩
  · rw [if_neg (by decide +kernel), if_neg (by decide +kernel)] at e
    cases e
    exact ⟨.un (by decide +kernel) wf, Nat.le_refl _⟩
theorem key_shape {u : Tr} (wf : Wf u) (h : u.head = "open" ∨ u.head = "own") : ∃ s k, u = .un s k ∧ s ∈ (["open", "own"] : List Str) ∧ Wf k := by
  rcases wf.shp with ⟨k, x, rfl, ko⟩ | ⟨z, a, rfl, _, wa⟩ | ⟨z, a, b, rfl, hz, _⟩
  · have h : k = "open" ∨ k = "own" := h
    rcases ko with ⟨rfl, _⟩ | ⟨rfl, _⟩ | ⟨rfl, _⟩ <;> exact absurd h (by decide +kernel)
  · have h : z = "open" ∨ z = "own" := h
    refine ⟨z, a, rfl, ?_, wa⟩
    rcases h with rfl | rfl <;> decide +kernel
  · have h : z = "open" ∨ z = "own" := h
    have : ∀ y ∈ (["pair", "seal", "lock"] : List Str), ¬ (y = "open" ∨ y = "own") := by decide +kernel
    exact absurd h (this z hz)
theorem wk2_wf {s : Str} {t u o : Tr} (hs : s ∈ BIL) (wf : Wf t) (wu : Wf u) (e : wk2 s t u = some o) : Wf o ∧ o.dep ≤ max t.dep u.dep + 1 := by
  unfold wk2 at e
  have op : ∀ {nm : Str}, (match t with | .bi z a k => if z = nm ∧ (nm = "seal" ∧ k = u ∨ nm = "lock" ∧ ukey (.bi z a k) = some u) then some a else none | _ => none) = some o → Wf o ∧ o.dep ≤ max t.dep u.dep + 1 := fun {nm} e => by
    rcases wf.shp with ⟨k, x, rfl, _⟩ | ⟨z, a, rfl, _⟩ | ⟨z, a, b, rfl, _, wa, wb⟩
    · cases e
    · cases e
    · have ed : (Tr.bi z a b).dep = max a.dep b.dep + 1 := rfl
      have e : (if z = nm ∧ (nm = "seal" ∧ b = u ∨ nm = "lock" ∧ ukey (.bi z a b) = some u) then some a else none) = some o := e
      split at e
      · cases e; exact ⟨wa, by omega⟩
      · cases e
  rcases bil_cases hs with rfl | rfl | rfl | rfl | rfl
  · rw [if_pos rfl] at e
    rcases wf.shp with ⟨k, x, rfl, _⟩ | ⟨z, a, rfl, _⟩ | ⟨z, a, b, rfl, _, wa, wb⟩
    · cases e
    · cases e
    · have ed : (Tr.bi z a b).dep = max a.dep b.dep + 1 := rfl
      have e : (if z = "seal" ∧ b = u then some a else none) = some o := e
      split at e
      · cases e; exact ⟨wa, by omega⟩
      · cases e
  · rw [if_neg (by decide +kernel), if_pos rfl] at e
    rcases wf.shp with ⟨k, x, rfl, _⟩ | ⟨z, a, rfl, _⟩ | ⟨z, a, b, rfl, _, wa, wb⟩
    · cases e
    · cases e
    · have ed : (Tr.bi z a b).dep = max a.dep b.dep + 1 := rfl
      have e : (if z = "lock" ∧ ukey (.bi z a b) = some u then some a else none) = some o := e
      split at e
      · cases e; exact ⟨wa, by omega⟩
      · cases e
  · rw [if_neg (by decide +kernel), if_neg (by decide +kernel), if_neg (by decide +kernel)] at e
    cases e
    exact ⟨.bi (by decide +kernel) wf wu, Nat.le_refl _⟩
  · rw [if_neg (by decide +kernel), if_neg (by decide +kernel), if_neg (by decide +kernel)] at e
    cases e
    exact ⟨.bi (by decide +kernel) wf wu, Nat.le_refl _⟩
  · rw [if_neg (by decide +kernel), if_neg (by decide +kernel), if_pos rfl] at e
    split at e
    · rename_i hu
      cases e
      obtain ⟨s', k, rfl, hk, wk⟩ := key_shape wu hu
      exact ⟨.lk hk wf wk, Nat.le_refl _⟩
    · cases e
theorem rcx_wf {ts : List Tr} {D : Nat} (wt : ∀ t ∈ ts, Wf t ∧ t.dep ≤ D) : ∀ {r : Rc}, RcOk r → ∀ {t : Tr}, rcx ts r = .inr t → Wf t ∧ t.dep ≤ D + r.dp
  | .at_ k, _, t, e => by
    have e : (if 0 ≤ k then (match ts[k.toNat]? with | some t => Sum.inr t | none => .inl (Rc.at_ k)) else .inl (Rc.at_ k)) = .inr t := e
    split at e
    · cases e2 : ts[k.toNat]? with
      | none => rw [e2] at e; cases e
      | some u =>
        rw [e2] at e
        cases e
        exact wt t (List.mem_of_getElem? e2)
    · cases e
  | .wd x, h, t, e => by
    cases e
    exact ⟨.am (.inl ⟨rfl, h⟩), Nat.zero_le _⟩
  | .un s r, h, t, e => by
    unfold rcx at e
    cases er : rcx ts r with
    | inl z => rw [er] at e; cases e
    | inr a =>
      rw [er] at e
      obtain ⟨w1, d1⟩ := rcx_wf wt h.2 er
      have e : (match wk1 s a with | some u => Sum.inr u | none => .inl (Rc.un s r)) = .inr t := e
      cases ew : wk1 s a with
      | none => rw [ew] at e; cases e
      | some u =>
        rw [ew] at e
        cases e
        obtain ⟨w2, d2⟩ := wk1_wf h.1 w1 ew
        exact ⟨w2, by show t.dep ≤ D + (r.dp + 1); omega⟩
  | .bi s r q, h, t, e => by
    unfold rcx at e
    cases er : rcx ts r with
    | inl z => rw [er] at e; cases e
    | inr a =>
      rw [er] at e
      cases eq : rcx ts q with
      | inl z => rw [eq] at e; cases e
      | inr b =>
        rw [eq] at e
        obtain ⟨w1, d1⟩ := rcx_wf wt h.2.1 er
        obtain ⟨w2, d2⟩ := rcx_wf wt h.2.2 eq
        have e : (match wk2 s a b with | some u => Sum.inr u | none => .inl (Rc.bi s r q)) = .inr t := e
        cases ew : wk2 s a b with
        | none => rw [ew] at e; cases e
        | some u =>
          rw [ew] at e
          cases e
          obtain ⟨w3, d3⟩ := wk2_wf h.1 w1 w2 ew
          exact ⟨w3, by show t.dep ≤ D + (max r.dp q.dp + 1); omega⟩
theorem Wf.layW {t : Tr} (wf : Wf t) (h : t.dep ≤ 400) : LayW (dat t) := ⟨dat_lay wf.fine, Nat.le_trans dat_dep (by omega)⟩
theorem isi_base {K : PySem.W.Frag} {m n : String} {b : Bool} (h : kitB m n = some b) : PySem.W.kitOne K (.type m) (.type n) = some b := kit_ty h
def opr (h : Str) : Str := if h = "seal" then "unseal" else "unlock"
theorem wk2_open {s : Str} {t b : Tr} (hs : s ∈ (["unseal", "unlock"] : List Str)) (wf : Wf t) : wk2 s t b = if ((ukey t).isSome = true ∧ opr t.head = s) ∧ ukey t = some b then some (cnt1 t) else none := by
  have hs : s = "unseal" ∨ s = "unlock" := by simpa using hs
  rcases wf.shp with ⟨k, x, rfl, _⟩ | ⟨z, a, rfl, _⟩ | ⟨z, c, k, rfl, hz, wc, wk⟩
  · rw [if_neg (fun h => by cases h.2)]
    rcases hs with rfl | rfl <;> rfl
  · rw [if_neg (fun h => by cases h.2)]
    rcases hs with rfl | rfl <;> rfl
  · have hz : z = "pair" ∨ z = "seal" ∨ z = "lock" := by simpa using hz
    rcases hz with rfl | rfl | rfl
    · have e : ukey (.bi "pair" c k) = none := by
        show (if ("pair" : Str) = "seal" then some k else if ("pair" : Str) = "lock" then lkey k else none) = none
        rw [if_neg (by decide +kernel), if_neg (by decide +kernel)]
      rw [if_neg (fun h => by rw [e] at h; cases h.2)]
      unfold wk2
      rcases hs with rfl | rfl
      · rw [if_pos rfl]
        show (if ("pair" : Str) = "seal" ∧ k = b then some c else none) = none
        rw [if_neg (fun h => absurd h.1 (by decide +kernel))]
      · rw [if_neg (by decide +kernel), if_pos rfl]
        show (if ("pair" : Str) = "lock" ∧ ukey (.bi "pair" c k) = some b then some c else none) = none
        rw [if_neg (fun h => absurd h.1 (by decide +kernel))]
    · have e : ukey (.bi "seal" c k) = some k := by
        show (if ("seal" : Str) = "seal" then some k else if ("seal" : Str) = "lock" then lkey k else none) = some k
        rw [if_pos rfl]
      have eo : opr (Tr.bi "seal" c k).head = "unseal" := if_pos rfl
      rw [e, eo]
      unfold wk2
      rcases hs with rfl | rfl
      · rw [if_pos rfl]
        show (if ("seal" : Str) = "seal" ∧ k = b then some c else none) = _
        by_cases hk : k = b
        · rw [if_pos ⟨rfl, hk⟩, if_pos ⟨⟨rfl, rfl⟩, by rw [hk]⟩]
          rfl
        · rw [if_neg (fun h => hk h.2), if_neg (fun h => hk (Option.some.inj h.2))]
      · rw [if_neg (by decide +kernel), if_pos rfl]
        show (if ("seal" : Str) = "lock" ∧ ukey (.bi "seal" c k) = some b then some c else none) = _
        rw [if_neg (fun h => absurd h.1 (by decide +kernel)), if_neg (fun h => absurd h.1.2 (by decide +kernel))]
    · obtain ⟨s', k', rfl, _⟩ := wf.lockKey
      have e : ukey (.bi "lock" c (.un s' k')) = some (.un (prt s') k') := by
        show (if ("lock" : Str) = "seal" then some (Tr.un s' k') else if ("lock" : Str) = "lock" then lkey (.un s' k') else none) = _
        rw [if_neg (by decide +kernel), if_pos rfl]
        rfl
      have eo : opr (Tr.bi "lock" c (.un s' k')).head = "unlock" := if_neg (show ¬ (("lock" : Str) = "seal") by decide +kernel)
      rw [e, eo]
      unfold wk2
      rcases hs with rfl | rfl
      · rw [if_pos rfl]
        show (if ("lock" : Str) = "seal" ∧ Tr.un s' k' = b then some c else none) = _
        rw [if_neg (fun h => absurd h.1 (by decide +kernel)), if_neg (fun h => absurd h.1.2 (by decide +kernel))]
      · rw [if_neg (by decide +kernel), if_pos rfl]
        show (if ("lock" : Str) = "lock" ∧ ukey (.bi "lock" c (.un s' k')) = some b then some c else none) = _
        rw [e]
        by_cases hk : Tr.un (prt s') k' = b
        · rw [if_pos ⟨rfl, by rw [hk]⟩, if_pos ⟨⟨rfl, rfl⟩, by rw [hk]⟩]
          rfl
        · rw [if_neg (fun h => hk (Option.some.inj h.2)), if_neg (fun h => hk (Option.some.inj h.2))]
theorem wk_else {s : Str} {t : Tr} (hs : s ∈ UNL) (hn : s ∉ (["first", "second"] : List Str)) : wk1 s t = some (.un s t) := by
  unfold wk1
  rw [if_neg (fun e => hn (by rw [e]; decide +kernel)), if_neg (fun e => hn (by rw [e]; decide +kernel))]
theorem wk2_else {s : Str} {t u : Tr} (hn : s ∉ (["unseal", "unlock"] : List Str)) : wk2 s t u = if s = "lock" ∧ ¬ (u.head ∈ (["open", "own"] : List Str)) then none else some (.bi s t u) := by
  unfold wk2
  rw [if_neg (fun e => hn (by rw [e]; decide +kernel)), if_neg (fun e => hn (by rw [e]; decide +kernel))]
  have hm : u.head ∈ (["open", "own"] : List Str) ↔ (u.head = "open" ∨ u.head = "own") := by simp
  by_cases hl : s = "lock"
  · rw [if_pos hl]
    by_cases hu : u.head = "open" ∨ u.head = "own"
    · rw [if_pos hu, if_neg (fun h => h.2 (hm.mpr hu))]
    · rw [if_neg hu, if_pos ⟨hl, fun h => hu (hm.mp h)⟩]
  · rw [if_neg hl, if_neg (fun h => hl h.1)]
def sp_worked : Sp := fun vs H Q _ => ∃ (s : Str) (a : Addr) (us : List V) (ts : List Tr), vs = [.str s, .ref a] ∧ H a = some (.lst us) ∧ TsAt H ts us ∧ (∀ t ∈ ts, Wf t ∧ t.dep ≤ 400) ∧ ((s ∈ UNL ∧ ts.length = 1) ∨ (s ∈ BIL ∧ ts.length = 2)) ∧ ∀ u H', Same H H' → TrV H' (wkd s ts) u → Q u H'
section
variable {P : Program} {w : World} {K : PySem.W.Frag} {mg : Str → Option Value} {base : Heap}
abbrev s_worked : Stmt := top 37
theorem sc_worked : FnScope ["kind", "made"] ["kind", "made"] (defScope s_worked) := ⟨rfl, rfl, rfl, by decide +kernel, rfl, by decide +kernel, by decide +kernel⟩
theorem ok_worked (T : Tx w K mg) : Fk P w K mg base CX0 30 "worked" ["kind", "made"] sp_worked := by
  refine T.F_worked.ok0 sc_worked (fun _ _ _ _ _ _ us hl => match us, hl with | [_, _], _ => rfl)
    (fun vs H Q E h => ?_) (fun cdv A outer s H vs Q E hr h => ?_)
  · obtain ⟨s, a, us, ts, rfl, _⟩ := h
    rfl
  · obtain ⟨s, a, us, ts, rfl, ha, hts, wt, hk, k⟩ := h
    refine ⟨_, (pss_cons (ps_if (pt_cmpR op_inT (pv 0) (pe_tup (pa_cons pe_str (pa_cons pe_str pa_nil))) (by rfl))
  (pss_cons (ps_if (pt_cmpR op_ne (pe_ix ix_tup (pe_ix ix_list (pv 1) pe_int (fun _ _ => rfl)) pe_int (fun _ _ => rfl)) pe_str (nomark _))
  (pss_one (ps_ret pe_non))
  pss_nil)
  (pss_one (ps_ret (pe_ix ix_tup (pe_ix ix_list (pv 1) pe_int (fun _ _ => rfl)) (pe_ifExp (pt_cmpR op_eq (pv 0) pe_str (nomark _)) pe_int pe_int) (fun _ _ => rfl)))))
  pss_nil)
  (pss_cons (ps_if (pt_cmpR op_inT (pv 0) (pe_tup (pa_cons pe_str (pa_cons pe_str pa_nil))) (by rfl))
  (pss_cons (ps_if (PW.pt (pw_or (pt_cmpR op_notInT (pe_ix ix_tup (pe_ix ix_list (pv 1) pe_int (fun _ _ => rfl)) pe_int (fun _ _ => rfl)) (pe_ktk (K := K) rfl T.U_SHUT) (by rfl)) (pw_or (pt_cmpR op_ne (pe_ix (ix_KS T.D_OPENERS) (pe_kdS T.D_OPENERS) (pe_ix ix_tup (pe_ix ix_list (pv 1) pe_int (fun _ _ => rfl)) pe_int (fun _ _ => rfl)) (fun _ _ => rfl)) (pv 0) (nomark _)) (pw_or1 (pt_cmpR (op_neW (units500 hr (by omega))) (pe_fk (ok_undoing_key T) (hr.mono (by omega)) rfl pass0 (pa_cons (pe_ix ix_list (pv 1) pe_int (fun _ _ => rfl)) pa_nil)) (pe_ix ix_list (pv 1) pe_int (fun _ _ => rfl)) (nomark _))))))
  (pss_one (ps_ret pe_non))
  pss_nil)
  (pss_one (ps_ret (pe_ix ix_tup (pe_ix ix_list (pv 1) pe_int (fun _ _ => rfl)) pe_int (fun _ _ => rfl)))))
  pss_nil)
  (pss_cons (ps_if (PW.pt (pw_and (pt_cmpR op_eq (pv 0) pe_str (nomark _)) (pw_and1 (pt_cmpR op_notInT (pe_ix ix_tup (pe_ix ix_list (pv 1) pe_int (fun _ _ => rfl)) pe_int (fun _ _ => rfl)) (pe_tup (pa_cons pe_str (pa_cons pe_str pa_nil))) (by rfl)))))
  (pss_one (ps_ret pe_non))
  pss_nil)
  (pss_one (ps_ret (pe_op op_catT (pe_tup (pa_cons (pv 0) pa_nil)) (pe_callTy call_tuple_of (by rfl) T.z_tuple (by decide +kernel) (pa_cons (pv 1) pa_nil)))))))), ?_⟩
    have hul := hts.len
    obtain ⟨t, u0, ht0, hu0, it, wf, dt⟩ : ∃ t u0, ts[0]? = some t ∧ us[0]? = some u0 ∧ IsT H t u0 ∧ Wf t ∧ t.dep ≤ 400 := by
      have hl : 0 < ts.length := by rcases hk with ⟨_, e⟩ | ⟨_, e⟩ <;> omega
      have e1 : ts[0]? = some ts[0] := List.getElem?_eq_getElem hl
      have e2 : us[0]? = some us[0] := List.getElem?_eq_getElem (by omega)
      exact ⟨_, _, e1, e2, hts.get 0 _ _ e1 e2, wt _ (List.getElem_mem hl)⟩
    have eu0 : atI us 0 = some u0 := at_of (j := 0) rfl hu0
    refine ⟨_, rfl, (by show 2 ≤ sizeLine; decide), fun q1 hq1 => ?_⟩
    have s1 := Rd.Same.upd (o := .tup [.str "first", .str "second"]) hq1
    refine ⟨_, q1, ["first", "second"], rfl, rfl, SqT.of upd_same, _, rfl, ?_⟩
    generalize upd H q1 (.tup [.str "first", .str "second"]) = H1 at s1 ⊢
    have ha1 := s1 _ _ ha
    have it1 := it.same s1
    obtain ⟨pf, zs, e0, hpf⟩ := it1.hd
    subst e0
    by_cases hf : s ∈ (["first", "second"] : List Str)
    · refine iteP (decide_eq_true hf) ?_
      obtain ⟨rfl⟩ : ts = [t] := by
        rcases hk with ⟨_, e⟩ | ⟨h, _⟩
        · match ts, e, ht0 with
          | [a], _, h => cases h; rfl
        · have : ∀ z ∈ BIL, z ∉ (["first", "second"] : List Str) := by decide +kernel
          exact absurd hf (this s h)
      refine ⟨_, rfl, a, _, _, _, rfl, rfl, SqL.of ha1, eu0, pf, _, _, _, rfl, rfl, SqT.of hpf, at_of (j := 0) rfl rfl, rfl, _, rfl, ?_⟩
      rw [decS]
      by_cases hp : t.head = "pair"
      · refine iteN (by rw [decide_eq_true hp]; decide) (nxt ?_)
        try dsimp only
        obtain ⟨c, b, rfl⟩ : ∃ c b, t = .bi "pair" c b := by
          rcases wf.shp with ⟨k0, x0, rfl, ko⟩ | ⟨s0, a0, rfl, hs, _⟩ | ⟨s0, a0, b0, rfl, hs, wa, wb⟩
          · rcases ko with ⟨rfl, _⟩ | ⟨rfl, _⟩ | ⟨rfl, _⟩
            · exact absurd (show ("word" : Str) = "pair" from hp) (by decide +kernel)
            · exact absurd (show ("name" : Str) = "pair" from hp) (by decide +kernel)
            · exact absurd (show ("unknown" : Str) = "pair" from hp) (by decide +kernel)
          · have : ∀ z ∈ (["mark", "open", "own"] : List Str), z ≠ "pair" := by decide +kernel
            exact absurd hp (this s0 hs)
          · have hp : s0 = "pair" := hp
            subst hp
            exact ⟨a0, b0, rfl⟩
        obtain ⟨pf', u1, u2, e', hpf', i1, i2⟩ := it1
        cases e'
        have hs12 : s = "first" ∨ s = "second" := by simpa using hf
        refine ⟨_, rfl, a, _, _, _, rfl, rfl, SqL.of ha1, eu0, _, rfl, rfl, _, rfl, ?_⟩
        rw [decS]
        rcases hs12 with rfl | rfl
        · refine iteP (by decide +kernel) ?_
          refine ⟨pf, _, _, _, rfl, rfl, SqT.of hpf', at_of (j := 1) rfl rfl, k _ _ s1 (.inr ⟨c, ?_, i1⟩)⟩
          show wk1 "first" (.bi "pair" c b) = some c
          rfl
        · refine iteN (by decide +kernel) ?_
          refine ⟨pf, _, _, _, rfl, rfl, SqT.of hpf', at_of (j := 2) rfl rfl, k _ _ s1 (.inr ⟨b, ?_, i2⟩)⟩
          show wk1 "second" (.bi "pair" c b) = some b
          rfl
      · refine iteP (by rw [decide_eq_false hp]; rfl) ?_
        refine k _ _ s1 (.inl ⟨?_, rfl⟩)
        show wk1 s t = none
        have hs12 : s = "first" ∨ s = "second" := by simpa using hf
        cases t with
        | am => rcases hs12 with rfl | rfl <;> rfl
        | un => rcases hs12 with rfl | rfl <;> rfl
        | bi z c b =>
          have hp : z ≠ "pair" := hp
          unfold wk1
          rcases hs12 with rfl | rfl
          · rw [if_pos rfl]
            show (if z = "pair" then some c else none) = none
            rw [if_neg hp]
          · rw [if_neg (by decide +kernel), if_pos rfl]
            show (if z = "pair" then some b else none) = none
            rw [if_neg hp]
    · refine iteN (by rw [decide_eq_false hf]; decide) (nxt ?_)
      try dsimp only
      refine ⟨_, rfl, (by show 2 ≤ sizeLine; decide), fun q2 hq2 => ?_⟩
      have s2 := Rd.Same.upd (o := .tup [.str "unseal", .str "unlock"]) hq2
      refine ⟨_, q2, ["unseal", "unlock"], rfl, rfl, SqT.of upd_same, _, rfl, ?_⟩
      generalize upd H1 q2 (.tup [.str "unseal", .str "unlock"]) = H2 at s2 ⊢
      have S2 := s1.trans s2
      have ha2 := s2 _ _ ha1
      have it2 := it1.same s2
      have hpf2 := s2 _ _ hpf
      by_cases hu : s ∈ (["unseal", "unlock"] : List Str)
      · refine iteP (decide_eq_true hu) ?_
        obtain ⟨b, rfl⟩ : ∃ b, ts = [t, b] := by
          rcases hk with ⟨h, _⟩ | ⟨_, e⟩
          · have : ∀ z ∈ UNL, z ∉ (["unseal", "unlock"] : List Str) := by decide +kernel
            exact absurd hu (this s h)
          · match ts, e, ht0 with
            | [x, b], _, h => cases h; exact ⟨b, rfl⟩
        obtain ⟨u1, rfl⟩ : ∃ u1, us = [.ref pf, u1] := by
          match us, hul, hu0 with
          | [x, b], _, h => cases h; exact ⟨b, rfl⟩
        have ib := (hts.get 1 b u1 rfl rfl).same S2
        obtain ⟨wb, db⟩ := wt b (by simp)
        have eu1 : atI [V.ref pf, u1] 1 = some u1 := at_of (j := 1) rfl rfl
        have ew := wk2_open (b := b) hu wf
        refine seqIf (b := !decide (((ukey t).isSome = true ∧ opr t.head = s) ∧ ukey t = some b)) (fun Q2 kq => ?_) fun H3 s3 => ?_
        · have sh := shut_iff wf
          cases ek : ukey t with
          | none =>
            rw [ek] at sh kq
            refine tb_or (b := true) (c := true) (fun Q3 kq3 => ⟨_, rfl, a, _, _, _, rfl, rfl, SqL.of ha2, eu0, pf, _, _, _, rfl, rfl, SqT.of hpf2, at_of (j := 0) rfl rfl, _, He.ga K "SHUT", ["seal", "lock"], rfl, rfl, T.U_SHUT.tp _, _, rfl, ?_⟩) (fun _ _ e => by cases e) Q2 ?_
            · rw [show (!decide (((none : Option Tr).isSome = true ∧ opr t.head = s) ∧ none = some b)) = true from by rw [decide_eq_false (fun h => by cases h.2)]; rfl] at kq
              exact kq
            · rw [sh]
              exact kq3 _ (Same.refl _)
          | some key =>
            rw [ek] at sh kq
            obtain ⟨sg, c, k', rfl, hsg⟩ : ∃ sg c k', t = .bi sg c k' ∧ (sg = "seal" ∨ sg = "lock") := by
              rcases ukey_inv wf ek with ⟨c, e⟩ | ⟨c, s', k', e, _⟩
              · exact ⟨_, c, _, e, .inl rfl⟩
              · exact ⟨_, c, _, e, .inr rfl⟩
            have hop : (sg, opr sg) ∈ ([("seal", "unseal"), ("lock", "unlock")] : List (Str × Str)) := by
              rcases hsg with rfl | rfl
              · exact List.mem_cons_self
              · show ((("lock" : Str), opr "lock") : Str × Str) ∈ _
                rw [show opr "lock" = "unlock" from by decide +kernel]
                decide +kernel
            have e3 : (!decide (((some key).isSome = true ∧ opr (Tr.bi sg c k').head = s) ∧ some key = some b)) = (false || (!decide (opr sg = s) || !decide (key = b))) := by
              show (!decide ((true = true ∧ opr sg = s) ∧ some key = some b)) = _
              by_cases h1 : opr sg = s
              · by_cases h2 : key = b
                · rw [decide_eq_true ⟨⟨rfl, h1⟩, by rw [h2]⟩, decide_eq_true h1, decide_eq_true h2]; rfl
                · rw [decide_eq_false (fun h => h2 (Option.some.inj h.2)), decide_eq_true h1, decide_eq_false h2]; rfl
              · rw [decide_eq_false (fun h => h1 h.1.2), decide_eq_false h1]; rfl
            rw [e3] at kq
            obtain ⟨w3, w4⟩ := ukey_wf wf ek
            refine tb_or (b := false) (c := !decide (opr sg = s) || !decide (key = b)) (fun Q3 kq3 => ⟨_, rfl, a, _, _, _, rfl, rfl, SqL.of ha2, eu0, pf, _, _, _, rfl, rfl, SqT.of hpf2, at_of (j := 0) rfl rfl, _, He.ga K "SHUT", ["seal", "lock"], rfl, rfl, T.U_SHUT.tp _, _, rfl, ?_⟩) (fun H4 s4 _ => tb_or (b := !decide (opr sg = s)) (c := !decide (key = b)) (fun Q3 kq3 => ⟨_, rfl, a, _, _, _, rfl, rfl, SqL.of (s4 _ _ ha2), eu0, pf, _, _, _, rfl, rfl, SqT.of (s4 _ _ hpf2), at_of (j := 0) rfl rfl, (sg, opr sg), hop, rfl, rfl, _, rfl, rfl, _, rfl, ?_⟩) (fun H5 s5 _ Q3 kq3 => ⟨_, rfl, a, _, _, _, rfl, rfl, SqL.of (s5 _ _ (s4 _ _ ha2)), eu0, _, _, key, rfl, it2.same (s4.trans s5), wf, ek, fun u6 H6 s6 ik => ⟨_, rfl, a, _, _, _, rfl, rfl, SqL.of (s6 _ _ (s5 _ _ (s4 _ _ ha2))), eu1, dat key, dat b, ik.dp, (ib.same ((s4.trans s5).trans s6)).dp, w3.layW (by omega), wb.layW db, _, rfl, ?_⟩⟩)) Q2 kq
            · rw [sh]
              exact kq3 _ (Same.refl _)
            · rw [decS]
              exact kq3 _ (Same.refl _)
            · rw [eqv_dat]
              exact kq3 _ s6
        · have S3 := S2.trans s3
          by_cases hc : ((ukey t).isSome = true ∧ opr t.head = s) ∧ ukey t = some b
          · refine iteN (by rw [decide_eq_true hc]; decide) (nxt ?_)
            try dsimp only
            rw [if_pos hc] at ew
            obtain ⟨key, ek⟩ := Option.isSome_iff_exists.mp hc.1.1
            obtain ⟨sg, c, k', rfl⟩ : ∃ sg c k', t = .bi sg c k' := by
              rcases ukey_inv wf ek with ⟨c, e⟩ | ⟨c, s', k', e, _⟩
              · exact ⟨_, c, _, e⟩
              · exact ⟨_, c, _, e⟩
            obtain ⟨pf', v1, v2, e', hpf3, i1, i2⟩ := it2.same s3
            cases e'
            exact ⟨_, rfl, a, _, _, _, rfl, rfl, SqL.of (s3 _ _ ha2), eu0, pf, _, _, _, rfl, rfl, SqT.of hpf3, at_of (j := 1) rfl rfl, k _ _ S3 (.inr ⟨c, ew, i1⟩)⟩
          · refine iteP (by rw [decide_eq_false hc]; rfl) ?_
            rw [if_neg hc] at ew
            exact k _ _ S3 (.inl ⟨ew, rfl⟩)
      · refine iteN (by rw [decide_eq_false hu]; decide) (nxt ?_)
        try dsimp only
        obtain ⟨bl, ebl, hbl⟩ : ∃ bl : Bool, (∀ H3 : Hp, Same H2 H3 → True) ∧ wkd s ts = (if bl = true then none else some (match ts with | [t] => .un s t | [t, u] => .bi s t u | _ => .am "" "")) ∧ (bl = true ↔ s = "lock" ∧ ∃ u, ts = [t, u] ∧ u.head ∉ (["open", "own"] : List Str)) := by
          rcases hk with ⟨h, e⟩ | ⟨h, e⟩
          · match ts, e, ht0 with
            | [x], _, h0 =>
              cases h0
              refine ⟨false, fun _ _ => trivial, wk_else h hf, ⟨(fun z => by cases z), fun z => ?_⟩⟩
              obtain ⟨_, u, e, _⟩ := z
              cases e
          · match ts, e, ht0 with
            | [x, b], _, h0 =>
              cases h0
              refine ⟨decide (s = "lock" ∧ ¬ (b.head ∈ (["open", "own"] : List Str))), fun _ _ => trivial, ?_, ?_⟩
              · show wk2 s t b = _
                rw [wk2_else hu]
                by_cases hc : s = "lock" ∧ ¬ (b.head ∈ (["open", "own"] : List Str))
                · rw [if_pos hc, decide_eq_true hc, if_pos rfl]
                · rw [if_neg hc, decide_eq_false hc, if_neg (by decide)]
              · rw [decide_eq_true_eq]
                exact ⟨fun z => ⟨z.1, b, rfl, z.2⟩, fun ⟨z1, u, e, z2⟩ => by cases e; exact ⟨z1, z2⟩⟩
        obtain ⟨ewk, hbl⟩ := hbl
        refine seqIf (b := bl) (fun Q2 kq => ?_) fun H3 s3 => ?_
        · by_cases hl : s = "lock"
          · subst hl
            obtain ⟨b, rfl⟩ : ∃ b, ts = [t, b] := by
              rcases hk with ⟨h, _⟩ | ⟨_, e⟩
              · exact absurd h (by decide +kernel)
              · match ts, e, ht0 with
                | [x, b], _, h => cases h; exact ⟨b, rfl⟩
            obtain ⟨u1, rfl⟩ : ∃ u1, us = [.ref pf, u1] := by
              match us, hul, hu0 with
              | [x, b], _, h => cases h; exact ⟨b, rfl⟩
            have ib := (hts.get 1 b u1 rfl rfl).same S2
            have eu1 : atI [V.ref pf, u1] 1 = some u1 := at_of (j := 1) rfl rfl
            obtain ⟨pb, zb, rfl, hpb⟩ := ib.hd
            have eb : bl = (true && !decide (b.head ∈ (["open", "own"] : List Str))) := by
              rw [Bool.true_and, Bool.eq_iff_iff, hbl, Bool.not_eq_true', decide_eq_false_iff_not]
              exact ⟨fun ⟨_, u, e, z⟩ => by cases e; exact z, fun z => ⟨rfl, b, rfl, z⟩⟩
            rw [eb] at kq
            refine tb_and (b := true) (c := !decide (b.head ∈ (["open", "own"] : List Str))) (fun Q3 kq3 => ⟨_, rfl, rfl, _, rfl, kq3 _ (Same.refl _)⟩) (fun H4 s4 _ Q3 kq3 => ⟨_, rfl, a, _, _, _, rfl, rfl, SqL.of (s4 _ _ ha2), eu1, pb, _, _, _, rfl, rfl, SqT.of (s4 _ _ hpb), at_of (j := 0) rfl rfl, (by show 2 ≤ sizeLine; decide), fun q5 hq5 => ⟨_, q5, ["open", "own"], rfl, rfl, SqT.of upd_same, _, rfl, kq3 _ (Rd.Same.upd hq5)⟩⟩) Q2 kq
          · have eb : bl = (false && false) := by
              cases bl with
              | false => rfl
              | true => exact absurd (hbl.mp rfl).1 hl
            rw [eb] at kq
            refine tb_and (b := false) (c := false) (fun Q3 kq3 => ⟨_, rfl, rfl, _, rfl, ?_⟩) (fun _ _ e => by cases e) Q2 kq
            rw [decS, decide_eq_false hl]
            exact kq3 _ (Same.refl _)
        · have S3 := S2.trans s3
          cases bl with
          | true =>
            refine iteT ?_
            exact k _ _ S3 (.inl ⟨ewk, rfl⟩)
          | false =>
            refine iteF (nxt ?_)
            try dsimp only
            have ha3 := s3 _ _ ha2
            refine ⟨_, rfl, (by show 1 ≤ sizeLine; decide), fun q4 hq4 => ?_⟩
            have s4 := Rd.Same.upd (o := .tup [.str s]) hq4
            have h41 : upd H3 q4 (.tup [.str s]) q4 = some (.tup [.str s]) := upd_same
            generalize upd H3 q4 (.tup [.str s]) = H4 at s4 h41 ⊢
            refine ⟨_, rfl, a, _, rfl, .inl ⟨SqL.of (s4 _ _ ha3), fun q5 hq5 => ?_⟩⟩
            have s5 := Rd.Same.upd (o := .tup us) hq5
            have h51 : upd H4 q5 (.tup us) q5 = some (.tup us) := upd_same
            generalize upd H4 q5 (.tup us) = H5 at s5 h51 ⊢
            have big : 16777216 ≤ sizeLine := by decide
            have one : ([V.str s] : List V).length = 1 := rfl
            have hl12 : ts.length = 1 ∨ ts.length = 2 := by rcases hk with ⟨_, e⟩ | ⟨_, e⟩ <;> omega
            have hne : us ≠ [] := fun z => by rw [z] at hul; simp at hul; omega
            refine ⟨q4, q5, _, _, rfl, rfl, SqT.of (s5 _ _ h41), SqT.of h51, (fun z => by cases z), (by omega), (fun z => absurd z hne), fun _ q6 hq6 => ?_⟩
            have s6 := Rd.Same.upd (o := .tup ([.str s] ++ us)) hq6
            have S6 := ((S3.trans s4).trans s5).trans s6
            have hts6 := hts.same S6
            refine k _ _ S6 (.inr ⟨_, ewk, ?_⟩)
            rcases hl12 with e | e
            · match ts, us, hul, e, hts6 with
              | [x], [u], _, _, h => exact ⟨q6, u, rfl, upd_same, h.get 0 x u rfl rfl⟩
            · match ts, us, hul, e, hts6 with
              | [x, y], [u, v], _, _, h => exact ⟨q6, u, v, rfl, upd_same, h.get 0 x u rfl rfl, h.get 1 y v rfl rfl⟩
end
end Rd
namespace Rd
open PySem L2
theorem IsR.hd {H : Hp} {r : Rc} {v : V} (h : IsR H r v) : ∃ p vs, v = .ref p ∧ H p = some (.tup (.str r.tag :: vs)) := by
  cases r with
  | at_ k => obtain ⟨p, e, h⟩ := h; exact ⟨p, _, e, h⟩
  | wd x => obtain ⟨p, e, h⟩ := h; exact ⟨p, _, e, h⟩
  | un s r => obtain ⟨p, u, e, h, _⟩ := h; exact ⟨p, _, e, h⟩
  | bi s r q => obtain ⟨p, u, u2, e, h, _⟩ := h; exact ⟨p, _, e, h⟩
theorem IsR.kids {H : Hp} {r : Rc} {v : V} (h : IsR H r v) (hk : r.kids ≠ []) : ∃ p us, v = .ref p ∧ H p = some (.tup (.str r.tag :: us)) ∧ AtL IsR H r.kids us := by
  cases r with
  | at_ k => exact absurd rfl hk
  | wd x => exact absurd rfl hk
  | un s r =>
    obtain ⟨p, u, e, h, g⟩ := h
    exact ⟨p, [u], e, h, rfl, fun i a b h1 h2 => by
      cases i with
      | zero => cases h1; cases h2; exact g
      | succ i => cases i <;> cases h1⟩
  | bi s r q =>
    obtain ⟨p, u, u2, e, h, g1, g2⟩ := h
    exact ⟨p, [u, u2], e, h, rfl, get2 g1 g2⟩
theorem kids_cases {r : Rc} (ok : RcOk r) : (∃ k, r = .at_ k) ∨ (∃ x, r = .wd x ∧ isWord x = true) ∨ (r.kids ≠ [] ∧ r.tag ≠ "at" ∧ r.tag ≠ "word" ∧ (∀ q ∈ r.kids, RcOk q ∧ q.dp + 1 ≤ r.dp) ∧ ((r.tag ∈ UNL ∧ r.kids.length = 1) ∨ (r.tag ∈ BIL ∧ r.kids.length = 2))) := by
  cases r with
  | at_ k => exact .inl ⟨k, rfl⟩
  | wd x => exact .inr (.inl ⟨x, rfl, ok⟩)
  | un s r =>
    refine .inr (.inr ⟨(fun e => by cases e), ?_, ?_, fun q hq => ?_, .inl ⟨ok.1, rfl⟩⟩)
    · have : ∀ z ∈ UNL, z ≠ "at" := by decide +kernel
      exact this s ok.1
    · have : ∀ z ∈ UNL, z ≠ "word" := by decide +kernel
      exact this s ok.1
    · rw [List.mem_singleton.mp hq]
      exact ⟨ok.2, Nat.le_refl _⟩
  | bi s r q =>
    refine .inr (.inr ⟨(fun e => by cases e), ?_, ?_, fun z hz => ?_, .inr ⟨ok.1, rfl⟩⟩)
    · have : ∀ z ∈ BIL, z ≠ "at" := by decide +kernel
      exact this s ok.1
    · have : ∀ z ∈ BIL, z ≠ "word" := by decide +kernel
      exact this s ok.1
    · have hz : z = r ∨ z = q := by simpa [Rc.kids] using hz
      have e : (Rc.bi s r q).dp = max r.dp q.dp + 1 := rfl
      rcases hz with rfl | rfl
      · exact ⟨ok.2.1, by omega⟩
      · exact ⟨ok.2.2, by omega⟩
end Rd
namespace Rd
open PySem L2
theorem fits1 {s : Str} {t : Tr} (hs : s ∈ (["unseal", "unlock"] : List Str)) (wf : Wf t) : decide (t.head = cutS s (some 2) none) = decide ((ukey t).isSome = true ∧ opr t.head = s) := by
  have hs : s = "unseal" ∨ s = "unlock" := by simpa using hs
  have key : ∀ z : Str, (z = "seal" ∨ z = "lock" → (z = cutS s (some 2) none ↔ opr z = s)) := by
    rintro z (rfl | rfl) <;> rcases hs with rfl | rfl <;> decide +kernel
  have neg : t.head = cutS s (some 2) none → t.head = "seal" ∨ t.head = "lock" := fun e => by
    rcases hs with rfl | rfl
    · exact .inl (e.trans (by decide +kernel))
    · exact .inr (e.trans (by decide +kernel))
  have iff2 : (ukey t).isSome = true ↔ (t.head = "seal" ∨ t.head = "lock") := by
    have := shut_iff wf
    rw [Bool.eq_iff_iff] at this
    simpa using this.symm
  rw [Bool.eq_iff_iff, decide_eq_true_eq, decide_eq_true_eq, iff2]
  exact ⟨fun e => ⟨neg e, (key _ (neg e)).mp e⟩, fun h => (key _ h.1).mpr h.2⟩
section
variable {P : Program} {w : World} {K : PySem.W.Frag} {mg : Str → Option Value} {base : Heap}
abbrev s__law_step : Stmt := top 60
theorem sc__law_step : FnScope ["_law_kind", "_law_inner", "_law_fits"] ["_law_kind", "_law_inner"] (defScope s__law_step) := ⟨rfl, rfl, rfl, by decide +kernel, rfl, by decide +kernel, by decide +kernel⟩
end
end Rd
namespace Rd
open PySem L2
/-- the first part that does not work -/
theorem rcx_stuck {ts : List Tr} {r e : Rc} {i : Nat} {q : Rc} (hi : r.kids[i]? = some q) (hp : ∀ j, j < i → ∀ p, r.kids[j]? = some p → ∃ t, rcx ts p = .inr t) (he : rcx ts q = .inl e) : rcx ts r = .inl e := by
  cases r with
  | at_ k => cases hi
  | wd x => cases hi
  | un s r =>
    cases i with
    | zero =>
      cases hi
      unfold rcx
      rw [he]
    | succ i => simp [Rc.kids] at hi
  | bi s r1 r2 =>
    match i, hi, hp with
    | 0, hi, _ =>
      cases hi
      unfold rcx
      rw [he]
    | 1, hi, hp =>
      have e2 : r2 = q := Option.some.inj (show some r2 = some q from hi)
      subst e2
      obtain ⟨t, ht⟩ := hp 0 Nat.zero_lt_one r1 rfl
      unfold rcx
      rw [ht]
      show (match rcx ts r2 with
        | .inl e => Sum.inl e
        | .inr t2 => match wk2 s t t2 with
          | some u => Sum.inr u
          | none => Sum.inl (Rc.bi s r1 r2)) = Sum.inl e
      rw [he]
    | i + 2, hi, _ => simp [Rc.kids] at hi
/-- all parts work -/
theorem rcx_all {ts : List Tr} {r : Rc} (hk : r.kids ≠ []) (hp : ∀ (j : Nat) p, r.kids[j]? = some p → ∃ t, rcx ts p = .inr t) : ∃ us : List Tr, us.length = r.kids.length ∧ (∀ (i : Nat) q u, r.kids[i]? = some q → us[i]? = some u → rcx ts q = .inr u) ∧ rcx ts r = (match wkd r.tag us with | some t => .inr t | none => .inl r) := by
  cases r with
  | at_ k => exact absurd rfl hk
  | wd x => exact absurd rfl hk
  | un s r =>
    obtain ⟨t, ht⟩ := hp 0 r rfl
    refine ⟨[t], rfl, fun i q u h1 h2 => ?_, ?_⟩
    · cases i with
      | zero => cases h1; cases h2; exact ht
      | succ i => cases i <;> cases h1
    · show rcx ts (.un s r) = (match wk1 s t with | some t => Sum.inr t | none => Sum.inl (Rc.un s r))
      unfold rcx
      rw [ht]
      all_goals show (match wk1 s t with | some u => Sum.inr u | none => Sum.inl (Rc.un s r)) = _
      all_goals cases wk1 s t <;> rfl
  | bi s r1 r2 =>
    obtain ⟨t1, h1⟩ := hp 0 r1 rfl
    obtain ⟨t2, h2⟩ := hp 1 r2 rfl
    refine ⟨[t1, t2], rfl, get2 (R := fun q u => rcx ts q = .inr u) h1 h2, ?_⟩
    show rcx ts (.bi s r1 r2) = (match wk2 s t1 t2 with | some t => Sum.inr t | none => Sum.inl (Rc.bi s r1 r2))
    unfold rcx
    rw [h1, h2]
    all_goals show (match wk2 s t1 t2 with | some u => Sum.inr u | none => Sum.inl (Rc.bi s r1 r2)) = _
    all_goals cases wk2 s t1 t2 <;> rfl
end Rd
namespace Rd
open PySem L2
def RunV (ts : List Tr) (r : Rc) (H : Hp) (q : Addr) : Prop := (∃ t u, rcx ts r = .inr t ∧ H q = some (.tup [.str "made", u]) ∧ IsT H t u) ∨ (∃ e u, rcx ts r = .inl e ∧ H q = some (.tup [.str "stuck", u]) ∧ IsR H e u)
section
variable {P : Program} {w : World} {K : PySem.W.Frag} {mg : Str → Option Value} {base : Heap}
abbrev s__law_run : Stmt := top 59
theorem sc__law_run : FnScope ["_law_recipe", "_law_forms", "_law_inner", "_law_part", "_law_found", "_law_made"] ["_law_recipe", "_law_forms"] (defScope s__law_run) := ⟨rfl, rfl, rfl, by decide +kernel, rfl, by decide +kernel, by decide +kernel⟩
end
end Rd
namespace Rd
open PySem L2
def Nod5 : Nat → Int → Prop
  | 0, n => 15 ≤ n ∧ n ≤ 30
  | 1, n => 7 ≤ n ∧ n ≤ 14
  | 2, n => 3 ≤ n ∧ n ≤ 6
  | 3, n => 1 ≤ n ∧ n ≤ 2
  | _, n => n = 0
theorem Nod5.le {d : Nat} {n : Int} (h : Nod5 d n) : 0 ≤ n ∧ n ≤ 30 := by
  match d, h with
  | 0, h => exact ⟨by have := h.1; omega, h.2⟩
  | 1, h => exact ⟨by have := h.1; omega, by have := h.2; omega⟩
  | 2, h => exact ⟨by have := h.1; omega, by have := h.2; omega⟩
  | 3, h => exact ⟨by have := h.1; omega, by have := h.2; omega⟩
  | d + 4, h => have h : n = 0 := h; exact ⟨by omega, by omega⟩
theorem Nod5.kids {d : Nat} {n : Int} (hd : d + 1 ≤ 4) (h : Nod5 (d + 1) n) : Nod5 d (2 * n + 1) ∧ Nod5 d (2 * n + 2) ∧ n ≤ 14 := by
  match d, hd, h with
  | 0, _, h => obtain ⟨h1, h2⟩ := h; exact ⟨⟨by omega, by omega⟩, ⟨by omega, by omega⟩, h2⟩
  | 1, _, h => obtain ⟨h1, h2⟩ := h; exact ⟨⟨by omega, by omega⟩, ⟨by omega, by omega⟩, by omega⟩
  | 2, _, h => obtain ⟨h1, h2⟩ := h; exact ⟨⟨by omega, by omega⟩, ⟨by omega, by omega⟩, by omega⟩
  | 3, _, h => have h : n = 0 := h; subst h; exact ⟨⟨by decide, by decide⟩, ⟨by decide, by decide⟩, by decide⟩
end Rd
namespace Rd
open PySem L2
def OkR (H : Hp) (o : Option Rc) (v : V) : Prop := MkV H o v ∧ ∀ r, o = some r → RcOk r
def OkM (H : Hp) (v : V) : Prop := ∃ o, OkR H o v
theorem OkR.mono {C : Addr} {H H' : Hp} {o : Option Rc} {v : V} (k : Kp C H H') (h : OkR H o v) : OkR H' o v := ⟨h.1.mono k, h.2⟩
theorem OkM.mono {C : Addr} {H H' : Hp} {v : V} (k : Kp C H H') (h : OkM H v) : OkM H' v := by
  obtain ⟨o, h⟩ := h
  exact ⟨o, h.mono k⟩
end Rd
namespace Rd
open PySem L2
structure WIv (fs : List Tr) (l : List (Str × Rc)) (rs : List Tr) : Prop where
  tx : l.map (·.1) = rs.map textOf
  nd : (l.map (·.1)).Nodup
  sub : ∀ t ∈ rs, t ∈ allOf fs
  ok : ∀ p ∈ l, RcOk p.2
theorem WIv.nil {fs : List Tr} : WIv fs [] [] := ⟨rfl, List.nodup_nil, (fun t h => by cases h), fun p h => by cases h⟩
theorem WIv.len {fs : List Tr} {l : List (Str × Rc)} {rs : List Tr} (h : WIv fs l rs) : l.length = rs.length := by
  have := congrArg List.length h.tx
  simpa using this
theorem WIv.le {fs : List Tr} {l : List (Str × Rc)} {rs : List Tr} (h : WIv fs l rs) : rs.length ≤ (allOf fs).length := by
  have nd : rs.Nodup := by
    have : (rs.map textOf).Nodup := by rw [← h.tx]; exact h.nd
    exact List.Pairwise.of_map textOf (fun a b e z => e (by rw [z])) this
  exact nodup_sub nd h.sub
theorem WIv.put {fs : List Tr} {l : List (Str × Rc)} {rs : List Tr} (h : WIv fs l rs) {t : Tr} {r : Rc} (ht : t ∈ allOf fs) (ok : RcOk r) (hn : lookG l (textOf t) = none) : WIv fs (l ++ [(textOf t, r)]) (rs ++ [t]) := by
  refine ⟨by rw [List.map_append, List.map_append, h.tx]; rfl, ?_, fun u hu => ?_, fun p hp => ?_⟩
  · rw [List.map_append, List.nodup_append]
    refine ⟨h.nd, by simp, fun x hx y hy e => ?_⟩
    have hy : y = textOf t := by simpa using hy
    subst e
    rw [hy] at hx
    exact lookG_none hn hx
  · rcases List.mem_append.mp hu with hu | hu
    · exact h.sub u hu
    · rw [List.mem_singleton.mp hu]; exact ht
  · rcases List.mem_append.mp hp with hp | hp
    · exact h.ok p hp
    · rw [List.mem_singleton.mp hp]; exact ok
theorem WIv.has {fs : List Tr} {l : List (Str × Rc)} {rs : List Tr} (h : WIv fs l rs) {t : Tr} (ht : t ∈ rs) : ∃ r, lookG l (textOf t) = some r ∧ RcOk r := by
  obtain ⟨r, hr⟩ := lookG_some (l := l) (x := textOf t) (by rw [h.tx]; exact List.mem_map.mpr ⟨t, ht, rfl⟩)
  exact ⟨r, hr, h.ok _ (lookG_mem hr)⟩
def B2 (F R : Addr) (H0 Hc : Hp) : Prop := ∀ c o, c ≠ F → c ≠ R → H0 c = some o → Hc c = some o
theorem B2.refl {F R : Addr} {H0 : Hp} : B2 F R H0 H0 := fun _ _ _ _ e => e
theorem B2.same {F R : Addr} {H0 Hc H' : Hp} (b : B2 F R H0 Hc) (s : Same Hc H') : B2 F R H0 H' := fun c o h1 h2 e => s _ _ (b c o h1 h2 e)
theorem B2.updF {F R : Addr} {H0 Hc : Hp} {o : HO} (b : B2 F R H0 Hc) : B2 F R H0 (upd Hc F o) := fun c o h1 h2 e => by rw [upd_ne h1]; exact b c o h1 h2 e
theorem B2.updR {F R : Addr} {H0 Hc : Hp} {o : HO} (b : B2 F R H0 Hc) : B2 F R H0 (upd Hc R o) := fun c o h1 h2 e => by rw [upd_ne h2]; exact b c o h1 h2 e
theorem B2.kp {F R : Addr} {H0 Hc : Hp} {C : Addr} {kv : List (Key × V)} {xs : List V} (b : B2 F R H0 Hc) (hF : H0 F = some (.dK kv)) (hR : H0 R = some (.lst xs)) : Kp C H0 Hc := fun c o hi e => b c o (fun z => by rw [z, hF] at e; cases e; cases hi) (fun z => by rw [z, hR] at e; cases e; cases hi) e
theorem kp_updF {F : Addr} {H0 : Hp} {C : Addr} {kv kv' : List (Key × V)} (hF : H0 F = some (.dK kv)) : Kp C H0 (upd H0 F (.dK kv')) := fun c o hi e => by
  rw [upd_ne (fun z => by rw [z, hF] at e; cases e; cases hi)]
  exact e
theorem B2.trans {F R : Addr} {H0 H1 H2 : Hp} (a : B2 F R H0 H1) (b : B2 F R H1 H2) : B2 F R H0 H2 := fun c o h1 h2 e => b c o h1 h2 (a c o h1 h2 e)
/-- one of the two that grow -/
structure WSt (F R : Addr) (H1 : Hp) (fs : List Tr) (kvs : List (Key × V)) (l : List (Str × Rc)) (us : List V) (rs : List Tr) (Hc : Hp) : Prop where
  b : B2 F R H1 Hc
  hF : Hc F = some (.dK kvs)
  hR : Hc R = some (.lst us)
  al : AlG IsR Hc l kvs
  at_ : TsAt Hc rs us
  iv : WIv fs l rs
theorem WSt.same {F R : Addr} {H1 Hc H' : Hp} {fs rs : List Tr} {kvs : List (Key × V)} {l : List (Str × Rc)} {us : List V} (h : WSt F R H1 fs kvs l us rs Hc) (s : Same Hc H') : WSt F R H1 fs kvs l us rs H' :=
  ⟨h.b.same s, s _ _ h.hF, s _ _ h.hR, h.al.mono fun t v x => x.same s, h.at_.same s, h.iv⟩
theorem WSt.put {F R : Addr} {H1 Hc : Hp} {fs rs : List Tr} {kvs : List (Key × V)} {l : List (Str × Rc)} {us : List V} (h : WSt F R H1 fs kvs l us rs Hc) (ne : F ≠ R) {t : Tr} {v rv : V} {r : Rc} (it : IsT Hc t v) (ir : IsR Hc r rv) (ok : RcOk r) (ht : t ∈ allOf fs) (hn : lookG l (textOf t) = none) :
    WSt F R H1 fs (kvs ++ [(.inr (textOf t), rv)]) (l ++ [(textOf t, r)]) (us ++ [v]) (rs ++ [t]) (upd (upd Hc F (.dK (kvs ++ [(.inr (textOf t), rv)]))) R (.lst (us ++ [v]))) := by
  have k1 := kp_updF (C := 0) (kv' := kvs ++ [(.inr (textOf t), rv)]) h.hF
  have hR1 : upd Hc F (.dK (kvs ++ [(.inr (textOf t), rv)])) R = some (.lst us) := by rw [upd_ne (Ne.symm ne)]; exact h.hR
  have k2 := k1.trans (Kp.upd_lst (C := 0) (ys := us ++ [v]) hR1)
  exact ⟨h.b.updF.updR, by rw [upd_ne ne]; exact upd_same, upd_same, AlG.snoc (ir.mono k2) (h.al.mono fun t v x => x.mono k2), (h.at_.mono k2).app (TsAt.one (it.mono k2)), h.iv.put ht ok hn⟩
end Rd
namespace Rd
open PySem L2
/-- a list against an empty one -/
def rNeNil (_ : PySem.W.Frag) : R2 := fun x y H Q => ∃ a b xs, x = .ref a ∧ y = .ref b ∧ H a = some (.lst xs) ∧ H b = some (.lst []) ∧ Q (.bl (!xs.isEmpty)) H
theorem op_neNil {X : Cx} (hu0 : X.A.units + 500 < cLine) : OpR X (compareOp .NotEq) (rNeNil X.K) := by
  have hu : X.A.units < cLine := by omega
  intro pins s σ H x y v u Q I rx ry h
  obtain ⟨l, b, xs, rfl, rfl, hH, hB, q⟩ := h
  cases rx
  cases ry
  obtain ⟨z, its, n, r, hl, e⟩ := I.lstM hH
  obtain ⟨z2, its2, n2, r2, hl2, e2⟩ := I.lstM hB
  have h1 : s.heap.IsList l its.toArray := ⟨_, e, rfl, _, rfl⟩
  have h2 : s.heap.IsList b its2.toArray := ⟨_, e2, rfl, _, rfl⟩
  have z2 : its2 = [] := List.eq_nil_of_length_eq_zero (by simpa using hl2.symm)
  subst z2
  cases xs with
  | nil =>
    have z1 : its = [] := List.eq_nil_of_length_eq_zero (by simpa using hl.symm)
    subst z1
    exact PySem.SeqAt.RcNeAt.lists (e := fun _ => true) h1 h2 rfl hu (fun j j1 _ => absurd j1 (by simp)) _ _ _ _ ⟨.bl false, H, I, rfl, q⟩
  | cons y ys =>
    have z1 : 0 < its.length := by rw [← hl]; exact Nat.succ_pos _
    refine PySem.SeqAt.RcNeAt.lists_lengths h1 h2 ?_ hu _ _ _ _ ⟨.bl true, H, I, rfl, q⟩
    simp only [List.size_toArray, bne_iff_ne, List.length_nil]
    omega
theorem walkT {K : PySem.W.Frag} {a : Addr} {xs : List V} {GG : V → Hp → (Hp → Prop) → Prop} {H0 : Hp} {Qd : Hp → Prop} (Pv : Nat → Hp → Prop) (h0 : Pv 0 H0) (hl : ∀ i H, i ≤ xs.length → Pv i H → SqT K H a xs) (hs : ∀ i x H, xs[i]? = some x → Pv i H → GG x H (Pv (i + 1))) (hd : ∀ H, Pv xs.length H → Qd H) :
    ∃ W : Nat → Nat → Hp → Prop, (∃ m, W 0 m H0) ∧ ∀ i m H, W i m H →
      ((Itt K a).stop i H ∧ Qd H) ∨ ((Itt K a).go i H ∧ ∃ Nx : Hp → Prop, (∀ H', Nx H' → ∃ m', m' < m ∧ W (i + 1) m' H') ∧ ∀ x H', (Itt K a).yld i H x H' → GG x H' Nx) := by
  refine ⟨fun i m H => m = xs.length - i ∧ i ≤ xs.length ∧ Pv i H, ⟨xs.length, by simp, Nat.zero_le _, h0⟩, ?_⟩
  rintro i m H ⟨rfl, hi, p⟩
  have q := hl i H hi p
  by_cases hlt : i < xs.length
  · refine .inr ⟨⟨xs, xs[i], q, by simp [hlt]⟩, Pv (i + 1), fun H' p' => ⟨xs.length - (i + 1), by omega, rfl, hlt, p'⟩, fun x H' y => ?_⟩
    obtain ⟨e, y⟩ := y
    subst e
    exact hs i x _ (y xs q) p
  · have e : i = xs.length := by omega
    subst e
    exact .inl ⟨⟨xs, q, Nat.le_refl _⟩, hd H p⟩
/-- [te for x in a tuple if tt] -/
theorem lcgT {α β : Type} {K : PySem.W.Frag} {C a D : Addr} {xs : List V} {ds : List α} {R : Hp → β → V → Prop} {tt : TT} {te : TE} {i0 : Nat} {σ : St} {H1 : Hp} {Qd : Hp → Prop} (p : α → Bool) (g : α → β) (rm : ∀ H H' b v, Kp C H H' → R H b v → R H' b v) (hS : SqT K H1 a xs) (he : xs.length = ds.length) (hl : xs.length ≤ 100000) (hD : H1 D = none)
    (htt : ∀ (i : Nat) (x : V) (d : α) (H : Hp) (Q : Bool → Hp → Prop), xs[i]? = some x → ds[i]? = some d → Same H1 H → (∀ H', Same H H' → Q (p d) H') → tt ((wipe σ [i0]).set i0 (some x)) H Q)
    (hte : ∀ (i : Nat) (x : V) (d : α) (H : Hp) (Q : VK), xs[i]? = some x → ds[i]? = some d → p d = true → Same H1 H → (∀ v H', Same H H' → R H' (g d) v → Q v H') → te ((wipe σ [i0]).set i0 (some x)) H Q)
    (hq : ∀ vs H', Same H1 H' → H' D = some (.lst vs) → AtL R H' ((ds.filter p).map g) vs → Qd H') :
    ∃ W : Nat → Nat → Hp → Prop, (∃ m, W 0 m (L2.upd H1 D (.lst []))) ∧ ∀ i m H, W i m H →
      ((Itt K a).stop i H ∧ Qd H) ∨ ((Itt K a).go i H ∧ ∃ Nx : Hp → Prop, (∀ H', Nx H' → ∃ m', m' < m ∧ W (i + 1) m' H') ∧ ∀ x H', (Itt K a).yld i H x H' → gName i0 x (wipe σ [i0]) H' fun σ2 H2 => wipe σ2 [i0] = wipe σ [i0] ∧ tt σ2 H2 fun b H3 =>
        if b = true then te σ2 H3 fun y H4 => ∃ acc, H4 D = some (.lst acc) ∧ acc.length < sizeLine ∧ Nx (L2.upd H4 D (.lst (acc ++ [y]))) else Nx H3) := by
  refine walkT (K := K) (a := a) (xs := xs) (fun i H => ∃ vs, Same H1 H ∧ H D = some (.lst vs) ∧ AtL R H (((ds.take i).filter p).map g) vs) ⟨[], Rd.Same.upd hD, upd_same, AtL.nil⟩ (fun i H _ ⟨_, s, _⟩ => SqT.kept hS s) ?_ ?_
  · rintro i x H hx ⟨vs, sm, hd, hv⟩
    have hlt := (List.getElem?_eq_some_iff.mp hx).1
    have ht : ds[i]? = some ds[i] := List.getElem?_eq_getElem (by omega)
    have etk : ds.take (i + 1) = ds.take i ++ [ds[i]] := by rw [List.take_succ, ht]; rfl
    refine gName_k ⟨by simp [wipe], ?_⟩
    refine htt i x _ H _ hx ht sm fun H2 s2 => ?_
    cases ep : p ds[i] with
    | false =>
      refine iteF ⟨vs, sm.trans s2, s2 _ _ hd, ?_⟩
      rw [etk, List.filter_append, List.filter_cons_of_neg (by rw [ep]; decide), List.filter_nil, List.append_nil]
      exact hv.mp fun r v h => rm _ _ _ _ (Kp.of_same s2) h
    | true =>
      refine iteT (hte i x _ H2 _ hx ht ep (sm.trans s2) fun v H3 s3 h3 => ?_)
      have hD3 := s3 _ _ (s2 _ _ hd)
      have kp := Kp.upd_lst (C := C) (ys := vs ++ [v]) hD3
      have hvl := hv.len
      have hfl : (((ds.take i).filter p).map g).length ≤ i := by
        rw [List.length_map]
        refine Nat.le_trans (List.length_filter_le _ _) ?_
        rw [List.length_take]
        omega
      have big : 16777216 ≤ sizeLine := by decide
      refine ⟨vs, hD3, by omega, vs ++ [v], fun c o e => ?_, upd_same, ?_⟩
      · rw [upd_ne (ne_of_none e hD)]
        exact s3 _ _ (s2 _ _ (sm _ _ e))
      · rw [etk, List.filter_append, List.filter_cons_of_pos ep, List.filter_nil, List.map_append]
        exact (hv.mp fun r v h => rm _ _ _ _ ((Kp.of_same (s2.trans s3)).trans kp) h).snoc (rm _ _ _ _ kp h3)
  · rintro H ⟨vs, sm, hd, hv⟩
    rw [he, List.take_length] at hv
    exact hq vs H sm hd hv
/-- with other forms in the atoms' place -/
structure FoW (e d : Nat) (t : Tr) : Prop where
  wf : Wf t
  dep : t.dep ≤ e + 2 * d
theorem FoC.w (e : Nat) : FoC (FoW e) := ⟨fun {d s a} hs h => ⟨.un hs h.wf, by show a.dep + 1 ≤ e + 2 * (d + 1); have := h.dep; omega⟩,
  fun {d s a b} hs h g => ⟨.bi hs h.wf g.wf, by show max a.dep b.dep + 1 ≤ e + 2 * (d + 1); have := h.dep; have := g.dep; omega⟩,
  fun {d s a b} hs h g => ⟨.lk hs h.wf g.wf, by show max a.dep (b.dep + 1) + 1 ≤ e + 2 * (d + 1); have := h.dep; have := g.dep; omega⟩⟩
end Rd
namespace Rd
open PySem L2
theorem isi_tup {K : PySem.W.Frag} : PySem.W.kitOne K (.type "tuple") (.type "tuple") = some true := isi_base (by decide +kernel)
end Rd
namespace Rd
open PySem L2
def Rc.sz : Rc → Nat
  | .at_ _ => 1
  | .wd _ => 1
  | .un _ r => r.sz + 1
  | .bi _ r q => r.sz + q.sz + 1
theorem Rc.dp_sz : ∀ r : Rc, r.dp + 1 ≤ r.sz
  | .at_ _ => Nat.le_refl _
  | .wd _ => Nat.le_refl _
  | .un _ r => by have := Rc.dp_sz r; show r.dp + 1 + 1 ≤ r.sz + 1; omega
  | .bi _ r q => by have := Rc.dp_sz r; have := Rc.dp_sz q; show max r.dp q.dp + 1 + 1 ≤ r.sz + q.sz + 1; omega
def szR (rs : List Rc) : Nat := (rs.map Rc.sz).sum
theorem szR_app (l m : List Rc) : szR (l ++ m) = szR l + szR m := by unfold szR; rw [List.map_append, List.sum_append]
theorem sz_kids (r : Rc) : r.sz = szR r.kids + 1 := by
  cases r <;> simp [Rc.sz, Rc.kids, szR]
def Rc.els : Rc → List (Option Rc)
  | .at_ _ => [none, none]
  | .wd _ => [none, none]
  | .un _ r => [none, some r]
  | .bi _ r q => [none, some r, some q]
theorem els_kids (r : Rc) : (r.els.filter Option.isSome).map (fun o => o.getD (.wd "")) = r.kids := by
  cases r <;> rfl
def IsE (H : Hp) (o : Option Rc) (v : V) : Prop := (∃ r, o = some r ∧ IsR H r v) ∨ (o = none ∧ ((∃ s, v = .str s) ∨ ∃ k, v = .int k))
theorem IsE.same {H H' : Hp} {o : Option Rc} {v : V} (s : Same H H') (h : IsE H o v) : IsE H' o v := by
  rcases h with ⟨r, e, h⟩ | h
  · exact .inl ⟨r, e, h.same s⟩
  · exact .inr h
theorem IsR.els {H : Hp} {r : Rc} {v : V} (h : IsR H r v) : ∃ q zs, v = .ref q ∧ H q = some (.tup zs) ∧ zs.length = r.els.length ∧ zs.length ≤ 3 ∧ ∀ (i : Nat) o x, r.els[i]? = some o → zs[i]? = some x → IsE H o x := by
  cases r with
  | at_ k =>
    obtain ⟨p, rfl, hp⟩ := h
    refine ⟨p, _, rfl, hp, rfl, by simp, fun i o x h1 h2 => ?_⟩
    match i, h1, h2 with
    | 0, h1, h2 => cases h1; cases h2; exact .inr ⟨rfl, .inl ⟨_, rfl⟩⟩
    | 1, h1, h2 => cases h1; cases h2; exact .inr ⟨rfl, .inr ⟨_, rfl⟩⟩
  | wd y =>
    obtain ⟨p, rfl, hp⟩ := h
    refine ⟨p, _, rfl, hp, rfl, by simp, fun i o x h1 h2 => ?_⟩
    match i, h1, h2 with
    | 0, h1, h2 => cases h1; cases h2; exact .inr ⟨rfl, .inl ⟨_, rfl⟩⟩
    | 1, h1, h2 => cases h1; cases h2; exact .inr ⟨rfl, .inl ⟨_, rfl⟩⟩
  | un s r =>
    obtain ⟨p, u, rfl, hp, i1⟩ := h
    refine ⟨p, _, rfl, hp, rfl, by simp, fun i o x h1 h2 => ?_⟩
    match i, h1, h2 with
    | 0, h1, h2 => cases h1; cases h2; exact .inr ⟨rfl, .inl ⟨_, rfl⟩⟩
    | 1, h1, h2 => cases h1; cases h2; exact .inl ⟨_, rfl, i1⟩
  | bi s r q =>
    obtain ⟨p, u, u2, rfl, hp, i1, i2⟩ := h
    refine ⟨p, _, rfl, hp, rfl, by simp, fun i o x h1 h2 => ?_⟩
    match i, h1, h2 with
    | 0, h1, h2 => cases h1; cases h2; exact .inr ⟨rfl, .inl ⟨_, rfl⟩⟩
    | 1, h1, h2 => cases h1; cases h2; exact .inl ⟨_, rfl, i1⟩
    | 2, h1, h2 => cases h1; cases h2; exact .inl ⟨_, rfl, i2⟩
theorem isi_stup {K : PySem.W.Frag} : PySem.W.kitOne K (.type "str") (.type "tuple") = some false := isi_base (by decide +kernel)
theorem isi_itup {K : PySem.W.Frag} : PySem.W.kitOne K (.type "int") (.type "tuple") = some false := isi_base (by decide +kernel)
theorem AtL.last {α : Type} {R : Hp → α → V → Prop} {H : Hp} {l : List α} {vs : List V} (h : AtL R H l vs) (hn : vs ≠ []) : ∃ l0 a vs0 v, l = l0 ++ [a] ∧ vs = vs0 ++ [v] ∧ R H a v ∧ AtL R H l0 vs0 := by
  have hl := h.len
  obtain ⟨vs0, v, rfl⟩ : ∃ vs0 v, vs = vs0 ++ [v] := ⟨vs.dropLast, vs.getLast hn, (List.dropLast_concat_getLast hn).symm⟩
  have ln : l ≠ [] := fun e => by rw [e] at hl; simp at hl
  obtain ⟨l0, a, rfl⟩ : ∃ l0 a, l = l0 ++ [a] := ⟨l.dropLast, l.getLast ln, (List.dropLast_concat_getLast ln).symm⟩
  simp only [List.length_append, List.length_singleton] at hl
  have hl2 : vs0.length = l0.length := by omega
  refine ⟨l0, a, vs0, v, rfl, rfl, h.get l0.length a v (by simp) (by rw [← hl2]; simp), ⟨by omega, fun i d u h1 h2 => h.get i d u ?_ ?_⟩⟩
  · rw [List.getElem?_append_left (List.getElem?_eq_some_iff.mp h1).1]
    exact h1
  · rw [List.getElem?_append_left (List.getElem?_eq_some_iff.mp h2).1]
    exact h2
theorem AtL.app {β : Type} {R : Hp → β → V → Prop} {H : Hp} {bs cs : List β} {vs ws : List V} (h : AtL R H bs vs) (g : AtL R H cs ws) : AtL R H (bs ++ cs) (vs ++ ws) := ⟨by rw [List.length_append, List.length_append, h.len, g.len], fun i t v h1 h2 => by
  by_cases hi : i < bs.length
  · rw [List.getElem?_append_left hi] at h1
    rw [List.getElem?_append_left (by rw [h.len]; exact hi)] at h2
    exact h.get i t v h1 h2
  · rw [List.getElem?_append_right (by omega)] at h1
    rw [List.getElem?_append_right (by rw [h.len]; omega), h.len] at h2
    exact g.get _ t v h1 h2⟩
section
variable {P : Program} {w : World} {K : PySem.W.Frag} {mg : Str → Option Value} {base : Heap}
abbrev s__law_tuples : Stmt := top 62
theorem sc__law_tuples : FnScope ["_law_recipe", "_law_waiting", "_law_count", "_law_part"] ["_law_recipe"] (defScope s__law_tuples) := ⟨rfl, rfl, rfl, by decide +kernel, rfl, by decide +kernel, by decide +kernel⟩
end
end Rd
namespace Rd
open PySem L2
def ev (ts : List Tr) : Rc → Option Tr
  | .at_ k => if 0 ≤ k then ts[k.toNat]? else none
  | .wd x => some (.am "word" x)
  | .un s r => (ev ts r).bind (wk1 s)
  | .bi s r q => (ev ts r).bind fun t => (ev ts q).bind (wk2 s t)
theorem rcx_ev {ts : List Tr} : ∀ {r : Rc}, (∀ t, rcx ts r = .inr t ↔ ev ts r = some t)
  | .at_ k, t => by
    show (if 0 ≤ k then (match ts[k.toNat]? with | some t => (.inr t : Rc ⊕ Tr) | none => .inl (Rc.at_ k)) else .inl (Rc.at_ k)) = .inr t ↔ (if 0 ≤ k then ts[k.toNat]? else none) = some t
    by_cases h : 0 ≤ k
    · rw [if_pos h, if_pos h]
      cases ts[k.toNat]? with
      | none => exact ⟨(fun z => by cases z), fun z => by cases z⟩
      | some u => exact ⟨fun z => by cases z; rfl, fun z => by cases z; rfl⟩
    · rw [if_neg h, if_neg h]
      exact ⟨(fun z => by cases z), fun z => by cases z⟩
  | .wd x, t => ⟨fun z => by cases z; rfl, fun z => by cases z; rfl⟩
  | .un s r, t => by
    rw [rcx]
    show _ ↔ (ev ts r).bind (wk1 s) = some t
    cases e : rcx ts r with
    | inl z =>
      have n : ev ts r = none := by
        cases e2 : ev ts r with
        | none => rfl
        | some u => have := (rcx_ev u).mpr e2; rw [e] at this; cases this
      rw [n]
      exact ⟨(fun z => by cases z), fun z => by cases z⟩
    | inr u =>
      rw [(rcx_ev u).mp e]
      show (match wk1 s u with | some u => (.inr u : Rc ⊕ Tr) | none => .inl (.un s r)) = .inr t ↔ wk1 s u = some t
      cases wk1 s u with
      | none => exact ⟨(fun z => by cases z), fun z => by cases z⟩
      | some u => exact ⟨fun z => by cases z; rfl, fun z => by cases z; rfl⟩
  | .bi s r q, t => by
    rw [rcx]
    show _ ↔ ((ev ts r).bind fun t => (ev ts q).bind (wk2 s t)) = some t
    cases e : rcx ts r with
    | inl z =>
      have n : ev ts r = none := by
        cases e2 : ev ts r with
        | none => rfl
        | some u => have := (rcx_ev u).mpr e2; rw [e] at this; cases this
      rw [n]
      exact ⟨(fun z => by cases z), fun z => by cases z⟩
    | inr u =>
      rw [(rcx_ev u).mp e]
      show (match rcx ts q with | .inl e => (.inl e : Rc ⊕ Tr) | .inr t2 => match wk2 s u t2 with | some u => .inr u | none => .inl (.bi s r q)) = .inr t ↔ (ev ts q).bind (wk2 s u) = some t
      cases e2 : rcx ts q with
      | inl z =>
        have n : ev ts q = none := by
          cases e3 : ev ts q with
          | none => rfl
          | some u => have := (rcx_ev u).mpr e3; rw [e2] at this; cases this
        rw [n]
        exact ⟨(fun z => by cases z), fun z => by cases z⟩
      | inr u2 =>
        rw [(rcx_ev u2).mp e2]
        show (match wk2 s u u2 with | some u => (.inr u : Rc ⊕ Tr) | none => .inl (.bi s r q)) = .inr t ↔ wk2 s u u2 = some t
        cases wk2 s u u2 with
        | none => exact ⟨(fun z => by cases z), fun z => by cases z⟩
        | some u => exact ⟨fun z => by cases z; rfl, fun z => by cases z; rfl⟩
theorem ev_none {ts : List Tr} {r : Rc} : ev ts r = none ↔ ∃ e, rcx ts r = .inl e := by
  constructor
  · intro h
    cases e : rcx ts r with
    | inl z => exact ⟨z, rfl⟩
    | inr t => rw [(rcx_ev t).mp e] at h; cases h
  · rintro ⟨z, e⟩
    cases h : ev ts r with
    | none => rfl
    | some t => rw [(rcx_ev t).mpr h] at e; cases e
structure Alk (ts us : List Tr) : Prop where
  w : ∀ r, RcOk r → ((ev ts r).isSome = (ev us r).isSome)
  e : ∀ r s t1 t2 u1 u2, RcOk r → RcOk s → ev ts r = some t1 → ev ts s = some t2 → ev us r = some u1 → ev us s = some u2 → (t1 = t2 ↔ u1 = u2)
theorem Alk.symm {ts us : List Tr} (h : Alk ts us) : Alk us ts := ⟨fun r ok => (h.w r ok).symm, fun r s t1 t2 u1 u2 o1 o2 a b c d => (h.e r s u1 u2 t1 t2 o1 o2 c d a b).symm⟩
inductive Tst where
  | works (r : Rc) : Tst
  | same (r s : Rc) : Tst
def Gen (ts us : List Tr) : Tst → Prop
  | .works r => RcOk r ∧ (ev ts r).isSome ≠ (ev us r).isSome
  | .same r s => RcOk r ∧ RcOk s ∧ ∃ t1 t2 u1 u2, ev ts r = some t1 ∧ ev ts s = some t2 ∧ ev us r = some u1 ∧ ev us s = some u2 ∧ ¬ (t1 = t2 ↔ u1 = u2)
theorem Gen.no {ts us : List Tr} {x : Tst} (g : Gen ts us x) (a : Alk ts us) : False := by
  cases x with
  | works r => exact g.2 (a.w r g.1)
  | same r s =>
    obtain ⟨o1, o2, t1, t2, u1, u2, h1, h2, h3, h4, n⟩ := g
    exact n (a.e r s t1 t2 u1 u2 o1 o2 h1 h2 h3 h4)
theorem Gen.symm {ts us : List Tr} {x : Tst} (g : Gen ts us x) : Gen us ts x := by
  cases x with
  | works r => exact ⟨g.1, Ne.symm g.2⟩
  | same r s =>
    obtain ⟨o1, o2, t1, t2, u1, u2, h1, h2, h3, h4, n⟩ := g
    exact ⟨o1, o2, u1, u2, t1, t2, h3, h4, h1, h2, fun z => n z.symm⟩
abbrev PRow := Tr × Tr × Rc
abbrev PSt := List PRow × Option Tst
def swp (p : PRow) : PRow := (p.2.1, p.1, p.2.2)
def sws (m : List PRow) : List PRow := m.map swp
def tf0 (m : List PRow) (t : Tr) : Option (Rc × Tr) := (m.find? fun p => decide (p.1 = t)).map fun p => (p.2.2, p.2.1)
theorem tf0_some {m : List PRow} {t o : Tr} {r : Rc} (h : tf0 m t = some (r, o)) : (t, o, r) ∈ m := by
  unfold tf0 at h
  obtain ⟨p, hp, e⟩ := Option.map_eq_some_iff.mp h
  have h1 := List.mem_of_find?_eq_some hp
  have h2 := of_decide_eq_true (List.find?_some (p := fun p : PRow => decide (p.1 = t)) hp)
  obtain ⟨a, b, c⟩ := p
  cases e
  have h2 : a = t := h2
  subst h2
  exact h1
theorem tf0_none {m : List PRow} {t : Tr} (h : tf0 m t = none) : t ∉ m.map (·.1) := by
  unfold tf0 at h
  rw [Option.map_eq_none_iff, List.find?_eq_none] at h
  intro hm
  obtain ⟨p, hp, e⟩ := List.mem_map.mp hm
  exact h p hp (decide_eq_true e)
theorem tf0_of {m : List PRow} (nd : (m.map (·.1)).Nodup) {t o : Tr} {r : Rc} (h : (t, o, r) ∈ m) : tf0 m t = some (r, o) := by
  cases e : tf0 m t with
  | none => exact absurd (List.mem_map.mpr ⟨_, h, rfl⟩) (tf0_none e)
  | some z =>
    obtain ⟨r2, o2⟩ := z
    have h2 := tf0_some e
    have : (t, o2, r2) = (t, o, r) := by
      clear e
      induction m with
      | nil => cases h
      | cons p m ih =>
        rw [List.map_cons, List.nodup_cons] at nd
        rcases List.mem_cons.mp h with e1 | h1
        · rcases List.mem_cons.mp h2 with e2 | h2
          · rw [e1, e2]
          · exact absurd (List.mem_map.mpr ⟨_, h2, rfl⟩) (by rw [← e1] at nd; exact nd.1)
        · rcases List.mem_cons.mp h2 with e2 | h2
          · exact absurd (List.mem_map.mpr ⟨_, h1, rfl⟩) (by rw [← e2] at nd; exact nd.1)
          · exact ih nd.2 h1 h2
    cases this
    rfl
def wdR : Tr → Rc
  | .am _ x => .wd x
  | _ => .wd ""
def kindT (t u : Tr) (r : Rc) : Option Tst :=
  if decide (t.head = "pair") ≠ decide (u.head = "pair") then some (.works (.un "first" r))
  else if isKey t ≠ isKey u then some (.works (.bi "lock" (.wd "a") r))
  else if t.head = "word" ∧ t ≠ u then some (.same r (wdR t))
  else if u.head = "word" ∧ t ≠ u then some (.same r (wdR u))
  else none
def knownT (m : List PRow) (t u : Tr) (r : Rc) : Option (Option Tst) :=
  match tf0 m t with
  | some (e, o) => some (if o ≠ u then some (.same e r) else none)
  | none => match tf0 (sws m) u with
    | some (e, o) => some (if o ≠ t then some (.same e r) else none)
    | none => none
def half : Tr → Option (Tr × Tr)
  | .bi _ c d => some (c, d)
  | _ => none
def comesF : Tr → Tr → Rc → List PRow → PSt
  | .am k x, u, r, m => match knownT m (.am k x) u r with
    | some y => (m, y)
    | none => (m ++ [(.am k x, u, r)], kindT (.am k x) u r)
  | .un s a, u, r, m => match knownT m (.un s a) u r with
    | some y => (m, y)
    | none => (m ++ [(.un s a, u, r)], kindT (.un s a) u r)
  | .bi s a b, u, r, m => match knownT m (.bi s a b) u r with
    | some y => (m, y)
    | none => match kindT (.bi s a b) u r with
      | some y => (m ++ [(.bi s a b, u, r)], some y)
      | none => if s = "pair" then (match half u with
          | some cd => match comesF a cd.1 (.un "first" r) (m ++ [(.bi s a b, u, r)]) with
            | (m1, some y) => (m1, some y)
            | (m1, none) => comesF b cd.2 (.un "second" r) m1
          | none => (m ++ [(.bi s a b, u, r)], none))
        else (m ++ [(.bi s a b, u, r)], none)
structure RowOk (ts us : List Tr) (p : PRow) : Prop where
  r0 : ev ts p.2.2 = some p.1
  r1 : ev us p.2.2 = some p.2.1
  ok : RcOk p.2.2
  w0 : Wf p.1
  w1 : Wf p.2.1
  s0 : p.1 ∈ allOf ts
  s1 : p.2.1 ∈ allOf us
theorem RowOk.swap {ts us : List Tr} {p : PRow} (h : RowOk ts us p) : RowOk us ts (swp p) := ⟨h.r1, h.r0, h.ok, h.w1, h.w0, h.s1, h.s0⟩
structure MOk (ts us : List Tr) (m : List PRow) : Prop where
  row : ∀ p ∈ m, RowOk ts us p
  n0 : (m.map (·.1)).Nodup
  n1 : (m.map (·.2.1)).Nodup
theorem sws_fst (m : List PRow) : (sws m).map (·.1) = m.map (·.2.1) := by
  unfold sws
  rw [List.map_map]
  rfl
theorem sws_snd (m : List PRow) : (sws m).map (·.2.1) = m.map (·.1) := by
  unfold sws
  rw [List.map_map]
  rfl
theorem sws_mem {m : List PRow} {a b : Tr} {r : Rc} : (a, b, r) ∈ sws m ↔ (b, a, r) ∈ m := by
  unfold sws
  rw [List.mem_map]
  constructor
  · rintro ⟨⟨x, y, z⟩, h, e⟩
    cases e
    exact h
  · intro h
    exact ⟨_, h, rfl⟩
theorem MOk.swap {ts us : List Tr} {m : List PRow} (h : MOk ts us m) : MOk us ts (sws m) := ⟨fun p hp => by
  obtain ⟨q, hq, rfl⟩ := List.mem_map.mp hp
  exact (h.row q hq).swap, by rw [sws_fst]; exact h.n1, by rw [sws_snd]; exact h.n0⟩
def KOk (m : List PRow) : Prop := ∀ p ∈ m, kindT p.1 p.2.1 p.2.2 = none
theorem kindT_none {t u : Tr} {r : Rc} (h : kindT t u r = none) : (t.head = "pair" ↔ u.head = "pair") ∧ isKey t = isKey u ∧ (t.head = "word" → t = u) ∧ (u.head = "word" → t = u) := by
  unfold kindT at h
  split at h
  · cases h
  · rename_i h1
    split at h
    · cases h
    · rename_i h2
      split at h
      · cases h
      · rename_i h3
        split at h
        · cases h
        · rename_i h4
          refine ⟨?_, Decidable.of_not_not h2, fun z => Decidable.of_not_not fun y => h3 ⟨z, y⟩, fun z => Decidable.of_not_not fun y => h4 ⟨z, y⟩⟩
          have := Decidable.of_not_not h1
          simpa using this
theorem kindT_of {t u : Tr} {r : Rc} (h1 : t.head = "pair" ↔ u.head = "pair") (h2 : isKey t = isKey u) (h3 : t.head = "word" → t = u) (h4 : u.head = "word" → t = u) : kindT t u r = none := by
  unfold kindT
  rw [if_neg (by simpa using h1), if_neg (by simpa using h2), if_neg (fun z => z.2 (h3 z.1)), if_neg (fun z => z.2 (h4 z.1))]
theorem KOk.swap {m : List PRow} (h : KOk m) : KOk (sws m) := fun p hp => by
  obtain ⟨q, hq, rfl⟩ := List.mem_map.mp hp
  obtain ⟨h1, h2, h3, h4⟩ := kindT_none (h q hq)
  exact kindT_of h1.symm h2.symm (fun z => (h4 z).symm) (fun z => (h3 z).symm)
theorem pair_shape {t : Tr} (wf : Wf t) (h : t.head = "pair") : ∃ a b, t = .bi "pair" a b ∧ Wf a ∧ Wf b := by
  rcases wf.shp with ⟨k, x, rfl, ko⟩ | ⟨z, a, rfl, hz, _⟩ | ⟨z, a, b, rfl, _, wa, wb⟩
  · have h : k = "pair" := h
    rcases ko with ⟨rfl, _⟩ | ⟨rfl, _⟩ | ⟨rfl, _⟩ <;> exact absurd h (by decide +kernel)
  · have h : z = "pair" := h
    subst h
    exact absurd hz (by decide +kernel)
  · have h : z = "pair" := h
    subst h
    exact ⟨a, b, rfl, wa, wb⟩
theorem word_shape {t : Tr} (wf : Wf t) (h : t.head = "word") : ∃ x, t = .am "word" x ∧ isWord x = true := by
  rcases wf.shp with ⟨k, x, rfl, ko⟩ | ⟨z, a, rfl, hz, _⟩ | ⟨z, a, b, rfl, hz, wa, wb⟩
  · have h : k = "word" := h
    subst h
    rcases ko with ⟨_, hx⟩ | ⟨h, _⟩ | ⟨h, _⟩
    · exact ⟨x, rfl, hx⟩
    · exact absurd h (by decide +kernel)
    · exact absurd h (by decide +kernel)
  · have h : z = "word" := h
    subst h
    exact absurd hz (by decide +kernel)
  · have h : z = "word" := h
    subst h
    exact absurd hz (by decide +kernel)
theorem wk1_first {t : Tr} (wf : Wf t) : (wk1 "first" t).isSome = decide (t.head = "pair") := by
  rcases wf.shp with ⟨k, x, rfl, ko⟩ | ⟨z, a, rfl, hz, _⟩ | ⟨z, a, b, rfl, hz, wa, wb⟩
  · have h : k ≠ "pair" := by rcases ko with ⟨rfl, _⟩ | ⟨rfl, _⟩ | ⟨rfl, _⟩ <;> decide +kernel
    show false = decide (k = "pair")
    rw [decide_eq_false h]
  · have h : z ≠ "pair" := fun e => by subst e; exact absurd hz (by decide +kernel)
    show false = decide (z = "pair")
    rw [decide_eq_false h]
  · show (if z = "pair" then some a else none).isSome = decide (z = "pair")
    by_cases e : z = "pair"
    · rw [if_pos e, decide_eq_true e]; rfl
    · rw [if_neg e, decide_eq_false e]; rfl
theorem wk2_lock {a t : Tr} : (wk2 "lock" a t).isSome = isKey t := by
  unfold wk2
  rw [if_neg (by decide +kernel), if_neg (by decide +kernel), if_pos rfl]
  have e : isKey t = decide (t.head = "open" ∨ t.head = "own") := by
    unfold isKey
    simp
  rw [e]
  by_cases h : t.head = "open" ∨ t.head = "own"
  · rw [if_pos h, decide_eq_true h]; rfl
  · rw [if_neg h, decide_eq_false h]; rfl
theorem kindT_gen {ts us : List Tr} {t u : Tr} {r : Rc} (ok : RowOk ts us (t, u, r)) {x : Tst} (h : kindT t u r = some x) : Gen ts us x := by
  obtain ⟨r0, r1, rk, w0, w1, _, _⟩ := ok
  have r0 : ev ts r = some t := r0
  have r1 : ev us r = some u := r1
  unfold kindT at h
  split at h
  · rename_i hn
    cases h
    refine ⟨⟨by decide +kernel, rk⟩, ?_⟩
    show ((ev ts r).bind (wk1 "first")).isSome ≠ ((ev us r).bind (wk1 "first")).isSome
    rw [r0, r1, Option.bind_some, Option.bind_some, wk1_first w0, wk1_first w1]
    exact hn
  · split at h
    · rename_i hn
      cases h
      refine ⟨⟨by decide +kernel, (by decide +kernel : isWord "a" = true), rk⟩, ?_⟩
      show ((ev ts (.wd "a")).bind fun t => (ev ts r).bind (wk2 "lock" t)).isSome ≠ ((ev us (.wd "a")).bind fun t => (ev us r).bind (wk2 "lock" t)).isSome
      rw [r0, r1]
      show (wk2 "lock" (.am "word" "a") t).isSome ≠ (wk2 "lock" (.am "word" "a") u).isSome
      rw [wk2_lock, wk2_lock]
      exact hn
    · split at h
      · rename_i hn
        cases h
        obtain ⟨x, rfl, hx⟩ := word_shape w0 hn.1
        exact ⟨rk, hx, _, _, _, _, r0, rfl, r1, rfl, fun z => hn.2 (z.mp rfl).symm⟩
      · split at h
        · rename_i hn
          cases h
          obtain ⟨x, rfl, hx⟩ := word_shape w1 hn.1
          exact ⟨rk, hx, _, _, _, _, r0, rfl, r1, rfl, fun z => hn.2 (z.mpr rfl)⟩
        · cases h
/-- what the coming of two forms leads to -/
structure Res (ts us : List Tr) (m : List PRow) (t u : Tr) (st : PSt) : Prop where
  ok : MOk ts us st.1
  ext : ∃ n, st.1 = m ++ n
  gen : ∀ x, st.2 = some x → Gen ts us x
  kok : st.2 = none → KOk st.1
  here : st.2 = none → ∃ r, (t, u, r) ∈ st.1
  hv : st.2 = none → ∀ a b c d r, (.bi "pair" a b, .bi "pair" c d, r) ∈ st.1 → (.bi "pair" a b, .bi "pair" c d, r) ∈ m ∨ ((∃ r', (a, c, r') ∈ st.1) ∧ ∃ r', (b, d, r') ∈ st.1)
theorem known_res {ts us : List Tr} {m : List PRow} (hm : MOk ts us m) (hk : KOk m) {t u : Tr} {r : Rc} (ok : RowOk ts us (t, u, r)) {y : Option Tst} (h : knownT m t u r = some y) : Res ts us m t u (m, y) := by
  unfold knownT at h
  have r0 : ev ts r = some t := ok.r0
  have r1 : ev us r = some u := ok.r1
  split at h
  · rename_i e o he
    have hrow := tf0_some he
    have hro := hm.row _ hrow
    cases h
    refine ⟨hm, ⟨[], (List.append_nil m).symm⟩, fun x hx => ?_, fun _ => hk, fun hn => ?_, fun _ a b c d r' hp => .inl hp⟩
    · split at hx
      · rename_i hne
        cases hx
        exact ⟨hro.ok, ok.ok, t, t, o, u, hro.r0, r0, hro.r1, r1, fun z => hne (z.mp rfl)⟩
      · cases hx
    · split at hn
      · cases hn
      · rename_i hne
        have := Decidable.of_not_not hne
        subst this
        exact ⟨e, hrow⟩
  · split at h
    · rename_i e o he
      have hrow := sws_mem.mp (tf0_some he)
      have hro := hm.row _ hrow
      cases h
      refine ⟨hm, ⟨[], (List.append_nil m).symm⟩, fun x hx => ?_, fun _ => hk, fun hn => ?_, fun _ a b c d r' hp => .inl hp⟩
      · split at hx
        · rename_i hne
          cases hx
          exact ⟨hro.ok, ok.ok, o, t, u, u, hro.r0, r0, hro.r1, r1, fun z => hne (z.mpr rfl)⟩
        · cases hx
      · split at hn
        · cases hn
        · rename_i hne
          have := Decidable.of_not_not hne
          subst this
          exact ⟨e, hrow⟩
    · cases h
theorem knownT_none {m : List PRow} {t u : Tr} {r : Rc} (h : knownT m t u r = none) : t ∉ m.map (·.1) ∧ u ∉ m.map (·.2.1) := by
  unfold knownT at h
  split at h
  · cases h
  · rename_i h0
    split at h
    · cases h
    · rename_i h1
      refine ⟨tf0_none h0, ?_⟩
      rw [← sws_fst]
      exact tf0_none h1
theorem MOk.put {ts us : List Tr} {m : List PRow} (hm : MOk ts us m) {t u : Tr} {r : Rc} (ok : RowOk ts us (t, u, r)) (h0 : t ∉ m.map (·.1)) (h1 : u ∉ m.map (·.2.1)) : MOk ts us (m ++ [(t, u, r)]) := by
  refine ⟨fun p hp => ?_, ?_, ?_⟩
  · rcases List.mem_append.mp hp with hp | hp
    · exact hm.row p hp
    · rw [List.mem_singleton.mp hp]; exact ok
  · rw [List.map_append, List.nodup_append]
    refine ⟨hm.n0, by simp, fun x hx y hy e => ?_⟩
    have hy : y = t := by simpa using hy
    exact h0 (by rw [← hy, ← e]; exact hx)
  · rw [List.map_append, List.nodup_append]
    refine ⟨hm.n1, by simp, fun x hx y hy e => ?_⟩
    have hy : y = u := by simpa using hy
    exact h1 (by rw [← hy, ← e]; exact hx)
theorem KOk.put {m : List PRow} (hk : KOk m) {t u : Tr} {r : Rc} (h : kindT t u r = none) : KOk (m ++ [(t, u, r)]) := fun p hp => by
  rcases List.mem_append.mp hp with hp | hp
  · exact hk p hp
  · rw [List.mem_singleton.mp hp]; exact h
/-- a row that is no pair -/
theorem put_res {ts us : List Tr} {m : List PRow} (hm : MOk ts us m) (hk : KOk m) {t u : Tr} {r : Rc} (ok : RowOk ts us (t, u, r)) (h : knownT m t u r = none) (hp : t.head ≠ "pair" ∨ kindT t u r ≠ none) : Res ts us m t u (m ++ [(t, u, r)], kindT t u r) := by
  obtain ⟨h0, h1⟩ := knownT_none h
  refine ⟨hm.put ok h0 h1, ⟨_, rfl⟩, fun x hx => kindT_gen ok hx, fun hn => hk.put hn, fun _ => ⟨r, List.mem_append_right _ List.mem_cons_self⟩, fun hn a b c d r' hr => ?_⟩
  rcases List.mem_append.mp hr with hr | hr
  · exact .inl hr
  · have := List.mem_singleton.mp hr
    cases this
    rcases hp with hp | hp
    · exact absurd rfl hp
    · exact absurd hn hp
theorem comes_res {ts us : List Tr} : ∀ (t : Tr) {u : Tr} {r : Rc} {m : List PRow}, MOk ts us m → KOk m → RowOk ts us (t, u, r) → Res ts us m t u (comesF t u r m)
  | .am k x, u, r, m, hm, hk, ok => by
    rw [comesF]
    cases e : knownT m (.am k x) u r with
    | some y => exact known_res hm hk ok e
    | none =>
      refine put_res hm hk ok e (.inl ?_)
      intro z
      obtain ⟨a, b, e, _⟩ := pair_shape ok.w0 z
      cases e
  | .un s a, u, r, m, hm, hk, ok => by
    rw [comesF]
    cases e : knownT m (.un s a) u r with
    | some y => exact known_res hm hk ok e
    | none =>
      refine put_res hm hk ok e (.inl ?_)
      intro z
      obtain ⟨a, b, e, _⟩ := pair_shape ok.w0 z
      cases e
  | .bi s a b, u, r, m, hm, hk, ok => by
    rw [comesF]
    cases e : knownT m (.bi s a b) u r with
    | some y => exact known_res hm hk ok e
    | none =>
      dsimp only
      cases ek : kindT (.bi s a b) u r with
      | some y =>
        have := put_res hm hk ok e (.inr (by rw [ek]; exact fun z => by cases z))
        rw [ek] at this
        exact this
      | none =>
        dsimp only
        by_cases es : s = "pair"
        · rw [if_pos es]
          subst es
          obtain ⟨k1, k2, _, _⟩ := kindT_none ek
          obtain ⟨c, d, rfl, wc, wd⟩ := pair_shape ok.w1 (k1.mp rfl)
          obtain ⟨h0, h1⟩ := knownT_none e
          have hm1 := hm.put ok h0 h1
          have hk1 := hk.put ek
          obtain ⟨a', b', e', wa, wb⟩ := pair_shape ok.w0 rfl
          cases e'
          have r0 : ev ts r = some (.bi "pair" a b) := ok.r0
          have r1 : ev us r = some (.bi "pair" c d) := ok.r1
          obtain ⟨pa, pb⟩ := allOf_pcl ts a b ok.s0
          obtain ⟨pc, pd⟩ := allOf_pcl us c d ok.s1
          have oka : RowOk ts us (a, c, .un "first" r) := ⟨by show (ev ts r).bind (wk1 "first") = some a; rw [r0]; rfl, by show (ev us r).bind (wk1 "first") = some c; rw [r1]; rfl, ⟨by decide +kernel, ok.ok⟩, wa, wc, pa, pc⟩
          have okb : RowOk ts us (b, d, .un "second" r) := ⟨by show (ev ts r).bind (wk1 "second") = some b; rw [r0]; rfl, by show (ev us r).bind (wk1 "second") = some d; rw [r1]; rfl, ⟨by decide +kernel, ok.ok⟩, wb, wd, pb, pd⟩
          have R1 := comes_res a hm1 hk1 oka
          show Res ts us m _ _ (match comesF a c (.un "first" r) (m ++ [(.bi "pair" a b, .bi "pair" c d, r)]) with
            | (m1, some y) => (m1, some y)
            | (m1, none) => comesF b d (.un "second" r) m1)
          generalize comesF a c (.un "first" r) (m ++ [(.bi "pair" a b, .bi "pair" c d, r)]) = st1 at R1 ⊢
          obtain ⟨m1, x1⟩ := st1
          cases x1 with
          | some y =>
            obtain ⟨n, en⟩ := R1.ext
            exact ⟨R1.ok, ⟨(.bi "pair" a b, .bi "pair" c d, r) :: n, by rw [en, List.append_assoc]; rfl⟩, R1.gen, (fun z => by cases z), (fun z => by cases z), (fun z => by cases z)⟩
          | none =>
            have R2 := comes_res b R1.ok (R1.kok rfl) okb
            dsimp only
            generalize comesF b d (.un "second" r) m1 = st2 at R2 ⊢
            obtain ⟨m2, x2⟩ := st2
            obtain ⟨n, en⟩ := R1.ext
            obtain ⟨n2, en2⟩ := R2.ext
            have en : m1 = m ++ [(.bi "pair" a b, .bi "pair" c d, r)] ++ n := en
            have en2 : m2 = m1 ++ n2 := en2
            have sub : ∀ p ∈ m1, p ∈ m2 := fun p hp => by rw [en2]; exact List.mem_append_left _ hp
            refine ⟨R2.ok, ⟨(.bi "pair" a b, .bi "pair" c d, r) :: (n ++ n2), by rw [en2, en]; simp⟩, R2.gen, R2.kok, fun _ => ⟨r, sub _ (by rw [en]; simp)⟩, fun hn a' b' c' d' r' hr => ?_⟩
            obtain ⟨ra, hra⟩ := R1.here rfl
            obtain ⟨rb, hrb⟩ := R2.here hn
            rcases R2.hv hn a' b' c' d' r' hr with hr | hr
            · rcases R1.hv rfl a' b' c' d' r' hr with hr | ⟨⟨q1, h1⟩, q2, h2⟩
              · rcases List.mem_append.mp hr with hr | hr
                · exact .inl hr
                · cases List.mem_singleton.mp hr
                  exact .inr ⟨⟨ra, sub _ hra⟩, rb, hrb⟩
              · exact .inr ⟨⟨q1, sub _ h1⟩, q2, sub _ h2⟩
            · exact .inr hr
        · rw [if_neg es]
          have := put_res hm hk ok e (.inl es)
          rw [ek] at this
          exact this
end Rd
namespace Rd
open PySem L2
def overF (m : List PRow) : Tr → Option (Rc × Tr)
  | .am k x => if k = "word" then some (.wd x, .am k x) else tf0 m (.am k x)
  | .un s a => match tf0 m (.un s a) with
    | some p => some p
    | none => if s = "own" then none else (overF m a).map fun p => (.un s p.1, .un s p.2)
  | .bi s a b => match tf0 m (.bi s a b) with
    | some p => some p
    | none => (overF m a).bind fun p => (overF m b).map fun q => (.bi s p.1 q.1, .bi s p.2 q.2)
def bltF (m : List PRow) : Tr → Option (Rc × Tr)
  | .am _ _ => none
  | .un s a => if s = "own" then none else (overF m a).map fun p => (.un s p.1, .un s p.2)
  | .bi s a b => (overF m a).bind fun p => (overF m b).map fun q => (.bi s p.1 q.1, .bi s p.2 q.2)
/-- such a recipe makes the one here and the other there -/
structure Tw (ts us : List Tr) (t : Tr) (p : Rc × Tr) : Prop where
  ok : RcOk p.1
  e0 : ev ts p.1 = some t
  e1 : ev us p.1 = some p.2
  wf : Wf p.2
  key : isKey t = isKey p.2
theorem tf0_tw {ts us : List Tr} {m : List PRow} (hm : MOk ts us m) (hk : KOk m) {t : Tr} {p : Rc × Tr} (h : tf0 m t = some p) : Tw ts us t p := by
  obtain ⟨r, o⟩ := p
  have hr := tf0_some h
  have hro := hm.row _ hr
  exact ⟨hro.ok, hro.r0, hro.r1, hro.w1, (kindT_none (hk _ hr)).2.1⟩
theorem tw_un {ts us : List Tr} {s : Str} {a : Tr} {p : Rc × Tr} (hs : s = "mark" ∨ s = "open") (h : Tw ts us a p) : Tw ts us (.un s a) (.un s p.1, .un s p.2) := by
  have w : ∀ t : Tr, wk1 s t = some (.un s t) := fun t => by
    unfold wk1
    rcases hs with rfl | rfl
    · rw [if_neg (by decide +kernel), if_neg (by decide +kernel)]
    · rw [if_neg (by decide +kernel), if_neg (by decide +kernel)]
  refine ⟨⟨?_, h.ok⟩, ?_, ?_, ?_, rfl⟩
  · rcases hs with rfl | rfl <;> decide +kernel
  · show (ev ts p.1).bind (wk1 s) = _
    rw [h.e0, Option.bind_some, w]
  · show (ev us p.1).bind (wk1 s) = _
    rw [h.e1, Option.bind_some, w]
  · refine .un ?_ h.wf
    rcases hs with rfl | rfl <;> decide +kernel
theorem wk2_mk {s : Str} (hs : s = "pair" ∨ s = "seal") (t u : Tr) : wk2 s t u = some (.bi s t u) := by
  unfold wk2
  rcases hs with rfl | rfl
  · rw [if_neg (by decide +kernel), if_neg (by decide +kernel), if_neg (by decide +kernel)]
  · rw [if_neg (by decide +kernel), if_neg (by decide +kernel), if_neg (by decide +kernel)]
theorem wk2_lk {t u : Tr} (h : isKey u = true) : wk2 "lock" t u = some (.bi "lock" t u) := by
  have h := of_decide_eq_true h
  unfold wk2
  rw [if_neg (by decide +kernel), if_neg (by decide +kernel), if_pos rfl, if_pos (by simpa using h)]
theorem isKey_shape {u : Tr} (wf : Wf u) (h : isKey u = true) : ∃ s k, u = .un s k ∧ s ∈ (["open", "own"] : List Str) ∧ Wf k :=
  key_shape wf (by have := of_decide_eq_true h; simpa using this)
theorem tw_bi {ts us : List Tr} {s : Str} {a b : Tr} {p q : Rc × Tr} (wf : Wf (.bi s a b)) (h : Tw ts us a p) (g : Tw ts us b q) : Tw ts us (.bi s a b) (.bi s p.1 q.1, .bi s p.2 q.2) := by
  cases wf with
  | bi hs wa wb =>
    have hs' : s = "pair" ∨ s = "seal" := by simpa using hs
    refine ⟨⟨?_, h.ok, g.ok⟩, ?_, ?_, .bi hs h.wf g.wf, rfl⟩
    · rcases hs' with rfl | rfl <;> decide +kernel
    · show ((ev ts p.1).bind fun t => (ev ts q.1).bind (wk2 s t)) = _
      rw [h.e0, g.e0, Option.bind_some, Option.bind_some, wk2_mk hs']
    · show ((ev us p.1).bind fun t => (ev us q.1).bind (wk2 s t)) = _
      rw [h.e1, g.e1, Option.bind_some, Option.bind_some, wk2_mk hs']
  | @lk z _ c hz wa wc =>
    have kb : isKey (.un z c) = true := decide_eq_true hz
    have kq : isKey q.2 = true := by rw [← g.key]; exact kb
    obtain ⟨z2, c2, e2, hz2, wc2⟩ := isKey_shape g.wf kq
    refine ⟨⟨by decide +kernel, h.ok, g.ok⟩, ?_, ?_, ?_, rfl⟩
    · show ((ev ts p.1).bind fun t => (ev ts q.1).bind (wk2 "lock" t)) = _
      rw [h.e0, g.e0, Option.bind_some, Option.bind_some, wk2_lk kb]
    · show ((ev us p.1).bind fun t => (ev us q.1).bind (wk2 "lock" t)) = _
      rw [h.e1, g.e1, Option.bind_some, Option.bind_some, wk2_lk kq]
    · show Wf (.bi "lock" p.2 q.2)
      rw [e2]
      exact .lk hz2 h.wf wc2
theorem wf_kids {s : Str} {a b : Tr} (wf : Wf (.bi s a b)) : Wf a ∧ Wf b := by
  cases wf with
  | bi _ wa wb => exact ⟨wa, wb⟩
  | lk hz wa wc => exact ⟨wa, .un (List.mem_cons_of_mem _ hz) wc⟩
theorem over_tw {ts us : List Tr} {m : List PRow} (hm : MOk ts us m) (hk : KOk m) : ∀ {t : Tr} {p : Rc × Tr}, Wf t → overF m t = some p → Tw ts us t p
  | .am k x, p, wf, h => by
    rw [overF] at h
    by_cases e : k = "word"
    · rw [if_pos e] at h
      cases h
      subst e
      obtain ⟨y, e, hy⟩ := word_shape wf rfl
      cases e
      exact ⟨hy, rfl, rfl, wf, rfl⟩
    · rw [if_neg e] at h
      exact tf0_tw hm hk h
  | .un s a, p, wf, h => by
    rw [overF] at h
    cases e : tf0 m (.un s a) with
    | some q => rw [e] at h; cases h; exact tf0_tw hm hk e
    | none =>
      rw [e] at h
      dsimp only at h
      by_cases es : s = "own"
      · rw [if_pos es] at h; cases h
      · rw [if_neg es] at h
        obtain ⟨q, hq, rfl⟩ := Option.map_eq_some_iff.mp h
        cases wf with
        | un hs wa =>
          have hs : s = "mark" ∨ s = "open" ∨ s = "own" := by simpa using hs
          refine tw_un ?_ (over_tw hm hk wa hq)
          rcases hs with h | h | h
          · exact .inl h
          · exact .inr h
          · exact absurd h es
  | .bi s a b, p, wf, h => by
    rw [overF] at h
    cases e : tf0 m (.bi s a b) with
    | some q => rw [e] at h; cases h; exact tf0_tw hm hk e
    | none =>
      rw [e] at h
      dsimp only at h
      obtain ⟨q, hq, h⟩ := Option.bind_eq_some_iff.mp h
      obtain ⟨z, hz, rfl⟩ := Option.map_eq_some_iff.mp h
      obtain ⟨wa, wb⟩ := wf_kids wf
      exact tw_bi wf (over_tw hm hk wa hq) (over_tw hm hk wb hz)
theorem blt_tw {ts us : List Tr} {m : List PRow} (hm : MOk ts us m) (hk : KOk m) {t : Tr} {p : Rc × Tr} (wf : Wf t) (h : bltF m t = some p) : Tw ts us t p := by
  cases t with
  | am k x => cases h
  | un s a =>
    rw [bltF] at h
    by_cases es : s = "own"
    · rw [if_pos es] at h; cases h
    · rw [if_neg es] at h
      obtain ⟨q, hq, rfl⟩ := Option.map_eq_some_iff.mp h
      cases wf with
      | un hs wa =>
        have hs : s = "mark" ∨ s = "open" ∨ s = "own" := by simpa using hs
        refine tw_un ?_ (over_tw hm hk wa hq)
        rcases hs with h | h | h
        · exact .inl h
        · exact .inr h
        · exact absurd h es
  | bi s a b =>
    rw [bltF] at h
    obtain ⟨q, hq, h⟩ := Option.bind_eq_some_iff.mp h
    obtain ⟨z, hz, rfl⟩ := Option.map_eq_some_iff.mp h
    obtain ⟨wa, wb⟩ := wf_kids wf
    exact tw_bi wf (over_tw hm hk wa hq) (over_tw hm hk wb hz)
def cont : Tr → Tr
  | .bi _ a _ => a
  | t => t
def openF (m : List PRow) (p : PRow) : PSt :=
  match ukey p.1 with
  | none => (m, none)
  | some k => match overF m k with
    | none => (m, none)
    | some q => if p.2.1.head = p.1.head ∧ ukey p.2.1 = some q.2 then comesF (cont p.1) (cont p.2.1) (.bi (opr p.1.head) p.2.2 q.1) m
      else (m, some (.works (.bi (opr p.1.head) p.2.2 q.1)))
def openF1 (m : List PRow) (p : PRow) : PSt :=
  match ukey p.2.1 with
  | none => (m, none)
  | some k => match overF (sws m) k with
    | none => (m, none)
    | some q => if p.1.head = p.2.1.head ∧ ukey p.1 = some q.2 then comesF (cont p.1) (cont p.2.1) (.bi (opr p.2.1.head) p.2.2 q.1) m
      else (m, some (.works (.bi (opr p.2.1.head) p.2.2 q.1)))
theorem wk2_opr {h : Str} {t k : Tr} (wf : Wf t) (hh : h = "seal" ∨ h = "lock") : wk2 (opr h) t k = if t.head = h ∧ ukey t = some k then some (cont t) else none := by
  rcases hh with rfl | rfl
  · have eo : opr "seal" = "unseal" := by decide +kernel
    rw [eo]
    unfold wk2
    rw [if_pos rfl]
    rcases wf.shp with ⟨z, x, rfl, ko⟩ | ⟨z, a, rfl, hz, _⟩ | ⟨z, a, b, rfl, hz, wa, wb⟩
    · rw [if_neg (fun y => by cases y.2)]
    · rw [if_neg (fun y => by cases y.2)]
    · show (if z = "seal" ∧ b = k then some a else none) = if z = "seal" ∧ ukey (.bi z a b) = some k then some a else none
      by_cases e : z = "seal"
      · subst e
        rw [ukey, if_pos rfl]
        by_cases e2 : b = k
        · rw [if_pos ⟨rfl, e2⟩, if_pos ⟨rfl, congrArg some e2⟩]
        · rw [if_neg (fun y => e2 y.2), if_neg (fun y => e2 (Option.some.inj y.2))]
      · rw [if_neg (fun y => e y.1), if_neg (fun y => e y.1)]
  · have eo : opr "lock" = "unlock" := by decide +kernel
    rw [eo]
    unfold wk2
    rw [if_neg (by decide +kernel), if_pos rfl]
    rcases wf.shp with ⟨z, x, rfl, ko⟩ | ⟨z, a, rfl, hz, _⟩ | ⟨z, a, b, rfl, hz, wa, wb⟩
    · rw [if_neg (fun y => by cases y.2)]
    · rw [if_neg (fun y => by cases y.2)]
    · rfl
theorem ukey_head {t k : Tr} (h : ukey t = some k) : t.head = "seal" ∨ t.head = "lock" := by
  cases t with
  | am k x => cases h
  | un s a => cases h
  | bi s a b =>
    rw [ukey] at h
    by_cases e : s = "seal"
    · exact .inl e
    · rw [if_neg e] at h
      by_cases e2 : s = "lock"
      · exact .inr e2
      · rw [if_neg e2] at h; cases h
theorem ukey_wf2 {t k : Tr} (wf : Wf t) (h : ukey t = some k) : Wf k := by
  rcases ukey_inv wf h with ⟨c, rfl⟩ | ⟨c, s, x, rfl, hs, rfl⟩
  · exact (wf_kids wf).2
  · have := (wf_kids wf).2
    cases this with
    | un _ wx =>
      refine .un ?_ wx
      have : ∀ z ∈ (["open", "own"] : List Str), prt z ∈ (["mark", "open", "own"] : List Str) := by decide +kernel
      exact this s hs
theorem opr_ok {h : Str} (hh : h = "seal" ∨ h = "lock") : opr h ∈ BIL := by rcases hh with rfl | rfl <;> decide +kernel
theorem all_cont {ts : List Tr} {t : Tr} (h : t ∈ allOf ts) : cont t ∈ allOf ts := by
  cases t with
  | am k x => exact h
  | un s a => exact h
  | bi s a b =>
    obtain ⟨u, hu, h⟩ := List.mem_flatMap.mp h
    exact List.mem_flatMap.mpr ⟨u, hu, all_trans h all_l⟩
theorem wf_cont {t : Tr} (wf : Wf t) : Wf (cont t) := by
  cases t with
  | am k x => exact wf
  | un s a => exact wf
  | bi s a b => exact (wf_kids wf).1
/-- the rows grow rightly -/
structure Grow (ts us : List Tr) (m : List PRow) (st : PSt) : Prop where
  ok : MOk ts us st.1
  ext : ∃ n, st.1 = m ++ n
  gen : ∀ x, st.2 = some x → Gen ts us x
  kok : st.2 = none → KOk st.1
  hv : st.2 = none → ∀ a b c d r, (.bi "pair" a b, .bi "pair" c d, r) ∈ st.1 → (.bi "pair" a b, .bi "pair" c d, r) ∈ m ∨ ((∃ r', (a, c, r') ∈ st.1) ∧ ∃ r', (b, d, r') ∈ st.1)
theorem Res.grow {ts us : List Tr} {m : List PRow} {t u : Tr} {st : PSt} (h : Res ts us m t u st) : Grow ts us m st := ⟨h.ok, h.ext, h.gen, h.kok, h.hv⟩
theorem Grow.refl {ts us : List Tr} {m : List PRow} (hm : MOk ts us m) (hk : KOk m) : Grow ts us m (m, none) := ⟨hm, ⟨[], (List.append_nil m).symm⟩, (fun x h => by cases h), fun _ => hk, fun _ a b c d r h => .inl h⟩
theorem Grow.trans {ts us : List Tr} {m m1 : List PRow} {st : PSt} (a : Grow ts us m (m1, none)) (b : Grow ts us m1 st) : Grow ts us m st := by
  obtain ⟨n, en⟩ := a.ext
  obtain ⟨n2, en2⟩ := b.ext
  have en : m1 = m ++ n := en
  refine ⟨b.ok, ⟨n ++ n2, by rw [en2, en, List.append_assoc]⟩, b.gen, b.kok, fun hn a' b' c' d' r hr => ?_⟩
  rcases b.hv hn a' b' c' d' r hr with hr | hr
  · rcases a.hv rfl a' b' c' d' r hr with hr | ⟨⟨q1, h1⟩, q2, h2⟩
    · exact .inl hr
    · refine .inr ⟨⟨q1, ?_⟩, q2, ?_⟩ <;> rw [en2] <;> exact List.mem_append_left _ (by assumption)
  · exact .inr hr
def Clo (m : List PRow) (p : PRow) (m' : List PRow) : Prop := ∀ k q, ukey p.1 = some k → overF m k = some q → p.2.1.head = p.1.head ∧ ukey p.2.1 = some q.2 ∧ ∃ r, (cont p.1, cont p.2.1, r) ∈ m'
theorem open_res {ts us : List Tr} {m : List PRow} (hm : MOk ts us m) (hk : KOk m) {p : PRow} (hp : RowOk ts us p) : Grow ts us m (openF m p) ∧ ((openF m p).2 = none → Clo m p (openF m p).1) := by
  unfold openF
  cases eu : ukey p.1 with
  | none => exact ⟨Grow.refl hm hk, fun _ k q h => by rw [eu] at h; cases h⟩
  | some k =>
    dsimp only
    cases eo : overF m k with
    | none => exact ⟨Grow.refl hm hk, fun _ k' q h g => by rw [eu] at h; cases h; rw [eo] at g; cases g⟩
    | some q =>
      dsimp only
      have hh := ukey_head eu
      have tw := over_tw hm hk (ukey_wf2 hp.w0 eu) eo
      have s0 : ev ts (.bi (opr p.1.head) p.2.2 q.1) = some (cont p.1) := by
        show ((ev ts p.2.2).bind fun t => (ev ts q.1).bind (wk2 (opr p.1.head) t)) = _
        rw [hp.r0, tw.e0, Option.bind_some, Option.bind_some, wk2_opr hp.w0 hh, if_pos ⟨rfl, eu⟩]
      have s1 : ev us (.bi (opr p.1.head) p.2.2 q.1) = if p.2.1.head = p.1.head ∧ ukey p.2.1 = some q.2 then some (cont p.2.1) else none := by
        show ((ev us p.2.2).bind fun t => (ev us q.1).bind (wk2 (opr p.1.head) t)) = _
        rw [hp.r1, tw.e1, Option.bind_some, Option.bind_some, wk2_opr hp.w1 hh]
      have rk : RcOk (.bi (opr p.1.head) p.2.2 q.1) := ⟨opr_ok hh, hp.ok, tw.ok⟩
      by_cases hc : p.2.1.head = p.1.head ∧ ukey p.2.1 = some q.2
      · rw [if_pos hc] at s1 ⊢
        have R := comes_res (cont p.1) hm hk (u := cont p.2.1) (r := .bi (opr p.1.head) p.2.2 q.1) ⟨s0, s1, rk, wf_cont hp.w0, wf_cont hp.w1, all_cont hp.s0, all_cont hp.s1⟩
        refine ⟨R.grow, fun hn k' q' h g => ?_⟩
        rw [eu] at h
        cases h
        rw [eo] at g
        cases g
        exact ⟨hc.1, hc.2, R.here hn⟩
      · rw [if_neg hc] at s1 ⊢
        refine ⟨⟨hm, ⟨[], (List.append_nil m).symm⟩, fun x hx => ?_, (fun z => by cases z), fun z => by cases z⟩, fun z => by cases z⟩
        cases hx
        exact ⟨rk, by rw [s0, s1]; exact fun z => by cases z⟩
theorem open1_res {ts us : List Tr} {m : List PRow} (hm : MOk ts us m) (hk : KOk m) {p : PRow} (hp : RowOk ts us p) : Grow ts us m (openF1 m p) ∧ ((openF1 m p).2 = none → Clo (sws m) (swp p) (sws (openF1 m p).1)) := by
  unfold openF1
  cases eu : ukey p.2.1 with
  | none => exact ⟨Grow.refl hm hk, fun _ k q h => by have h : ukey p.2.1 = some k := h; rw [eu] at h; cases h⟩
  | some k =>
    dsimp only
    cases eo : overF (sws m) k with
    | none => exact ⟨Grow.refl hm hk, fun _ k' q h g => by have h : ukey p.2.1 = some k' := h; rw [eu] at h; cases h; rw [eo] at g; cases g⟩
    | some q =>
      dsimp only
      have hh := ukey_head eu
      have tw := over_tw hm.swap hk.swap (ukey_wf2 hp.w1 eu) eo
      have s1 : ev us (.bi (opr p.2.1.head) p.2.2 q.1) = some (cont p.2.1) := by
        show ((ev us p.2.2).bind fun t => (ev us q.1).bind (wk2 (opr p.2.1.head) t)) = _
        rw [hp.r1, tw.e0, Option.bind_some, Option.bind_some, wk2_opr hp.w1 hh, if_pos ⟨rfl, eu⟩]
      have s0 : ev ts (.bi (opr p.2.1.head) p.2.2 q.1) = if p.1.head = p.2.1.head ∧ ukey p.1 = some q.2 then some (cont p.1) else none := by
        show ((ev ts p.2.2).bind fun t => (ev ts q.1).bind (wk2 (opr p.2.1.head) t)) = _
        rw [hp.r0, tw.e1, Option.bind_some, Option.bind_some, wk2_opr hp.w0 hh]
      have rk : RcOk (.bi (opr p.2.1.head) p.2.2 q.1) := ⟨opr_ok hh, hp.ok, tw.ok⟩
      by_cases hc : p.1.head = p.2.1.head ∧ ukey p.1 = some q.2
      · rw [if_pos hc] at s0 ⊢
        have R := comes_res (cont p.1) hm hk (u := cont p.2.1) (r := .bi (opr p.2.1.head) p.2.2 q.1) ⟨s0, s1, rk, wf_cont hp.w0, wf_cont hp.w1, all_cont hp.s0, all_cont hp.s1⟩
        refine ⟨R.grow, fun hn k' q' h g => ?_⟩
        have h : ukey p.2.1 = some k' := h
        rw [eu] at h
        cases h
        rw [eo] at g
        cases g
        obtain ⟨r, hr⟩ := R.here hn
        exact ⟨hc.1, hc.2, r, sws_mem.mpr hr⟩
      · rw [if_neg hc] at s0 ⊢
        refine ⟨⟨hm, ⟨[], (List.append_nil m).symm⟩, fun x hx => ?_, (fun z => by cases z), fun z => by cases z⟩, fun z => by cases z⟩
        cases hx
        exact ⟨rk, by rw [s0, s1]; exact fun z => by cases z⟩
def opStep (st : PSt) (p : PRow) : PSt :=
  match st with
  | (m, some x) => (m, some x)
  | (m, none) => match openF m p with
    | (m1, some x) => (m1, some x)
    | (m1, none) => openF1 m1 p
def opensF (m : List PRow) : PSt := m.foldl opStep (m, none)
theorem foldl_stick {m : List PRow} {x : Tst} : ∀ l : List PRow, l.foldl opStep (m, some x) = (m, some x)
  | [] => rfl
  | p :: l => foldl_stick l
theorem opStep_res {ts us : List Tr} {m : List PRow} (hm : MOk ts us m) (hk : KOk m) {p : PRow} (hp : RowOk ts us p) : Grow ts us m (opStep (m, none) p) ∧ ((opStep (m, none) p) = (m, none) → Clo m p m ∧ Clo (sws m) (swp p) (sws m)) := by
  obtain ⟨g1, c1⟩ := open_res hm hk hp
  unfold opStep
  dsimp only
  generalize openF m p = st1 at g1 c1 ⊢
  obtain ⟨m1, x1⟩ := st1
  cases x1 with
  | some y => exact ⟨g1, fun z => by cases z⟩
  | none =>
    dsimp only
    obtain ⟨g2, c2⟩ := open1_res g1.ok (g1.kok rfl) hp
    refine ⟨g1.trans g2, fun z => ?_⟩
    rw [z] at g2 c2
    obtain ⟨n1, e1⟩ := g1.ext
    obtain ⟨n2, e2⟩ := g2.ext
    have e1 : m1 = m ++ n1 := e1
    have e2 : m = m1 ++ n2 := e2
    have l1 : n1 = [] := by
      have := congrArg List.length e2
      rw [e1, List.length_append, List.length_append] at this
      exact List.length_eq_zero_iff.mp (by omega)
    rw [l1, List.append_nil] at e1
    subst e1
    exact ⟨c1 rfl, c2 rfl⟩
theorem fold_res {ts us : List Tr} : ∀ (l : List PRow) {m : List PRow}, MOk ts us m → KOk m → (∀ p ∈ l, RowOk ts us p) → Grow ts us m (l.foldl opStep (m, none)) ∧ (l.foldl opStep (m, none) = (m, none) → ∀ p ∈ l, Clo m p m ∧ Clo (sws m) (swp p) (sws m))
  | [], m, hm, hk, _ => ⟨Grow.refl hm hk, fun _ p hp => by cases hp⟩
  | p :: l, m, hm, hk, hl => by
    rw [List.foldl_cons]
    obtain ⟨g1, c1⟩ := opStep_res hm hk (hl p List.mem_cons_self)
    generalize opStep (m, none) p = st1 at g1 c1 ⊢
    obtain ⟨m1, x1⟩ := st1
    cases x1 with
    | some y =>
      rw [foldl_stick]
      exact ⟨g1, fun z => by cases z⟩
    | none =>
      obtain ⟨g2, c2⟩ := fold_res l g1.ok (g1.kok rfl) fun p hp => hl p (List.mem_cons_of_mem _ hp)
      refine ⟨g1.trans g2, fun z q hq => ?_⟩
      rw [z] at g2
      obtain ⟨n1, e1⟩ := g1.ext
      obtain ⟨n2, e2⟩ := g2.ext
      have e1 : m1 = m ++ n1 := e1
      have e2 : m = m1 ++ n2 := e2
      have l1 : n1 = [] := by
        have := congrArg List.length e2
        rw [e1, List.length_append, List.length_append] at this
        exact List.length_eq_zero_iff.mp (by omega)
      rw [l1, List.append_nil] at e1
      subst e1
      rcases List.mem_cons.mp hq with rfl | hq
      · exact c1 rfl
      · exact c2 z q hq
end Rd
namespace Rd
open PySem L2
def lookO (m : List PRow) (p : PRow) : Option Tst :=
  if p.1.head = "own" then match lkey p.1 with
    | some k => match overF m k with
      | some q => if lkey p.2.1 ≠ some q.2 then some (.works (.bi "unlock" (.bi "lock" (.wd "a") p.2.2) q.1)) else none
      | none => none
    | none => none
  else none
def lookF (m : List PRow) (p : PRow) : Option Tst :=
  match bltF m p.1 with
  | some q => if q.2 ≠ p.2.1 then some (.same p.2.2 q.1) else lookO m p
  | none => lookO m p
def lkStep (m : List PRow) (x : Option Tst) (p : PRow) : Option Tst :=
  match x with
  | some y => some y
  | none => match lookF m p with
    | some y => some y
    | none => lookF (sws m) (swp p)
def looksF (m : List PRow) : Option Tst := m.foldl (lkStep m) none
theorem own_shape {t : Tr} (wf : Wf t) (h : t.head = "own") : ∃ a, t = .un "own" a ∧ Wf a := by
  obtain ⟨s, k, rfl, hs, wk⟩ := key_shape wf (.inr h)
  have h : s = "own" := h
  subst h
  exact ⟨k, rfl, wk⟩
theorem lookO_gen {ts us : List Tr} {m : List PRow} (hm : MOk ts us m) (hk : KOk m) {p : PRow} (hp : p ∈ m) {x : Tst} (h : lookO m p = some x) : Gen ts us x := by
  unfold lookO at h
  split at h
  · rename_i ho
    have ok := hm.row p hp
    obtain ⟨a, e1, wa⟩ := own_shape ok.w0 ho
    split at h
    · rename_i k hl
      split at h
      · rename_i q hq
        split at h
        · rename_i hn
          cases h
          rw [e1] at hl
          have hl : some (Tr.un (prt "own") a) = some k := hl
          have wk : Wf k := by
            cases hl
            exact .un (by decide +kernel) wa
          have tw := over_tw hm hk wk hq
          have ky : isKey p.1 = isKey p.2.1 := (kindT_none (hk p hp)).2.1
          have k0 : isKey p.1 = true := by rw [e1]; exact (by decide +kernel : decide (("own" : Str) ∈ (["open", "own"] : List Str)) = true)
          have k1 : isKey p.2.1 = true := by rw [← ky]; exact k0
          refine ⟨⟨by decide +kernel, ⟨by decide +kernel, (by decide +kernel : isWord "a" = true), ok.ok⟩, tw.ok⟩, ?_⟩
          have e0 : ev ts (.bi "lock" (.wd "a") p.2.2) = some (.bi "lock" (.am "word" "a") p.1) := by
            show ((ev ts (.wd "a")).bind fun t => (ev ts p.2.2).bind (wk2 "lock" t)) = _
            rw [ok.r0]
            exact wk2_lk k0
          have e2 : ev us (.bi "lock" (.wd "a") p.2.2) = some (.bi "lock" (.am "word" "a") p.2.1) := by
            show ((ev us (.wd "a")).bind fun t => (ev us p.2.2).bind (wk2 "lock" t)) = _
            rw [ok.r1]
            exact wk2_lk k1
          have u1 : ∀ z y : Tr, wk2 "unlock" (.bi "lock" (.am "word" "a") z) y = if lkey z = some y then some (.am "word" "a") else none := fun z y => by
            unfold wk2
            rw [if_neg (by decide +kernel), if_pos rfl]
            show (if ("lock" : Str) = "lock" ∧ ukey (.bi "lock" (.am "word" "a") z) = some y then some (Tr.am "word" "a") else none) = _
            have e : ukey (.bi "lock" (.am "word" "a") z) = lkey z := by rw [ukey, if_neg (by decide +kernel), if_pos rfl]
            rw [e]
            by_cases g : lkey z = some y
            · rw [if_pos ⟨rfl, g⟩, if_pos g]
            · rw [if_neg (fun w => g w.2), if_neg g]
          show ((ev ts (.bi "lock" (.wd "a") p.2.2)).bind fun t => (ev ts q.1).bind (wk2 "unlock" t)).isSome ≠ ((ev us (.bi "lock" (.wd "a") p.2.2)).bind fun t => (ev us q.1).bind (wk2 "unlock" t)).isSome
          rw [e0, e2, tw.e0, tw.e1]
          show (wk2 "unlock" (.bi "lock" (.am "word" "a") p.1) k).isSome ≠ (wk2 "unlock" (.bi "lock" (.am "word" "a") p.2.1) q.2).isSome
          rw [u1, u1, if_neg hn, if_pos (by rw [e1]; exact hl)]
          exact fun z => by cases z
        · cases h
      · cases h
    · cases h
  · cases h
theorem lookF_gen {ts us : List Tr} {m : List PRow} (hm : MOk ts us m) (hk : KOk m) {p : PRow} (hp : p ∈ m) {x : Tst} (h : lookF m p = some x) : Gen ts us x := by
  unfold lookF at h
  split at h
  · rename_i q hq
    split at h
    · rename_i hn
      cases h
      have ok := hm.row p hp
      have tw := blt_tw hm hk ok.w0 hq
      exact ⟨ok.ok, tw.ok, p.1, p.1, p.2.1, q.2, ok.r0, tw.e0, ok.r1, tw.e1, fun z => hn (z.mp rfl).symm⟩
    · exact lookO_gen hm hk hp h
  · exact lookO_gen hm hk hp h
def Lkd (m : List PRow) (p : PRow) : Prop := (∀ q, bltF m p.1 = some q → q.2 = p.2.1) ∧ (p.1.head = "own" → ∀ k q, lkey p.1 = some k → overF m k = some q → lkey p.2.1 = some q.2)
theorem lookO_none {m : List PRow} {p : PRow} (h : lookO m p = none) : p.1.head = "own" → ∀ k q, lkey p.1 = some k → overF m k = some q → lkey p.2.1 = some q.2 := by
  intro ho k q hl hq
  unfold lookO at h
  rw [if_pos ho, hl] at h
  dsimp only at h
  rw [hq] at h
  dsimp only at h
  split at h
  · cases h
  · rename_i hn
    exact Decidable.of_not_not hn
theorem lookF_none {m : List PRow} {p : PRow} (h : lookF m p = none) : Lkd m p := by
  unfold lookF at h
  split at h
  · rename_i q hq
    split at h
    · cases h
    · rename_i hn
      refine ⟨fun q' hq' => ?_, lookO_none h⟩
      rw [hq] at hq'
      cases hq'
      exact Decidable.of_not_not hn
  · rename_i hq
    refine ⟨fun q' hq' => ?_, lookO_none h⟩
    rw [hq] at hq'
    cases hq'
theorem lk_stick {m : List PRow} {y : Tst} : ∀ l : List PRow, l.foldl (lkStep m) (some y) = some y
  | [] => rfl
  | p :: l => lk_stick l
theorem lk_fold {ts us : List Tr} {m : List PRow} (hm : MOk ts us m) (hk : KOk m) : ∀ l : List PRow, (∀ p ∈ l, p ∈ m) → (∀ x, l.foldl (lkStep m) none = some x → Gen ts us x) ∧ (l.foldl (lkStep m) none = none → ∀ p ∈ l, Lkd m p ∧ Lkd (sws m) (swp p))
  | [], _ => ⟨(fun x h => by cases h), fun _ p hp => by cases hp⟩
  | p :: l, hl => by
    have hp := hl p List.mem_cons_self
    obtain ⟨g, c⟩ := lk_fold hm hk l fun p hp => hl p (List.mem_cons_of_mem _ hp)
    rw [List.foldl_cons]
    have hs : swp p ∈ sws m := List.mem_map.mpr ⟨p, hp, rfl⟩
    cases e : lookF m p with
    | some y =>
      have e1 : lkStep m none p = some y := by unfold lkStep; dsimp only; rw [e]
      rw [e1, lk_stick]
      exact ⟨fun x hx => by cases hx; exact lookF_gen hm hk hp e, fun z => by cases z⟩
    | none =>
      have e1 : lkStep m none p = lookF (sws m) (swp p) := by unfold lkStep; dsimp only; rw [e]
      rw [e1]
      cases e2 : lookF (sws m) (swp p) with
      | some y =>
        rw [lk_stick]
        exact ⟨fun x hx => by cases hx; exact (lookF_gen hm.swap hk.swap hs e2).symm, fun z => by cases z⟩
      | none =>
        refine ⟨g, fun hn q hq => ?_⟩
        rcases List.mem_cons.mp hq with rfl | hq
        · exact ⟨lookF_none e, lookF_none e2⟩
        · exact c hn q hq
structure Fin' (ts us : List Tr) (m : List PRow) : Prop where
  len : ts.length = us.length
  ok : MOk ts us m
  kok : KOk m
  hp : ∀ (i : Nat) t u, ts[i]? = some t → us[i]? = some u → ∃ r, (t, u, r) ∈ m
  hv : ∀ a b c d r, (.bi "pair" a b, .bi "pair" c d, r) ∈ m → (∃ r', (a, c, r') ∈ m) ∧ ∃ r', (b, d, r') ∈ m
  cl : ∀ p ∈ m, Clo m p m
  lk : ∀ p ∈ m, Lkd m p
theorem Fin'.row {ts us : List Tr} {m : List PRow} (F : Fin' ts us m) {t u : Tr} {r : Rc} (h : (t, u, r) ∈ m) : ∃ q, overF m t = some (q, u) := by
  obtain ⟨_, _, k3, _⟩ := kindT_none (F.kok _ h)
  have e := tf0_of F.ok.n0 h
  cases t with
  | am k x =>
    rw [overF]
    by_cases ek : k = "word"
    · rw [if_pos ek]
      have : Tr.am k x = u := k3 ek
      exact ⟨_, by rw [this]⟩
    · rw [if_neg ek]
      exact ⟨_, e⟩
  | un s a => rw [overF, e]; exact ⟨_, rfl⟩
  | bi s a b => rw [overF, e]; exact ⟨_, rfl⟩
theorem Fin'.un {ts us : List Tr} {m : List PRow} (F : Fin' ts us m) {s : Str} {a o : Tr} {q : Rc} (hs : s = "mark" ∨ s = "open") (h : overF m a = some (q, o)) : ∃ q', overF m (.un s a) = some (q', .un s o) := by
  have ns : s ≠ "own" := by rcases hs with rfl | rfl <;> decide +kernel
  have hb : bltF m (.un s a) = some (.un s q, .un s o) := by rw [bltF, if_neg ns, h]; rfl
  rw [overF]
  cases e : tf0 m (.un s a) with
  | some p =>
    obtain ⟨r, u⟩ := p
    have this : Tr.un s o = u := (F.lk _ (tf0_some e)).1 _ hb
    exact ⟨r, by rw [this]⟩
  | none =>
    dsimp only
    rw [if_neg ns, h]
    exact ⟨_, rfl⟩
theorem Fin'.bi {ts us : List Tr} {m : List PRow} (F : Fin' ts us m) {s : Str} {a b o p : Tr} {q r : Rc} (h : overF m a = some (q, o)) (g : overF m b = some (r, p)) : ∃ q', overF m (.bi s a b) = some (q', .bi s o p) := by
  have hb : bltF m (.bi s a b) = some (.bi s q r, .bi s o p) := by rw [bltF, h, g]; rfl
  rw [overF]
  cases e : tf0 m (.bi s a b) with
  | some z =>
    obtain ⟨r, u⟩ := z
    have this : Tr.bi s o p = u := (F.lk _ (tf0_some e)).1 _ hb
    exact ⟨r, by rw [this]⟩
  | none =>
    dsimp only
    rw [h, g]
    exact ⟨_, rfl⟩
theorem Fin'.pair {ts us : List Tr} {m : List PRow} (F : Fin' ts us m) {a b o : Tr} {q : Rc} (h : overF m (.bi "pair" a b) = some (q, o)) : ∃ c d q1 q2, o = .bi "pair" c d ∧ overF m a = some (q1, c) ∧ overF m b = some (q2, d) := by
  rw [overF] at h
  cases e : tf0 m (.bi "pair" a b) with
  | some z =>
    rw [e] at h
    cases h
    have hr := tf0_some e
    obtain ⟨k1, _⟩ := kindT_none (F.kok _ hr)
    obtain ⟨c, d, e1, _⟩ := pair_shape (F.ok.row _ hr).w1 (k1.mp rfl)
    have e1 : o = .bi "pair" c d := e1
    subst e1
    obtain ⟨⟨r1, h1⟩, r2, h2⟩ := F.hv _ _ _ _ _ hr
    obtain ⟨q1, g1⟩ := F.row h1
    obtain ⟨q2, g2⟩ := F.row h2
    exact ⟨c, d, q1, q2, rfl, g1, g2⟩
  | none =>
    rw [e] at h
    dsimp only at h
    obtain ⟨z, hz, h⟩ := Option.bind_eq_some_iff.mp h
    obtain ⟨y, hy, h⟩ := Option.map_eq_some_iff.mp h
    cases h
    exact ⟨_, _, z.1, y.1, rfl, hz, hy⟩
theorem seal_shape {t : Tr} (wf : Wf t) (h : t.head = "seal") : ∃ a b, t = .bi "seal" a b := by
  rcases wf.shp with ⟨k, x, rfl, ko⟩ | ⟨z, a, rfl, hz, _⟩ | ⟨z, a, b, rfl, _, wa, wb⟩
  · have h : k = "seal" := h
    rcases ko with ⟨rfl, _⟩ | ⟨rfl, _⟩ | ⟨rfl, _⟩ <;> exact absurd h (by decide +kernel)
  · have h : z = "seal" := h
    subst h
    exact absurd hz (by decide +kernel)
  · have h : z = "seal" := h
    subst h
    exact ⟨a, b, rfl⟩
theorem lock_shape {t : Tr} (wf : Wf t) (h : t.head = "lock") : ∃ a s b, t = .bi "lock" a (.un s b) ∧ s ∈ (["open", "own"] : List Str) := by
  cases wf with
  | @am k x ko =>
    have h : k = "lock" := h
    rcases ko with ⟨rfl, _⟩ | ⟨rfl, _⟩ | ⟨rfl, _⟩ <;> exact absurd h (by decide +kernel)
  | @un s a hs _ =>
    have h : s = "lock" := h
    subst h
    exact absurd hs (by decide +kernel)
  | @bi s a b hs _ _ =>
    have h : s = "lock" := h
    subst h
    exact absurd hs (by decide +kernel)
  | @lk s a b hs _ _ => exact ⟨a, s, b, rfl, hs⟩
theorem Fin'.seal' {ts us : List Tr} {m : List PRow} (F : Fin' ts us m) {a k o ko : Tr} {q qk : Rc} (h : overF m (.bi "seal" a k) = some (q, o)) (hk : overF m k = some (qk, ko)) : ∃ c q1, o = .bi "seal" c ko ∧ overF m a = some (q1, c) := by
  rw [overF] at h
  cases e : tf0 m (.bi "seal" a k) with
  | some z =>
    rw [e] at h
    cases h
    have hr := tf0_some e
    obtain ⟨c1, c2, r, c3⟩ := F.cl _ hr k (qk, ko) (by rw [ukey, if_pos rfl]) hk
    obtain ⟨x, y, e1⟩ := seal_shape (F.ok.row _ hr).w1 c1
    have e1 : o = .bi "seal" x y := e1
    subst e1
    have c2 : (if ("seal" : Str) = "seal" then some y else if ("seal" : Str) = "lock" then lkey y else none) = some ko := c2
    rw [if_pos rfl] at c2
    cases c2
    obtain ⟨q1, g1⟩ := F.row c3
    exact ⟨x, q1, rfl, g1⟩
  | none =>
    rw [e] at h
    dsimp only at h
    obtain ⟨z, hz, h⟩ := Option.bind_eq_some_iff.mp h
    obtain ⟨y, hy, h⟩ := Option.map_eq_some_iff.mp h
    cases h
    rw [hk] at hy
    cases hy
    exact ⟨_, z.1, rfl, hz⟩
theorem prt_prt {s : Str} (h : s ∈ (["open", "own"] : List Str)) : prt (prt s) = s := by
  have : ∀ z ∈ (["open", "own"] : List Str), prt (prt z) = z := by decide +kernel
  exact this s h
theorem Fin'.lock' {ts us : List Tr} {m : List PRow} (F : Fin' ts us m) {a k o kk ko : Tr} {q qk : Rc} (wf : Wf (.bi "lock" a k)) (h : overF m (.bi "lock" a k) = some (q, o)) (hl : lkey k = some kk) (hk : overF m kk = some (qk, ko)) : ∃ c k2 q1, o = .bi "lock" c k2 ∧ lkey k2 = some ko ∧ overF m a = some (q1, c) := by
  have uk : ∀ x y : Tr, ukey (.bi "lock" x y) = lkey y := fun x y => by rw [ukey, if_neg (by decide +kernel), if_pos rfl]
  obtain ⟨_, s, b, e0, hs⟩ := lock_shape wf rfl
  cases e0
  rw [overF] at h
  cases e : tf0 m (.bi "lock" a (.un s b)) with
  | some z =>
    rw [e] at h
    cases h
    have hr := tf0_some e
    obtain ⟨c1, c2, r, c3⟩ := F.cl _ hr kk (qk, ko) (by rw [uk]; exact hl) hk
    obtain ⟨x, s2, y, e1, _⟩ := lock_shape (F.ok.row _ hr).w1 c1
    have e1 : o = .bi "lock" x (.un s2 y) := e1
    subst e1
    have c2 : ukey (.bi "lock" x (.un s2 y)) = some ko := c2
    rw [uk] at c2
    obtain ⟨q1, g1⟩ := F.row c3
    exact ⟨x, _, q1, rfl, c2, g1⟩
  | none =>
    rw [e] at h
    dsimp only at h
    obtain ⟨z, hz, h⟩ := Option.bind_eq_some_iff.mp h
    obtain ⟨y, hy, h⟩ := Option.map_eq_some_iff.mp h
    cases h
    refine ⟨z.2, y.2, z.1, rfl, ?_, hz⟩
    cases hl
    have wk := (wf_kids wf).2
    have wb : Wf b := by
      cases wk with
      | un _ w => exact w
    have hs' : s = "open" ∨ s = "own" := by simpa using hs
    rcases hs' with rfl | rfl
    · -- the partner stands in the table
      have ep : prt "open" = "own" := by decide +kernel
      rw [ep] at hk
      rw [overF] at hk
      cases e2 : tf0 m (.un "own" b) with
      | none => rw [e2] at hk; dsimp only at hk; rw [if_pos rfl] at hk; cases hk
      | some w =>
        rw [e2] at hk
        cases hk
        have hr := tf0_some e2
        have g := (F.lk _ hr).2 rfl (.un (prt "own") b) y rfl (by
          have : prt "own" = "open" := by decide +kernel
          rw [this]
          exact hy)
        have g : lkey ko = some y.2 := g
        have ky : isKey (.un "own" b) = isKey ko := (kindT_none (F.kok _ hr)).2.1
        have k1 : isKey ko = true := by rw [← ky]; exact (by decide +kernel : decide (("own" : Str) ∈ (["open", "own"] : List Str)) = true)
        obtain ⟨s3, x3, e3, hs3, _⟩ := isKey_shape (F.ok.row _ hr).w1 k1
        have e3 : ko = .un s3 x3 := e3
        subst e3
        have g : some (Tr.un (prt s3) x3) = some y.2 := g
        rw [← Option.some.inj g]
        show some (Tr.un (prt (prt s3)) x3) = some (.un s3 x3)
        rw [prt_prt hs3]
    · have hy' := hy
      rw [overF] at hy'
      cases e2 : tf0 m (.un "own" b) with
      | none => rw [e2] at hy'; dsimp only at hy'; rw [if_pos rfl] at hy'; cases hy'
      | some w =>
        rw [e2] at hy'
        cases hy'
        have hr := tf0_some e2
        exact (F.lk _ hr).2 rfl (.un (prt "own") b) (qk, ko) rfl hk
theorem ev_wf {ts : List Tr} (wt : ∀ t ∈ ts, Wf t) {r : Rc} (ok : RcOk r) {t : Tr} (e : ev ts r = some t) : Wf t := by
  have : ∃ D, ∀ t ∈ ts, t.dep ≤ D := by
    clear e
    induction ts with
    | nil => exact ⟨0, fun t h => by cases h⟩
    | cons u ts ih =>
      obtain ⟨D, h⟩ := ih fun t ht => wt t (List.mem_cons_of_mem _ ht)
      refine ⟨max D u.dep, fun t ht => ?_⟩
      rcases List.mem_cons.mp ht with rfl | ht
      · exact Nat.le_max_right _ _
      · exact Nat.le_trans (h t ht) (Nat.le_max_left _ _)
  obtain ⟨D, h⟩ := this
  exact (rcx_wf (D := D) (fun t ht => ⟨wt t ht, h t ht⟩) ok ((rcx_ev t).mpr e)).1
theorem Fin'.main {ts us : List Tr} {m : List PRow} (F : Fin' ts us m) (wt : ∀ t ∈ ts, Wf t) : ∀ {r : Rc}, RcOk r → ∀ {t : Tr}, ev ts r = some t → ∃ o q, ev us r = some o ∧ overF m t = some (q, o)
  | .at_ k, _, t, e => by
    have e : (if 0 ≤ k then ts[k.toNat]? else none) = some t := e
    show ∃ o q, (if 0 ≤ k then us[k.toNat]? else none) = some o ∧ _
    by_cases hk : 0 ≤ k
    · rw [if_pos hk] at e ⊢
      have hl := (List.getElem?_eq_some_iff.mp e).1
      have hu : us[k.toNat]? = some (us[k.toNat]'(by rw [← F.len]; exact hl)) := List.getElem?_eq_getElem _
      obtain ⟨r, hr⟩ := F.hp _ _ _ e hu
      obtain ⟨q, hq⟩ := F.row hr
      exact ⟨_, q, hu, hq⟩
    · rw [if_neg hk] at e
      cases e
  | .wd x, _, t, e => by
    cases e
    exact ⟨_, .wd x, rfl, by rw [overF, if_pos rfl]⟩
  | .un s r, ok, t, e => by
    obtain ⟨t1, e1, e2⟩ := Option.bind_eq_some_iff.mp (show (ev ts r).bind (wk1 s) = some t from e)
    obtain ⟨o1, q1, f1, g1⟩ := F.main wt ok.2 e1
    show ∃ o q, (ev us r).bind (wk1 s) = some o ∧ _
    rw [f1, Option.bind_some]
    have hs := unl_cases ok.1
    have w1 := ev_wf wt ok.2 e1
    rcases hs with rfl | rfl | hs
    · have hp : t1.head = "pair" := by
        have := wk1_first w1
        rw [e2] at this
        exact of_decide_eq_true this.symm
      obtain ⟨a, b, rfl, _⟩ := pair_shape w1 hp
      obtain ⟨c, d, qa, qb, rfl, ga, gb⟩ := F.pair g1
      cases e2
      exact ⟨c, qa, rfl, ga⟩
    · have hp : ∃ a b, t1 = .bi "pair" a b := by
        unfold wk1 at e2
        rw [if_neg (by decide +kernel), if_pos rfl] at e2
        split at e2
        · split at e2
          · rename_i h
            exact ⟨_, _, by rw [h]⟩
          · cases e2
        · cases e2
      obtain ⟨a, b, rfl⟩ := hp
      obtain ⟨c, d, qa, qb, rfl, ga, gb⟩ := F.pair g1
      cases e2
      exact ⟨d, qb, rfl, gb⟩
    · have w : ∀ z : Tr, wk1 s z = some (.un s z) := fun z => by
        unfold wk1
        rcases hs with rfl | rfl
        · rw [if_neg (by decide +kernel), if_neg (by decide +kernel)]
        · rw [if_neg (by decide +kernel), if_neg (by decide +kernel)]
      rw [w] at e2 ⊢
      cases e2
      obtain ⟨q', h'⟩ := F.un hs g1
      exact ⟨_, q', rfl, h'⟩
  | .bi s r r2, ok, t, e => by
    obtain ⟨t1, e1, e2⟩ := Option.bind_eq_some_iff.mp (show ((ev ts r).bind fun t => (ev ts r2).bind (wk2 s t)) = some t from e)
    obtain ⟨t2, e3, e4⟩ := Option.bind_eq_some_iff.mp e2
    obtain ⟨o1, q1, f1, g1⟩ := F.main wt ok.2.1 e1
    obtain ⟨o2, q2, f2, g2⟩ := F.main wt ok.2.2 e3
    show ∃ o q, ((ev us r).bind fun t => (ev us r2).bind (wk2 s t)) = some o ∧ _
    rw [f1, Option.bind_some, f2, Option.bind_some]
    have w1 := ev_wf wt ok.2.1 e1
    have w2 := ev_wf wt ok.2.2 e3
    have wo1 : Wf o1 := (over_tw F.ok F.kok w1 g1).wf
    have ko : isKey t2 = isKey o2 := (over_tw F.ok F.kok w2 g2).key
    have opn : ∀ h : Str, h = "seal" ∨ h = "lock" → s = opr h → t1.head = h ∧ ukey t1 = some t2 ∧ t = cont t1 := fun h hh hs => by
      subst hs
      rw [wk2_opr w1 hh] at e4
      split at e4
      · rename_i hc
        cases e4
        exact ⟨hc.1, hc.2, rfl⟩
      · cases e4
    rcases bil_cases ok.1 with rfl | rfl | hs | hs | rfl
    · obtain ⟨h1, h2, rfl⟩ := opn "seal" (.inl rfl) (by decide +kernel)
      obtain ⟨a, k, rfl⟩ := seal_shape w1 h1
      rw [ukey, if_pos rfl] at h2
      cases h2
      obtain ⟨c, qc, rfl, gc⟩ := F.seal' g1 g2
      refine ⟨c, qc, ?_, gc⟩
      have := wk2_opr (k := o2) wo1 (.inl rfl)
      have eo : opr "seal" = "unseal" := by decide +kernel
      rw [eo, if_pos ⟨rfl, by rw [ukey, if_pos rfl]⟩] at this
      exact this
    · obtain ⟨h1, h2, rfl⟩ := opn "lock" (.inr rfl) (by decide +kernel)
      obtain ⟨a, z, b, rfl, _⟩ := lock_shape w1 h1
      have uk : ∀ x y : Tr, ukey (.bi "lock" x y) = lkey y := fun x y => by rw [ukey, if_neg (by decide +kernel), if_pos rfl]
      rw [uk] at h2
      obtain ⟨c, k2, qc, rfl, hl, gc⟩ := F.lock' w1 g1 h2 g2
      refine ⟨c, qc, ?_, gc⟩
      have := wk2_opr (k := o2) wo1 (.inr rfl)
      have eo : opr "lock" = "unlock" := by decide +kernel
      rw [eo, if_pos ⟨rfl, by rw [uk]; exact hl⟩] at this
      exact this
    · subst hs
      rw [wk2_mk (.inl rfl)] at e4 ⊢
      cases e4
      obtain ⟨q', h'⟩ := F.bi (s := "pair") g1 g2
      exact ⟨_, q', rfl, h'⟩
    · subst hs
      rw [wk2_mk (.inr rfl)] at e4 ⊢
      cases e4
      obtain ⟨q', h'⟩ := F.bi (s := "seal") g1 g2
      exact ⟨_, q', rfl, h'⟩
    · have k2 : isKey t2 = true := by
        rw [← wk2_lock (a := t1), e4]
        rfl
      rw [wk2_lk k2] at e4
      rw [wk2_lk (by rw [← ko]; exact k2)]
      cases e4
      obtain ⟨q', h'⟩ := F.bi (s := "lock") g1 g2
      exact ⟨_, q', rfl, h'⟩
theorem Fin'.alk {ts us : List Tr} {m : List PRow} (F : Fin' ts us m) (G : Fin' us ts (sws m)) (wt : ∀ t ∈ ts, Wf t) (wu : ∀ t ∈ us, Wf t) : Alk ts us := by
  refine ⟨fun r ok => ?_, fun r s t1 t2 u1 u2 o1 o2 h1 h2 h3 h4 => ⟨fun e => ?_, fun e => ?_⟩⟩
  · rw [Bool.eq_iff_iff, Option.isSome_iff_exists, Option.isSome_iff_exists]
    constructor
    · rintro ⟨t, h⟩
      obtain ⟨o, q, h', _⟩ := F.main wt ok h
      exact ⟨o, h'⟩
    · rintro ⟨t, h⟩
      obtain ⟨o, q, h', _⟩ := G.main wu ok h
      exact ⟨o, h'⟩
  · subst e
    obtain ⟨o, q, f1, g1⟩ := F.main wt o1 h1
    obtain ⟨o', q', f2, g2⟩ := F.main wt o2 h2
    rw [h3] at f1
    rw [h4] at f2
    cases f1
    cases f2
    rw [g1] at g2
    cases g2
    rfl
  · subst e
    obtain ⟨o, q, f1, g1⟩ := G.main wu o1 h3
    obtain ⟨o', q', f2, g2⟩ := G.main wu o2 h4
    rw [h1] at f1
    rw [h2] at f2
    cases f1
    cases f2
    rw [g1] at g2
    cases g2
    rfl
end Rd
namespace Rd
open PySem L2
def initF : Nat → List Tr → List Tr → List PRow → PSt
  | k, t :: ts, u :: us, m => match comesF t u (.at_ (k : Int)) m with
    | (m1, some x) => (m1, some x)
    | (m1, none) => initF (k + 1) ts us m1
  | _, _, _, m => (m, none)
def goF : Nat → List PRow → PSt
  | 0, m => (m, none)
  | n + 1, m => match opensF m with
    | (m1, some x) => (m1, some x)
    | (m1, none) => if m1.length = m.length then (m1, none) else goF n m1
def partF (ts us : List Tr) : Option Tst :=
  match initF 0 ts us [] with
  | (_, some x) => some x
  | (m, none) => match goF ((allOf ts).length + 1) m with
    | (_, some x) => some x
    | (m, none) => looksF m
theorem allOf_of {ts : List Tr} {t : Tr} (h : t ∈ ts) : t ∈ allOf ts := List.mem_flatMap.mpr ⟨t, h, all_self t⟩
theorem init_res {ts us : List Tr} (wt : ∀ t ∈ ts, Wf t) (wu : ∀ t ∈ us, Wf t) : ∀ (k : Nat) (as bs : List Tr) {m : List PRow}, ts.drop k = as → us.drop k = bs → MOk ts us m → KOk m → as.length = bs.length →
    Grow ts us m (initF k as bs m) ∧ ((initF k as bs m).2 = none → ∀ (i : Nat) t u, as[i]? = some t → bs[i]? = some u → ∃ r, (t, u, r) ∈ (initF k as bs m).1)
  | k, [], bs, m, _, _, hm, hk, _ => by
    have e : initF k [] bs m = (m, none) := by rw [initF]; intro t ts u us h; cases h
    rw [e]
    exact ⟨Grow.refl hm hk, fun _ i t u h => by simp at h⟩
  | k, t :: as, [], m, _, _, _, _, hl => absurd hl (by simp)
  | k, t :: as, u :: bs, m, ha, hb, hm, hk, hl => by
    have et : ts[k]? = some t := by rw [← List.head?_drop, ha]; rfl
    have eu : us[k]? = some u := by rw [← List.head?_drop, hb]; rfl
    have mt := List.mem_of_getElem? et
    have mu := List.mem_of_getElem? eu
    have e0 : ∀ (xs : List Tr) (z : Tr), xs[k]? = some z → ev xs (.at_ (k : Int)) = some z := fun xs z h => by
      show (if (0 : Int) ≤ (k : Int) then xs[((k : Int)).toNat]? else none) = some z
      rw [if_pos (by omega), Int.toNat_natCast]
      exact h
    have R := comes_res t hm hk (u := u) (r := .at_ (k : Int)) ⟨e0 _ _ et, e0 _ _ eu, trivial, wt t mt, wu u mu, allOf_of mt, allOf_of mu⟩
    rw [initF]
    generalize comesF t u (.at_ (k : Int)) m = st1 at R ⊢
    obtain ⟨m1, x1⟩ := st1
    cases x1 with
    | some y => exact ⟨R.grow, fun z => by cases z⟩
    | none =>
      dsimp only
      obtain ⟨g2, c2⟩ := init_res wt wu (k + 1) as bs (by rw [← List.drop_drop, ha]; rfl) (by rw [← List.drop_drop, hb]; rfl) R.ok (R.kok rfl) (by simpa using hl)
      refine ⟨R.grow.trans g2, fun hn i t' u' h1 h2 => ?_⟩
      cases i with
      | zero =>
        cases h1
        cases h2
        obtain ⟨r, hr⟩ := R.here rfl
        obtain ⟨n2, e2⟩ := g2.ext
        exact ⟨r, by rw [e2]; exact List.mem_append_left _ hr⟩
      | succ i => exact c2 hn i t' u' h1 h2
theorem MOk.le {ts us : List Tr} {m : List PRow} (hm : MOk ts us m) : m.length ≤ (allOf ts).length := by
  have := nodup_sub hm.n0 fun t ht => by
    obtain ⟨p, hp, rfl⟩ := List.mem_map.mp ht
    exact (hm.row p hp).s0
  rw [List.length_map] at this
  exact this
theorem go_res {ts us : List Tr} : ∀ (n : Nat) {m : List PRow}, MOk ts us m → KOk m → (allOf ts).length < m.length + n → Grow ts us m (goF n m) ∧ ((goF n m).2 = none → opensF (goF n m).1 = ((goF n m).1, none))
  | 0, m, hm, hk, hn => absurd hm.le (by omega)
  | n + 1, m, hm, hk, hn => by
    have R := (fold_res m hm hk fun p hp => hm.row p hp).1
    have R : Grow ts us m (opensF m) := R
    rw [goF]
    cases e : opensF m with
    | mk m1 x1 =>
      rw [e] at R
      cases x1 with
      | some y => exact ⟨R, fun z => by cases z⟩
      | none =>
        dsimp only
        obtain ⟨n1, e1⟩ := R.ext
        have e1 : m1 = m ++ n1 := e1
        by_cases hl : m1.length = m.length
        · rw [if_pos hl]
          have : n1 = [] := by
            rw [e1, List.length_append] at hl
            exact List.length_eq_zero_iff.mp (by omega)
          rw [this, List.append_nil] at e1
          subst e1
          exact ⟨R, fun _ => e⟩
        · rw [if_neg hl]
          have hl2 : m.length < m1.length := by
            rw [e1, List.length_append] at hl ⊢
            omega
          obtain ⟨g2, c2⟩ := go_res n (m := m1) R.ok (R.kok rfl) (by omega)
          exact ⟨R.trans g2, c2⟩
theorem part_ok {ts us : List Tr} (wt : ∀ t ∈ ts, Wf t) (wu : ∀ t ∈ us, Wf t) (hl : ts.length = us.length) : (∀ x, partF ts us = some x → Gen ts us x) ∧ (partF ts us = none → Alk ts us) := by
  have m0 : MOk ts us [] := ⟨(fun p h => by cases h), List.nodup_nil, List.nodup_nil⟩
  have k0 : KOk [] := fun p h => by cases h
  obtain ⟨g1, c1⟩ := init_res wt wu 0 ts us (m := []) rfl rfl m0 k0 hl
  unfold partF
  generalize initF 0 ts us [] = st1 at g1 c1 ⊢
  obtain ⟨m1, x1⟩ := st1
  cases x1 with
  | some y => exact ⟨fun x h => by cases h; exact g1.gen _ rfl, fun z => by cases z⟩
  | none =>
    dsimp only
    obtain ⟨g2, c2⟩ := go_res (ts := ts) (us := us) ((allOf ts).length + 1) g1.ok (g1.kok rfl) (by omega)
    have G := g1.trans g2
    generalize goF ((allOf ts).length + 1) m1 = st2 at g2 c2 G ⊢
    obtain ⟨m2, x2⟩ := st2
    cases x2 with
    | some y => exact ⟨fun x h => by cases h; exact g2.gen _ rfl, fun z => by cases z⟩
    | none =>
      dsimp only
      have hm := G.ok
      have hk := G.kok rfl
      have hop : opensF m2 = (m2, none) := c2 rfl
      obtain ⟨lg, lc⟩ := lk_fold hm hk m2 fun p h => h
      refine ⟨lg, fun hn => ?_⟩
      have L := lc hn
      have C := (fold_res m2 hm hk fun p hp => hm.row p hp).2 hop
      obtain ⟨n2, e2⟩ := g2.ext
      have e2 : m2 = m1 ++ n2 := e2
      have hp : ∀ (i : Nat) t u, ts[i]? = some t → us[i]? = some u → ∃ r, (t, u, r) ∈ m2 := fun i t u h1 h2 => by
        obtain ⟨r, hr⟩ := c1 rfl i t u h1 h2
        exact ⟨r, by rw [e2]; exact List.mem_append_left _ hr⟩
      have hv : ∀ a b c d r, (.bi "pair" a b, .bi "pair" c d, r) ∈ m2 → (∃ r', (a, c, r') ∈ m2) ∧ ∃ r', (b, d, r') ∈ m2 := fun a b c d r h => by
        rcases G.hv rfl a b c d r h with h | h
        · cases h
        · exact h
      have F : Fin' ts us m2 := ⟨hl, hm, hk, hp, hv, fun p h => (C p h).1, fun p h => (L p h).1⟩
      have F2 : Fin' us ts (sws m2) := by
        refine ⟨hl.symm, hm.swap, hk.swap, fun i t u h1 h2 => ?_, fun a b c d r h => ?_, fun p h => ?_, fun p h => ?_⟩
        · obtain ⟨r, hr⟩ := hp i u t h2 h1
          exact ⟨r, sws_mem.mpr hr⟩
        · obtain ⟨⟨r1, h1⟩, r2, h2⟩ := hv c d a b r (sws_mem.mp h)
          exact ⟨⟨r1, sws_mem.mpr h1⟩, r2, sws_mem.mpr h2⟩
        · obtain ⟨q, hq, rfl⟩ := List.mem_map.mp h
          exact (C q hq).2
        · obtain ⟨q, hq, rfl⟩ := List.mem_map.mp h
          exact (L q hq).2
      exact F.alk F2 wt wu
theorem part_iff {ts us : List Tr} (wt : ∀ t ∈ ts, Wf t) (wu : ∀ t ∈ us, Wf t) (hl : ts.length = us.length) : partF ts us = none ↔ Alk ts us := by
  obtain ⟨g, c⟩ := part_ok wt wu hl
  refine ⟨c, fun a => ?_⟩
  cases e : partF ts us with
  | none => rfl
  | some x => exact ((g x e).no a).elim
end Rd
namespace Rd
open PySem L2
/-- a recipe, whose word may be the written one -/
def IsRk (K : PySem.W.Frag) (H : Hp) : Rc → V → Prop
  | .at_ k, v => ∃ p, v = .ref p ∧ H p = some (.tup [.str "at", .int k])
  | .wd x, v => (∃ p, v = .ref p ∧ H p = some (.tup [.str "word", .str x])) ∨ (x = "a" ∧ v = .ref (He.ga K "SOME_WORD"))
  | .un s r, v => ∃ p u, v = .ref p ∧ H p = some (.tup [.str s, u]) ∧ IsRk K H r u
  | .bi s r q, v => ∃ p u u2, v = .ref p ∧ H p = some (.tup [.str s, u, u2]) ∧ IsRk K H r u ∧ IsRk K H q u2
/-- the tuples stay -/
def Kq (H H' : Hp) : Prop := ∀ c xs, H c = some (.tup xs) → H' c = some (.tup xs)
theorem Kq.refl {H : Hp} : Kq H H := fun _ _ e => e
theorem Kq.trans {H H1 H2 : Hp} (a : Kq H H1) (b : Kq H1 H2) : Kq H H2 := fun c xs e => b c xs (a c xs e)
theorem Kq.of_same {H H' : Hp} (s : Same H H') : Kq H H' := fun c xs e => s _ _ e
theorem IsT.kq {H H' : Hp} (k : Kq H H') : ∀ {t : Tr} {v : V}, IsT H t v → IsT H' t v
  | .am _ _, v, ⟨p, e, h⟩ => ⟨p, e, k _ _ h⟩
  | .un s a, v, ⟨p, u, e, h, g⟩ => ⟨p, u, e, k _ _ h, IsT.kq k g⟩
  | .bi s a b, v, ⟨p, u, u2, e, h, g1, g2⟩ => ⟨p, u, u2, e, k _ _ h, IsT.kq k g1, IsT.kq k g2⟩
theorem IsRk.kq {K : PySem.W.Frag} {H H' : Hp} (k : Kq H H') : ∀ {r : Rc} {v : V}, IsRk K H r v → IsRk K H' r v
  | .at_ _, v, ⟨p, e, h⟩ => ⟨p, e, k _ _ h⟩
  | .wd _, v, h => by
    rcases h with ⟨p, e, h⟩ | h
    · exact .inl ⟨p, e, k _ _ h⟩
    · exact .inr h
  | .un s r, v, ⟨p, u, e, h, g⟩ => ⟨p, u, e, k _ _ h, IsRk.kq k g⟩
  | .bi s r q, v, ⟨p, u, u2, e, h, g1, g2⟩ => ⟨p, u, u2, e, k _ _ h, IsRk.kq k g1, IsRk.kq k g2⟩
theorem IsRk.same {K : PySem.W.Frag} {H H' : Hp} {r : Rc} {v : V} (s : Same H H') (h : IsRk K H r v) : IsRk K H' r v := h.kq (Kq.of_same s)
def TRow (K : PySem.W.Frag) (H : Hp) (q : Rc × Tr) (v : V) : Prop := ∃ p rv tv, v = .ref p ∧ H p = some (.tup [rv, tv]) ∧ IsRk K H q.1 rv ∧ IsT H q.2 tv
theorem TRow.kq {K : PySem.W.Frag} {H H' : Hp} (k : Kq H H') {q : Rc × Tr} {v : V} (h : TRow K H q v) : TRow K H' q v := by
  obtain ⟨p, rv, tv, e, h1, h2, h3⟩ := h
  exact ⟨p, rv, tv, e, k _ _ h1, h2.kq k, h3.kq k⟩
def MRow (K : PySem.W.Frag) (H : Hp) (w : PRow) (v : V) : Prop := ∃ p q tv uv rv, v = .ref p ∧ H p = some (.tup [.ref q, rv]) ∧ H q = some (.tup [tv, uv]) ∧ IsT H w.1 tv ∧ IsT H w.2.1 uv ∧ IsRk K H w.2.2 rv
theorem MRow.kq {K : PySem.W.Frag} {H H' : Hp} (k : Kq H H') {w : PRow} {v : V} (h : MRow K H w v) : MRow K H' w v := by
  obtain ⟨p, q, tv, uv, rv, e, h1, h2, h3, h4, h5⟩ := h
  exact ⟨p, q, tv, uv, rv, e, k _ _ h1, k _ _ h2, h3.kq k, h4.kq k, h5.kq k⟩
def TstV (K : PySem.W.Frag) (H : Hp) : Option Tst → V → Prop
  | none, v => v = .non
  | some (.works r), v => ∃ p u, v = .ref p ∧ H p = some (.tup [.str "works", u]) ∧ IsRk K H r u
  | some (.same r s), v => ∃ p u u2, v = .ref p ∧ H p = some (.tup [.str "same", u, u2]) ∧ IsRk K H r u ∧ IsRk K H s u2
theorem TstV.kq {K : PySem.W.Frag} {H H' : Hp} (k : Kq H H') {x : Option Tst} {v : V} (h : TstV K H x v) : TstV K H' x v := by
  cases x with
  | none => exact h
  | some y =>
    cases y with
    | works r => obtain ⟨p, u, e, h1, h2⟩ := h; exact ⟨p, u, e, k _ _ h1, h2.kq k⟩
    | same r s => obtain ⟨p, u, u2, e, h1, h2, h3⟩ := h; exact ⟨p, u, u2, e, k _ _ h1, h2.kq k, h3.kq k⟩
theorem TstV.some {K : PySem.W.Frag} {H : Hp} {y : Tst} {v : V} (h : TstV K H (some y) v) : ∃ p, v = .ref p := by
  cases y with
  | works r => obtain ⟨p, u, e, _⟩ := h; exact ⟨p, e⟩
  | same r s => obtain ⟨p, u, u2, e, _⟩ := h; exact ⟨p, e⟩
theorem pl_e1 : (("tables" : Str) == ("met" : Str)) = false := by decide +kernel
theorem pl_e2 : (("test" : Str) == ("met" : Str)) = false := by decide +kernel
theorem pl_e3 : (("test" : Str) == ("tables" : Str)) = false := by decide +kernel
def plF (a b c : V) : List (Str × V) := [("met", a), ("tables", b), ("test", c)]
theorem pl_met {a b c : V} : (plF a b c).lookup ("met" : Str) = some a := by simp [plF, List.lookup]
theorem pl_tab {a b c : V} : (plF a b c).lookup ("tables" : Str) = some b := by simp [plF, List.lookup, pl_e1]
theorem pl_tst {a b c : V} : (plF a b c).lookup ("test" : Str) = some c := by simp [plF, List.lookup, pl_e2, pl_e3]
theorem pl_no {a b c : V} {m : Str} (h1 : (m == ("met" : Str)) = false) (h2 : (m == ("tables" : Str)) = false) (h3 : (m == ("test" : Str)) = false) : (plF a b c).lookup m = none := by simp [plF, List.lookup, h1, h2, h3]
theorem pl_put {a b c v : V} : putF "test" v (plF a b c) = plF a b v := by
  have e1 : ¬ ("met" : Str) = "test" := by decide +kernel
  have e2 : ¬ ("tables" : Str) = "test" := by decide +kernel
  show (if ("met" : Str) = "test" then _ else (("met" : Str), a) :: (if ("tables" : Str) = "test" then _ else (("tables" : Str), b) :: (if ("test" : Str) = "test" then [(("test" : Str), v)] else _))) = _
  rw [if_neg e1, if_neg e2, if_pos rfl]
  rfl
def tab0 (m : List PRow) : List (Str × (Rc × Tr)) := m.map fun p => (textOf p.1, (p.2.2, p.2.1))
def tab1 (m : List PRow) : List (Str × (Rc × Tr)) := m.map fun p => (textOf p.2.1, (p.2.2, p.1))
structure PO (K : PySem.W.Frag) (S M TT D0 D1 dx : Addr) (H : Hp) (m : List PRow) (x : Option Tst) : Prop where
  ex : ∃ (xv : V) (ms : List V) (k0 k1 : List (Key × V)), H S = some (.ins (He.ga K "Pairing") dx (plF (.ref M) (.ref TT) xv)) ∧ TstV K H x xv ∧
    H M = some (.lst ms) ∧ AtL (MRow K) H m ms ∧ H D0 = some (.dK k0) ∧ AlG (TRow K) H (tab0 m) k0 ∧ H D1 = some (.dK k1) ∧ AlG (TRow K) H (tab1 m) k1
  tt : H TT = some (.tup [.ref D0, .ref D1])
  ne : D0 ≠ D1
/-- all but the Pairing's own things stays -/
def BP (S M D0 D1 : Addr) (H H' : Hp) : Prop := ∀ c o, c ≠ S → c ≠ M → c ≠ D0 → c ≠ D1 → H c = some o → H' c = some o
theorem BP.refl {S M D0 D1 : Addr} {H : Hp} : BP S M D0 D1 H H := fun _ _ _ _ _ _ e => e
theorem BP.trans {S M D0 D1 : Addr} {H H1 H2 : Hp} (a : BP S M D0 D1 H H1) (b : BP S M D0 D1 H1 H2) : BP S M D0 D1 H H2 := fun c o h1 h2 h3 h4 e => b c o h1 h2 h3 h4 (a c o h1 h2 h3 h4 e)
theorem BP.of_same {S M D0 D1 : Addr} {H H' : Hp} (s : Same H H') : BP S M D0 D1 H H' := fun c o _ _ _ _ e => s _ _ e
theorem PO.kq {K : PySem.W.Frag} {S M TT D0 D1 dx : Addr} {H H' : Hp} {m : List PRow} {x : Option Tst} (h : PO K S M TT D0 D1 dx H m x) (b : BP S M D0 D1 H H') : Kq H H' := fun c xs e => by
  obtain ⟨xv, ms, k0, k1, hS, _, hM, _, h0, _, h1, _⟩ := h.ex
  refine b c _ ?_ ?_ ?_ ?_ e
  · intro z; rw [z, hS] at e; cases e
  · intro z; rw [z, hM] at e; cases e
  · intro z; rw [z, h0] at e; cases e
  · intro z; rw [z, h1] at e; cases e
theorem PO.same {K : PySem.W.Frag} {S M TT D0 D1 dx : Addr} {H H' : Hp} {m : List PRow} {x : Option Tst} (h : PO K S M TT D0 D1 dx H m x) (s : Same H H') : PO K S M TT D0 D1 dx H' m x := by
  obtain ⟨⟨xv, ms, k0, k1, hS, ht, hM, hm, h0, a0, h1, a1⟩, tt, ne⟩ := h
  have k := Kq.of_same s
  exact ⟨⟨xv, ms, k0, k1, s _ _ hS, ht.kq k, s _ _ hM, ⟨hm.len, fun i b v e1 e2 => (hm.get i b v e1 e2).kq k⟩, s _ _ h0, a0.mono fun t v h => h.kq k, s _ _ h1, a1.mono fun t v h => h.kq k⟩, s _ _ tt, ne⟩
/-- another test is noted -/
theorem PO.set {K : PySem.W.Frag} {S M TT D0 D1 dx : Addr} {H : Hp} {m : List PRow} {x y : Option Tst} {yv : V} (h : PO K S M TT D0 D1 dx H m x) (hy : TstV K H y yv) :
    PO K S M TT D0 D1 dx (upd H S (.ins (He.ga K "Pairing") dx (plF (.ref M) (.ref TT) yv))) m y ∧ BP S M D0 D1 H (upd H S (.ins (He.ga K "Pairing") dx (plF (.ref M) (.ref TT) yv))) := by
  obtain ⟨⟨xv, ms, k0, k1, hS, ht, hM, hm, h0, a0, h1, a1⟩, tt, ne⟩ := h
  have b : BP S M D0 D1 H (upd H S (.ins (He.ga K "Pairing") dx (plF (.ref M) (.ref TT) yv))) := fun c o n1 _ _ _ e => by rw [upd_ne n1]; exact e
  have k : Kq H (upd H S (.ins (He.ga K "Pairing") dx (plF (.ref M) (.ref TT) yv))) := fun c xs e => by
    rw [upd_ne (fun z => by rw [z, hS] at e; cases e)]
    exact e
  refine ⟨⟨⟨yv, ms, k0, k1, upd_same, hy.kq k, ?_, ⟨hm.len, fun i b v e1 e2 => (hm.get i b v e1 e2).kq k⟩, ?_, a0.mono fun t v h => h.kq k, ?_, a1.mono fun t v h => h.kq k⟩, k _ _ tt, ne⟩, b⟩
  · rw [upd_ne (fun z => by rw [z, hS] at hM; cases hM)]; exact hM
  · rw [upd_ne (fun z => by rw [z, hS] at h0; cases h0)]; exact h0
  · rw [upd_ne (fun z => by rw [z, hS] at h1; cases h1)]; exact h1
/-- the forms are good -/
structure WfR (d : Nat) (m : List PRow) : Prop where
  wf : ∀ p ∈ m, Wf p.1 ∧ Wf p.2.1 ∧ p.1.dep ≤ d ∧ p.2.1.dep ≤ d
theorem lookG_map {α : Type} {f : α → Str} {g : α → Rc × Tr} {x : Str} : ∀ {m : List α}, lookG (m.map fun p => (f p, g p)) x = (m.find? fun p => decide (f p = x)).map g
  | [] => rfl
  | p :: m => by
    unfold lookG
    rw [List.map_cons, List.find?_cons, List.find?_cons]
    by_cases e : f p = x
    · rw [decide_eq_true e]
      rfl
    · rw [decide_eq_false e]
      exact lookG_map (m := m)
theorem find_congr {m : List PRow} {P Q : PRow → Bool} (h : ∀ p ∈ m, P p = Q p) : m.find? P = m.find? Q := by
  induction m with
  | nil => rfl
  | cons p m ih =>
    rw [List.find?_cons, List.find?_cons, h p List.mem_cons_self, ih fun p hp => h p (List.mem_cons_of_mem _ hp)]
theorem tab0_look {d : Nat} {m : List PRow} (w : WfR d m) {t : Tr} (wt : Wf t) : lookG (tab0 m) (textOf t) = tf0 m t := by
  unfold tab0 tf0
  rw [lookG_map, find_congr (Q := fun p => decide (p.1 = t)) fun p hp => ?_]
  rw [Bool.eq_iff_iff, decide_eq_true_eq, decide_eq_true_eq]
  exact ⟨fun e => text_inj (w.wf p hp).1 wt e, fun e => by rw [e]⟩
theorem tab1_look {d : Nat} {m : List PRow} (w : WfR d m) {t : Tr} (wt : Wf t) : lookG (tab1 m) (textOf t) = tf0 (sws m) t := by
  unfold tab1 tf0 sws
  rw [lookG_map, find_congr (Q := fun p => decide (p.2.1 = t)) fun p hp => ?_]
  · rw [List.find?_map, Option.map_map]
    rfl
  · rw [Bool.eq_iff_iff, decide_eq_true_eq, decide_eq_true_eq]
    exact ⟨fun e => text_inj (w.wf p hp).2.1 wt e, fun e => by rw [e]⟩
end Rd
namespace Rd
open PySem L2
def sp_known (K : PySem.W.Frag) (d : Nat) : Sp := fun vs H Q _ => ∃ (S M TT D0 D1 dx q : Addr) (tv uv rv : V) (m : List PRow) (t u : Tr) (r : Rc), vs = [.ref S, .ref q, rv] ∧ PO K S M TT D0 D1 dx H m none ∧ H q = some (.tup [tv, uv]) ∧ IsT H t tv ∧ IsT H u uv ∧ IsRk K H r rv ∧ WfR d m ∧ Wf t ∧ Wf u ∧ t.dep ≤ d ∧ u.dep ≤ d ∧ d ≤ 12 ∧
  (knownT m t u r = none → ∀ H', Same H H' → Q (.bl false) H') ∧ ∀ y, knownT m t u r = some y → ∀ H', BP S M D0 D1 H H' → PO K S M TT D0 D1 dx H' m y → Q (.bl true) H'
section
variable {P : Program} {w : World} {K : PySem.W.Frag} {mg : Str → Option Value} {base : Heap}
abbrev s_Pairing_is_known : Stmt := inClass (top 45) 2
theorem sc_Pairing_is_known : FnScope ["self", "trees", "recipe", "side", "text", "earlier", "other"] ["self", "trees", "recipe"] (defScope s_Pairing_is_known) := ⟨rfl, rfl, rfl, by decide +kernel, rfl, by decide +kernel, by decide +kernel⟩
theorem ok_known (T : Tx w K mg) (d : Nat) : Fm P w K mg base CX0 (d + 30) "Pairing" "is_known" ["self", "trees", "recipe"] (sp_known K d) := by
  refine T.M_Pairing_is_known.ok0 sc_Pairing_is_known (fun _ _ _ _ _ _ us hl => match us, hl with | [_, _, _], _ => rfl)
    (fun vs H Q E h => ?_) (fun cdv A outer s H vs Q E hr h => ?_)
  · obtain ⟨S, M, TT, D0, D1, dx, q, tv, uv, rv, m, t, u, r, rfl, _⟩ := h
    rfl
  · obtain ⟨S, M, TT, D0, D1, dx, q, tv, uv, rv, m, t, u, r, rfl, po, hq, it, iu, ir, wm, wt, wu, dt, du, d12, k0, k1⟩ := h
    refine ⟨_, (pss_cons (ps_for PassesOwn.never rfl (pi_range1 rfl T.z_range (pa_cons pe_int pa_nil)) (pg_name (i := 3) sc_Pairing_is_known.nd rfl (Or.inl rfl))
  (pss_cons (ps_set (i := 4) sc_Pairing_is_known.nd rfl (Or.inl rfl) (pe_fk (ok_tree_text T d) (hr.mono (by omega)) rfl pass0 (pa_cons (pe_ix ix_tup (pv 1) (pv 3) (fun _ _ => rfl)) pa_nil)))
  (pss_one (ps_if (pt_cmp (pc_din (hu_of hr) (pv 4) (pe_ix ix_tup (pe_fld (pv 0) rfl) (pv 3) (fun _ _ => rfl))))
  (pss_cons (ps_asg (pe_dget (hu_of hr) (pe_ix ix_tup (pe_fld (pv 0) rfl) (pv 3) (fun _ _ => rfl)) (pv 4) (fun _ _ => rfl)) (pg_tup rfl (pgs_cons (pg_name (i := 5) sc_Pairing_is_known.nd rfl (Or.inl rfl)) (pgs_cons (pg_name (i := 6) sc_Pairing_is_known.nd rfl (Or.inl rfl)) pgs_nil))))
  (pss_cons (ps_if (pt_cmpR (op_neW (units500 hr (by omega))) (pv 6) (pe_ix ix_tup (pv 1) (pe_op op_sub pe_int (pv 3)) (fun _ _ => rfl)) (nomark _))
  (pss_one (ps_fld (pv 0) (pe_tup (pa_cons pe_str (pa_cons (pv 5) (pa_cons (pv 2) pa_nil)))) rfl))
  pss_nil)
  (pss_one (ps_ret pe_bl))))
  pss_nil))))
  (pss_one (ps_ret pe_bl))), ?_⟩
    have big : 16777216 ≤ sizeLine := by decide
    have lay : ∀ {z : Tr}, Wf z → z.dep ≤ d → LayW (dat z) := fun w h => w.layW (by omega)
    refine ⟨2, rfl, by decide, by decide, for_range (n := 2) (fun i σ Hc => ∃ (t3 t4 t5 t6 : Option V), σ = [some (.ref S), some (.ref q), some rv, t3, t4, t5, t6] ∧ Same H Hc ∧ (1 ≤ i → tf0 m t = none) ∧ (2 ≤ i → tf0 (sws m) u = none)) ⟨_, _, _, _, rfl, Same.refl _, (fun z => by omega), (fun z => by omega)⟩ ?_ ?_⟩
    · rintro i σ Hc hi ⟨t3, t4, t5, t6, rfl, sc, n0, n1⟩
      have poc := po.same sc
      obtain ⟨xv, ms, kv0, kv1, hS, htst, hM, hm, h0, a0, h1, a1⟩ := id poc.ex
      have hqc := sc _ _ hq
      refine gName_k ?_
      try dsimp only
      have hi2 : i = 0 ∨ i = 1 := by omega
      rcases hi2 with rfl | rfl
      · refine seqAsg ⟨_, rfl, _, rfl, q, _, _, tv, rfl, rfl, SqT.of hqc, at_of (j := 0) rfl rfl, tv, t, rfl, it.same sc, wt, dt, d12, fun H1 s1 => ?_⟩
        refine gName_k ?_
        try dsimp only
        have h01 := s1 _ _ h0
        have a01 : AlG (TRow K) H1 (tab0 m) kv0 := a0.mono fun z v h => h.kq (Kq.of_same s1)
        refine ⟨_, rfl, _, rfl, S, _, dx, _, _, rfl, s1 _ _ hS, T.k_Pairing, T.n_Pairing_tables, pl_tab, _, rfl, TT, _, _, _, rfl, rfl, SqT.of (s1 _ _ poc.tt), at_of (j := 0) rfl rfl, D0, _, rfl, DGet.k (k := .inr (textOf t)) h01, _, rfl, ?_⟩
        cases el : tf0 m t with
        | none =>
          have e0 : lookG (tab0 m) (textOf t) = none := by rw [tab0_look wm wt]; exact el
          have hv0 := (a01.look (x := textOf t)).2 e0
          rw [hv0]
          exact iteN (by simp) (nxt ⟨_, _, _, _, rfl, sc.trans s1, (fun _ => rfl), (fun z => absurd z (by decide))⟩)
        | some p =>
          have e0 : lookG (tab0 m) (textOf t) = some p := by rw [tab0_look wm wt]; exact el
          obtain ⟨v0, ev0, hv0⟩ := (a01.look (x := textOf t)).1 p e0
          rw [ev0]
          refine iteP (by simp) ?_
          obtain ⟨pr, pt⟩ := p
          obtain ⟨pp, rv0, tv0, rfl, hpp, ir0, it0⟩ := hv0
          have hrow := tf0_some el
          obtain ⟨_, w1, _, w4⟩ := wm.wf _ hrow
          refine seqAsg ⟨_, rfl, S, _, dx, _, _, rfl, s1 _ _ hS, T.k_Pairing, T.n_Pairing_tables, pl_tab, _, rfl, TT, _, _, _, rfl, rfl, SqT.of (s1 _ _ poc.tt), at_of (j := 0) rfl rfl, _, rfl, D0, _, rfl, (by rw [← ev0]; exact DGet.k (k := .inr (textOf t)) h01), ?_⟩
          refine ⟨pp, _, rfl, SqT.of hpp, rfl, _, _, rfl, _, _, rfl, rfl, ?_⟩
          try dsimp only
          have iuH := iu.same (sc.trans s1)
          have poH := po.same (sc.trans s1)
          have irH := ir.same (sc.trans s1)
          refine ⟨_, rfl, _, rfl, _, rfl, _, _, rfl, rfl, q, _, _, uv, rfl, rfl, SqT.of ((sc.trans s1) _ _ hq), at_of (j := 1) rfl rfl, dat pt, dat u, it0.dp, iuH.dp, lay w1 w4, lay wu du, _, rfl, ?_⟩
          rw [eqv_dat]
          by_cases e : pt = u
          · rw [decide_eq_true e]
            refine iteN (by decide) (nxt ?_)
            have ky : knownT m t u r = some none := by
              unfold knownT
              rw [el]
              dsimp only
              rw [if_neg (fun z => z e)]
            exact k1 _ ky _ (BP.of_same (sc.trans s1)) poH
          · rw [decide_eq_false e]
            refine iteP rfl ?_
            have ky : knownT m t u r = some (some (.same pr r)) := by
              unfold knownT
              rw [el]
              dsimp only
              rw [if_pos e]
            refine ⟨_, rfl, _, rfl, (by show 3 ≤ sizeLine; decide), fun q1 hq1 => ?_⟩
            have s2 := Rd.Same.upd (o := .tup [.str "same", rv0, rv]) hq1
            have h21 : upd H1 q1 (.tup [.str "same", rv0, rv]) q1 = some (.tup [.str "same", rv0, rv]) := upd_same
            generalize upd H1 q1 (.tup [.str "same", rv0, rv]) = H2 at s2 h21 ⊢
            have poH2 := poH.same s2
            obtain ⟨p1, p2⟩ := poH2.set (y := some (.same pr r)) (yv := .ref q1) ⟨q1, rv0, rv, rfl, h21, ir0.same s2, irH.same s2⟩
            refine ⟨_, rfl, S, _, dx, _, rfl, s2 _ _ (s1 _ _ hS), T.k_Pairing, T.n_Pairing_test, (by show 3 < 1000; decide), ?_⟩
            rw [pl_put]
            exact k1 _ ky _ ((BP.of_same ((sc.trans s1).trans s2)).trans p2) p1
      · refine seqAsg ⟨_, rfl, _, rfl, q, _, _, uv, rfl, rfl, SqT.of hqc, at_of (j := 1) rfl rfl, uv, u, rfl, iu.same sc, wu, du, d12, fun H1 s1 => ?_⟩
        refine gName_k ?_
        try dsimp only
        have h01 := s1 _ _ h1
        have a01 : AlG (TRow K) H1 (tab1 m) kv1 := a1.mono fun z v h => h.kq (Kq.of_same s1)
        refine ⟨_, rfl, _, rfl, S, _, dx, _, _, rfl, s1 _ _ hS, T.k_Pairing, T.n_Pairing_tables, pl_tab, _, rfl, TT, _, _, _, rfl, rfl, SqT.of (s1 _ _ poc.tt), at_of (j := 1) rfl rfl, D1, _, rfl, DGet.k (k := .inr (textOf u)) h01, _, rfl, ?_⟩
        cases el : tf0 (sws m) u with
        | none =>
          have e0 : lookG (tab1 m) (textOf u) = none := by rw [tab1_look wm wu]; exact el
          have hv0 := (a01.look (x := textOf u)).2 e0
          rw [hv0]
          exact iteN (by simp) (nxt ⟨_, _, _, _, rfl, sc.trans s1, (fun _ => n0 (Nat.le_refl _)), (fun _ => rfl)⟩)
        | some p =>
          have e0 : lookG (tab1 m) (textOf u) = some p := by rw [tab1_look wm wu]; exact el
          obtain ⟨v0, ev0, hv0⟩ := (a01.look (x := textOf u)).1 p e0
          rw [ev0]
          refine iteP (by simp) ?_
          obtain ⟨pr, pt⟩ := p
          obtain ⟨pp, rv0, tv0, rfl, hpp, ir0, it0⟩ := hv0
          have hrow := sws_mem.mp (tf0_some el)
          obtain ⟨w1, _, w4, _⟩ := wm.wf _ hrow
          refine seqAsg ⟨_, rfl, S, _, dx, _, _, rfl, s1 _ _ hS, T.k_Pairing, T.n_Pairing_tables, pl_tab, _, rfl, TT, _, _, _, rfl, rfl, SqT.of (s1 _ _ poc.tt), at_of (j := 1) rfl rfl, _, rfl, D1, _, rfl, (by rw [← ev0]; exact DGet.k (k := .inr (textOf u)) h01), ?_⟩
          refine ⟨pp, _, rfl, SqT.of hpp, rfl, _, _, rfl, _, _, rfl, rfl, ?_⟩
          try dsimp only
          have iuH := it.same (sc.trans s1)
          have poH := po.same (sc.trans s1)
          have irH := ir.same (sc.trans s1)
          refine ⟨_, rfl, _, rfl, _, rfl, _, _, rfl, rfl, q, _, _, tv, rfl, rfl, SqT.of ((sc.trans s1) _ _ hq), at_of (j := 0) rfl rfl, dat pt, dat t, it0.dp, iuH.dp, lay w1 w4, lay wt dt, _, rfl, ?_⟩
          rw [eqv_dat]
          by_cases e : pt = t
          · rw [decide_eq_true e]
            refine iteN (by decide) (nxt ?_)
            have ky : knownT m t u r = some none := by
              unfold knownT
              rw [n0 (Nat.le_refl _), el]
              dsimp only
              rw [if_neg (fun z => z e)]
            exact k1 _ ky _ (BP.of_same (sc.trans s1)) poH
          · rw [decide_eq_false e]
            refine iteP rfl ?_
            have ky : knownT m t u r = some (some (.same pr r)) := by
              unfold knownT
              rw [n0 (Nat.le_refl _), el]
              dsimp only
              rw [if_pos e]
            refine ⟨_, rfl, _, rfl, (by show 3 ≤ sizeLine; decide), fun q1 hq1 => ?_⟩
            have s2 := Rd.Same.upd (o := .tup [.str "same", rv0, rv]) hq1
            have h21 : upd H1 q1 (.tup [.str "same", rv0, rv]) q1 = some (.tup [.str "same", rv0, rv]) := upd_same
            generalize upd H1 q1 (.tup [.str "same", rv0, rv]) = H2 at s2 h21 ⊢
            have poH2 := poH.same s2
            obtain ⟨p1, p2⟩ := poH2.set (y := some (.same pr r)) (yv := .ref q1) ⟨q1, rv0, rv, rfl, h21, ir0.same s2, irH.same s2⟩
            refine ⟨_, rfl, S, _, dx, _, rfl, s2 _ _ (s1 _ _ hS), T.k_Pairing, T.n_Pairing_test, (by show 3 < 1000; decide), ?_⟩
            rw [pl_put]
            exact k1 _ ky _ ((BP.of_same ((sc.trans s1).trans s2)).trans p2) p1
    · rintro σ Hc ⟨t3, t4, t5, t6, rfl, sc, n0, n1⟩
      have ky : knownT m t u r = none := by
        unfold knownT
        rw [n0 (by decide), n1 (Nat.le_refl _)]
      exact k0 ky _ sc
end
end Rd
namespace Rd
open PySem L2
theorem wdR_rk {K : PySem.W.Frag} {H : Hp} {t : Tr} {v : V} (wf : Wf t) (hw : t.head = "word") (it : IsT H t v) : IsRk K H (wdR t) v := by
  obtain ⟨x, rfl, _⟩ := word_shape wf hw
  exact .inl it
theorem neB (a b : Bool) : (!decide (V.bl a = V.bl b)) = decide (a ≠ b) := by cases a <;> cases b <;> rfl
theorem iteQ {b b2 : Bool} {A B : Prop} (e : b = b2) (h1 : b2 = true → A) (h2 : b2 = false → B) : if b = true then A else B := by
  subst e
  cases b with
  | true => exact iteT (h1 rfl)
  | false => exact iteF (h2 rfl)
def sp_kinds (K : PySem.W.Frag) (d : Nat) : Sp := fun vs H Q _ => ∃ (S M TT D0 D1 dx q : Addr) (tv uv rv : V) (m : List PRow) (t u : Tr) (r : Rc), vs = [.ref S, .ref q, rv] ∧ PO K S M TT D0 D1 dx H m none ∧ H q = some (.tup [tv, uv]) ∧ IsT H t tv ∧ IsT H u uv ∧ IsRk K H r rv ∧ Wf t ∧ Wf u ∧ t.dep ≤ d ∧ u.dep ≤ d ∧ d ≤ 12 ∧
  ∀ H', BP S M D0 D1 H H' → PO K S M TT D0 D1 dx H' m (kindT t u r) → Q .non H'
section
variable {P : Program} {w : World} {K : PySem.W.Frag} {mg : Str → Option Value} {base : Heap}
abbrev s_Pairing_kinds : Stmt := inClass (top 45) 3
theorem sc_Pairing_kinds : FnScope ["self", "trees", "recipe", "first", "second"] ["self", "trees", "recipe"] (defScope s_Pairing_kinds) := ⟨rfl, rfl, rfl, by decide +kernel, rfl, by decide +kernel, by decide +kernel⟩
theorem ok_kinds (T : Tx w K mg) (d : Nat) : Fm P w K mg base CX0 (d + 30) "Pairing" "kinds" ["self", "trees", "recipe"] (sp_kinds K d) := by
  refine T.M_Pairing_kinds.ok0 sc_Pairing_kinds (fun _ _ _ _ _ _ us hl => match us, hl with | [_, _, _], _ => rfl)
    (fun vs H Q E h => ?_) (fun cdv A outer s H vs Q E hr h => ?_)
  · obtain ⟨S, M, TT, D0, D1, dx, q, tv, uv, rv, m, t, u, r, rfl, _⟩ := h
    rfl
  · obtain ⟨S, M, TT, D0, D1, dx, q, tv, uv, rv, m, t, u, r, rfl, po, hq, it, iu, ir, wt, wu, dt, du, d12, k⟩ := h
    refine ⟨_, (pss_cons (ps_asg (pv 1) (pg_tup rfl (pgs_cons (pg_name (i := 3) sc_Pairing_kinds.nd rfl (Or.inl rfl)) (pgs_cons (pg_name (i := 4) sc_Pairing_kinds.nd rfl (Or.inl rfl)) pgs_nil))))
  (pss_one (ps_if (pt_cmpR op_ne (pe_cmpR op_eq (pe_ix ix_tup (pv 3) pe_int (fun _ _ => rfl)) pe_str (nomark _)) (pe_cmpR op_eq (pe_ix ix_tup (pv 4) pe_int (fun _ _ => rfl)) pe_str (nomark _)) (nomark _))
  (pss_one (ps_fld (pv 0) (pe_tup (pa_cons pe_str (pa_cons (pe_tup (pa_cons pe_str (pa_cons (pv 2) pa_nil))) pa_nil))) rfl))
  (pss_one (ps_if (pt_cmpR op_ne (pe_cmpR op_inT (pe_ix ix_tup (pv 3) pe_int (fun _ _ => rfl)) (pe_ktk (K := K) rfl T.U_KEYS) (by rfl)) (pe_cmpR op_inT (pe_ix ix_tup (pv 4) pe_int (fun _ _ => rfl)) (pe_ktk (K := K) rfl T.U_KEYS) (by rfl)) (nomark _))
  (pss_one (ps_fld (pv 0) (pe_tup (pa_cons pe_str (pa_cons (pe_tup (pa_cons pe_str (pa_cons (pe_ktk (K := K) rfl T.U_SOME_WORD) (pa_cons (pv 2) pa_nil)))) pa_nil))) rfl))
  (pss_one (ps_if (PW.pt (pw_and (pt_cmpR op_eq (pe_ix ix_tup (pv 3) pe_int (fun _ _ => rfl)) pe_str (nomark _)) (pw_and1 (pt_cmpR (op_neW (units500 hr (by omega))) (pv 3) (pv 4) (nomark _)))))
  (pss_one (ps_fld (pv 0) (pe_tup (pa_cons pe_str (pa_cons (pv 2) (pa_cons (pv 3) pa_nil)))) rfl))
  (pss_one (ps_if (PW.pt (pw_and (pt_cmpR op_eq (pe_ix ix_tup (pv 4) pe_int (fun _ _ => rfl)) pe_str (nomark _)) (pw_and1 (pt_cmpR (op_neW (units500 hr (by omega))) (pv 3) (pv 4) (nomark _)))))
  (pss_one (ps_fld (pv 0) (pe_tup (pa_cons pe_str (pa_cons (pv 2) (pa_cons (pv 4) pa_nil)))) rfl))
  pss_nil))))))))), ?_⟩
    have big : 16777216 ≤ sizeLine := by decide
    have lay : ∀ {z : Tr}, Wf z → z.dep ≤ d → LayW (dat z) := fun w h => w.layW (by omega)
    obtain ⟨pt, zt, rfl, hpt⟩ := it.hd
    obtain ⟨pu, zu, rfl, hpu⟩ := iu.hd
    have fin : ∀ {H' : Hp} {yv : V} {y : Tst}, Same H H' → kindT t u r = some y → TstV K H' (some y) yv → ∃ a C dx' fs, V.ref S = .ref a ∧ H' a = some (.ins C dx' fs) ∧ Cls K C ∧ NoAttr K C "test" ∧ fs.length < 1000 ∧ Q .non (upd H' a (.ins C dx' (putF "test" yv fs))) := fun {H' yv y} s e hy => by
      have poH := po.same s
      obtain ⟨xv, ms, kv0, kv1, hS, _⟩ := id poH.ex
      obtain ⟨p1, p2⟩ := poH.set (y := some y) hy
      refine ⟨S, _, dx, _, rfl, hS, T.k_Pairing, T.n_Pairing_test, (by show 3 < 1000; decide), ?_⟩
      rw [pl_put]
      rw [← e] at p1
      exact k _ ((BP.of_same s).trans p2) p1
    refine seqAsg ⟨_, rfl, q, _, rfl, SqT.of hq, rfl, _, _, rfl, _, _, rfl, rfl, ?_⟩
    try dsimp only
    refine ⟨_, rfl, pt, _, _, _, rfl, rfl, SqT.of hpt, at_of (j := 0) rfl rfl, rfl, _, rfl, pu, _, _, _, rfl, rfl, SqT.of hpu, at_of (j := 0) rfl rfl, rfl, rfl, _, rfl, ?_⟩
    rw [decS, decS]
    refine iteQ (b2 := decide (decide (t.head = "pair") ≠ decide (u.head = "pair"))) (neB _ _) (fun h1 => ?_) (fun h1 => ?_)
    · have h1 := of_decide_eq_true h1
      have ek : kindT t u r = some (.works (.un "first" r)) := by unfold kindT; rw [if_pos h1]
      refine ⟨_, rfl, (by show 2 ≤ sizeLine; decide), fun q1 hq1 => ⟨(by show 2 ≤ sizeLine; decide), fun q2 hq2 => ⟨_, rfl, ?_⟩⟩⟩
      have s1 := Rd.Same.upd (o := .tup [.str "first", rv]) hq1
      have s2 := Rd.Same.upd (o := .tup [.str "works", .ref q1]) hq2
      exact fin (s1.trans s2) ek ⟨q2, .ref q1, rfl, upd_same, q1, rv, rfl, s2 _ _ upd_same, ir.same (s1.trans s2)⟩
    · have h1 := of_decide_eq_false h1
      refine ⟨_, rfl, pt, _, _, _, rfl, rfl, SqT.of hpt, at_of (j := 0) rfl rfl, _, He.ga K "KEYS", ["open", "own"], rfl, rfl, T.U_KEYS.tp _, _, rfl, pu, _, _, _, rfl, rfl, SqT.of hpu, at_of (j := 0) rfl rfl, _, He.ga K "KEYS", ["open", "own"], rfl, rfl, T.U_KEYS.tp _, rfl, _, rfl, ?_⟩
      refine iteQ (b2 := decide (isKey t ≠ isKey u)) (neB _ _) (fun h2 => ?_) (fun h2 => ?_)
      · have h2 := of_decide_eq_true h2
        have ek : kindT t u r = some (.works (.bi "lock" (.wd "a") r)) := by unfold kindT; rw [if_neg h1, if_pos h2]
        refine ⟨_, rfl, (by show 3 ≤ sizeLine; decide), fun q1 hq1 => ⟨(by show 2 ≤ sizeLine; decide), fun q2 hq2 => ⟨_, rfl, ?_⟩⟩⟩
        have s1 := Rd.Same.upd (o := .tup [.str "lock", .ref (He.ga K "SOME_WORD"), rv]) hq1
        have s2 := Rd.Same.upd (o := .tup [.str "works", .ref q1]) hq2
        exact fin (s1.trans s2) ek ⟨q2, .ref q1, rfl, upd_same, q1, _, rv, rfl, s2 _ _ upd_same, .inr ⟨rfl, rfl⟩, ir.same (s1.trans s2)⟩
      · have h2 := of_decide_eq_false h2
        refine oneIf (b := (decide (t.head = "word") && !decide (t = u))) (tb_and (b := decide (t.head = "word")) (c := !decide (t = u)) (fun Q2 kq => ⟨_, rfl, pt, _, _, _, rfl, rfl, SqT.of hpt, at_of (j := 0) rfl rfl, rfl, _, rfl, ?_⟩) (fun H2 s2 _ Q2 kq => ⟨_, rfl, _, rfl, dat t, dat u, (it.same s2).dp, (iu.same s2).dp, lay wt dt, lay wu du, _, rfl, ?_⟩)) fun H1 s1 => ?_
        · rw [decS]
          exact kq _ (Same.refl _)
        · rw [eqv_dat]
          exact kq _ (Same.refl _)
        refine ite2 (fun h3 => ?_) (fun h3 => ?_)
        · have h3 : t.head = "word" ∧ t ≠ u := by simpa using h3
          have ek : kindT t u r = some (.same r (wdR t)) := by unfold kindT; rw [if_neg h1, if_neg h2, if_pos h3]
          refine ⟨_, rfl, _, rfl, (by show 3 ≤ sizeLine; decide), fun q1 hq1 => ⟨_, rfl, ?_⟩⟩
          have s2 := Rd.Same.upd (o := .tup [.str "same", rv, .ref pt]) hq1
          exact fin (s1.trans s2) ek ⟨q1, rv, .ref pt, rfl, upd_same, ir.same (s1.trans s2), wdR_rk wt h3.1 (it.same (s1.trans s2))⟩
        · have h3 : ¬ (t.head = "word" ∧ t ≠ u) := fun z => h3 (by simpa using z)
          refine oneIf (b := (decide (u.head = "word") && !decide (t = u))) (tb_and (b := decide (u.head = "word")) (c := !decide (t = u)) (fun Q2 kq => ⟨_, rfl, pu, _, _, _, rfl, rfl, SqT.of (s1 _ _ hpu), at_of (j := 0) rfl rfl, rfl, _, rfl, ?_⟩) (fun H2 s2 _ Q2 kq => ⟨_, rfl, _, rfl, dat t, dat u, (it.same (s1.trans s2)).dp, (iu.same (s1.trans s2)).dp, lay wt dt, lay wu du, _, rfl, ?_⟩)) fun H3 s3 => ?_
          · rw [decS]
            exact kq _ (Same.refl _)
          · rw [eqv_dat]
            exact kq _ (Same.refl _)
          have s13 := s1.trans s3
          refine ite2 (fun h4 => ?_) (fun h4 => nxt ?_)
          · have h4 : u.head = "word" ∧ t ≠ u := by simpa using h4
            have ek : kindT t u r = some (.same r (wdR u)) := by unfold kindT; rw [if_neg h1, if_neg h2, if_neg h3, if_pos h4]
            refine ⟨_, rfl, _, rfl, (by show 3 ≤ sizeLine; decide), fun q1 hq1 => ⟨_, rfl, ?_⟩⟩
            have s2 := Rd.Same.upd (o := .tup [.str "same", rv, .ref pu]) hq1
            exact fin (s13.trans s2) ek ⟨q1, rv, .ref pu, rfl, upd_same, ir.same (s13.trans s2), wdR_rk wu h4.1 (iu.same (s13.trans s2))⟩
          · have h4 : ¬ (u.head = "word" ∧ t ≠ u) := fun z => h4 (by simpa using z)
            have ek : kindT t u r = none := by unfold kindT; rw [if_neg h1, if_neg h2, if_neg h3, if_neg h4]
            have p := po.same s13
            rw [← ek] at p
            exact k _ (BP.of_same s13) p
end
end Rd
namespace Rd
open PySem L2
structure Lim (ts us : List Tr) : Prop where
  d0 : ∀ t ∈ allOf ts, t.dep ≤ 12
  d1 : ∀ t ∈ allOf us, t.dep ≤ 12
  l0 : (allOf ts).length ≤ 90000
theorem MOk.wfr {ts us : List Tr} {m : List PRow} (hm : MOk ts us m) (L : Lim ts us) : WfR 12 m := ⟨fun p hp => by
  have h := hm.row p hp
  exact ⟨h.w0, h.w1, L.d0 _ h.s0, L.d1 _ h.s1⟩⟩
/-- a Pairing whose list and tables are not yet in step -/
structure P3 (K : PySem.W.Frag) (S M TT D0 D1 dx : Addr) (H : Hp) (a b c : List PRow) (ms : List V) (k0 k1 : List (Key × V)) (x : Option Tst) : Prop where
  ex : ∃ xv : V, H S = some (.ins (He.ga K "Pairing") dx (plF (.ref M) (.ref TT) xv)) ∧ TstV K H x xv
  hM : H M = some (.lst ms)
  am : AtL (MRow K) H a ms
  h0 : H D0 = some (.dK k0)
  a0 : AlG (TRow K) H (tab0 b) k0
  h1 : H D1 = some (.dK k1)
  a1 : AlG (TRow K) H (tab1 c) k1
  tt : H TT = some (.tup [.ref D0, .ref D1])
  ne : D0 ≠ D1
section
variable {K : PySem.W.Frag} {S M TT D0 D1 dx : Addr} {H H' : Hp} {a b c m : List PRow} {ms : List V} {k0 k1 : List (Key × V)} {x : Option Tst}
theorem PO.p3 (h : PO K S M TT D0 D1 dx H m x) : ∃ ms k0 k1, P3 K S M TT D0 D1 dx H m m m ms k0 k1 x := by
  obtain ⟨⟨xv, ms, k0, k1, hS, ht, hM, hm, h0, a0, h1, a1⟩, tt, ne⟩ := h
  exact ⟨ms, k0, k1, ⟨xv, hS, ht⟩, hM, hm, h0, a0, h1, a1, tt, ne⟩
theorem P3.po (h : P3 K S M TT D0 D1 dx H m m m ms k0 k1 x) : PO K S M TT D0 D1 dx H m x := by
  obtain ⟨⟨xv, hS, ht⟩, hM, hm, h0, a0, h1, a1, tt, ne⟩ := h
  exact ⟨⟨xv, ms, k0, k1, hS, ht, hM, hm, h0, a0, h1, a1⟩, tt, ne⟩
theorem P3.kq (h : P3 K S M TT D0 D1 dx H a b c ms k0 k1 x) (g : BP S M D0 D1 H H') : Kq H H' := fun q xs e => by
  obtain ⟨⟨xv, hS, _⟩, hM, _, h0, _, h1, _⟩ := h
  refine g q _ ?_ ?_ ?_ ?_ e
  · intro z; rw [z, hS] at e; cases e
  · intro z; rw [z, hM] at e; cases e
  · intro z; rw [z, h0] at e; cases e
  · intro z; rw [z, h1] at e; cases e
theorem P3.same (h : P3 K S M TT D0 D1 dx H a b c ms k0 k1 x) (s : Same H H') : P3 K S M TT D0 D1 dx H' a b c ms k0 k1 x := by
  obtain ⟨⟨xv, hS, ht⟩, hM, hm, h0, a0, h1, a1, tt, ne⟩ := h
  have k := Kq.of_same s
  exact ⟨⟨xv, s _ _ hS, ht.kq k⟩, s _ _ hM, hm.mp fun _ _ h => h.kq k, s _ _ h0, a0.mono fun _ _ h => h.kq k, s _ _ h1, a1.mono fun _ _ h => h.kq k, s _ _ tt, ne⟩
/-- what is written at one of its own places -/
theorem P3.own {o0 o : HO} {p : Addr} (h : P3 K S M TT D0 D1 dx H a b c ms k0 k1 x) (hp : H p = some o0) (nt : ∀ xs, o0 ≠ .tup xs) : Kq H (upd H p o) := fun q xs e => by
  rw [upd_ne (fun z => by rw [z, hp] at e; cases e; exact nt _ rfl)]
  exact e
theorem P3.app {w : PRow} {v : V} (h : P3 K S M TT D0 D1 dx H a b c ms k0 k1 x) (hw : MRow K H w v) : P3 K S M TT D0 D1 dx (upd H M (.lst (ms ++ [v]))) (a ++ [w]) b c (ms ++ [v]) k0 k1 x ∧ BP S M D0 D1 H (upd H M (.lst (ms ++ [v]))) := by
  have k : Kq H (upd H M (.lst (ms ++ [v]))) := h.own h.hM (fun _ z => by cases z)
  obtain ⟨⟨xv, hS, ht⟩, hM, hm, h0, a0, h1, a1, tt, ne⟩ := h
  refine ⟨⟨⟨xv, ?_, ht.kq k⟩, upd_same, (hm.mp fun _ _ h => h.kq k).snoc (hw.kq k), ?_, a0.mono fun _ _ h => h.kq k, ?_, a1.mono fun _ _ h => h.kq k, k _ _ tt, ne⟩, fun c o _ n1 _ _ e => by rw [upd_ne n1]; exact e⟩
  · rw [upd_ne (fun z => by rw [z, hM] at hS; cases hS)]; exact hS
  · rw [upd_ne (fun z => by rw [z, hM] at h0; cases h0)]; exact h0
  · rw [upd_ne (fun z => by rw [z, hM] at h1; cases h1)]; exact h1
theorem P3.put0 {t u : Tr} {r : Rc} {v : V} (h : P3 K S M TT D0 D1 dx H a b c ms k0 k1 x) (hw : TRow K H (r, u) v) : P3 K S M TT D0 D1 dx (upd H D0 (.dK (k0 ++ [(.inr (textOf t), v)]))) a (b ++ [(t, u, r)]) c ms (k0 ++ [(.inr (textOf t), v)]) k1 x ∧ BP S M D0 D1 H (upd H D0 (.dK (k0 ++ [(.inr (textOf t), v)]))) := by
  have k : Kq H (upd H D0 (.dK (k0 ++ [(.inr (textOf t), v)]))) := h.own h.h0 (fun _ z => by cases z)
  obtain ⟨⟨xv, hS, ht⟩, hM, hm, h0, a0, h1, a1, tt, ne⟩ := h
  refine ⟨⟨⟨xv, ?_, ht.kq k⟩, ?_, hm.mp fun _ _ h => h.kq k, upd_same, ?_, ?_, a1.mono fun _ _ h => h.kq k, k _ _ tt, ne⟩, fun c o _ _ n1 _ e => by rw [upd_ne n1]; exact e⟩
  · rw [upd_ne (fun z => by rw [z, h0] at hS; cases hS)]; exact hS
  · rw [upd_ne (fun z => by rw [z, h0] at hM; cases hM)]; exact hM
  · show AlG (TRow K) _ ((b ++ [(t, u, r)]).map fun p => (textOf p.1, (p.2.2, p.2.1))) _
    rw [List.map_append]
    exact AlG.snoc (t := (r, u)) (hw.kq k) (a0.mono fun _ _ h => h.kq k)
  · rw [upd_ne (Ne.symm ne)]; exact h1
theorem P3.put1 {t u : Tr} {r : Rc} {v : V} (h : P3 K S M TT D0 D1 dx H a b c ms k0 k1 x) (hw : TRow K H (r, t) v) : P3 K S M TT D0 D1 dx (upd H D1 (.dK (k1 ++ [(.inr (textOf u), v)]))) a b (c ++ [(t, u, r)]) ms k0 (k1 ++ [(.inr (textOf u), v)]) x ∧ BP S M D0 D1 H (upd H D1 (.dK (k1 ++ [(.inr (textOf u), v)]))) := by
  have k : Kq H (upd H D1 (.dK (k1 ++ [(.inr (textOf u), v)]))) := h.own h.h1 (fun _ z => by cases z)
  obtain ⟨⟨xv, hS, ht⟩, hM, hm, h0, a0, h1, a1, tt, ne⟩ := h
  refine ⟨⟨⟨xv, ?_, ht.kq k⟩, ?_, hm.mp fun _ _ h => h.kq k, ?_, a0.mono fun _ _ h => h.kq k, upd_same, ?_, k _ _ tt, ne⟩, fun c o _ _ _ n1 e => by rw [upd_ne n1]; exact e⟩
  · rw [upd_ne (fun z => by rw [z, h1] at hS; cases hS)]; exact hS
  · rw [upd_ne (fun z => by rw [z, h1] at hM; cases hM)]; exact hM
  · rw [upd_ne ne]; exact h0
  · show AlG (TRow K) _ ((c ++ [(t, u, r)]).map fun p => (textOf p.2.1, (p.2.2, p.1))) _
    rw [List.map_append]
    exact AlG.snoc (t := (r, t)) (hw.kq k) (a1.mono fun _ _ h => h.kq k)
theorem P3.no0 {t : Tr} {d : Nat} (h : P3 K S M TT D0 D1 dx H a b c ms k0 k1 x) (w : WfR d b) (wt : Wf t) (n : tf0 b t = none) : valV k0 (.inr (textOf t)) = none := (h.a0.look (x := textOf t)).2 (by rw [tab0_look w wt]; exact n)
theorem P3.no1 {t : Tr} {d : Nat} (h : P3 K S M TT D0 D1 dx H a b c ms k0 k1 x) (w : WfR d c) (wt : Wf t) (n : tf0 (sws c) t = none) : valV k1 (.inr (textOf t)) = none := (h.a1.look (x := textOf t)).2 (by rw [tab1_look w wt]; exact n)
theorem P3.l0 (h : P3 K S M TT D0 D1 dx H a b c ms k0 k1 x) : k0.length = b.length := by rw [h.a0.len]; exact List.length_map _
theorem P3.l1 (h : P3 K S M TT D0 D1 dx H a b c ms k0 k1 x) : k1.length = c.length := by rw [h.a1.len]; exact List.length_map _
end
theorem knownT_no {m : List PRow} {t u : Tr} {r : Rc} (h : knownT m t u r = none) : tf0 m t = none ∧ tf0 (sws m) u = none := by
  unfold knownT at h
  cases h0 : tf0 m t with
  | some p => rw [h0] at h; cases h
  | none =>
    rw [h0] at h
    dsimp only at h
    cases h1 : tf0 (sws m) u with
    | some p => rw [h1] at h; cases h
    | none => exact ⟨rfl, rfl⟩
/-- a coming after a test is none -/
def cmS (st : PSt) (t u : Tr) (r : Rc) : PSt :=
  match st.2 with
  | some _ => st
  | none => comesF t u r st.1
theorem cm_none {t u : Tr} {r : Rc} {m : List PRow} : cmS (m, none) t u r = comesF t u r m := rfl
theorem comesF_known {t u : Tr} {r : Rc} {m : List PRow} {y : Option Tst} (h : knownT m t u r = some y) : comesF t u r m = (m, y) := by
  cases t <;> rw [comesF, h]
theorem comesF_kind {t u : Tr} {r : Rc} {m : List PRow} {y : Option Tst} (h : knownT m t u r = none) (k : kindT t u r = y) (n : y ≠ none ∨ t.head ≠ "pair") : comesF t u r m = (m ++ [(t, u, r)], y) := by
  cases t with
  | am z x => rw [comesF, h]; dsimp only; rw [k]
  | un s a => rw [comesF, h]; dsimp only; rw [k]
  | bi s a b =>
    rw [comesF, h]
    dsimp only
    rw [k]
    cases y with
    | some z => rfl
    | none =>
      dsimp only
      have : s ≠ "pair" := by
        rcases n with n | n
        · exact absurd rfl n
        · exact n
      rw [if_neg this]
theorem comesF_pair {a b c d : Tr} {r : Rc} {m : List PRow} (h : knownT m (.bi "pair" a b) (.bi "pair" c d) r = none) (k : kindT (.bi "pair" a b) (.bi "pair" c d) r = none) : comesF (.bi "pair" a b) (.bi "pair" c d) r m = cmS (comesF a c (.un "first" r) (m ++ [(.bi "pair" a b, .bi "pair" c d, r)])) b d (.un "second" r) := by
  conv => lhs; unfold comesF
  rw [h]
  dsimp only
  rw [k]
  dsimp only
  rw [if_pos rfl]
  show (match comesF a c (.un "first" r) (m ++ [(.bi "pair" a b, .bi "pair" c d, r)]) with | (m1, some y) => (m1, some y) | (m1, none) => comesF b d (.un "second" r) m1) = _
  generalize comesF a c (.un "first" r) (m ++ [(.bi "pair" a b, .bi "pair" c d, r)]) = st
  obtain ⟨m1, y⟩ := st
  cases y <;> rfl
def sp_comes (K : PySem.W.Frag) (d : Nat) : Sp := fun vs H Q _ => ∃ (S M TT D0 D1 dx q : Addr) (tv uv rv : V) (m : List PRow) (x : Option Tst) (t u : Tr) (r : Rc) (ts us : List Tr), vs = [.ref S, .ref q, rv] ∧ PO K S M TT D0 D1 dx H m x ∧ H q = some (.tup [tv, uv]) ∧ IsT H t tv ∧ IsT H u uv ∧ IsRk K H r rv ∧ Lim ts us ∧ MOk ts us m ∧ (x = none → KOk m) ∧ RowOk ts us (t, u, r) ∧ t.dep ≤ d ∧
  ∀ H', BP S M D0 D1 H H' → PO K S M TT D0 D1 dx H' (cmS (m, x) t u r).1 (cmS (m, x) t u r).2 → Q .non H'
def spCm (K : PySem.W.Frag) : Nat → Sp
  | 0 => fun _ _ _ _ => False
  | d + 1 => sp_comes K d
end Rd
namespace Rd
open PySem L2
theorem RowOk.halves {ts us : List Tr} {a b c e : Tr} {r : Rc} (h : RowOk ts us (.bi "pair" a b, .bi "pair" c e, r)) : RowOk ts us (a, c, .un "first" r) ∧ RowOk ts us (b, e, .un "second" r) := by
  obtain ⟨r0, r1, ok, w0, w1, s0, s1⟩ := h
  have r0 : ev ts r = some (.bi "pair" a b) := r0
  have r1 : ev us r = some (.bi "pair" c e) := r1
  have f : ∀ x y : Tr, wk1 "first" (.bi "pair" x y) = some x := fun x y => by show (if ("pair" : Str) = "pair" then some x else none) = some x; rw [if_pos rfl]
  have g : ∀ x y : Tr, wk1 "second" (.bi "pair" x y) = some y := fun x y => by show (if ("pair" : Str) = "pair" then some y else none) = some y; rw [if_pos rfl]
  obtain ⟨wa, wb⟩ := wf_kids w0
  obtain ⟨wc, we⟩ := wf_kids w1
  have al : ∀ {l : List Tr} {x y : Tr} {s : Str}, Tr.bi s x y ∈ allOf l → x ∈ allOf l ∧ y ∈ allOf l := fun {l x y s} h => by
    obtain ⟨z, hz, h⟩ := List.mem_flatMap.mp h
    exact ⟨List.mem_flatMap.mpr ⟨z, hz, all_trans h all_l⟩, List.mem_flatMap.mpr ⟨z, hz, all_trans h all_r⟩⟩
  refine ⟨⟨?_, ?_, ⟨by decide +kernel, ok⟩, wa, wc, (al s0).1, (al s1).1⟩, ⟨?_, ?_, ⟨by decide +kernel, ok⟩, wb, we, (al s0).2, (al s1).2⟩⟩
  · show (ev ts r).bind (wk1 "first") = _
    rw [r0, Option.bind_some, f]
  · show (ev us r).bind (wk1 "first") = _
    rw [r1, Option.bind_some, f]
  · show (ev ts r).bind (wk1 "second") = _
    rw [r0, Option.bind_some, g]
  · show (ev us r).bind (wk1 "second") = _
    rw [r1, Option.bind_some, g]
section
variable {P : Program} {w : World} {K : PySem.W.Frag} {mg : Str → Option Value} {base : Heap}
abbrev s_Pairing_comes : Stmt := inClass (top 45) 1
theorem sc_Pairing_comes : FnScope ["self", "trees", "recipe", "side"] ["self", "trees", "recipe"] (defScope s_Pairing_comes) := ⟨rfl, rfl, rfl, by decide +kernel, rfl, by decide +kernel, by decide +kernel⟩
theorem cm_step (T : Tx w K mg) (d : Nat) (ih : Fm P w K mg base CX0 (d + 43) "Pairing" "comes" ["self", "trees", "recipe"] (spCm K d)) : Fm P w K mg base CX0 (d + 44) "Pairing" "comes" ["self", "trees", "recipe"] (sp_comes K d) := by
  refine T.M_Pairing_comes.ok0 sc_Pairing_comes (fun _ _ _ _ _ _ us hl => match us, hl with | [_, _, _], _ => rfl)
    (fun vs H Q E h => ?_) (fun cdv A outer s H vs Q E hr h => ?_)
  · obtain ⟨S, M, TT, D0, D1, dx, q, tv, uv, rv, m, x, t, u, r, ts, us, rfl, _⟩ := h
    rfl
  · obtain ⟨S, M, TT, D0, D1, dx, q, tv, uv, rv, m, x, t, u, r, ts, us, rfl, po, hq, it, iu, ir, L, mo, ko, ro, dt, k⟩ := h
    refine ⟨_, (pss_cons (ps_if (PW.pt (pw_or (pt_cmpR op_notN (pe_fld (pv 0) rfl) pe_non (nomark _)) (pw_or1 (pt_val (pe_fm (pv 0) T.k_Pairing (ok_known T 12) (hr.mono (by omega)) pass0 (pa_cons (pv 1) (pa_cons (pv 2) pa_nil)))))))
  (pss_one ps_retN)
  pss_nil)
  (pss_cons (ps_expr (pe_bm PySem.F.plainAttrs_list PySem.F.slot_list_append PySem.F.type_list_append mt_append (pe_fld (pv 0) rfl) (pa_cons (pe_tup (pa_cons (pv 1) (pa_cons (pv 2) pa_nil))) pa_nil)))
  (pss_cons (ps_for PassesOwn.never rfl (pi_range1 rfl T.z_range (pa_cons pe_int pa_nil)) (pg_name (i := 3) sc_Pairing_comes.nd rfl (Or.inl rfl))
  (pss_one (ps_dput (hu_of hr) (pe_ix ix_tup (pe_fld (pv 0) rfl) (pv 3) (fun _ _ => rfl)) (pe_fk (ok_tree_text T 12) (hr.mono (by omega)) rfl pass0 (pa_cons (pe_ix ix_tup (pv 1) (pv 3) (fun _ _ => rfl)) pa_nil)) (pe_tup (pa_cons (pv 2) (pa_cons (pe_ix ix_tup (pv 1) (pe_op op_sub pe_int (pv 3)) (fun _ _ => rfl)) pa_nil))) (by rfl))))
  (pss_cons (ps_expr (pe_fm (pv 0) T.k_Pairing (ok_kinds T 12) (hr.mono (by omega)) pass0 (pa_cons (pv 1) (pa_cons (pv 2) pa_nil))))
  (pss_one (ps_if (PW.pt (pw_and (pt_cmpR op_isN (pe_fld (pv 0) rfl) pe_non (nomark _)) (pw_and1 (pt_cmpR op_eq (pe_ix ix_tup (pe_ix ix_tup (pv 1) pe_int (fun _ _ => rfl)) pe_int (fun _ _ => rfl)) pe_str (nomark _)))))
  (pss_cons (ps_expr (pe_fm (pv 0) T.k_Pairing ih (hr.mono (by omega)) pass0 (pa_cons (pe_tup (pa_cons (pe_ix ix_tup (pe_ix ix_tup (pv 1) pe_int (fun _ _ => rfl)) pe_int (fun _ _ => rfl)) (pa_cons (pe_ix ix_tup (pe_ix ix_tup (pv 1) pe_int (fun _ _ => rfl)) pe_int (fun _ _ => rfl)) pa_nil))) (pa_cons (pe_tup (pa_cons pe_str (pa_cons (pv 2) pa_nil))) pa_nil))))
  (pss_one (ps_expr (pe_fm (pv 0) T.k_Pairing ih (hr.mono (by omega)) pass0 (pa_cons (pe_tup (pa_cons (pe_ix ix_tup (pe_ix ix_tup (pv 1) pe_int (fun _ _ => rfl)) pe_int (fun _ _ => rfl)) (pa_cons (pe_ix ix_tup (pe_ix ix_tup (pv 1) pe_int (fun _ _ => rfl)) pe_int (fun _ _ => rfl)) pa_nil))) (pa_cons (pe_tup (pa_cons pe_str (pa_cons (pv 2) pa_nil))) pa_nil))))))
  pss_nil)))))), ?_⟩
    have big : 16777216 ≤ sizeLine := by decide
    obtain ⟨ms, k0, k1, p3⟩ := po.p3
    obtain ⟨⟨xv, hS, htst⟩, hM, hm, h0, a0, h1, a1, htt, hne⟩ := id p3
    refine ⟨_, rfl, S, _, dx, _, _, rfl, hS, T.k_Pairing, T.n_Pairing_test, pl_tst, rfl, ?_⟩
    cases x with
    | some y =>
      obtain ⟨p, rfl⟩ := htst.some
      refine ⟨_, rfl, ?_⟩
      try dsimp only
      refine iteP (c := (!decide (V.ref p = V.non)) = true) (by simp) ?_
      refine iteP rfl ?_
      exact k _ BP.refl po
    | none =>
      cases htst
      refine ⟨_, rfl, ?_⟩
      try dsimp only
      refine iteN (c := (!decide (V.non = V.non)) = true) (by simp) ?_
      have ko := ko rfl
      refine ⟨_, rfl, S, dx, _, rfl, hS, pl_no (by decide +kernel) (by decide +kernel) (by decide +kernel), _, rfl, _, rfl, S, M, TT, D0, D1, dx, q, tv, uv, rv, m, t, u, r, rfl, po, hq, it, iu, ir, mo.wfr L, ro.w0, ro.w1, L.d0 _ ro.s0, L.d1 _ ro.s1, Nat.le_refl _, fun hno H1 s1 => ⟨_, rfl, iteN (by decide) ?_⟩, fun y ky H1 b1 p1 => ⟨_, rfl, iteP rfl ?_⟩⟩
      · obtain ⟨n0, n1⟩ := knownT_no hno
        have S0 := s1
        have q0 := p3.same s1
        refine nxt ⟨_, rfl, S, _, dx, _, _, rfl, s1 _ _ hS, T.k_Pairing, T.n_Pairing_met, pl_met, .inl ⟨rfl, _, SqL.of (s1 _ _ hM)⟩, _, rfl, _, rfl, (by show 2 ≤ sizeLine; decide), fun q2 hq2 => ?_⟩
        have s2 := Rd.Same.upd (o := .tup [.ref q, rv]) hq2
        have h21 : upd H1 q2 (.tup [.ref q, rv]) q2 = some (.tup [.ref q, rv]) := upd_same
        generalize upd H1 q2 (.tup [.ref q, rv]) = H2 at s2 h21 ⊢
        have S2 := s1.trans s2
        have lm : m.length ≤ 90000 := Nat.le_trans mo.le L.l0
        have lms := hm.len
        refine ⟨M, ms, .ref q2, rfl, rfl, S2 _ _ hM, (by omega), ?_⟩
        obtain ⟨p3a, b3⟩ := (p3.same S2).app (w := (t, u, r)) (v := .ref q2) ⟨q2, q, tv, uv, rv, rfl, h21, S2 _ _ hq, it.same S2, iu.same S2, ir.same S2⟩
        have B3 := (BP.of_same (S := S) (M := M) (D0 := D0) (D1 := D1) S2).trans b3
        generalize upd H2 M (.lst (ms ++ [V.ref q2])) = H3 at p3a b3 B3 ⊢
        have K3 := p3.kq B3
        refine ⟨2, rfl, by decide, by decide, for_range (n := 2) (fun i σ Hc => ∃ (t3 : Option V) (k0 k1 : List (Key × V)), σ = [some (.ref S), some (.ref q), some rv, t3] ∧ BP S M D0 D1 H3 Hc ∧ P3 K S M TT D0 D1 dx Hc (m ++ [(t, u, r)]) (if 1 ≤ i then m ++ [(t, u, r)] else m) (if 2 ≤ i then m ++ [(t, u, r)] else m) (ms ++ [V.ref q2]) k0 k1 none) ⟨_, _, _, rfl, BP.refl, p3a⟩ ?_ ?_⟩
        · rintro i σ Hc hi ⟨t3, e0, e1, rfl, bc, pc⟩
          have Kc := K3.trans (p3a.kq bc)
          refine gName_k ?_
          try dsimp only
          obtain ⟨xvc, hSc, htc⟩ := pc.ex
          have hi2 : i = 0 ∨ i = 1 := by omega
          rcases hi2 with rfl | rfl
          · have pc : P3 K S M TT D0 D1 dx Hc (m ++ [(t, u, r)]) m m (ms ++ [V.ref q2]) e0 e1 none := pc
            obtain ⟨xvc, hSc, htc⟩ := pc.ex
            refine ⟨_, rfl, _, rfl, _, rfl, _, _, rfl, rfl, q, _, _, uv, rfl, rfl, SqT.of (Kc _ _ hq), at_of (j := 1) rfl rfl, (by show 2 ≤ sizeLine; decide), fun q4 hq4 => ?_⟩
            have s4 := Rd.Same.upd (o := .tup [rv, uv]) hq4
            have h41 : upd Hc q4 (.tup [rv, uv]) q4 = some (.tup [rv, uv]) := upd_same
            generalize upd Hc q4 (.tup [rv, uv]) = H4 at s4 h41 ⊢
            refine ⟨_, rfl, S, _, dx, _, _, rfl, s4 _ _ hSc, T.k_Pairing, T.n_Pairing_tables, pl_tab, _, rfl, TT, _, _, _, rfl, rfl, SqT.of (s4 _ _ pc.tt), at_of (j := 0) rfl rfl, ?_⟩
            refine ⟨_, rfl, _, rfl, q, _, _, tv, rfl, rfl, SqT.of (s4 _ _ (Kc _ _ hq)), at_of (j := 0) rfl rfl, tv, t, rfl, (it.kq Kc).same s4, ro.w0, L.d0 _ ro.s0, Nat.le_refl _, fun H5 s5 => ?_⟩
            have S5 := s4.trans s5
            have p5 := pc.same S5
            refine ⟨D0, _, rfl, DPut.k (k := .inr (textOf t)) p5.h0 (by rw [p5.l0]; omega), ?_⟩
            rw [putK_new (.ref q4) (p5.no0 (mo.wfr L) ro.w0 n0)]
            obtain ⟨p6, b6⟩ := p5.put0 (t := t) (u := u) (r := r) (v := .ref q4) ⟨q4, rv, uv, rfl, s5 _ _ h41, (ir.kq Kc).same S5, (iu.kq Kc).same S5⟩
            exact nxt ⟨_, _, _, rfl, bc.trans ((BP.of_same S5).trans b6), p6⟩
          · have pc : P3 K S M TT D0 D1 dx Hc (m ++ [(t, u, r)]) (m ++ [(t, u, r)]) m (ms ++ [V.ref q2]) e0 e1 none := pc
            obtain ⟨xvc, hSc, htc⟩ := pc.ex
            refine ⟨_, rfl, _, rfl, _, rfl, _, _, rfl, rfl, q, _, _, tv, rfl, rfl, SqT.of (Kc _ _ hq), at_of (j := 0) rfl rfl, (by show 2 ≤ sizeLine; decide), fun q4 hq4 => ?_⟩
            have s4 := Rd.Same.upd (o := .tup [rv, tv]) hq4
            have h41 : upd Hc q4 (.tup [rv, tv]) q4 = some (.tup [rv, tv]) := upd_same
            generalize upd Hc q4 (.tup [rv, tv]) = H4 at s4 h41 ⊢
            refine ⟨_, rfl, S, _, dx, _, _, rfl, s4 _ _ hSc, T.k_Pairing, T.n_Pairing_tables, pl_tab, _, rfl, TT, _, _, _, rfl, rfl, SqT.of (s4 _ _ pc.tt), at_of (j := 1) rfl rfl, ?_⟩
            refine ⟨_, rfl, _, rfl, q, _, _, uv, rfl, rfl, SqT.of (s4 _ _ (Kc _ _ hq)), at_of (j := 1) rfl rfl, uv, u, rfl, (iu.kq Kc).same s4, ro.w1, L.d1 _ ro.s1, Nat.le_refl _, fun H5 s5 => ?_⟩
            have S5 := s4.trans s5
            have p5 := pc.same S5
            refine ⟨D1, _, rfl, DPut.k (k := .inr (textOf u)) p5.h1 (by rw [p5.l1]; omega), ?_⟩
            rw [putK_new (.ref q4) (p5.no1 (mo.wfr L) ro.w1 n1)]
            obtain ⟨p6, b6⟩ := p5.put1 (t := t) (u := u) (r := r) (v := .ref q4) ⟨q4, rv, tv, rfl, s5 _ _ h41, (ir.kq Kc).same S5, (it.kq Kc).same S5⟩
            exact nxt ⟨_, _, _, rfl, bc.trans ((BP.of_same S5).trans b6), p6⟩
        · rintro σ Hc ⟨t3, e0, e1, rfl, bc, pc⟩
          have pc : P3 K S M TT D0 D1 dx Hc (m ++ [(t, u, r)]) (m ++ [(t, u, r)]) (m ++ [(t, u, r)]) (ms ++ [V.ref q2]) e0 e1 none := pc
          have poc := pc.po
          have BC := B3.trans bc
          have Kc := K3.trans (p3a.kq bc)
          obtain ⟨xvc, hSc, htc⟩ := pc.ex
          refine ⟨_, rfl, S, dx, _, rfl, hSc, pl_no (by decide +kernel) (by decide +kernel) (by decide +kernel), _, rfl, _, rfl, S, M, TT, D0, D1, dx, q, tv, uv, rv, _, t, u, r, rfl, poc, Kc _ _ hq, it.kq Kc, iu.kq Kc, ir.kq Kc, ro.w0, ro.w1, L.d0 _ ro.s0, L.d1 _ ro.s1, Nat.le_refl _, fun H4 b4 p4 => ?_⟩
          have B4 := BC.trans b4
          have K4 := po.kq B4
          obtain ⟨me, f0, f1, p34⟩ := p4.p3
          obtain ⟨xw, hSw, htw⟩ := id p34.ex
          refine ⟨_, rfl, S, _, dx, _, _, rfl, hSw, T.k_Pairing, T.n_Pairing_test, pl_tst, rfl, ?_⟩
          cases ek : kindT t u r with
          | some y =>
            rw [ek] at htw p4
            obtain ⟨p, rfl⟩ := htw.some
            refine ⟨_, rfl, ?_⟩
            try dsimp only
            refine iteN (c := (decide (V.ref p = V.non)) = true) (by simp) ?_
            refine iteN (by decide) ?_
            have e : cmS (m, none) t u r = _ := comesF_kind hno ek (.inl (fun z => by cases z))
            rw [e] at k
            exact nxt (k _ B4 p4)
          | none =>
            rw [ek] at htw p4 p34
            cases htw
            refine ⟨_, rfl, ?_⟩
            try dsimp only
            refine iteP (c := (decide (V.non = V.non)) = true) (by simp) ?_
            have it4 := it.kq K4
            have iu4 := iu.kq K4
            have ir4 := ir.kq K4
            obtain ⟨pt, zt, rfl, hpt⟩ := it4.hd
            refine ⟨_, rfl, q, _, _, _, rfl, rfl, SqT.of (K4 _ _ hq), at_of (j := 0) rfl rfl, pt, _, _, _, rfl, rfl, SqT.of hpt, at_of (j := 0) rfl rfl, rfl, _, rfl, ?_⟩
            rw [decS]
            by_cases hp : t.head = "pair"
            · obtain ⟨a, b, rfl, wa, wb⟩ := pair_shape ro.w0 hp
              obtain ⟨g1, _⟩ := kindT_none ek
              obtain ⟨c, e, rfl, wc, we⟩ := pair_shape ro.w1 (g1.mp rfl)
              refine iteP (decide_eq_true hp) ?_
              obtain ⟨_, a1v, a2v, e', hpt', i1, i2⟩ := it4
              cases e'
              obtain ⟨pu, c1v, c2v, rfl, hpu, j1, j2⟩ := iu4
              cases d with
              | zero => exact absurd dt (by show ¬ (max a.dep b.dep + 1 ≤ 0); omega)
              | succ d =>
              have dd : max a.dep b.dep + 1 ≤ d + 1 := dt
              have mo4 : MOk ts us (m ++ [(.bi "pair" a b, .bi "pair" c e, r)]) := mo.put ro (knownT_none hno).1 (knownT_none hno).2
              have ko4 : KOk (m ++ [(.bi "pair" a b, .bi "pair" c e, r)]) := ko.put ek
              obtain ⟨roa, rob⟩ := ro.halves
              refine ⟨_, rfl, S, dx, _, rfl, hSw, pl_no (by decide +kernel) (by decide +kernel) (by decide +kernel), ?_⟩
              refine ⟨_, rfl, q, _, _, _, rfl, rfl, SqT.of (K4 _ _ hq), at_of (j := 0) rfl rfl, pt, _, _, _, rfl, rfl, SqT.of hpt', at_of (j := 1) rfl rfl, _, rfl, q, _, _, _, rfl, rfl, SqT.of (K4 _ _ hq), at_of (j := 1) rfl rfl, pu, _, _, _, rfl, rfl, SqT.of hpu, at_of (j := 1) rfl rfl, (by show 2 ≤ sizeLine; decide), fun q7 hq7 => ?_⟩
              have s7 := Rd.Same.upd (o := .tup [a1v, c1v]) hq7
              have h71 : upd H4 q7 (.tup [a1v, c1v]) q7 = some (.tup [a1v, c1v]) := upd_same
              generalize upd H4 q7 (.tup [a1v, c1v]) = H7 at s7 h71 ⊢
              refine ⟨_, rfl, (by show 2 ≤ sizeLine; decide), fun q8 hq8 => ?_⟩
              have s8 := Rd.Same.upd (o := .tup [.str "first", rv]) hq8
              have h81 : upd H7 q8 (.tup [.str "first", rv]) q8 = some (.tup [.str "first", rv]) := upd_same
              generalize upd H7 q8 (.tup [.str "first", rv]) = H8 at s8 h81 ⊢
              have S8 := s7.trans s8
              refine ⟨S, M, TT, D0, D1, dx, q7, _, _, _, _, none, a, c, .un "first" r, ts, us, rfl, p4.same S8, s8 _ _ h71, i1.same S8, j1.same S8, ⟨q8, rv, rfl, h81, ir4.same S8⟩, L, mo4, fun _ => ko4, roa, by omega, fun H9 b9 p9 => ?_⟩
              have B9 := (BP.of_same (S := S) (M := M) (D0 := D0) (D1 := D1) S8).trans b9
              have K9 := p4.kq B9
              have R := comes_res a mo4 ko4 roa
              rw [cm_none] at p9
              have ee : cmS (m, none) (.bi "pair" a b) (.bi "pair" c e) r = _ := comesF_pair hno ek
              rw [ee] at k
              generalize comesF a c (.un "first" r) (m ++ [(.bi "pair" a b, .bi "pair" c e, r)]) = st at k R p9
              obtain ⟨m9, x9⟩ := st
              obtain ⟨mf, g0, g1, p39⟩ := p9.p3
              obtain ⟨xz, hSz, htz⟩ := id p39.ex
              refine ⟨_, rfl, S, dx, _, rfl, hSz, pl_no (by decide +kernel) (by decide +kernel) (by decide +kernel), ?_⟩
              refine ⟨_, rfl, q, _, _, _, rfl, rfl, SqT.of (K9 _ _ (K4 _ _ hq)), at_of (j := 0) rfl rfl, pt, _, _, _, rfl, rfl, SqT.of (K9 _ _ hpt'), at_of (j := 2) rfl rfl, _, rfl, q, _, _, _, rfl, rfl, SqT.of (K9 _ _ (K4 _ _ hq)), at_of (j := 1) rfl rfl, pu, _, _, _, rfl, rfl, SqT.of (K9 _ _ hpu), at_of (j := 2) rfl rfl, (by show 2 ≤ sizeLine; decide), fun q7 hq7 => ?_⟩
              have s7 := Rd.Same.upd (o := .tup [a2v, c2v]) hq7
              have h71 : upd H9 q7 (.tup [a2v, c2v]) q7 = some (.tup [a2v, c2v]) := upd_same
              generalize upd H9 q7 (.tup [a2v, c2v]) = H10 at s7 h71 ⊢
              refine ⟨_, rfl, (by show 2 ≤ sizeLine; decide), fun q8 hq8 => ?_⟩
              have s8 := Rd.Same.upd (o := .tup [.str "second", rv]) hq8
              have h81 : upd H10 q8 (.tup [.str "second", rv]) q8 = some (.tup [.str "second", rv]) := upd_same
              generalize upd H10 q8 (.tup [.str "second", rv]) = H11 at s8 h81 ⊢
              have S11 := s7.trans s8
              have K11 := K9.trans (Kq.of_same S11)
              refine ⟨S, M, TT, D0, D1, dx, q7, _, _, _, m9, x9, b, e, .un "second" r, ts, us, rfl, p9.same S11, s8 _ _ h71, i2.kq K11, j2.kq K11, ⟨q8, rv, rfl, h81, ir4.kq K11⟩, L, R.ok, fun z => R.kok z, rob, by omega, fun H12 b12 p12 => ?_⟩
              exact nxt (k _ (B4.trans (B9.trans ((BP.of_same S11).trans b12))) p12)
            · refine iteN (by rw [decide_eq_false hp]; decide) ?_
              have e : cmS (m, none) t u r = _ := comesF_kind hno ek (.inr hp)
              rw [e] at k
              exact nxt (k _ B4 p4)
      · have e : cmS (m, none) t u r = (m, y) := comesF_known ky
        rw [e] at k
        exact k _ b1 p1
theorem cm_zero (T : Tx w K mg) : Fm P w K mg base CX0 43 "Pairing" "comes" ["self", "trees", "recipe"] (spCm K 0) := by
  refine T.M_Pairing_comes.ok0 sc_Pairing_comes (fun _ _ _ _ _ _ us hl => match us, hl with | [_, _, _], _ => rfl) (fun vs H Q E h => h.elim) (fun cdv A outer s H vs Q E hr h => h.elim)
theorem ok_comes (T : Tx w K mg) : ∀ d : Nat, Fm P w K mg base CX0 (d + 44) "Pairing" "comes" ["self", "trees", "recipe"] (sp_comes K d)
  | 0 => cm_step T 0 (cm_zero T)
  | d + 1 => cm_step T (d + 1) (ok_comes T d)
end
end Rd
namespace Rd
open PySem L2
def OvV (K : PySem.W.Frag) (H : Hp) (o : Option (Rc × Tr)) (v : V) : Prop := (o = none ∧ v = .non) ∨ ∃ p, o = some p ∧ TRow K H p v
theorem OvV.kq {K : PySem.W.Frag} {H H' : Hp} {o : Option (Rc × Tr)} {v : V} (k : Kq H H') (h : OvV K H o v) : OvV K H' o v := by
  rcases h with h | ⟨r, e, h⟩
  · exact .inl h
  · exact .inr ⟨r, e, h.kq k⟩
theorem Kq.of_kp {C : Addr} {H H' : Hp} (k : Kp C H H') : Kq H H' := fun c xs e => k c _ rfl e
def ovd : Option (Rc × Tr) → PyData
  | none => .none
  | some p => .tuple [rcd p.1, dat p.2]
theorem ovd_any : ∀ os : List (Option (Rc × Tr)), (os.map ovd).any (fun z => PyData.eqv z .none) = os.any Option.isNone
  | [] => rfl
  | none :: os => by rw [List.map_cons, List.any_cons, List.any_cons, ovd_any os]; rfl
  | some r :: os => by
    rw [List.map_cons, List.any_cons, List.any_cons, ovd_any os]
    rfl
def sd (i : Nat) (m : List PRow) : List PRow := if i = 0 then m else sws m
structure OvP (p : Rc × Tr) : Prop where
  ok : RcOk p.1
  wf : Wf p.2
  dp : p.2.dep ≤ 100
theorem OvP.lay {p : Rc × Tr} (h : OvP p) : (ovd (some p)).canLay0 = true := by
  show ((rcd p.1).canLay0 && ((dat p.2).canLay0 && true)) = true
  rw [h.ok.lay, (h.wf.layW (by have := h.dp; omega)).1]
  rfl
theorem ovd_lays : ∀ {os : List (Option (Rc × Tr))}, (∀ o ∈ os, ∀ p, o = some p → OvP p) → PyData.canLayAll0 (os.map ovd) = true
  | [], _ => rfl
  | o :: os, h => by
    show ((ovd o).canLay0 && PyData.canLayAll0 (os.map ovd)) = true
    rw [ovd_lays fun q hq => h q (List.mem_cons_of_mem _ hq)]
    cases o with
    | none => rfl
    | some r => rw [(h _ List.mem_cons_self r rfl).lay]; rfl
theorem over_dep {D : Nat} {m : List PRow} (h : ∀ p ∈ m, p.2.1.dep ≤ D) : ∀ {t : Tr} {p : Rc × Tr}, overF m t = some p → p.2.dep ≤ D + t.dep
  | .am k x, p, e => by
    rw [overF] at e
    by_cases e2 : k = "word"
    · rw [if_pos e2] at e
      cases e
      exact Nat.le_add_left _ _
    · rw [if_neg e2] at e
      obtain ⟨r, o⟩ := p
      exact Nat.le_trans (h _ (tf0_some e)) (Nat.le_add_right _ _)
  | .un s a, p, e => by
    rw [overF] at e
    cases e2 : tf0 m (.un s a) with
    | some q =>
      rw [e2] at e
      cases e
      obtain ⟨r, o⟩ := p
      exact Nat.le_trans (h _ (tf0_some e2)) (Nat.le_add_right _ _)
    | none =>
      rw [e2] at e
      dsimp only at e
      by_cases es : s = "own"
      · rw [if_pos es] at e; cases e
      · rw [if_neg es] at e
        obtain ⟨q, hq, rfl⟩ := Option.map_eq_some_iff.mp e
        have := over_dep h hq
        show q.2.dep + 1 ≤ D + (a.dep + 1)
        omega
  | .bi s a b, p, e => by
    rw [overF] at e
    cases e2 : tf0 m (.bi s a b) with
    | some q =>
      rw [e2] at e
      cases e
      obtain ⟨r, o⟩ := p
      exact Nat.le_trans (h _ (tf0_some e2)) (Nat.le_add_right _ _)
    | none =>
      rw [e2] at e
      dsimp only at e
      obtain ⟨q, hq, e⟩ := Option.bind_eq_some_iff.mp e
      obtain ⟨z, hz, rfl⟩ := Option.map_eq_some_iff.mp e
      have h1 := over_dep h hq
      have h2 := over_dep h hz
      show max q.2.dep z.2.dep + 1 ≤ D + (max a.dep b.dep + 1)
      omega
theorem over_blt {m : List PRow} {t : Tr} (h : t.head ≠ "word") : overF m t = (match tf0 m t with | some p => some p | none => bltF m t) := by
  cases t with
  | am k x =>
    have h : k ≠ "word" := h
    rw [overF, if_neg h]
    cases tf0 m (.am k x) <;> rfl
  | un s a => rw [overF]; cases tf0 m (.un s a) <;> rfl
  | bi s a b => rw [overF]; cases tf0 m (.bi s a b) <;> rfl
theorem blt_parts {m : List PRow} {t : Tr} (hp : t.parts ≠ []) (ho : t.head ≠ "own") : ((t.parts.map (overF m)).any Option.isNone = true → bltF m t = none) ∧ ((t.parts.map (overF m)).any Option.isNone = false →
    (∃ s a p, t = .un s a ∧ overF m a = some p ∧ bltF m t = some (.un s p.1, .un s p.2)) ∨ ∃ s a b p q, t = .bi s a b ∧ overF m a = some p ∧ overF m b = some q ∧ bltF m t = some (.bi s p.1 q.1, .bi s p.2 q.2)) := by
  cases t with
  | am k x => exact absurd rfl hp
  | un s a =>
    have e : bltF m (.un s a) = (overF m a).map fun p => (.un s p.1, .un s p.2) := if_neg ho
    rw [e]
    show (((overF m a).isNone || false) = true → _) ∧ (((overF m a).isNone || false) = false → _)
    cases ea : overF m a with
    | none => exact ⟨fun _ => rfl, (fun z => nomatch z)⟩
    | some r => exact ⟨(fun z => nomatch z), fun _ => .inl ⟨s, a, r, rfl, ea, rfl⟩⟩
  | bi s a b =>
    have e : bltF m (.bi s a b) = (overF m a).bind fun p => (overF m b).map fun q => (.bi s p.1 q.1, .bi s p.2 q.2) := rfl
    rw [e]
    show (((overF m a).isNone || ((overF m b).isNone || false)) = true → _) ∧ (((overF m a).isNone || ((overF m b).isNone || false)) = false → _)
    cases ea : overF m a with
    | none => exact ⟨fun _ => rfl, (fun z => nomatch z)⟩
    | some r =>
      cases eb : overF m b with
      | none => exact ⟨fun _ => rfl, (fun z => nomatch z)⟩
      | some q => exact ⟨(fun z => nomatch z), fun _ => .inr ⟨s, a, b, r, q, rfl, ea, eb, rfl⟩⟩
/-- what such a side needs -/
structure SdOk (ts us : List Tr) (i : Nat) (m : List PRow) : Prop where
  ov : ∀ t p, Wf t → t.dep ≤ 13 → overF (sd i m) t = some p → OvP p
  bl : ∀ t p, Wf t → t.dep ≤ 13 → bltF (sd i m) t = some p → OvP p
  tw : ∀ t p, Wf t → bltF (sd i m) t = some p → ∃ ts us, Tw ts us t p
  tv : ∀ t p, Wf t → overF (sd i m) t = some p → ∃ ts us, Tw ts us t p
theorem sd_ok {ts us : List Tr} {m : List PRow} {i : Nat} (L : Lim ts us) (mo : MOk ts us m) (ko : KOk m) : SdOk ts us i m := by
  have key : ∀ {ts us : List Tr} {m : List PRow}, MOk ts us m → KOk m → (∀ p ∈ m, p.2.1.dep ≤ 12) → (∀ t p, Wf t → t.dep ≤ 13 → overF m t = some p → OvP p) ∧ (∀ t p, Wf t → t.dep ≤ 13 → bltF m t = some p → OvP p) ∧ (∀ t p, Wf t → bltF m t = some p → ∃ ts us, Tw ts us t p) ∧ (∀ t p, Wf t → overF m t = some p → ∃ ts us, Tw ts us t p) := fun {ts us m} mo ko hd => by
    refine ⟨fun t p wf dt h => ?_, fun t p wf dt h => ?_, fun t p wf h => ⟨ts, us, blt_tw mo ko wf h⟩, fun t p wf h => ⟨ts, us, over_tw mo ko wf h⟩⟩
    · have tw := over_tw mo ko wf h
      have := over_dep hd h
      exact ⟨tw.ok, tw.wf, by omega⟩
    · have tw := blt_tw mo ko wf h
      refine ⟨tw.ok, tw.wf, ?_⟩
      cases t with
      | am k x => cases h
      | un s a =>
        rw [bltF] at h
        by_cases es : s = "own"
        · rw [if_pos es] at h; cases h
        · rw [if_neg es] at h
          obtain ⟨q, hq, rfl⟩ := Option.map_eq_some_iff.mp h
          have h1 := over_dep hd hq
          have dt : a.dep + 1 ≤ 13 := dt
          show q.2.dep + 1 ≤ 100
          omega
      | bi s a b =>
        rw [bltF] at h
        obtain ⟨q, hq, h⟩ := Option.bind_eq_some_iff.mp h
        obtain ⟨z, hz, rfl⟩ := Option.map_eq_some_iff.mp h
        have h1 := over_dep hd hq
        have h2 := over_dep hd hz
        have dt : max a.dep b.dep + 1 ≤ 13 := dt
        show max q.2.dep z.2.dep + 1 ≤ 100
        omega
  by_cases e : i = 0
  · obtain ⟨a, b, c, f⟩ := key mo ko fun p hp => L.d1 _ (mo.row p hp).s1
    exact ⟨by rw [sd, if_pos e]; exact a, by rw [sd, if_pos e]; exact b, by rw [sd, if_pos e]; exact c, by rw [sd, if_pos e]; exact f⟩
  · obtain ⟨a, b, c, f⟩ := key mo.swap ko.swap fun p hp => by
      obtain ⟨q, hq, rfl⟩ := List.mem_map.mp hp
      exact L.d0 _ (mo.row q hq).s0
    exact ⟨by rw [sd, if_neg e]; exact a, by rw [sd, if_neg e]; exact b, by rw [sd, if_neg e]; exact c, by rw [sd, if_neg e]; exact f⟩
/-- the step that is built works -/
theorem blt_un {ts us : List Tr} {s : Str} {a : Tr} {p : Rc × Tr} (h : Tw ts us (.un s a) (.un s p.1, .un s p.2)) (hs : s ≠ "own") (wf : Wf (.un s a)) : wkd s [p.2] = some (.un s p.2) ∧ s ∈ UNL := by
  cases wf with
  | un hs2 wa =>
    have hs2 : s = "mark" ∨ s = "open" ∨ s = "own" := by simpa using hs2
    rcases hs2 with rfl | rfl | rfl
    · exact ⟨by show wk1 "mark" p.2 = _; unfold wk1; rw [if_neg (by decide +kernel), if_neg (by decide +kernel)], by decide +kernel⟩
    · exact ⟨by show wk1 "open" p.2 = _; unfold wk1; rw [if_neg (by decide +kernel), if_neg (by decide +kernel)], by decide +kernel⟩
    · exact absurd rfl hs
theorem blt_bi {ts us : List Tr} {s : Str} {a b : Tr} {p q : Rc × Tr} (h : Tw ts us (.bi s a b) (.bi s p.1 q.1, .bi s p.2 q.2)) (wf : Wf (.bi s a b)) : wkd s [p.2, q.2] = some (.bi s p.2 q.2) ∧ s ∈ BIL := by
  have w2 := h.wf
  cases wf with
  | bi hs wa wb =>
    have hs' : s = "pair" ∨ s = "seal" := by simpa using hs
    refine ⟨wk2_mk hs' _ _, ?_⟩
    rcases hs' with rfl | rfl <;> decide +kernel
  | @lk z _ c hz wa wc =>
    refine ⟨?_, by decide +kernel⟩
    have w2 : Wf (.bi "lock" p.2 q.2) := w2
    generalize p.2 = x, q.2 = y at w2
    show wk2 "lock" x y = _
    cases w2 with
    | bi hs _ _ => exact absurd hs (by decide +kernel)
    | lk hz2 _ _ => exact wk2_lk (decide_eq_true hz2)
end Rd
namespace Rd
open PySem L2
section
variable {X : Cx} {CX : CXT} {k : Nat} {c m : Str} {ps : List Str} {sp : Sp} {o e : Expr} {es : List Expr} {ta : TE} {t : TA} {E : XK} {apos pos : Pos} {K : PySem.W.Frag}
theorem pe_fmk {pl : Sem Bool} (hK : X.K = K) (he : PE X o ta) (cl : Cls X.K (He.ga X.K c)) (F : Fm X.prog X.w X.K X.mg X.base CX k c m ps sp) (hr : Room k X.A) (hx : Passes CX X E) (ha : PA X (e :: es) t)
    (hst : starEach (e :: es) X.env = (false, eval e X.env) :: starEach es X.env := by rfl) (hpl : (backTo pos (starEach es X.env)).any (·.1) = false := by rfl)
    (ht : eval (.Call (.Attribute o m apos) (e :: es) [] pos) X.env = (do
      let ov ← eval o X.env
      standAt apos.atName
      let (f, first) ← holding [ov] (getMethod ov m pl)
      callWith pos f first (backTo pos (starEach (e :: es) X.env)) (backToKw pos (keywordEach [] X.env))) := by rfl) :
    PE X (.Call (.Attribute o m apos) (e :: es) [] pos) (tMeth (He.ga K c) m sp [] E ta t) := by subst hK; exact pe_fm he cl F hr hx ha hst hpl ht
end
theorem RcOk.wdA {K : PySem.W.Frag} {mg : Str → Option Value} {w : World} (T : Tx w K mg) {H : Hp} : Dp K H (.ref (He.ga K "SOME_WORD")) (rcd (.wd "a")) := .tup (T.U_SOME_WORD.tp _) (.cons (.str _) (.cons (.str _) .nil))
theorem IsRk.dp {K : PySem.W.Frag} {mg : Str → Option Value} {w : World} (T : Tx w K mg) {H : Hp} : ∀ {r : Rc} {v : V}, IsRk K H r v → Dp K H v (rcd r)
  | .at_ _, v, ⟨p, e, h⟩ => by subst e; exact .tup (SqT.of h) (.cons (.str _) (.cons (.int _) .nil))
  | .wd x, v, h => by
    rcases h with ⟨p, e, h⟩ | ⟨e1, e2⟩
    · subst e; exact .tup (SqT.of h) (.cons (.str _) (.cons (.str _) .nil))
    · subst e1; subst e2; exact RcOk.wdA T
  | .un s r, v, ⟨p, u, e, h, g⟩ => by subst e; exact .tup (SqT.of h) (.cons (.str _) (.cons (g.dp T) .nil))
  | .bi s r q, v, ⟨p, u, u2, e, h, g1, g2⟩ => by subst e; exact .tup (SqT.of h) (.cons (.str _) (.cons (g1.dp T) (.cons (g2.dp T) .nil)))
theorem OvV.dp {K : PySem.W.Frag} {mg : Str → Option Value} {w : World} (T : Tx w K mg) {H : Hp} {o : Option (Rc × Tr)} {v : V} (h : OvV K H o v) : Dp K H v (ovd o) := by
  rcases h with ⟨rfl, rfl⟩ | ⟨p, rfl, q, rv, tv, rfl, h1, h2, h3⟩
  · exact .non
  · exact .tup (SqT.of h1) (.cons (h2.dp T) (.cons h3.dp .nil))
theorem blt_rows {K : PySem.W.Frag} {H : Hp} {ts us : List Tr} {i : Nat} {m : List PRow} {t : Tr} {vs : List V} (so : SdOk ts us i m) (wf : Wf t) (dt : t.dep ≤ 13) (hpt : t.parts ≠ []) (hno : t.head ≠ "own") (h1 : ((t.parts.map (overF (sd i m))).any Option.isNone) = false)
    (hla : AtL (fun H r v => OvV K H (overF (sd i m) r) v) H t.parts vs) : ∃ (ps : List (Rc × Tr)) (r : Rc) (o : Tr), AtL (TRow K) H ps vs ∧ (∀ p ∈ ps, OvP p) ∧ ps ≠ [] ∧ ((t.head ∈ UNL ∧ ps.length = 1) ∨ (t.head ∈ BIL ∧ ps.length = 2)) ∧ wkd t.head (ps.map (·.2)) = some o ∧ bltF (sd i m) t = some (r, o) ∧ ps.length ≤ 2 ∧
      ∀ H q rvs, H q = some (.tup (.str t.head :: rvs)) → AtL (IsRk K) H (ps.map (·.1)) rvs → IsRk K H r (.ref q) := by
  have row : ∀ {r : Tr} {v : V} {p : Rc × Tr}, overF (sd i m) r = some p → OvV K H (overF (sd i m) r) v → TRow K H p v := fun {r v p} e h => by
    rcases h with ⟨e2, _⟩ | ⟨q, e2, h⟩
    · rw [e] at e2; cases e2
    · rw [e] at e2; cases e2; exact h
  have hlen := hla.len
  rcases (blt_parts hpt hno).2 h1 with ⟨s, a, p, rfl, ea, eb⟩ | ⟨s, a, b, p, q, rfl, ea, eb2, eb⟩
  · obtain ⟨v1, rfl⟩ : ∃ v1, vs = [v1] := by
      match vs, hlen with
      | [v1], _ => exact ⟨v1, rfl⟩
    obtain ⟨_, _, tw⟩ := so.tw _ _ wf eb
    obtain ⟨w1, w2⟩ := blt_un tw hno wf
    have wa : Wf a := by cases wf with | un _ wa => exact wa
    have da : a.dep + 1 ≤ 13 := dt
    refine ⟨[p], _, _, AtL.nil.snoc (row ea (hla.get 0 a v1 rfl rfl)), fun z hz => ?_, (fun z => by cases z), .inl ⟨w2, rfl⟩, w1, eb, Nat.le_succ 1, fun H q rvs hq hr => ?_⟩
    · rw [List.mem_singleton.mp hz]
      exact so.ov _ _ wa (by omega) ea
    · have hl2 := hr.len
      obtain ⟨x1, rfl⟩ : ∃ v1, rvs = [v1] := by
        match rvs, hl2 with
        | [v1], _ => exact ⟨v1, rfl⟩
      exact ⟨q, x1, rfl, hq, hr.get 0 _ _ rfl rfl⟩
  · obtain ⟨v1, v2, rfl⟩ : ∃ v1 v2, vs = [v1, v2] := by
      match vs, hlen with
      | [v1, v2], _ => exact ⟨v1, v2, rfl⟩
    obtain ⟨_, _, tw⟩ := so.tw _ _ wf eb
    obtain ⟨w1, w2⟩ := blt_bi tw wf
    obtain ⟨wa, wb⟩ := wf_kids wf
    have dt : max a.dep b.dep + 1 ≤ 13 := dt
    refine ⟨[p, q], _, _, (AtL.nil.snoc (row ea (hla.get 0 a v1 rfl rfl))).snoc (row eb2 (hla.get 1 b v2 rfl rfl)), fun z hz => ?_, (fun z => by cases z), .inr ⟨w2, rfl⟩, w1, eb, Nat.le_refl _, fun H q rvs hq hr => ?_⟩
    · rcases List.mem_cons.mp hz with rfl | hz
      · exact so.ov _ _ wa (by omega) ea
      · rw [List.mem_singleton.mp hz]
        exact so.ov _ _ wb (by omega) eb2
    · have hl2 := hr.len
      obtain ⟨x1, x2, rfl⟩ : ∃ v1 v2, rvs = [v1, v2] := by
        match rvs, hl2 with
        | [v1, v2], _ => exact ⟨v1, v2, rfl⟩
      exact ⟨q, x1, x2, rfl, hq, hr.get 0 _ _ rfl rfl, hr.get 1 _ _ rfl rfl⟩
def sp_ov (K : PySem.W.Frag) (f : List PRow → Tr → Option (Rc × Tr)) (d : Nat) : Sp := fun vs H Q _ => ∃ (S M TT D0 D1 dx : Addr) (v : V) (m : List PRow) (x : Option Tst) (t : Tr) (i : Nat) (ts us : List Tr), vs = [.ref S, v, .int (i : Int)] ∧ i < 2 ∧ PO K S M TT D0 D1 dx H m x ∧ IsT H t v ∧ Wf t ∧ t.dep ≤ d ∧ d ≤ 12 ∧ Lim ts us ∧ MOk ts us m ∧ KOk m ∧ ∀ u H', Same H H' → OvV K H' (f (sd i m) t) u → Q u H'
def spOv (K : PySem.W.Frag) : Nat → Sp
  | 0 => fun _ _ _ _ => False
  | d + 1 => sp_ov K overF d
section
variable {P : Program} {w : World} {K : PySem.W.Frag} {mg : Str → Option Value} {base : Heap}
abbrev s_Pairing_built : Stmt := inClass (top 45) 5
theorem sc_Pairing_built : FnScope ["self", "tree", "side", "inner", "part", "other", "one"] ["self", "tree", "side"] (defScope s_Pairing_built) := ⟨rfl, rfl, rfl, by decide +kernel, rfl, by decide +kernel, by decide +kernel⟩
theorem pb_step (T : Tx w K mg) (d : Nat) (ih : Fm P w K mg base CX0 (2 * d + 40) "Pairing" "over" ["self", "tree", "side"] (spOv K d)) : Fm P w K mg base CX0 (2 * d + 41) "Pairing" "built" ["self", "tree", "side"] (sp_ov K bltF d) := by
  refine T.M_Pairing_built.ok0 sc_Pairing_built (fun _ _ _ _ _ _ us hl => match us, hl with | [_, _, _], _ => rfl)
    (fun vs H Q E h => ?_) (fun cdv A outer s H vs Q E hr h => ?_)
  · obtain ⟨S, M, TT, D0, D1, dx, v, m, x, t, i, ts, us, rfl, _⟩ := h
    rfl
  · obtain ⟨S, M, TT, D0, D1, dx, v, m, x, t, i, ts, us, rfl, hi, po, it, wf, dp, d12, L, mo, ko, k⟩ := h
    refine ⟨_, (pss_cons (ps_if (pt_cmpR op_notInT (pe_ix ix_tup (pv 1) pe_int (fun _ _ => rfl)) (pe_ktk (K := K) rfl T.U_MAKEABLE) (by rfl))
  (pss_one (ps_ret pe_non))
  pss_nil)
  (pss_cons (ps_setLc (i := 3) (own := [("part", 4)]) (g := gName 4) (tt := tYes) (by rfl) sc_Pairing_built.nd rfl rfl (sw_true rfl rfl rfl (by decide +kernel)) (pi_tup (pe_slice sl_tup (pv 1) (po_some pe_int) po_none)) (blkOk_by (own := [("part", 4)]) (N := ["self", "tree", "side", "inner", "part", "other", "one"]) (sc := defScope s_Pairing_built) (by decide +kernel)) (fun _ _ _ _ _ => (pg_name (i := 4) sc_Pairing_built.nd rfl (Or.inl rfl))) (fun _ _ _ _ _ => pts_nil) (fun _ _ _ _ _ => (pe_fmk (K := K) rfl (pv 0) T.k_Pairing ih (hr.mono (by omega)) pass0 (pa_cons (pv 4) (pa_cons (pv 2) pa_nil)))))
  (pss_cons (ps_if (pt_cmpR (op_inNone hr.units65) pe_non (pv 3) (by rfl))
  (pss_one (ps_ret pe_non))
  pss_nil)
  (pss_cons (ps_set (i := 5) sc_Pairing_built.nd rfl (Or.inl rfl) (pe_fk (ok_worked T) (hr.mono (by omega)) rfl pass0 (pa_cons (pe_ix ix_tup (pv 1) pe_int (fun _ _ => rfl)) (pa_cons (pe_lc (own := [("one", 6)]) (g := gName 6) (tt := tYes) (by rfl) sc_Pairing_built.nd (pi_list (pv 3)) (blkOk_by (own := [("one", 6)]) (N := ["self", "tree", "side", "inner", "part", "other", "one"]) (sc := defScope s_Pairing_built) (by decide +kernel)) (fun _ _ _ _ _ => (pg_name (i := 6) sc_Pairing_built.nd rfl (Or.inl rfl))) (fun _ _ _ _ _ => pts_nil) (fun _ _ _ _ _ => (pe_ix (kIx (r := rIxT) (K := K) rfl ix_tup) (pv 6) pe_int (fun _ _ => rfl)))) pa_nil))))
  (pss_one (ps_ret (pe_tup (pa_cons (pe_op op_catT (pe_tup (pa_cons (pe_ix ix_tup (pv 1) pe_int (fun _ _ => rfl)) pa_nil)) (pe_callTy call_tuple_of (by rfl) T.z_tuple (by decide +kernel) (pa_cons (pe_lc (own := [("one", 6)]) (g := gName 6) (tt := tYes) (by rfl) sc_Pairing_built.nd (pi_list (pv 3)) (blkOk_by (own := [("one", 6)]) (N := ["self", "tree", "side", "inner", "part", "other", "one"]) (sc := defScope s_Pairing_built) (by decide +kernel)) (fun _ _ _ _ _ => (pg_name (i := 6) sc_Pairing_built.nd rfl (Or.inl rfl))) (fun _ _ _ _ _ => pts_nil) (fun _ _ _ _ _ => (pe_ix (kIx (r := rIxT) (K := K) rfl ix_tup) (pv 6) pe_int (fun _ _ => rfl)))) pa_nil))) (pa_cons (pv 5) pa_nil))))))))), ?_⟩
    have big : 16777216 ≤ sizeLine := by decide
    have so := sd_ok (i := i) L mo ko
    obtain ⟨pf, zs, rfl, hp⟩ := it.hd
    refine ⟨_, rfl, pf, _, _, _, rfl, rfl, SqT.of hp, at_of (j := 0) rfl rfl, _, He.ga K "MAKEABLE", MKL, rfl, rfl, T.U_MAKEABLE.tp _, _, rfl, ?_⟩
    by_cases hm : t.head ∈ MKL
    · refine iteN (by rw [decide_eq_true hm]; decide) (nxt ?_)
      try dsimp only
      have hpt := mkl_parts wf hm
      have hno : t.head ≠ "own" := fun e => by rw [e] at hm; exact absurd hm (by decide +kernel)
      obtain ⟨b1, b2⟩ := blt_parts (m := sd i m) hpt hno
      obtain ⟨hsg, hws⟩ := wf.sign hpt
      obtain ⟨pf', us', e', hp', hlu, hl2, hne, hus⟩ := it.parts hpt
      cases e'
      rw [hp] at hp'
      cases hp'
      refine seqAsg ⟨_, rfl, _, rfl, pf, _, rfl, SqT.of hp, ?_, fun p2 hp2 => ?_⟩
      · rintro ⟨z, _⟩
        rw [show (1 : Int) = ((1 : Nat) : Int) from rfl, HT.sIx_nat, List.length_cons] at z
        omega
      rw [cut1]
      have s2 := Rd.Same.upd (o := .tup zs) hp2
      refine ⟨p2, rfl, ⟨_, SqT.of upd_same⟩, fun D hD => ?_⟩
      refine lct (C := 0) (fun j H v => ∃ r, t.parts[j]? = some r ∧ OvV K H (overF (sd i m) r) v) (fun i H H' v kp ⟨r, e, h⟩ => ⟨r, e, h.kq (Kq.of_kp kp)⟩) (SqT.of upd_same) (by omega) hD (fun j x' H1 Q1 hx s3 k1 => ?_) fun vs H3 s3 hD3 hlv hvs => ?_
      · obtain ⟨r, hr1, hr2⟩ := hus j x' hx
        obtain ⟨w1, w2⟩ := hws r (List.mem_of_getElem? hr1)
        have s01 := s2.trans s3
        obtain ⟨xv, ms, kv0, kv1, hS, _⟩ := (po.same s01).ex
        cases d with
        | zero => exact absurd dp (by omega)
        | succ d =>
          exact ⟨_, rfl, S, dx, _, rfl, hS, pl_no (by decide +kernel) (by decide +kernel) (by decide +kernel), _, rfl, _, rfl, S, M, TT, D0, D1, dx, x', m, x, r, i, ts, us, rfl, hi, po.same s01, hr2.same s01, w1, (by omega), (by omega), L, mo, ko, fun u H' s' hu => k1 _ H' s' ⟨r, hr1, hu⟩⟩
      have S3 := s2.trans s3
      have hla : AtL (fun H r v => OvV K H (overF (sd i m) r) v) H3 t.parts vs := ⟨by omega, fun i r v h1 h2 => by
        obtain ⟨r', e, h⟩ := hvs i v h2
        rw [h1] at e
        cases e
        exact h⟩
      refine gName_k ?_
      try dsimp only
      have hcl : PyData.canLayAll0 ((t.parts.map (overF (sd i m))).map ovd) = true := ovd_lays fun o ho p e => by
        obtain ⟨q, hq, rfl⟩ := List.mem_map.mp ho
        obtain ⟨w1, w2⟩ := hws q hq
        exact so.ov _ _ w1 (by omega) e
      have hdl : DpAll K H3 vs ((t.parts.map (overF (sd i m))).map ovd) := by
        rw [List.map_map]
        exact dpAll_at (R := fun H r v => OvV K H (overF (sd i m) r) v) (fun r v h => h.dp T) hla
      refine ⟨_, rfl, (t.parts.map (overF (sd i m))).map ovd, rfl, .lst (SqL.of hD3) hdl, hcl, _, rfl, ?_⟩
      rw [ovd_any]
      refine ite2 (fun h1 => ?_) (fun h1 => nxt ?_)
      · exact k _ _ S3 (.inl ⟨b1 h1, rfl⟩)
      try dsimp only
      have h1 : (t.parts.map (overF (sd i m))).any Option.isNone = false := by simpa using h1
      obtain ⟨ps, rr, oo, hps, pok, pne, pk, pw, pb, pl, pf2⟩ := blt_rows so wf (by omega) hpt hno h1 hla
      have hpl := hps.len
      have hpt3 := S3 _ _ hp
      refine seqAsg ⟨_, rfl, pf, _, _, _, rfl, rfl, SqT.of hpt3, at_of (j := 0) rfl rfl, ?_⟩
      refine ⟨_, rfl, D, rfl, ⟨_, SqL.of hD3⟩, fun D2 hD2 => ?_⟩
      refine lcl (C := 0) (fun j H v => ∃ p, ps[j]? = some p ∧ IsT H p.2 v) (fun i H H' v kp ⟨r, e, h⟩ => ⟨r, e, h.kq (Kq.of_kp kp)⟩) (SqL.of hD3) (by omega) hD2 (fun j x' H4 Q4 hx s4 k4 => ?_) fun ws H4 s4 hD24 hlw hws2 => ?_
      · have hj : j < ps.length := by rw [← hpl]; exact (List.getElem?_eq_some_iff.mp hx).1
        have e1 : ps[j]? = some ps[j] := List.getElem?_eq_getElem hj
        obtain ⟨q9, rv9, tv9, rfl, g1, g2, g3⟩ := hps.get j _ _ e1 hx
        exact ⟨_, rfl, q9, _, _, _, rfl, rfl, SqT.of (s4 _ _ g1), at_of (j := 1) rfl rfl, k4 _ H4 (Same.refl _) ⟨_, e1, g3.same s4⟩⟩
      have hts : TsAt H4 (ps.map (·.2)) ws := ⟨by rw [List.length_map]; omega, fun j b v h1 h2 => by
        obtain ⟨p, e, h⟩ := hws2 j v h2
        rw [List.getElem?_map, e] at h1
        cases h1
        exact h⟩
      refine ⟨_, D2, ws, ps.map (·.2), rfl, hD24, hts, (fun z hz => by
        obtain ⟨p, hp, rfl⟩ := List.mem_map.mp hz
        have := pok p hp
        exact ⟨this.wf, by have := this.dp; omega⟩), by rw [List.length_map]; exact pk, fun u H5 s5 hu => ?_⟩
      have iu : IsT H5 oo u := by
        rcases hu with ⟨e, _⟩ | ⟨z, e, h⟩
        · rw [pw] at e; cases e
        · rw [pw] at e; cases e; exact h
      refine gName_k ?_
      try dsimp only
      have S5 := s4.trans s5
      refine ⟨_, rfl, pf, _, _, _, rfl, rfl, SqT.of (S5 _ _ hpt3), at_of (j := 0) rfl rfl, (by show 1 ≤ sizeLine; decide), fun q6 hq6 => ?_⟩
      have s6 := Rd.Same.upd (o := .tup [.str t.head]) hq6
      have h61 : upd H5 q6 (.tup [.str t.head]) q6 = some (.tup [.str t.head]) := upd_same
      generalize upd H5 q6 (.tup [.str t.head]) = H6 at s6 h61 ⊢
      have S6 := S5.trans s6
      have hD6 := S6 _ _ hD3
      refine ⟨_, rfl, D, rfl, ⟨_, SqL.of hD6⟩, fun D3 hD37 => ?_⟩
      refine lcl (C := 0) (fun j H v => ∃ p, ps[j]? = some p ∧ IsRk K H p.1 v) (fun i H H' v kp ⟨r, e, h⟩ => ⟨r, e, h.kq (Kq.of_kp kp)⟩) (SqL.of hD6) (by omega) hD37 (fun j x' H7 Q7 hx s7 k7 => ?_) fun ys H7 s7 hD7 hly hys => ?_
      · have hj : j < ps.length := by rw [← hpl]; exact (List.getElem?_eq_some_iff.mp hx).1
        have e1 : ps[j]? = some ps[j] := List.getElem?_eq_getElem hj
        obtain ⟨q9, rv9, tv9, rfl, g1, g2, g3⟩ := hps.get j _ _ e1 hx
        exact ⟨_, rfl, q9, _, _, _, rfl, rfl, SqT.of (s7 _ _ (S6 _ _ g1)), at_of (j := 0) rfl rfl, k7 _ H7 (Same.refl _) ⟨_, e1, (g2.same S6).same s7⟩⟩
      have hyl : ys.length = ps.length := by omega
      have hyn : ys ≠ [] := fun z => by rw [z] at hyl; exact pne (List.length_eq_zero_iff.mp hyl.symm)
      have har : AtL (IsRk K) H7 (ps.map (·.1)) ys := ⟨by rw [List.length_map]; omega, fun j b v h1 h2 => by
        obtain ⟨p, e, h⟩ := hys j v h2
        rw [List.getElem?_map, e] at h1
        cases h1
        exact h⟩
      refine ⟨D3, _, rfl, .inl ⟨SqL.of hD7, fun q8 hq8 => ?_⟩⟩
      have s8 := Rd.Same.upd (o := .tup ys) hq8
      have h81 : upd H7 q8 (.tup ys) q8 = some (.tup ys) := upd_same
      generalize upd H7 q8 (.tup ys) = H8 at s8 h81 ⊢
      have S78 := s7.trans s8
      refine ⟨q6, q8, _, _, rfl, rfl, SqT.of (S78 _ _ h61), SqT.of h81, (fun z => by cases z), (by have : ([V.str t.head] : List V).length = 1 := rfl; omega), (fun z => absurd z hyn), fun _ q9 hq9 => ?_⟩
      have s9 := Rd.Same.upd (o := .tup ([.str t.head] ++ ys)) hq9
      have h91 : upd H8 q9 (.tup ([.str t.head] ++ ys)) q9 = some (.tup (.str t.head :: ys)) := upd_same
      generalize upd H8 q9 (.tup ([.str t.head] ++ ys)) = H9 at s9 h91 ⊢
      refine ⟨_, rfl, (by show 2 ≤ sizeLine; decide), fun q10 hq10 => ?_⟩
      have s10 := Rd.Same.upd (o := .tup [.ref q9, u]) hq10
      have S79 := S78.trans s9
      have ir := pf2 H9 q9 ys h91 (har.mp fun r v h => h.same (s8.trans s9))
      exact k _ _ ((S3.trans S6).trans (S79.trans s10)) (.inr ⟨_, pb, q10, .ref q9, u, rfl, upd_same, ir.same s10, ((iu.same s6).same S79).same s10⟩)
    · refine iteP (by rw [decide_eq_false hm]; decide) ?_
      refine k _ _ (Same.refl _) (.inl ⟨?_, rfl⟩)
      rcases wf.shp with ⟨k0, x, rfl, ko⟩ | ⟨s0, a, rfl, hs, _⟩ | ⟨s0, a, b, rfl, hs, _⟩
      · rfl
      · have : ∀ z ∈ (["mark", "open", "own"] : List Str), z ∉ MKL → z = "own" := by decide +kernel
        exact if_pos (this s0 hs hm)
      · have : ∀ z ∈ (["pair", "seal", "lock"] : List Str), z ∈ MKL := by decide +kernel
        exact absurd (this s0 hs) hm
abbrev s_Pairing_over : Stmt := inClass (top 45) 4
theorem sc_Pairing_over : FnScope ["self", "tree", "side", "text"] ["self", "tree", "side"] (defScope s_Pairing_over) := ⟨rfl, rfl, rfl, by decide +kernel, rfl, by decide +kernel, by decide +kernel⟩
theorem po_step (T : Tx w K mg) (d : Nat) (bd : Fm P w K mg base CX0 (2 * d + 41) "Pairing" "built" ["self", "tree", "side"] (sp_ov K bltF d)) : Fm P w K mg base CX0 (2 * d + 42) "Pairing" "over" ["self", "tree", "side"] (sp_ov K overF d) := by
  refine T.M_Pairing_over.ok0 sc_Pairing_over (fun _ _ _ _ _ _ us hl => match us, hl with | [_, _, _], _ => rfl)
    (fun vs H Q E h => ?_) (fun cdv A outer s H vs Q E hr h => ?_)
  · obtain ⟨S, M, TT, D0, D1, dx, v, m, x, t, i, ts, us, rfl, _⟩ := h
    rfl
  · obtain ⟨S, M, TT, D0, D1, dx, v, m, x, t, i, ts, us, rfl, hi, po, it, wf, dp, d12, L, mo, ko, k⟩ := h
    refine ⟨_, (pss_cons (ps_if (pt_cmpR op_eq (pe_ix ix_tup (pv 1) pe_int (fun _ _ => rfl)) pe_str (nomark _))
  (pss_one (ps_ret (pe_tup (pa_cons (pv 1) (pa_cons (pv 1) pa_nil)))))
  pss_nil)
  (pss_cons (ps_set (i := 3) sc_Pairing_over.nd rfl (Or.inl rfl) (pe_fk (ok_tree_text T d) (hr.mono (by omega)) rfl pass0 (pa_cons (pv 1) pa_nil)))
  (pss_cons (ps_if (pt_cmp (pc_din (hu_of hr) (pv 3) (pe_ix ix_tup (pe_fld (pv 0) rfl) (pv 2) (fun _ _ => rfl))))
  (pss_one (ps_ret (pe_dget (hu_of hr) (pe_ix ix_tup (pe_fld (pv 0) rfl) (pv 2) (fun _ _ => rfl)) (pv 3) (fun _ _ => rfl))))
  pss_nil)
  (pss_one (ps_ret (pe_fm (pv 0) T.k_Pairing bd (hr.mono (by omega)) pass0 (pa_cons (pv 1) (pa_cons (pv 2) pa_nil)))))))), ?_⟩
    have big : 16777216 ≤ sizeLine := by decide
    obtain ⟨pf, zs, rfl, hp⟩ := it.hd
    refine ⟨_, rfl, pf, _, _, _, rfl, rfl, SqT.of hp, at_of (j := 0) rfl rfl, rfl, _, rfl, ?_⟩
    rw [decS]
    by_cases hw : t.head = "word"
    · obtain ⟨y, rfl, hy⟩ := word_shape wf hw
      refine iteP (decide_eq_true hw) ?_
      have e : overF (sd i m) (.am "word" y) = some (.wd y, .am "word" y) := by rw [overF]; exact if_pos rfl
      refine ⟨_, rfl, _, rfl, (by show 2 ≤ sizeLine; decide), fun q1 hq1 => ?_⟩
      have s1 := Rd.Same.upd (o := .tup [.ref pf, .ref pf]) hq1
      have it1 := it.same s1
      exact k _ _ s1 (.inr ⟨_, e, q1, .ref pf, .ref pf, rfl, upd_same, .inl it1, it1⟩)
    · refine iteN (by rw [decide_eq_false hw]; decide) (nxt ?_)
      try dsimp only
      have em := over_blt (m := sd i m) hw
      refine seqAsg ⟨_, rfl, _, t, rfl, it, wf, dp, d12, fun H1 s1 => ?_⟩
      refine gName_k ?_
      try dsimp only
      obtain ⟨ms, kv0, kv1, p3⟩ := (po.same s1).p3
      obtain ⟨xv, hS, htst⟩ := p3.ex
      have wm := mo.wfr L
      have hi2 : i = 0 ∨ i = 1 := by omega
      rcases hi2 with rfl | rfl
      · refine ⟨_, rfl, _, rfl, S, _, dx, _, _, rfl, hS, T.k_Pairing, T.n_Pairing_tables, pl_tab, _, rfl, TT, _, _, _, rfl, rfl, SqT.of p3.tt, at_of (j := 0) rfl rfl, D0, _, rfl, DGet.k (k := .inr (textOf t)) p3.h0, _, rfl, ?_⟩
        have sd0 : sd 0 m = m := rfl
        rw [sd0] at em k
        cases el : tf0 m t with
        | some p =>
          rw [el] at em
          obtain ⟨v0, e0, hv0⟩ := (p3.a0.look (x := textOf t)).1 p (by rw [tab0_look wm wf]; exact el)
          rw [e0]
          refine iteP (by simp) ?_
          exact ⟨_, rfl, S, _, dx, _, _, rfl, hS, T.k_Pairing, T.n_Pairing_tables, pl_tab, _, rfl, TT, _, _, _, rfl, rfl, SqT.of p3.tt, at_of (j := 0) rfl rfl, _, rfl, D0, _, rfl, (by rw [← e0]; exact DGet.k (k := .inr (textOf t)) p3.h0), k _ _ s1 (.inr ⟨p, em, hv0⟩)⟩
        | none =>
          rw [el] at em
          rw [p3.no0 wm wf el]
          refine iteN (by simp) (nxt ?_)
          try dsimp only
          refine ⟨_, rfl, S, dx, _, rfl, hS, pl_no (by decide +kernel) (by decide +kernel) (by decide +kernel), _, rfl, _, rfl, S, M, TT, D0, D1, dx, _, m, x, t, 0, ts, us, rfl, by decide, po.same s1, it.same s1, wf, dp, d12, L, mo, ko, fun u H2 s2 hu => k _ _ (s1.trans s2) ?_⟩
          rw [em]
          exact hu
      · refine ⟨_, rfl, _, rfl, S, _, dx, _, _, rfl, hS, T.k_Pairing, T.n_Pairing_tables, pl_tab, _, rfl, TT, _, _, _, rfl, rfl, SqT.of p3.tt, at_of (j := 1) rfl rfl, D1, _, rfl, DGet.k (k := .inr (textOf t)) p3.h1, _, rfl, ?_⟩
        have sd0 : sd 1 m = sws m := rfl
        rw [sd0] at em k
        cases el : tf0 (sws m) t with
        | some p =>
          rw [el] at em
          obtain ⟨v0, e0, hv0⟩ := (p3.a1.look (x := textOf t)).1 p (by rw [tab1_look wm wf]; exact el)
          rw [e0]
          refine iteP (by simp) ?_
          exact ⟨_, rfl, S, _, dx, _, _, rfl, hS, T.k_Pairing, T.n_Pairing_tables, pl_tab, _, rfl, TT, _, _, _, rfl, rfl, SqT.of p3.tt, at_of (j := 1) rfl rfl, _, rfl, D1, _, rfl, (by rw [← e0]; exact DGet.k (k := .inr (textOf t)) p3.h1), k _ _ s1 (.inr ⟨p, em, hv0⟩)⟩
        | none =>
          rw [el] at em
          rw [p3.no1 wm wf el]
          refine iteN (by simp) (nxt ?_)
          try dsimp only
          refine ⟨_, rfl, S, dx, _, rfl, hS, pl_no (by decide +kernel) (by decide +kernel) (by decide +kernel), _, rfl, _, rfl, S, M, TT, D0, D1, dx, _, m, x, t, 1, ts, us, rfl, by decide, po.same s1, it.same s1, wf, dp, d12, L, mo, ko, fun u H2 s2 hu => k _ _ (s1.trans s2) ?_⟩
          have sd1 : sd 1 m = sws m := rfl
          rw [em]
          exact hu
theorem pov_none (T : Tx w K mg) : Fm P w K mg base CX0 40 "Pairing" "over" ["self", "tree", "side"] (spOv K 0) := by
  refine T.M_Pairing_over.ok0 sc_Pairing_over (fun _ _ _ _ _ _ us hl => match us, hl with | [_, _, _], _ => rfl) (fun vs H Q E h => h.elim) (fun cdv A outer s H vs Q E hr h => h.elim)
theorem ok_over (T : Tx w K mg) : ∀ d : Nat, Fm P w K mg base CX0 (2 * d + 42) "Pairing" "over" ["self", "tree", "side"] (sp_ov K overF d)
  | 0 => po_step T 0 (pb_step T 0 (pov_none T))
  | d + 1 => po_step T (d + 1) (pb_step T (d + 1) (ok_over T d))
theorem ok_built (T : Tx w K mg) (d : Nat) : Fm P w K mg base CX0 (2 * d + 41) "Pairing" "built" ["self", "tree", "side"] (sp_ov K bltF d) := by
  cases d with
  | zero => exact pb_step T 0 (pov_none T)
  | succ d => exact pb_step T (d + 1) (ok_over T d)
end
end Rd
namespace Rd
open PySem L2
def opnS (i : Nat) (m : List PRow) (p : PRow) : PSt := if i = 0 then openF m p else openF1 m p
def sp_op1 (K : PySem.W.Frag) : Sp := fun vs H Q _ => ∃ (S M TT D0 D1 dx q : Addr) (tv uv rv : V) (m : List PRow) (t u : Tr) (r : Rc) (i : Nat) (ts us : List Tr), vs = [.ref S, .ref q, rv, .int (i : Int)] ∧ i < 2 ∧ PO K S M TT D0 D1 dx H m none ∧ H q = some (.tup [tv, uv]) ∧ IsT H t tv ∧ IsT H u uv ∧ IsRk K H r rv ∧ Lim ts us ∧ MOk ts us m ∧ KOk m ∧ RowOk ts us (t, u, r) ∧ (ukey (if i = 0 then t else u)).isSome = true ∧
  ∀ H', BP S M D0 D1 H H' → PO K S M TT D0 D1 dx H' (opnS i m (t, u, r)).1 (opnS i m (t, u, r)).2 → Q .non H'
theorem ukey_shape {t k : Tr} (h : ukey t = some k) : ∃ s a b, t = .bi s a b ∧ (s = "seal" ∨ s = "lock") := by
  cases t with
  | am k x => cases h
  | un s a => cases h
  | bi s a b => exact ⟨s, a, b, rfl, ukey_head h⟩
theorem shut_ukey {t : Tr} (wf : Wf t) (h : t.head = "seal" ∨ t.head = "lock") : (ukey t).isSome = true := by
  rcases id wf.shp with ⟨k, x, rfl, ko⟩ | ⟨z, a, rfl, hz, _⟩ | ⟨z, a, b, rfl, hz, wa, wb⟩
  · have h : k = "seal" ∨ k = "lock" := h
    rcases ko with ⟨rfl, _⟩ | ⟨rfl, _⟩ | ⟨rfl, _⟩ <;> exact absurd h (by decide +kernel)
  · have h : z = "seal" ∨ z = "lock" := h
    have : ∀ y ∈ (["mark", "open", "own"] : List Str), ¬ (y = "seal" ∨ y = "lock") := by decide +kernel
    exact absurd h (this z hz)
  · have h : z = "seal" ∨ z = "lock" := h
    rw [ukey]
    by_cases e : z = "seal"
    · rw [if_pos e]; rfl
    · rw [if_neg e]
      have e2 : z = "lock" := by rcases h with h | h; exact absurd h e; exact h
      subst e2
      rw [if_pos rfl]
      cases wf with
      | bi hs _ _ => exact absurd hs (by decide +kernel)
      | lk hz2 _ _ => rfl
theorem row_open {ts us : List Tr} {m : List PRow} (hm : MOk ts us m) (hk : KOk m) {t u : Tr} {r : Rc} (hp : RowOk ts us (t, u, r)) {k : Tr} {q : Rc × Tr} (eu : ukey t = some k) (eo : overF m k = some q) (hc : u.head = t.head ∧ ukey u = some q.2) : RowOk ts us (cont t, cont u, .bi (opr t.head) r q.1) := by
  have hh := ukey_head eu
  have tw := over_tw hm hk (ukey_wf2 hp.w0 eu) eo
  have r0 : ev ts r = some t := hp.r0
  have r1 : ev us r = some u := hp.r1
  have s0 : ev ts (.bi (opr t.head) r q.1) = some (cont t) := by
    show ((ev ts r).bind fun t => (ev ts q.1).bind (wk2 (opr _) t)) = _
    rw [r0, tw.e0, Option.bind_some, Option.bind_some, wk2_opr hp.w0 hh, if_pos ⟨rfl, eu⟩]
  have s1 : ev us (.bi (opr t.head) r q.1) = some (cont u) := by
    show ((ev us r).bind fun t => (ev us q.1).bind (wk2 (opr _) t)) = _
    rw [r1, tw.e1, Option.bind_some, Option.bind_some, wk2_opr hp.w1 hh, if_pos hc]
  exact ⟨s0, s1, ⟨opr_ok hh, hp.ok, tw.ok⟩, wf_cont hp.w0, wf_cont hp.w1, all_cont hp.s0, all_cont hp.s1⟩
theorem row_open0 {ts us : List Tr} {m : List PRow} (hm : MOk ts us m) (hk : KOk m) {t u : Tr} {r : Rc} (hp : RowOk ts us (t, u, r)) {k : Tr} {q : Rc × Tr} (eu : ukey t = some k) (eo : overF (sd 0 m) k = some q) (hc : u.head = t.head ∧ ukey u = some q.2) : RowOk ts us (cont t, cont u, .bi (opr t.head) r q.1) := row_open hm hk hp eu eo hc
theorem row_open1 {ts us : List Tr} {m : List PRow} (hm : MOk ts us m) (hk : KOk m) {t u : Tr} {r : Rc} (hp : RowOk ts us (t, u, r)) {k : Tr} {q : Rc × Tr} (eu : ukey u = some k) (eo : overF (sd 1 m) k = some q) (hc : t.head = u.head ∧ ukey t = some q.2) : RowOk ts us (cont t, cont u, .bi (opr u.head) r q.1) := (row_open hm.swap hk.swap hp.swap eu eo hc).swap
theorem opr_mem {s : Str} (h : s = "seal" ∨ s = "lock") : (s, opr s) ∈ ([("seal", "unseal"), ("lock", "unlock")] : List (Str × Str)) := by
  rcases h with rfl | rfl
  · exact List.mem_cons_self
  · show ((("lock" : Str), opr "lock") : Str × Str) ∈ _
    rw [show opr "lock" = "unlock" from by decide +kernel]
    decide +kernel
section
variable {P : Program} {w : World} {K : PySem.W.Frag} {mg : Str → Option Value} {base : Heap}
abbrev s_Pairing_opens_one : Stmt := inClass (top 45) 7
theorem sc_Pairing_opens_one : FnScope ["self", "trees", "recipe", "side", "key", "step", "other"] ["self", "trees", "recipe", "side"] (defScope s_Pairing_opens_one) := ⟨rfl, rfl, rfl, by decide +kernel, rfl, by decide +kernel, by decide +kernel⟩
theorem ok_opens1 (T : Tx w K mg) : Fm P w K mg base CX0 70 "Pairing" "opens_one" ["self", "trees", "recipe", "side"] (sp_op1 K) := by
  refine T.M_Pairing_opens_one.ok0 sc_Pairing_opens_one (fun _ _ _ _ _ _ us hl => match us, hl with | [_, _, _, _], _ => rfl)
    (fun vs H Q E h => ?_) (fun cdv A outer s H vs Q E hr h => ?_)
  · obtain ⟨S, M, TT, D0, D1, dx, q, tv, uv, rv, m, t, u, r, i, ts, us, rfl, _⟩ := h
    rfl
  · obtain ⟨S, M, TT, D0, D1, dx, q, tv, uv, rv, m, t, u, r, i, ts, us, rfl, hi, po, hq, it, iu, ir, L, mo, ko, ro, hk, k⟩ := h
    refine ⟨_, (pss_cons (ps_set (i := 4) sc_Pairing_opens_one.nd rfl (Or.inl rfl) (pe_fm (pv 0) T.k_Pairing (ok_over T 12) (hr.mono (by omega)) pass0 (pa_cons (pe_fk (ok_undoing_key T) (hr.mono (by omega)) rfl pass0 (pa_cons (pe_ix ix_tup (pv 1) (pv 3) (fun _ _ => rfl)) pa_nil)) (pa_cons (pv 3) pa_nil))))
  (pss_one (ps_if (pt_cmpR op_notN (pv 4) pe_non (nomark _))
  (pss_cons (ps_set (i := 5) sc_Pairing_opens_one.nd rfl (Or.inl rfl) (pe_tup (pa_cons (pe_ix (ix_KS T.D_OPENERS) (pe_kdS T.D_OPENERS) (pe_ix ix_tup (pe_ix ix_tup (pv 1) (pv 3) (fun _ _ => rfl)) pe_int (fun _ _ => rfl)) (fun _ _ => rfl)) (pa_cons (pv 2) (pa_cons (pe_ix ix_tup (pv 4) pe_int (fun _ _ => rfl)) pa_nil)))))
  (pss_cons (ps_set (i := 6) sc_Pairing_opens_one.nd rfl (Or.inl rfl) (pe_ix ix_tup (pv 1) (pe_op op_sub pe_int (pv 3)) (fun _ _ => rfl)))
  (pss_one (ps_if (PW.pt (pw_and (pt_cmpR op_eq (pe_ix ix_tup (pv 6) pe_int (fun _ _ => rfl)) (pe_ix ix_tup (pe_ix ix_tup (pv 1) (pv 3) (fun _ _ => rfl)) pe_int (fun _ _ => rfl)) (nomark _)) (pw_and1 (pt_cmpR (op_eqW (units500 hr (by omega))) (pe_fk (ok_undoing_key T) (hr.mono (by omega)) rfl pass0 (pa_cons (pv 6) pa_nil)) (pe_ix ix_tup (pv 4) pe_int (fun _ _ => rfl)) (nomark _)))))
  (pss_one (ps_expr (pe_fm (pv 0) T.k_Pairing (ok_comes T 12) (hr.mono (by omega)) pass0 (pa_cons (pe_tup (pa_cons (pe_ix ix_tup (pe_ix ix_tup (pv 1) pe_int (fun _ _ => rfl)) pe_int (fun _ _ => rfl)) (pa_cons (pe_ix ix_tup (pe_ix ix_tup (pv 1) pe_int (fun _ _ => rfl)) pe_int (fun _ _ => rfl)) pa_nil))) (pa_cons (pv 5) pa_nil)))))
  (pss_one (ps_fld (pv 0) (pe_tup (pa_cons pe_str (pa_cons (pv 5) pa_nil))) rfl))))))
  pss_nil))), ?_⟩
    have big : 16777216 ≤ sizeLine := by decide
    have w0 : Wf t := ro.w0
    have w1 : Wf u := ro.w1
    have dt : t.dep ≤ 12 := L.d0 _ ro.s0
    have du : u.dep ≤ 12 := L.d1 _ ro.s1
    obtain ⟨xv, ms, kv0, kv1, hS, _⟩ := id po.ex
    have hi2 : i = 0 ∨ i = 1 := by omega
    rcases hi2 with rfl | rfl
    · have hk : (ukey t).isSome = true := hk
      cases eu : ukey t with
      | none => rw [eu] at hk; cases hk
      | some ky =>
      obtain ⟨wk, dk⟩ := ukey_wf w0 eu
      have eo : opnS 0 m (t, u, r) = (match overF (sd 0 m) ky with | none => (m, none) | some q => if (u).head = (t).head ∧ ukey u = some q.2 then comesF (cont t) (cont u) (.bi (opr (t).head) r q.1) m else (m, some (.works (.bi (opr (t).head) r q.1)))) := by
        show openF m (t, u, r) = _
        unfold openF
        dsimp only
        rw [eu]
        rfl
      rw [eo] at k
      refine seqAsg ⟨_, rfl, S, dx, _, rfl, hS, pl_no (by decide +kernel) (by decide +kernel) (by decide +kernel), ?_⟩
      refine ⟨_, rfl, _, rfl, q, _, _, tv, rfl, rfl, SqT.of hq, at_of (j := 0) rfl rfl, tv, t, ky, rfl, it, w0, eu, fun kv H1 s1 ik => ?_⟩
      refine ⟨_, rfl, S, M, TT, D0, D1, dx, kv, m, none, ky, 0, ts, us, rfl, by decide, po.same s1, ik, wk, (by omega), Nat.le_refl _, L, mo, ko, fun kv2 H2 s2 ho => ?_⟩
      have S2 := s1.trans s2
      refine gName_k ?_
      try dsimp only
      cases eov : overF (sd 0 m) ky with
      | none =>
        rw [eov] at ho k
        rcases ho with ⟨_, rfl⟩ | ⟨p, e, _⟩
        · refine ⟨_, rfl, rfl, _, rfl, iteN (by decide) (nxt (k _ (BP.of_same S2) (po.same S2)))⟩
        · cases e
      | some p =>
      rw [eov] at ho k
      dsimp only at k
      rcases ho with ⟨e, _⟩ | ⟨p', e, q3, rv3, tv3, rfl, h3, ir3, it3⟩
      · cases e
      cases e
      refine ⟨_, rfl, rfl, _, rfl, iteP (by rfl) ?_⟩
      have ia2 := (it).same S2
      have ib2 := (iu).same S2
      obtain ⟨sa, a1, b1, rfl, hsa⟩ := ukey_shape eu
      obtain ⟨pa, a1v, b1v, rfl, hpa, i1, i2⟩ := ia2
      obtain ⟨pb, zb, rfl, hpb⟩ := ib2.hd
      have hq2 := S2 _ _ hq
      refine seqAsg ⟨_, rfl, _, rfl, q, _, _, _, rfl, rfl, SqT.of hq2, at_of (j := 0) rfl rfl, pa, _, _, _, rfl, rfl, SqT.of hpa, at_of (j := 0) rfl rfl, (sa, opr sa), opr_mem hsa, rfl, rfl, ?_⟩
      refine ⟨_, rfl, _, rfl, q3, _, _, _, rfl, rfl, SqT.of h3, at_of (j := 0) rfl rfl, (by show 3 ≤ sizeLine; decide), fun q4 hq4 => ?_⟩
      have s4 := Rd.Same.upd (o := .tup [.str (opr sa), rv, rv3]) hq4
      have h41 : upd H2 q4 (.tup [.str (opr sa), rv, rv3]) q4 = some (.tup [.str (opr sa), rv, rv3]) := upd_same
      generalize upd H2 q4 (.tup [.str (opr sa), rv, rv3]) = H4 at s4 h41 ⊢
      have S4 := S2.trans s4
      refine gName_k ?_
      try dsimp only
      refine seqAsg ⟨_, rfl, _, rfl, _, _, rfl, rfl, q, _, _, _, rfl, rfl, SqT.of (s4 _ _ hq2), at_of (j := 1) rfl rfl, ?_⟩
      refine gName_k ?_
      try dsimp only
      refine oneIf (b := (decide ((u).head = sa) && decide (ukey u = some p.2))) (tb_and (b := decide ((u).head = sa)) (c := decide (ukey u = some p.2)) (fun Q2 kq => ⟨_, rfl, pb, _, _, _, rfl, rfl, SqT.of (s4 _ _ hpb), at_of (j := 0) rfl rfl, _, rfl, _, rfl, q, _, _, _, rfl, rfl, SqT.of (s4 _ _ hq2), at_of (j := 0) rfl rfl, pa, _, _, _, rfl, rfl, SqT.of (s4 _ _ hpa), at_of (j := 0) rfl rfl, rfl, _, rfl, ?_⟩) (fun H5 s5 hb Q2 kq => ?_)) fun H5 s5 => ?_
      · rw [decS]
        exact kq _ (Same.refl _)
      · have hb : (u).head = sa := of_decide_eq_true hb
        have hbs : (ukey u).isSome = true := shut_ukey w1 (by rw [hb]; exact hsa)
        cases eub : ukey u with
        | none => rw [eub] at hbs; cases hbs
        | some kb =>
        obtain ⟨wkb, dkb⟩ := ukey_wf w1 eub
        obtain ⟨_, _, tw⟩ := (sd_ok (i := 0) L mo ko).tv _ _ wk eov
        have od := ((sd_ok (i := 0) L mo ko).ov _ _ wk (by omega) eov).dp
        have S5 := S4.trans s5
        refine ⟨_, rfl, _, u, kb, rfl, (iu).same S5, w1, eub, fun kv6 H6 s6 ik6 => ⟨_, rfl, q3, _, _, _, rfl, rfl, SqT.of (s6 _ _ (s5 _ _ (s4 _ _ h3))), at_of (j := 1) rfl rfl, dat kb, dat p.2, ik6.dp, (((it3.same s4).same s5).same s6).dp, wkb.layW (by omega), tw.wf.layW (by omega), _, rfl, ?_⟩⟩
        rw [eqv_dat]
        rw [eub] at kq
        have e : decide (some kb = some p.2) = decide (kb = p.2) := by by_cases e : kb = p.2 <;> simp [e]
        rw [e] at kq
        exact kq _ s6
      have S5 := S4.trans s5
      have s25 := s4.trans s5
      have po5 := po.same S5
      obtain ⟨xv5, ms5, kw0, kw1, hS5, _⟩ := id po5.ex
      have irs : IsRk K H5 (.bi (opr sa) r p.1) (.ref q4) := ⟨q4, rv, rv3, rfl, s5 _ _ h41, ir.same S5, ir3.same s25⟩
      refine ite2 (fun hc => ?_) (fun hc => ?_)
      · have hc : (u).head = sa ∧ ukey u = some p.2 := by simpa using hc
        rw [if_pos (show (u).head = (Tr.bi sa a1 b1).head ∧ ukey u = some p.2 from hc)] at k
        have ron := row_open0 mo ko ro eu eov hc
        obtain ⟨sb, c1, e1, rfl, _⟩ := ukey_shape hc.2
        obtain ⟨pb', c1v, e1v, ee, hpb', j1, j2⟩ := (iu).same S2
        cases ee
        have da : max a1.dep b1.dep + 1 ≤ 12 := dt
        have db : max c1.dep e1.dep + 1 ≤ 12 := du
        refine ⟨_, rfl, S, dx, _, rfl, hS5, pl_no (by decide +kernel) (by decide +kernel) (by decide +kernel), ?_⟩
        refine ⟨_, rfl, q, _, _, _, rfl, rfl, SqT.of (S5 _ _ hq), at_of (j := 0) rfl rfl, pa, _, _, _, rfl, rfl, SqT.of (s25 _ _ hpa), at_of (j := 1) rfl rfl, _, rfl, q, _, _, _, rfl, rfl, SqT.of (S5 _ _ hq), at_of (j := 1) rfl rfl, pb, _, _, _, rfl, rfl, SqT.of (s25 _ _ hpb'), at_of (j := 1) rfl rfl, (by show 2 ≤ sizeLine; decide), fun q7 hq7 => ?_⟩
        have s7 := Rd.Same.upd (o := .tup [a1v, c1v]) hq7
        have h71 : upd H5 q7 (.tup [a1v, c1v]) q7 = some (.tup [a1v, c1v]) := upd_same
        generalize upd H5 q7 (.tup [a1v, c1v]) = H7 at s7 h71 ⊢
        refine ⟨_, rfl, S, M, TT, D0, D1, dx, q7, _, _, _, m, none, cont (.bi sa a1 b1), cont (.bi sb c1 e1), _, ts, us, rfl, po5.same s7, h71, (i1.same s25).same s7, (j1.same s25).same s7, irs.same s7, L, mo, fun _ => ko, ron, (by show (a1).dep ≤ 12; omega), fun H8 b8 p8 => ?_⟩
        exact nxt (k _ ((BP.of_same (S5.trans s7)).trans b8) p8)
      · have hc : ¬ ((u).head = sa ∧ ukey u = some p.2) := by simpa using hc
        rw [if_neg (show ¬ ((u).head = (Tr.bi sa a1 b1).head ∧ ukey u = some p.2) from hc)] at k
        refine ⟨_, rfl, (by show 2 ≤ sizeLine; decide), fun q7 hq7 => ?_⟩
        have s7 := Rd.Same.upd (o := .tup [.str "works", .ref q4]) hq7
        have h71 : upd H5 q7 (.tup [.str "works", .ref q4]) q7 = some (.tup [.str "works", .ref q4]) := upd_same
        generalize upd H5 q7 (.tup [.str "works", .ref q4]) = H7 at s7 h71 ⊢
        obtain ⟨p1, p2⟩ := (po5.same s7).set (y := some (.works (.bi (opr sa) r p.1))) (yv := .ref q7) ⟨q7, .ref q4, rfl, h71, irs.same s7⟩
        refine ⟨_, rfl, S, _, dx, _, rfl, s7 _ _ hS5, T.k_Pairing, T.n_Pairing_test, (by show 3 < 1000; decide), ?_⟩
        rw [pl_put]
        exact nxt (k _ ((BP.of_same (S5.trans s7)).trans p2) p1)
    · have hk : (ukey u).isSome = true := hk
      cases eu : ukey u with
      | none => rw [eu] at hk; cases hk
      | some ky =>
      obtain ⟨wk, dk⟩ := ukey_wf w1 eu
      have eo : opnS 1 m (t, u, r) = (match overF (sd 1 m) ky with | none => (m, none) | some q => if (t).head = (u).head ∧ ukey t = some q.2 then comesF (cont t) (cont u) (.bi (opr (u).head) r q.1) m else (m, some (.works (.bi (opr (u).head) r q.1)))) := by
        show openF1 m (t, u, r) = _
        unfold openF1
        dsimp only
        rw [eu]
        rfl
      rw [eo] at k
      refine seqAsg ⟨_, rfl, S, dx, _, rfl, hS, pl_no (by decide +kernel) (by decide +kernel) (by decide +kernel), ?_⟩
      refine ⟨_, rfl, _, rfl, q, _, _, uv, rfl, rfl, SqT.of hq, at_of (j := 1) rfl rfl, uv, u, ky, rfl, iu, w1, eu, fun kv H1 s1 ik => ?_⟩
      refine ⟨_, rfl, S, M, TT, D0, D1, dx, kv, m, none, ky, 1, ts, us, rfl, by decide, po.same s1, ik, wk, (by omega), Nat.le_refl _, L, mo, ko, fun kv2 H2 s2 ho => ?_⟩
      have S2 := s1.trans s2
      refine gName_k ?_
      try dsimp only
      cases eov : overF (sd 1 m) ky with
      | none =>
        rw [eov] at ho k
        rcases ho with ⟨_, rfl⟩ | ⟨p, e, _⟩
        · refine ⟨_, rfl, rfl, _, rfl, iteN (by decide) (nxt (k _ (BP.of_same S2) (po.same S2)))⟩
        · cases e
      | some p =>
      rw [eov] at ho k
      dsimp only at k
      rcases ho with ⟨e, _⟩ | ⟨p', e, q3, rv3, tv3, rfl, h3, ir3, it3⟩
      · cases e
      cases e
      refine ⟨_, rfl, rfl, _, rfl, iteP (by rfl) ?_⟩
      have ia2 := (iu).same S2
      have ib2 := (it).same S2
      obtain ⟨sa, a1, b1, rfl, hsa⟩ := ukey_shape eu
      obtain ⟨pa, a1v, b1v, rfl, hpa, i1, i2⟩ := ia2
      obtain ⟨pb, zb, rfl, hpb⟩ := ib2.hd
      have hq2 := S2 _ _ hq
      refine seqAsg ⟨_, rfl, _, rfl, q, _, _, _, rfl, rfl, SqT.of hq2, at_of (j := 1) rfl rfl, pa, _, _, _, rfl, rfl, SqT.of hpa, at_of (j := 0) rfl rfl, (sa, opr sa), opr_mem hsa, rfl, rfl, ?_⟩
      refine ⟨_, rfl, _, rfl, q3, _, _, _, rfl, rfl, SqT.of h3, at_of (j := 0) rfl rfl, (by show 3 ≤ sizeLine; decide), fun q4 hq4 => ?_⟩
      have s4 := Rd.Same.upd (o := .tup [.str (opr sa), rv, rv3]) hq4
      have h41 : upd H2 q4 (.tup [.str (opr sa), rv, rv3]) q4 = some (.tup [.str (opr sa), rv, rv3]) := upd_same
      generalize upd H2 q4 (.tup [.str (opr sa), rv, rv3]) = H4 at s4 h41 ⊢
      have S4 := S2.trans s4
      refine gName_k ?_
      try dsimp only
      refine seqAsg ⟨_, rfl, _, rfl, _, _, rfl, rfl, q, _, _, _, rfl, rfl, SqT.of (s4 _ _ hq2), at_of (j := 0) rfl rfl, ?_⟩
      refine gName_k ?_
      try dsimp only
      refine oneIf (b := (decide ((t).head = sa) && decide (ukey t = some p.2))) (tb_and (b := decide ((t).head = sa)) (c := decide (ukey t = some p.2)) (fun Q2 kq => ⟨_, rfl, pb, _, _, _, rfl, rfl, SqT.of (s4 _ _ hpb), at_of (j := 0) rfl rfl, _, rfl, _, rfl, q, _, _, _, rfl, rfl, SqT.of (s4 _ _ hq2), at_of (j := 1) rfl rfl, pa, _, _, _, rfl, rfl, SqT.of (s4 _ _ hpa), at_of (j := 0) rfl rfl, rfl, _, rfl, ?_⟩) (fun H5 s5 hb Q2 kq => ?_)) fun H5 s5 => ?_
      · rw [decS]
        exact kq _ (Same.refl _)
      · have hb : (t).head = sa := of_decide_eq_true hb
        have hbs : (ukey t).isSome = true := shut_ukey w0 (by rw [hb]; exact hsa)
        cases eub : ukey t with
        | none => rw [eub] at hbs; cases hbs
        | some kb =>
        obtain ⟨wkb, dkb⟩ := ukey_wf w0 eub
        obtain ⟨_, _, tw⟩ := (sd_ok (i := 1) L mo ko).tv _ _ wk eov
        have od := ((sd_ok (i := 1) L mo ko).ov _ _ wk (by omega) eov).dp
        have S5 := S4.trans s5
        refine ⟨_, rfl, _, t, kb, rfl, (it).same S5, w0, eub, fun kv6 H6 s6 ik6 => ⟨_, rfl, q3, _, _, _, rfl, rfl, SqT.of (s6 _ _ (s5 _ _ (s4 _ _ h3))), at_of (j := 1) rfl rfl, dat kb, dat p.2, ik6.dp, (((it3.same s4).same s5).same s6).dp, wkb.layW (by omega), tw.wf.layW (by omega), _, rfl, ?_⟩⟩
        rw [eqv_dat]
        rw [eub] at kq
        have e : decide (some kb = some p.2) = decide (kb = p.2) := by by_cases e : kb = p.2 <;> simp [e]
        rw [e] at kq
        exact kq _ s6
      have S5 := S4.trans s5
      have s25 := s4.trans s5
      have po5 := po.same S5
      obtain ⟨xv5, ms5, kw0, kw1, hS5, _⟩ := id po5.ex
      have irs : IsRk K H5 (.bi (opr sa) r p.1) (.ref q4) := ⟨q4, rv, rv3, rfl, s5 _ _ h41, ir.same S5, ir3.same s25⟩
      refine ite2 (fun hc => ?_) (fun hc => ?_)
      · have hc : (t).head = sa ∧ ukey t = some p.2 := by simpa using hc
        rw [if_pos (show (t).head = (Tr.bi sa a1 b1).head ∧ ukey t = some p.2 from hc)] at k
        have ron := row_open1 mo ko ro eu eov hc
        obtain ⟨sb, c1, e1, rfl, _⟩ := ukey_shape hc.2
        obtain ⟨pb', c1v, e1v, ee, hpb', j1, j2⟩ := (it).same S2
        cases ee
        have da : max a1.dep b1.dep + 1 ≤ 12 := du
        have db : max c1.dep e1.dep + 1 ≤ 12 := dt
        refine ⟨_, rfl, S, dx, _, rfl, hS5, pl_no (by decide +kernel) (by decide +kernel) (by decide +kernel), ?_⟩
        refine ⟨_, rfl, q, _, _, _, rfl, rfl, SqT.of (S5 _ _ hq), at_of (j := 0) rfl rfl, pb, _, _, _, rfl, rfl, SqT.of (s25 _ _ hpb'), at_of (j := 1) rfl rfl, _, rfl, q, _, _, _, rfl, rfl, SqT.of (S5 _ _ hq), at_of (j := 1) rfl rfl, pa, _, _, _, rfl, rfl, SqT.of (s25 _ _ hpa), at_of (j := 1) rfl rfl, (by show 2 ≤ sizeLine; decide), fun q7 hq7 => ?_⟩
        have s7 := Rd.Same.upd (o := .tup [c1v, a1v]) hq7
        have h71 : upd H5 q7 (.tup [c1v, a1v]) q7 = some (.tup [c1v, a1v]) := upd_same
        generalize upd H5 q7 (.tup [c1v, a1v]) = H7 at s7 h71 ⊢
        refine ⟨_, rfl, S, M, TT, D0, D1, dx, q7, _, _, _, m, none, cont (.bi sb c1 e1), cont (.bi sa a1 b1), _, ts, us, rfl, po5.same s7, h71, (j1.same s25).same s7, (i1.same s25).same s7, irs.same s7, L, mo, fun _ => ko, ron, (by show (c1).dep ≤ 12; omega), fun H8 b8 p8 => ?_⟩
        exact nxt (k _ ((BP.of_same (S5.trans s7)).trans b8) p8)
      · have hc : ¬ ((t).head = sa ∧ ukey t = some p.2) := by simpa using hc
        rw [if_neg (show ¬ ((t).head = (Tr.bi sa a1 b1).head ∧ ukey t = some p.2) from hc)] at k
        refine ⟨_, rfl, (by show 2 ≤ sizeLine; decide), fun q7 hq7 => ?_⟩
        have s7 := Rd.Same.upd (o := .tup [.str "works", .ref q4]) hq7
        have h71 : upd H5 q7 (.tup [.str "works", .ref q4]) q7 = some (.tup [.str "works", .ref q4]) := upd_same
        generalize upd H5 q7 (.tup [.str "works", .ref q4]) = H7 at s7 h71 ⊢
        obtain ⟨p1, p2⟩ := (po5.same s7).set (y := some (.works (.bi (opr sa) r p.1))) (yv := .ref q7) ⟨q7, .ref q4, rfl, h71, irs.same s7⟩
        refine ⟨_, rfl, S, _, dx, _, rfl, s7 _ _ hS5, T.k_Pairing, T.n_Pairing_test, (by show 3 < 1000; decide), ?_⟩
        rw [pl_put]
        exact nxt (k _ ((BP.of_same (S5.trans s7)).trans p2) p1)
end
end Rd
namespace Rd
open PySem L2
def stS (i : Nat) (st : PSt) (p : PRow) : PSt :=
  match st with
  | (m, some x) => (m, some x)
  | (m, none) => opnS i m p
theorem opStep_two (st : PSt) (p : PRow) : opStep st p = stS 1 (stS 0 st p) p := by
  obtain ⟨m, x⟩ := st
  cases x with
  | some y => rfl
  | none =>
    show (match openF m p with | (m1, some x) => (m1, some x) | (m1, none) => openF1 m1 p) = stS 1 (openF m p) p
    generalize openF m p = st1
    obtain ⟨m1, x1⟩ := st1
    cases x1 <;> rfl
/-- what holds amid the opening -/
structure Amid (ts us : List Tr) (m : List PRow) (st : PSt) : Prop where
  ok : MOk ts us st.1
  kok : st.2 = none → KOk st.1
  ext : ∃ n, st.1 = m ++ n
theorem opnS_grow {ts us : List Tr} {m : List PRow} (hm : MOk ts us m) (hk : KOk m) {p : PRow} (hp : RowOk ts us p) (i : Nat) : Grow ts us m (opnS i m p) := by
  unfold opnS
  by_cases e : i = 0
  · rw [if_pos e]; exact (open_res hm hk hp).1
  · rw [if_neg e]; exact (open1_res hm hk hp).1
theorem stS_amid {ts us : List Tr} {m : List PRow} {st : PSt} (h : Amid ts us m st) {p : PRow} (hp : RowOk ts us p) (i : Nat) : Amid ts us m (stS i st p) := by
  obtain ⟨m1, x⟩ := st
  cases x with
  | some y => exact h
  | none =>
    have g := opnS_grow h.ok (h.kok rfl) hp i
    obtain ⟨n, e⟩ := h.ext
    obtain ⟨n2, e2⟩ := g.ext
    have e : m1 = m ++ n := e
    exact ⟨g.ok, g.kok, n ++ n2, by show (opnS i m1 p).1 = _; rw [e2, e, List.append_assoc]⟩
theorem opnS_shut {m : List PRow} {p : PRow} {i : Nat} (h : (ukey (if i = 0 then p.1 else p.2.1)).isSome = false) : opnS i m p = (m, none) := by
  unfold opnS
  by_cases e : i = 0
  · rw [if_pos e] at h ⊢
    unfold openF
    cases eu : ukey p.1 with
    | none => rfl
    | some k => rw [eu] at h; cases h
  · rw [if_neg e] at h ⊢
    unfold openF1
    cases eu : ukey p.2.1 with
    | none => rfl
    | some k => rw [eu] at h; cases h
def sp_opens (K : PySem.W.Frag) : Sp := fun vs H Q _ => ∃ (S M TT D0 D1 dx : Addr) (m : List PRow) (ts us : List Tr), vs = [.ref S] ∧ PO K S M TT D0 D1 dx H m none ∧ Lim ts us ∧ MOk ts us m ∧ KOk m ∧
  ∀ H', BP S M D0 D1 H H' → PO K S M TT D0 D1 dx H' (opensF m).1 (opensF m).2 → Q (.bl (decide ((opensF m).2.isNone = true ∧ m.length ≠ (opensF m).1.length))) H'
section
variable {P : Program} {w : World} {K : PySem.W.Frag} {mg : Str → Option Value} {base : Heap}
abbrev s_Pairing_opens : Stmt := inClass (top 45) 6
theorem sc_Pairing_opens : FnScope ["self", "many", "trees", "recipe", "side"] ["self"] (defScope s_Pairing_opens) := ⟨rfl, rfl, rfl, by decide +kernel, rfl, by decide +kernel, by decide +kernel⟩
theorem ok_opens (T : Tx w K mg) : Fm P w K mg base CX0 72 "Pairing" "opens" ["self"] (sp_opens K) := by
  refine T.M_Pairing_opens.ok0 sc_Pairing_opens (fun _ _ _ _ _ _ us hl => match us, hl with | [_], _ => rfl)
    (fun vs H Q E h => ?_) (fun cdv A outer s H vs Q E hr h => ?_)
  · obtain ⟨S, M, TT, D0, D1, dx, m, ts, us, rfl, _⟩ := h
    rfl
  · obtain ⟨S, M, TT, D0, D1, dx, m, ts, us, rfl, po, L, mo, ko, k⟩ := h
    refine ⟨_, (pss_cons (ps_set (i := 1) sc_Pairing_opens.nd rfl (Or.inl rfl) (pe_callB call_len_seq (by rfl) T.z_len (by decide +kernel) (pa_cons (pe_fld (pv 0) rfl) pa_nil)))
  (pss_cons (ps_for PassesOwn.never rfl (pi_list (pe_callTy call_list_of (by rfl) T.z_list (by decide +kernel) (pa_cons (pe_fld (pv 0) rfl) pa_nil))) (pg_tup rfl (pgs_cons (pg_name (i := 2) sc_Pairing_opens.nd rfl (Or.inl rfl)) (pgs_cons (pg_name (i := 3) sc_Pairing_opens.nd rfl (Or.inl rfl)) pgs_nil)))
  (pss_one (ps_for PassesOwn.never rfl (pi_range1 rfl T.z_range (pa_cons pe_int pa_nil)) (pg_name (i := 4) sc_Pairing_opens.nd rfl (Or.inl rfl))
  (pss_one (ps_if (PW.pt (pw_and (pt_cmpR op_isN (pe_fld (pv 0) rfl) pe_non (nomark _)) (pw_and1 (pt_cmpR op_inT (pe_ix ix_tup (pe_ix ix_tup (pv 2) (pv 4) (fun _ _ => rfl)) pe_int (fun _ _ => rfl)) (pe_ktk (K := K) rfl T.U_SHUT) (by rfl)))))
  (pss_one (ps_expr (pe_fm (pv 0) T.k_Pairing (ok_opens1 T) (hr.mono (by omega)) pass0 (pa_cons (pv 2) (pa_cons (pv 3) (pa_cons (pv 4) pa_nil))))))
  pss_nil)))))
  (pss_one (ps_ret (pe_and (pe_cmpR op_isN (pe_fld (pv 0) rfl) pe_non (nomark _)) (pe_one (pe_cmpR op_ne (pv 1) (pe_callB call_len_seq (by rfl) T.z_len (by decide +kernel) (pa_cons (pe_fld (pv 0) rfl) pa_nil)) (nomark _)))))))), ?_⟩
    have big : 16777216 ≤ sizeLine := by decide
    obtain ⟨ms, kv0, kv1, p3⟩ := po.p3
    obtain ⟨xv, hS, htst⟩ := p3.ex
    refine seqAsg ⟨_, rfl, S, _, dx, _, _, rfl, hS, T.k_Pairing, T.n_Pairing_met, pl_met, M, _, rfl, .inl (SqL.of p3.hM), ?_⟩
    refine gName_k ?_
    try dsimp only
    refine ⟨_, rfl, S, _, dx, _, _, rfl, hS, T.k_Pairing, T.n_Pairing_met, pl_met, M, ms, rfl, .inl (SqL.of p3.hM), fun C hC => ?_⟩
    have sC := Rd.Same.upd (o := .lst ms) hC
    have hCC : upd H C (.lst ms) C = some (.lst ms) := upd_same
    have nS : C ≠ S := fun z => by rw [z, hS] at hC; cases hC
    have nM : C ≠ M := fun z => by rw [z, p3.hM] at hC; cases hC
    have n0 : C ≠ D0 := fun z => by rw [z, p3.h0] at hC; cases hC
    have n1 : C ≠ D1 := fun z => by rw [z, p3.h1] at hC; cases hC
    generalize upd H C (.lst ms) = H1 at sC hCC ⊢
    have poC := po.same sC
    have am := p3.am
    have lm : ms.length = m.length := am.len
    refine ⟨C, rfl, ⟨_, SqL.of hCC⟩, ?_⟩
    refine for_list (xs := ms) (fun i σ Hc => ∃ (t2 t3 t4 : Option V), σ = [some (.ref S), some (.int (ms.length : Int)), t2, t3, t4] ∧ BP S M D0 D1 H1 Hc ∧ PO K S M TT D0 D1 dx Hc ((m.take i).foldl opStep (m, none)).1 ((m.take i).foldl opStep (m, none)).2 ∧ Amid ts us m ((m.take i).foldl opStep (m, none))) ⟨_, _, _, rfl, BP.refl, poC, mo, fun _ => ko, [], (List.append_nil m).symm⟩ ?_ ?_ ?_
    · rintro i σ Hc hi ⟨t2, t3, t4, rfl, bc, pc, ac⟩
      exact SqL.of (bc _ _ nS nM n0 n1 hCC)
    · rintro i x σ Hc hx ⟨t2, t3, t4, rfl, bc, pc, ac⟩
      have hil : i < m.length := by rw [← lm]; exact (List.getElem?_eq_some_iff.mp hx).1
      have hw : m[i]? = some m[i] := List.getElem?_eq_getElem hil
      have hmem := List.mem_of_getElem? hw
      have row := (am.get i _ _ hw hx).kq ((Kq.of_same sC).trans (poC.kq bc))
      have ro0 := mo.row _ hmem
      have et : (m.take (i + 1)).foldl opStep (m, none) = opStep ((m.take i).foldl opStep (m, none)) m[i] := by
        rw [List.take_add_one, hw, List.foldl_append]
        rfl
      rw [opStep_two] at et
      generalize m[i] = ww at row ro0 et hw hmem
      obtain ⟨t, u, r⟩ := ww
      obtain ⟨p, q, tv, uv, rv, rfl, h1, h2, i1, i2, i3⟩ := row
      have ro : RowOk ts us (t, u, r) := ro0
      generalize (m.take i).foldl opStep (m, none) = st at pc ac et
      refine ⟨p, _, rfl, SqT.of h1, rfl, _, _, rfl, _, _, rfl, rfl, ?_⟩
      try dsimp only
      refine ⟨2, rfl, by decide, by decide, for_range (n := 2) (fun j σ Hd => ∃ t4 : Option V, σ = [some (.ref S), some (.int (ms.length : Int)), some (.ref q), some rv, t4] ∧ BP S M D0 D1 Hc Hd ∧ PO K S M TT D0 D1 dx Hd (if j = 0 then st else if j = 1 then stS 0 st (t, u, r) else stS 1 (stS 0 st (t, u, r)) (t, u, r)).1 (if j = 0 then st else if j = 1 then stS 0 st (t, u, r) else stS 1 (stS 0 st (t, u, r)) (t, u, r)).2 ∧ Amid ts us m (if j = 0 then st else if j = 1 then stS 0 st (t, u, r) else stS 1 (stS 0 st (t, u, r)) (t, u, r))) ⟨_, rfl, BP.refl, pc, ac⟩ ?_ ?_⟩
      · rintro j σ Hd hj ⟨t4, rfl, bd, pd, am1⟩
        have Kd := pc.kq bd
        refine gName_k ?_
        try dsimp only
        have hj2 : j = 0 ∨ j = 1 := by omega
        rcases hj2 with rfl | rfl
        · have pd : PO K S M TT D0 D1 dx Hd st.1 st.2 := pd
          have am1 : Amid ts us m st := am1
          obtain ⟨xvc, msc, kc0, kc1, hSc, htc, _⟩ := id pd.ex
          generalize st = st1 at pd am1 htc ⊢
          · obtain ⟨m1, x1⟩ := st1
            cases x1 with
            | some y =>
              obtain ⟨yp, rfl⟩ := htc.some
              refine ⟨_, rfl, S, _, dx, _, _, rfl, hSc, T.k_Pairing, T.n_Pairing_test, pl_tst, rfl, ⟨_, rfl, ?_⟩⟩
              try dsimp only
              refine iteN (c := (decide (V.ref yp = V.non)) = true) (by simp) ?_
              exact iteN (by decide) (nxt ⟨_, rfl, bd, pd, am1⟩)
            | none =>
              cases htc
              refine ⟨_, rfl, S, _, dx, _, _, rfl, hSc, T.k_Pairing, T.n_Pairing_test, pl_tst, rfl, ⟨_, rfl, ?_⟩⟩
              try dsimp only
              refine iteP (c := (decide (V.non = V.non)) = true) (by simp) ?_
              obtain ⟨pa, za, rfl, hpa⟩ := (i1.kq Kd).hd
              refine ⟨_, rfl, _, rfl, q, _, _, _, rfl, rfl, SqT.of (Kd _ _ h2), at_of (j := 0) rfl rfl, pa, _, _, _, rfl, rfl, SqT.of hpa, at_of (j := 0) rfl rfl, _, He.ga K "SHUT", ["seal", "lock"], rfl, rfl, T.U_SHUT.tp _, _, rfl, ?_⟩
              by_cases hh : t.head ∈ (["seal", "lock"] : List Str)
              · refine iteP (by rw [decide_eq_true hh]) ?_
                have hh2 : t.head = "seal" ∨ t.head = "lock" := by simpa using hh
                refine ⟨_, rfl, S, dx, _, rfl, hSc, pl_no (by decide +kernel) (by decide +kernel) (by decide +kernel), _, rfl, _, rfl, _, rfl, S, M, TT, D0, D1, dx, q, _, _, rv, m1, t, u, r, 0, ts, us, rfl, by decide, pd, Kd _ _ h2, i1.kq Kd, i2.kq Kd, i3.kq Kd, L, am1.ok, am1.kok rfl, ro, shut_ukey ro.w0 hh2, fun H9 b9 p9 => ?_⟩
                exact nxt ⟨_, rfl, bd.trans b9, p9, stS_amid am1 ro 0⟩
              · refine iteN (by rw [decide_eq_false hh]; decide) (nxt ?_)
                have eo : opnS 0 m1 (t, u, r) = (m1, none) := opnS_shut (by
                  show (ukey t).isSome = false
                  cases eu : ukey t with
                  | none => rfl
                  | some k => exact absurd (by have := ukey_head eu; simpa using this) hh)
                have es : stS 0 (m1, none) (t, u, r) = (m1, none) := eo
                have pd2 : PO K S M TT D0 D1 dx Hd (stS 0 (m1, none) (t, u, r)).1 (stS 0 (m1, none) (t, u, r)).2 := by rw [es]; exact pd
                exact ⟨_, rfl, bd, pd2, stS_amid am1 ro 0⟩
        · have pd : PO K S M TT D0 D1 dx Hd (stS 0 st (t, u, r)).1 (stS 0 st (t, u, r)).2 := pd
          have am1 : Amid ts us m (stS 0 st (t, u, r)) := am1
          obtain ⟨xvc, msc, kc0, kc1, hSc, htc, _⟩ := id pd.ex
          generalize stS 0 st (t, u, r) = st1 at pd am1 htc ⊢
          · obtain ⟨m1, x1⟩ := st1
            cases x1 with
            | some y =>
              obtain ⟨yp, rfl⟩ := htc.some
              refine ⟨_, rfl, S, _, dx, _, _, rfl, hSc, T.k_Pairing, T.n_Pairing_test, pl_tst, rfl, ⟨_, rfl, ?_⟩⟩
              try dsimp only
              refine iteN (c := (decide (V.ref yp = V.non)) = true) (by simp) ?_
              exact iteN (by decide) (nxt ⟨_, rfl, bd, pd, am1⟩)
            | none =>
              cases htc
              refine ⟨_, rfl, S, _, dx, _, _, rfl, hSc, T.k_Pairing, T.n_Pairing_test, pl_tst, rfl, ⟨_, rfl, ?_⟩⟩
              try dsimp only
              refine iteP (c := (decide (V.non = V.non)) = true) (by simp) ?_
              obtain ⟨pa, za, rfl, hpa⟩ := (i2.kq Kd).hd
              refine ⟨_, rfl, _, rfl, q, _, _, _, rfl, rfl, SqT.of (Kd _ _ h2), at_of (j := 1) rfl rfl, pa, _, _, _, rfl, rfl, SqT.of hpa, at_of (j := 0) rfl rfl, _, He.ga K "SHUT", ["seal", "lock"], rfl, rfl, T.U_SHUT.tp _, _, rfl, ?_⟩
              by_cases hh : u.head ∈ (["seal", "lock"] : List Str)
              · refine iteP (by rw [decide_eq_true hh]) ?_
                have hh2 : u.head = "seal" ∨ u.head = "lock" := by simpa using hh
                refine ⟨_, rfl, S, dx, _, rfl, hSc, pl_no (by decide +kernel) (by decide +kernel) (by decide +kernel), _, rfl, _, rfl, _, rfl, S, M, TT, D0, D1, dx, q, _, _, rv, m1, t, u, r, 1, ts, us, rfl, by decide, pd, Kd _ _ h2, i1.kq Kd, i2.kq Kd, i3.kq Kd, L, am1.ok, am1.kok rfl, ro, shut_ukey ro.w1 hh2, fun H9 b9 p9 => ?_⟩
                exact nxt ⟨_, rfl, bd.trans b9, p9, stS_amid am1 ro 1⟩
              · refine iteN (by rw [decide_eq_false hh]; decide) (nxt ?_)
                have eo : opnS 1 m1 (t, u, r) = (m1, none) := opnS_shut (by
                  show (ukey u).isSome = false
                  cases eu : ukey u with
                  | none => rfl
                  | some k => exact absurd (by have := ukey_head eu; simpa using this) hh)
                have es : stS 1 (m1, none) (t, u, r) = (m1, none) := eo
                have pd2 : PO K S M TT D0 D1 dx Hd (stS 1 (m1, none) (t, u, r)).1 (stS 1 (m1, none) (t, u, r)).2 := by rw [es]; exact pd
                exact ⟨_, rfl, bd, pd2, stS_amid am1 ro 1⟩
      · rintro σ Hd ⟨t4, rfl, bd, pd, am1⟩
        refine ⟨_, _, _, rfl, bc.trans bd, ?_, ?_⟩
        · rw [et]; exact pd
        · rw [et]; exact am1
    · rintro σ Hc ⟨t2, t3, t4, rfl, bc, pc, ac⟩
      have ea : (m.take ms.length).foldl opStep (m, none) = opensF m := by
        rw [lm, List.take_length]
        rfl
      rw [ea] at pc ac
      obtain ⟨xvc, msc, kc0, kc1, hSc, htc, hMc, hmc, _⟩ := id pc.ex
      cases ex : (opensF m).2 with
      | some y =>
        rw [ex] at htc
        obtain ⟨yp, rfl⟩ := htc.some
        refine ⟨_, rfl, S, _, dx, _, _, rfl, hSc, T.k_Pairing, T.n_Pairing_test, pl_tst, rfl, ?_⟩
        refine ⟨_, rfl, iteN (by simp) ?_⟩
        have e : decide ((opensF m).2.isNone = true ∧ m.length ≠ (opensF m).1.length) = decide (V.ref yp = V.non) := by rw [ex]; simp
        rw [e] at k
        exact k _ ((BP.of_same sC).trans bc) pc
      | none =>
        rw [ex] at htc
        cases htc
        refine ⟨_, rfl, S, _, dx, _, _, rfl, hSc, T.k_Pairing, T.n_Pairing_test, pl_tst, rfl, ?_⟩
        refine ⟨_, rfl, iteP (by simp) ?_⟩
        refine ⟨_, rfl, _, rfl, S, _, dx, _, _, rfl, hSc, T.k_Pairing, T.n_Pairing_met, pl_met, M, _, rfl, .inl (SqL.of hMc), ?_⟩
        refine ⟨rfl, ?_⟩
        have lmc : msc.length = (opensF m).1.length := hmc.len
        have e : decide ((opensF m).2.isNone = true ∧ m.length ≠ (opensF m).1.length) = !decide (V.int (ms.length : Int) = V.int (msc.length : Int)) := by
          rw [ex, lm, lmc]
          by_cases z : m.length = (opensF m).1.length
          · rw [decide_eq_false (fun y => y.2 z), z]; simp
          · rw [decide_eq_true ⟨rfl, z⟩, decide_eq_false (fun y => z (by have := V.int.inj y; omega))]; rfl
        rw [e] at k
        exact k _ ((BP.of_same sC).trans bc) pc
end
end Rd
namespace Rd
open PySem L2
def lkS (i : Nat) (m : List PRow) (p : PRow) : Option Tst := if i = 0 then lookF m p else lookF (sws m) (swp p)
/-- only the Pairing itself is changed -/
def BX (S : Addr) (H H' : Hp) : Prop := ∀ c o, c ≠ S → H c = some o → H' c = some o
theorem BX.refl {S : Addr} {H : Hp} : BX S H H := fun _ _ _ e => e
theorem BX.trans {S : Addr} {H H1 H2 : Hp} (a : BX S H H1) (b : BX S H1 H2) : BX S H H2 := fun c o h e => b c o h (a c o h e)
theorem BX.of_same {S : Addr} {H H' : Hp} (s : Same H H') : BX S H H' := fun c o _ e => s _ _ e
theorem BX.upd {S : Addr} {H : Hp} {o : HO} : BX S H (upd H S o) := fun c o' h e => by rw [upd_ne h]; exact e
theorem BX.bp {S M D0 D1 : Addr} {H H' : Hp} (h : BX S H H') : BP S M D0 D1 H H' := fun c o h1 _ _ _ e => h c o h1 e
def sp_look (K : PySem.W.Frag) : Sp := fun vs H Q _ => ∃ (S M TT D0 D1 dx q : Addr) (tv uv rv : V) (m : List PRow) (t u : Tr) (r : Rc) (i : Nat) (ts us : List Tr), vs = [.ref S, .ref q, rv, .int (i : Int)] ∧ i < 2 ∧ PO K S M TT D0 D1 dx H m none ∧ H q = some (.tup [tv, uv]) ∧ IsT H t tv ∧ IsT H u uv ∧ IsRk K H r rv ∧ Lim ts us ∧ MOk ts us m ∧ KOk m ∧ (t, u, r) ∈ m ∧
  ∀ H', BX S H H' → PO K S M TT D0 D1 dx H' m (lkS i m (t, u, r)) → Q .non H'
theorem OvV.some? {K : PySem.W.Frag} {H : Hp} {o : Option (Rc × Tr)} {v : V} (h : OvV K H o v) : (!decide (v = V.non)) = o.isSome := by
  rcases h with ⟨rfl, rfl⟩ | ⟨p, rfl, q, rv, tv, rfl, _⟩
  · rfl
  · rfl
def lkO (o : Option (Rc × Tr)) (l : Option Tr) (r : Rc) : Option Tst :=
  match o with
  | some q => if l ≠ some q.2 then some (.works (.bi "unlock" (.bi "lock" (.wd "a") r) q.1)) else none
  | none => none
theorem lkey_key {b : Tr} {s : Str} {k : Tr} (e : b = .un s k) (hs : s ∈ (["open", "own"] : List Str)) : lkey b = some (.un (prt s) k) := by
  subst e
  have hs : s = "open" ∨ s = "own" := by simpa using hs
  rcases hs with rfl | rfl <;> rfl
section
variable {P : Program} {w : World} {K : PySem.W.Frag} {mg : Str → Option Value} {base : Heap}
abbrev s_Pairing_looks_at : Stmt := inClass (top 45) 8
theorem sc_Pairing_looks_at : FnScope ["self", "trees", "recipe", "side", "built", "key"] ["self", "trees", "recipe", "side"] (defScope s_Pairing_looks_at) := ⟨rfl, rfl, rfl, by decide +kernel, rfl, by decide +kernel, by decide +kernel⟩
theorem ok_looks1 (T : Tx w K mg) : Fm P w K mg base CX0 70 "Pairing" "looks_at" ["self", "trees", "recipe", "side"] (sp_look K) := by
  refine T.M_Pairing_looks_at.ok0 sc_Pairing_looks_at (fun _ _ _ _ _ _ us hl => match us, hl with | [_, _, _, _], _ => rfl)
    (fun vs H Q E h => ?_) (fun cdv A outer s H vs Q E hr h => ?_)
  · obtain ⟨S, M, TT, D0, D1, dx, q, tv, uv, rv, m, t, u, r, i, ts, us, rfl, _⟩ := h
    rfl
  · obtain ⟨S, M, TT, D0, D1, dx, q, tv, uv, rv, m, t, u, r, i, ts, us, rfl, hi, po, hq, it, iu, ir, L, mo, ko, hmem, k⟩ := h
    refine ⟨_, (pss_cons (ps_set (i := 4) sc_Pairing_looks_at.nd rfl (Or.inl rfl) (pe_fm (pv 0) T.k_Pairing (ok_built T 12) (hr.mono (by omega)) pass0 (pa_cons (pe_ix ix_tup (pv 1) (pv 3) (fun _ _ => rfl)) (pa_cons (pv 3) pa_nil))))
  (pss_one (ps_if (PW.pt (pw_and (pt_cmpR op_notN (pv 4) pe_non (nomark _)) (pw_and1 (pt_cmpR (op_neW (units500 hr (by omega))) (pe_ix ix_tup (pv 4) pe_int (fun _ _ => rfl)) (pe_ix ix_tup (pv 1) (pe_op op_sub pe_int (pv 3)) (fun _ _ => rfl)) (nomark _)))))
  (pss_one (ps_fld (pv 0) (pe_tup (pa_cons pe_str (pa_cons (pv 2) (pa_cons (pe_ix ix_tup (pv 4) pe_int (fun _ _ => rfl)) pa_nil)))) rfl))
  (pss_one (ps_if (pt_cmpR op_eq (pe_ix ix_tup (pe_ix ix_tup (pv 1) (pv 3) (fun _ _ => rfl)) pe_int (fun _ _ => rfl)) pe_str (nomark _))
  (pss_cons (ps_set (i := 5) sc_Pairing_looks_at.nd rfl (Or.inl rfl) (pe_fm (pv 0) T.k_Pairing (ok_over T 12) (hr.mono (by omega)) pass0 (pa_cons (pe_tup (pa_cons pe_str (pa_cons (pe_ix ix_tup (pe_ix ix_tup (pv 1) (pv 3) (fun _ _ => rfl)) pe_int (fun _ _ => rfl)) pa_nil))) (pa_cons (pv 3) pa_nil))))
  (pss_one (ps_if (PW.pt (pw_and (pt_cmpR op_notN (pv 5) pe_non (nomark _)) (pw_and1 (pt_cmpR (op_neW (units500 hr (by omega))) (pe_ix ix_tup (pv 5) pe_int (fun _ _ => rfl)) (pe_fk (ok_partner T) (hr.mono (by omega)) rfl pass0 (pa_cons (pe_ix ix_tup (pv 1) (pe_op op_sub pe_int (pv 3)) (fun _ _ => rfl)) pa_nil)) (nomark _)))))
  (pss_one (ps_fld (pv 0) (pe_tup (pa_cons pe_str (pa_cons (pe_tup (pa_cons pe_str (pa_cons (pe_tup (pa_cons pe_str (pa_cons (pe_ktk (K := K) rfl T.U_SOME_WORD) (pa_cons (pv 2) pa_nil)))) (pa_cons (pe_ix ix_tup (pv 5) pe_int (fun _ _ => rfl)) pa_nil)))) pa_nil))) rfl))
  pss_nil)))
  pss_nil))))), ?_⟩
    have big : 16777216 ≤ sizeLine := by decide
    have ro := mo.row _ hmem
    have w0 : Wf t := ro.w0
    have w1 : Wf u := ro.w1
    have dt : t.dep ≤ 12 := L.d0 _ ro.s0
    have du : u.dep ≤ 12 := L.d1 _ ro.s1
    have hky : isKey t = isKey u := (kindT_none (ko _ hmem)).2.1
    obtain ⟨xv, ms, kv0, kv1, hS, _⟩ := id po.ex
    have hi2 : i = 0 ∨ i = 1 := by omega
    rcases hi2 with rfl | rfl
    · have k : ∀ H', BX S H H' → PO K S M TT D0 D1 dx H' m (lookF (sd 0 m) (t, u, r)) → Q .non H' := k
      have so := sd_ok (i := 0) L mo ko
      have ia := it
      have ib := iu
      have wa := w0
      have wb := w1
      have da : (t).dep ≤ 12 := dt
      have db : (u).dep ≤ 12 := du
      refine seqAsg ⟨_, rfl, S, dx, _, rfl, hS, pl_no (by decide +kernel) (by decide +kernel) (by decide +kernel), ?_⟩
      refine ⟨_, rfl, _, rfl, q, _, _, tv, rfl, rfl, SqT.of hq, at_of (j := 0) rfl rfl, _, rfl, S, M, TT, D0, D1, dx, tv, m, none, t, 0, ts, us, rfl, by decide, po, ia, wa, da, Nat.le_refl _, L, mo, ko, fun bv H1 s1 ho => ?_⟩
      refine gName_k ?_
      try dsimp only
      generalize eo : bltF (sd 0 m) t = o at ho
      refine oneIf (b := (o.isSome && !decide (o.map (·.2) = some u))) (tb_and (b := o.isSome) (c := !decide (o.map (·.2) = some u)) (fun Q2 kq => ⟨_, rfl, rfl, _, rfl, ?_⟩) (fun H2 s2 hb Q2 kq => ?_)) fun H2 s2 => ?_
      · rw [ho.some?]
        exact kq _ (Same.refl _)
      · obtain ⟨p, rfl⟩ := Option.isSome_iff_exists.mp hb
        rcases ho with ⟨e, _⟩ | ⟨p', e, q3, rv3, tv3, rfl, h3, ir3, it3⟩
        · cases e
        cases e
        have op := so.bl _ _ wa (by omega) eo
        refine ⟨_, rfl, q3, _, _, _, rfl, rfl, SqT.of (s2 _ _ h3), at_of (j := 1) rfl rfl, _, rfl, _, rfl, _, _, rfl, rfl, q, _, _, _, rfl, rfl, SqT.of (s2 _ _ (s1 _ _ hq)), at_of (j := 1) rfl rfl, dat p.2, dat u, (it3.same s2).dp, (ib.same (s1.trans s2)).dp, op.wf.layW (by have := op.dp; omega), wb.layW (by omega), _, rfl, ?_⟩
        rw [eqv_dat]
        have e : (!decide (Option.map (fun x : Rc × Tr => x.2) (some p) = some u)) = !decide (p.2 = u) := by by_cases e : p.2 = u <;> simp [e]
        rw [e] at kq
        exact kq _ (Same.refl _)
      have S2 := s1.trans s2
      refine ite2 (fun hc => ?_) (fun hc => ?_)
      · have hc : o.isSome = true ∧ ¬ (o.map (·.2) = some u) := by simpa using hc
        obtain ⟨p, rfl⟩ := Option.isSome_iff_exists.mp hc.1
        have hne : p.2 ≠ u := fun z => hc.2 (by rw [← z]; rfl)
        rcases ho with ⟨e, _⟩ | ⟨p', e, q3, rv3, tv3, rfl, h3, ir3, it3⟩
        · cases e
        cases e
        have el : lookF (sd 0 m) (t, u, r) = some (.same r p.1) := by
          unfold lookF
          dsimp only
          rw [eo]
          dsimp only
          rw [if_pos hne]
        rw [el] at k
        refine ⟨_, rfl, _, rfl, q3, _, _, _, rfl, rfl, SqT.of (s2 _ _ h3), at_of (j := 0) rfl rfl, (by show 3 ≤ sizeLine; decide), fun q5 hq5 => ?_⟩
        have s5 := Rd.Same.upd (o := .tup [.str "same", rv, rv3]) hq5
        have h51 : upd H2 q5 (.tup [.str "same", rv, rv3]) q5 = some (.tup [.str "same", rv, rv3]) := upd_same
        generalize upd H2 q5 (.tup [.str "same", rv, rv3]) = H5 at s5 h51 ⊢
        have S5 := S2.trans s5
        obtain ⟨p1, p2⟩ := (po.same S5).set (y := some (.same r p.1)) (yv := .ref q5) ⟨q5, rv, rv3, rfl, h51, ir.same S5, (ir3.same s2).same s5⟩
        refine ⟨_, rfl, S, _, dx, _, rfl, S5 _ _ hS, T.k_Pairing, T.n_Pairing_test, (by show 3 < 1000; decide), ?_⟩
        rw [pl_put]
        exact k _ ((BX.of_same S5).trans BX.upd) p1
      · have el : lookF (sd 0 m) (t, u, r) = lookO (sd 0 m) (t, u, r) := by
          unfold lookF
          dsimp only
          rw [eo]
          cases o with
          | none => rfl
          | some p =>
            have hc : p.2 = u := by simpa using hc
            dsimp only
            rw [if_neg (fun z => z hc)]
        rw [el] at k
        obtain ⟨pa, za, rfl, hpa⟩ := (ia.same S2).hd
        refine ⟨_, rfl, _, rfl, q, _, _, _, rfl, rfl, SqT.of (S2 _ _ hq), at_of (j := 0) rfl rfl, pa, _, _, _, rfl, rfl, SqT.of hpa, at_of (j := 0) rfl rfl, rfl, _, rfl, ?_⟩
        rw [decS]
        by_cases ho2 : (t).head = "own"
        · refine iteP (decide_eq_true ho2) ?_
          have ka : isKey t = true := decide_eq_true (by rw [ho2]; decide +kernel)
          have kb : isKey u = true := by rw [← hky]; exact ka
          obtain ⟨a0, ea0, wa0⟩ := own_shape wa ho2
          obtain ⟨sb, b0, eb0, hsb, wb0⟩ := isKey_shape wb kb
          have lkb := lkey_key eb0 hsb
          have lka : lkey t = some (.un "open" a0) := by rw [ea0]; rfl
          have iaz := ia.same S2
          rw [ea0] at iaz
          obtain ⟨pa', a0v, ee, hpa', i0⟩ := iaz
          cases ee
          have po2 := po.same S2
          refine seqAsg ⟨_, rfl, S, dx, _, rfl, S2 _ _ hS, pl_no (by decide +kernel) (by decide +kernel) (by decide +kernel), ?_⟩
          refine ⟨_, rfl, _, rfl, q, _, _, _, rfl, rfl, SqT.of (S2 _ _ hq), at_of (j := 0) rfl rfl, pa, _, _, _, rfl, rfl, SqT.of hpa', at_of (j := 1) rfl rfl, (by show 2 ≤ sizeLine; decide), fun q4 hq4 => ?_⟩
          have s4 := Rd.Same.upd (o := .tup [.str "open", a0v]) hq4
          have h41 : upd H2 q4 (.tup [.str "open", a0v]) q4 = some (.tup [.str "open", a0v]) := upd_same
          generalize upd H2 q4 (.tup [.str "open", a0v]) = H4 at s4 h41 ⊢
          have S4 := S2.trans s4
          have da0 : (Tr.un "open" a0).dep ≤ 12 := by rw [ea0] at da; exact da
          have wk : Wf (.un "open" a0) := .un (by decide +kernel) wa0
          refine ⟨_, rfl, S, M, TT, D0, D1, dx, .ref q4, m, none, .un "open" a0, 0, ts, us, rfl, by decide, po.same S4, ⟨q4, a0v, rfl, h41, i0.same s4⟩, wk, da0, Nat.le_refl _, L, mo, ko, fun kv H5 s5 ho => ?_⟩
          have S5 := S4.trans s5
          refine gName_k ?_
          try dsimp only
          generalize eo2 : overF (sd 0 m) (.un "open" a0) = o2 at ho
          refine oneIf (b := (o2.isSome && !decide (o2.map (·.2) = lkey u))) (tb_and (b := o2.isSome) (c := !decide (o2.map (·.2) = lkey u)) (fun Q2 kq => ⟨_, rfl, rfl, _, rfl, ?_⟩) (fun H6 s6 hb Q2 kq => ?_)) fun H6 s6 => ?_
          · rw [ho.some?]
            exact kq _ (Same.refl _)
          · obtain ⟨p, rfl⟩ := Option.isSome_iff_exists.mp hb
            rcases ho with ⟨e, _⟩ | ⟨p', e, q3, rv3, tv3, rfl, h3, ir3, it3⟩
            · cases e
            cases e
            have op := so.ov _ _ wk (by omega) eo2
            have ib6 := ib.same (S5.trans s6)
            rw [eb0] at ib6
            have wpb : Wf (.un (prt sb) b0) := .un (by
              have : ∀ z ∈ (["open", "own"] : List Str), prt z ∈ (["mark", "open", "own"] : List Str) := by decide +kernel
              exact this sb hsb) wb0
            refine ⟨_, rfl, q3, _, _, _, rfl, rfl, SqT.of (s6 _ _ h3), at_of (j := 1) rfl rfl, _, rfl, _, rfl, _, _, rfl, rfl, q, _, _, _, rfl, rfl, SqT.of (s6 _ _ (S5 _ _ hq)), at_of (j := 1) rfl rfl, _, sb, b0, rfl, ib6, hsb, fun u7 H7 s7 iu7 => ⟨dat p.2, dat (.un (prt sb) b0), ((it3.same s6).same s7).dp, iu7.dp, op.wf.layW (by have := op.dp; omega), wpb.layW (by rw [eb0] at db; have : b0.dep + 1 ≤ 12 := db; show b0.dep + 1 ≤ 400; omega), _, rfl, ?_⟩⟩
            rw [eqv_dat]
            rw [lkb] at kq
            have e : (!decide (Option.map (fun x : Rc × Tr => x.2) (some p) = some (.un (prt sb) b0))) = !decide (p.2 = .un (prt sb) b0) := by by_cases e : p.2 = .un (prt sb) b0 <;> simp [e]
            rw [e] at kq
            exact kq _ s7
          have S6 := S5.trans s6
          have elo : lookO (sd 0 m) (t, u, r) = lkO o2 (lkey u) r := by
            unfold lookO
            dsimp only
            rw [if_pos ho2, lka]
            dsimp only
            rw [eo2]
            rfl
          rw [elo] at k
          refine ite2 (fun hc => ?_) (fun hc => ?_)
          · have hc : o2.isSome = true ∧ ¬ (o2.map (·.2) = lkey u) := by simpa using hc
            obtain ⟨p, rfl⟩ := Option.isSome_iff_exists.mp hc.1
            have hne : lkey u ≠ some p.2 := fun z => hc.2 z.symm
            rcases ho with ⟨e, _⟩ | ⟨p', e, q3, rv3, tv3, rfl, h3, ir3, it3⟩
            · cases e
            cases e
            have e : lkO (some p) (lkey u) r = some (.works (.bi "unlock" (.bi "lock" (.wd "a") r) p.1)) := if_pos hne
            rw [e] at k
            refine ⟨_, rfl, (by show 3 ≤ sizeLine; decide), fun q7 hq7 => ?_⟩
            have s7 := Rd.Same.upd (o := .tup [.str "lock", .ref (He.ga K "SOME_WORD"), rv]) hq7
            have h71 : upd H6 q7 (.tup [.str "lock", .ref (He.ga K "SOME_WORD"), rv]) q7 = some (.tup [.str "lock", .ref (He.ga K "SOME_WORD"), rv]) := upd_same
            generalize upd H6 q7 (.tup [.str "lock", .ref (He.ga K "SOME_WORD"), rv]) = H7 at s7 h71 ⊢
            refine ⟨_, rfl, q3, _, _, _, rfl, rfl, SqT.of (s7 _ _ (s6 _ _ h3)), at_of (j := 0) rfl rfl, (by show 3 ≤ sizeLine; decide), fun q8 hq8 => ⟨(by show 2 ≤ sizeLine; decide), fun q9 hq9 => ?_⟩⟩
            have s8 := Rd.Same.upd (o := .tup [.str "unlock", .ref q7, rv3]) hq8
            have h81 : upd H7 q8 (.tup [.str "unlock", .ref q7, rv3]) q8 = some (.tup [.str "unlock", .ref q7, rv3]) := upd_same
            generalize upd H7 q8 (.tup [.str "unlock", .ref q7, rv3]) = H8 at s8 h81 hq9 ⊢
            have s9 := Rd.Same.upd (o := .tup [.str "works", .ref q8]) hq9
            have h91 : upd H8 q9 (.tup [.str "works", .ref q8]) q9 = some (.tup [.str "works", .ref q8]) := upd_same
            generalize upd H8 q9 (.tup [.str "works", .ref q8]) = H9 at s9 h91 ⊢
            have s79 := (s7.trans s8).trans s9
            have S9 := S6.trans s79
            obtain ⟨p1, p2⟩ := (po.same S9).set (y := some (.works (.bi "unlock" (.bi "lock" (.wd "a") r) p.1))) (yv := .ref q9) ⟨q9, .ref q8, rfl, h91, q8, .ref q7, rv3, rfl, s9 _ _ h81, ⟨q7, _, rv, rfl, s9 _ _ (s8 _ _ h71), .inr ⟨rfl, rfl⟩, ir.same S9⟩, (ir3.same s6).same s79⟩
            refine ⟨_, rfl, S, _, dx, _, rfl, S9 _ _ hS, T.k_Pairing, T.n_Pairing_test, (by show 3 < 1000; decide), ?_⟩
            rw [pl_put]
            exact k _ ((BX.of_same S9).trans BX.upd) p1
          · have e : lkO o2 (lkey u) r = (none : Option Tst) := by
              cases o2 with
              | none => rfl
              | some p =>
                have hc : some p.2 = lkey u := by simpa using hc
                exact if_neg (fun z => z hc.symm)
            rw [e] at k
            exact nxt (k _ (BX.of_same S6) (po.same S6))
        · refine iteN (by rw [decide_eq_false ho2]; decide) ?_
          have elo : lookO (sd 0 m) (t, u, r) = none := if_neg ho2
          rw [elo] at k
          exact nxt (k _ (BX.of_same S2) (po.same S2))
    · have k : ∀ H', BX S H H' → PO K S M TT D0 D1 dx H' m (lookF (sd 1 m) (u, t, r)) → Q .non H' := k
      have so := sd_ok (i := 1) L mo ko
      have ia := iu
      have ib := it
      have wa := w1
      have wb := w0
      have da : (u).dep ≤ 12 := du
      have db : (t).dep ≤ 12 := dt
      refine seqAsg ⟨_, rfl, S, dx, _, rfl, hS, pl_no (by decide +kernel) (by decide +kernel) (by decide +kernel), ?_⟩
      refine ⟨_, rfl, _, rfl, q, _, _, uv, rfl, rfl, SqT.of hq, at_of (j := 1) rfl rfl, _, rfl, S, M, TT, D0, D1, dx, uv, m, none, u, 1, ts, us, rfl, by decide, po, ia, wa, da, Nat.le_refl _, L, mo, ko, fun bv H1 s1 ho => ?_⟩
      refine gName_k ?_
      try dsimp only
      generalize eo : bltF (sd 1 m) u = o at ho
      refine oneIf (b := (o.isSome && !decide (o.map (·.2) = some t))) (tb_and (b := o.isSome) (c := !decide (o.map (·.2) = some t)) (fun Q2 kq => ⟨_, rfl, rfl, _, rfl, ?_⟩) (fun H2 s2 hb Q2 kq => ?_)) fun H2 s2 => ?_
      · rw [ho.some?]
        exact kq _ (Same.refl _)
      · obtain ⟨p, rfl⟩ := Option.isSome_iff_exists.mp hb
        rcases ho with ⟨e, _⟩ | ⟨p', e, q3, rv3, tv3, rfl, h3, ir3, it3⟩
        · cases e
        cases e
        have op := so.bl _ _ wa (by omega) eo
        refine ⟨_, rfl, q3, _, _, _, rfl, rfl, SqT.of (s2 _ _ h3), at_of (j := 1) rfl rfl, _, rfl, _, rfl, _, _, rfl, rfl, q, _, _, _, rfl, rfl, SqT.of (s2 _ _ (s1 _ _ hq)), at_of (j := 0) rfl rfl, dat p.2, dat t, (it3.same s2).dp, (ib.same (s1.trans s2)).dp, op.wf.layW (by have := op.dp; omega), wb.layW (by omega), _, rfl, ?_⟩
        rw [eqv_dat]
        have e : (!decide (Option.map (fun x : Rc × Tr => x.2) (some p) = some t)) = !decide (p.2 = t) := by by_cases e : p.2 = t <;> simp [e]
        rw [e] at kq
        exact kq _ (Same.refl _)
      have S2 := s1.trans s2
      refine ite2 (fun hc => ?_) (fun hc => ?_)
      · have hc : o.isSome = true ∧ ¬ (o.map (·.2) = some t) := by simpa using hc
        obtain ⟨p, rfl⟩ := Option.isSome_iff_exists.mp hc.1
        have hne : p.2 ≠ t := fun z => hc.2 (by rw [← z]; rfl)
        rcases ho with ⟨e, _⟩ | ⟨p', e, q3, rv3, tv3, rfl, h3, ir3, it3⟩
        · cases e
        cases e
        have el : lookF (sd 1 m) (u, t, r) = some (.same r p.1) := by
          unfold lookF
          dsimp only
          rw [eo]
          dsimp only
          rw [if_pos hne]
        rw [el] at k
        refine ⟨_, rfl, _, rfl, q3, _, _, _, rfl, rfl, SqT.of (s2 _ _ h3), at_of (j := 0) rfl rfl, (by show 3 ≤ sizeLine; decide), fun q5 hq5 => ?_⟩
        have s5 := Rd.Same.upd (o := .tup [.str "same", rv, rv3]) hq5
        have h51 : upd H2 q5 (.tup [.str "same", rv, rv3]) q5 = some (.tup [.str "same", rv, rv3]) := upd_same
        generalize upd H2 q5 (.tup [.str "same", rv, rv3]) = H5 at s5 h51 ⊢
        have S5 := S2.trans s5
        obtain ⟨p1, p2⟩ := (po.same S5).set (y := some (.same r p.1)) (yv := .ref q5) ⟨q5, rv, rv3, rfl, h51, ir.same S5, (ir3.same s2).same s5⟩
        refine ⟨_, rfl, S, _, dx, _, rfl, S5 _ _ hS, T.k_Pairing, T.n_Pairing_test, (by show 3 < 1000; decide), ?_⟩
        rw [pl_put]
        exact k _ ((BX.of_same S5).trans BX.upd) p1
      · have el : lookF (sd 1 m) (u, t, r) = lookO (sd 1 m) (u, t, r) := by
          unfold lookF
          dsimp only
          rw [eo]
          cases o with
          | none => rfl
          | some p =>
            have hc : p.2 = t := by simpa using hc
            dsimp only
            rw [if_neg (fun z => z hc)]
        rw [el] at k
        obtain ⟨pa, za, rfl, hpa⟩ := (ia.same S2).hd
        refine ⟨_, rfl, _, rfl, q, _, _, _, rfl, rfl, SqT.of (S2 _ _ hq), at_of (j := 1) rfl rfl, pa, _, _, _, rfl, rfl, SqT.of hpa, at_of (j := 0) rfl rfl, rfl, _, rfl, ?_⟩
        rw [decS]
        by_cases ho2 : (u).head = "own"
        · refine iteP (decide_eq_true ho2) ?_
          have ka : isKey u = true := decide_eq_true (by rw [ho2]; decide +kernel)
          have kb : isKey t = true := by rw [hky]; exact ka
          obtain ⟨a0, ea0, wa0⟩ := own_shape wa ho2
          obtain ⟨sb, b0, eb0, hsb, wb0⟩ := isKey_shape wb kb
          have lkb := lkey_key eb0 hsb
          have lka : lkey u = some (.un "open" a0) := by rw [ea0]; rfl
          have iaz := ia.same S2
          rw [ea0] at iaz
          obtain ⟨pa', a0v, ee, hpa', i0⟩ := iaz
          cases ee
          have po2 := po.same S2
          refine seqAsg ⟨_, rfl, S, dx, _, rfl, S2 _ _ hS, pl_no (by decide +kernel) (by decide +kernel) (by decide +kernel), ?_⟩
          refine ⟨_, rfl, _, rfl, q, _, _, _, rfl, rfl, SqT.of (S2 _ _ hq), at_of (j := 1) rfl rfl, pa, _, _, _, rfl, rfl, SqT.of hpa', at_of (j := 1) rfl rfl, (by show 2 ≤ sizeLine; decide), fun q4 hq4 => ?_⟩
          have s4 := Rd.Same.upd (o := .tup [.str "open", a0v]) hq4
          have h41 : upd H2 q4 (.tup [.str "open", a0v]) q4 = some (.tup [.str "open", a0v]) := upd_same
          generalize upd H2 q4 (.tup [.str "open", a0v]) = H4 at s4 h41 ⊢
          have S4 := S2.trans s4
          have da0 : (Tr.un "open" a0).dep ≤ 12 := by rw [ea0] at da; exact da
          have wk : Wf (.un "open" a0) := .un (by decide +kernel) wa0
          refine ⟨_, rfl, S, M, TT, D0, D1, dx, .ref q4, m, none, .un "open" a0, 1, ts, us, rfl, by decide, po.same S4, ⟨q4, a0v, rfl, h41, i0.same s4⟩, wk, da0, Nat.le_refl _, L, mo, ko, fun kv H5 s5 ho => ?_⟩
          have S5 := S4.trans s5
          refine gName_k ?_
          try dsimp only
          generalize eo2 : overF (sd 1 m) (.un "open" a0) = o2 at ho
          refine oneIf (b := (o2.isSome && !decide (o2.map (·.2) = lkey t))) (tb_and (b := o2.isSome) (c := !decide (o2.map (·.2) = lkey t)) (fun Q2 kq => ⟨_, rfl, rfl, _, rfl, ?_⟩) (fun H6 s6 hb Q2 kq => ?_)) fun H6 s6 => ?_
          · rw [ho.some?]
            exact kq _ (Same.refl _)
          · obtain ⟨p, rfl⟩ := Option.isSome_iff_exists.mp hb
            rcases ho with ⟨e, _⟩ | ⟨p', e, q3, rv3, tv3, rfl, h3, ir3, it3⟩
            · cases e
            cases e
            have op := so.ov _ _ wk (by omega) eo2
            have ib6 := ib.same (S5.trans s6)
            rw [eb0] at ib6
            have wpb : Wf (.un (prt sb) b0) := .un (by
              have : ∀ z ∈ (["open", "own"] : List Str), prt z ∈ (["mark", "open", "own"] : List Str) := by decide +kernel
              exact this sb hsb) wb0
            refine ⟨_, rfl, q3, _, _, _, rfl, rfl, SqT.of (s6 _ _ h3), at_of (j := 1) rfl rfl, _, rfl, _, rfl, _, _, rfl, rfl, q, _, _, _, rfl, rfl, SqT.of (s6 _ _ (S5 _ _ hq)), at_of (j := 0) rfl rfl, _, sb, b0, rfl, ib6, hsb, fun u7 H7 s7 iu7 => ⟨dat p.2, dat (.un (prt sb) b0), ((it3.same s6).same s7).dp, iu7.dp, op.wf.layW (by have := op.dp; omega), wpb.layW (by rw [eb0] at db; have : b0.dep + 1 ≤ 12 := db; show b0.dep + 1 ≤ 400; omega), _, rfl, ?_⟩⟩
            rw [eqv_dat]
            rw [lkb] at kq
            have e : (!decide (Option.map (fun x : Rc × Tr => x.2) (some p) = some (.un (prt sb) b0))) = !decide (p.2 = .un (prt sb) b0) := by by_cases e : p.2 = .un (prt sb) b0 <;> simp [e]
            rw [e] at kq
            exact kq _ s7
          have S6 := S5.trans s6
          have elo : lookO (sd 1 m) (u, t, r) = lkO o2 (lkey t) r := by
            unfold lookO
            dsimp only
            rw [if_pos ho2, lka]
            dsimp only
            rw [eo2]
            rfl
          rw [elo] at k
          refine ite2 (fun hc => ?_) (fun hc => ?_)
          · have hc : o2.isSome = true ∧ ¬ (o2.map (·.2) = lkey t) := by simpa using hc
            obtain ⟨p, rfl⟩ := Option.isSome_iff_exists.mp hc.1
            have hne : lkey t ≠ some p.2 := fun z => hc.2 z.symm
            rcases ho with ⟨e, _⟩ | ⟨p', e, q3, rv3, tv3, rfl, h3, ir3, it3⟩
            · cases e
            cases e
            have e : lkO (some p) (lkey t) r = some (.works (.bi "unlock" (.bi "lock" (.wd "a") r) p.1)) := if_pos hne
            rw [e] at k
            refine ⟨_, rfl, (by show 3 ≤ sizeLine; decide), fun q7 hq7 => ?_⟩
            have s7 := Rd.Same.upd (o := .tup [.str "lock", .ref (He.ga K "SOME_WORD"), rv]) hq7
            have h71 : upd H6 q7 (.tup [.str "lock", .ref (He.ga K "SOME_WORD"), rv]) q7 = some (.tup [.str "lock", .ref (He.ga K "SOME_WORD"), rv]) := upd_same
            generalize upd H6 q7 (.tup [.str "lock", .ref (He.ga K "SOME_WORD"), rv]) = H7 at s7 h71 ⊢
            refine ⟨_, rfl, q3, _, _, _, rfl, rfl, SqT.of (s7 _ _ (s6 _ _ h3)), at_of (j := 0) rfl rfl, (by show 3 ≤ sizeLine; decide), fun q8 hq8 => ⟨(by show 2 ≤ sizeLine; decide), fun q9 hq9 => ?_⟩⟩
            have s8 := Rd.Same.upd (o := .tup [.str "unlock", .ref q7, rv3]) hq8
            have h81 : upd H7 q8 (.tup [.str "unlock", .ref q7, rv3]) q8 = some (.tup [.str "unlock", .ref q7, rv3]) := upd_same
            generalize upd H7 q8 (.tup [.str "unlock", .ref q7, rv3]) = H8 at s8 h81 hq9 ⊢
            have s9 := Rd.Same.upd (o := .tup [.str "works", .ref q8]) hq9
            have h91 : upd H8 q9 (.tup [.str "works", .ref q8]) q9 = some (.tup [.str "works", .ref q8]) := upd_same
            generalize upd H8 q9 (.tup [.str "works", .ref q8]) = H9 at s9 h91 ⊢
            have s79 := (s7.trans s8).trans s9
            have S9 := S6.trans s79
            obtain ⟨p1, p2⟩ := (po.same S9).set (y := some (.works (.bi "unlock" (.bi "lock" (.wd "a") r) p.1))) (yv := .ref q9) ⟨q9, .ref q8, rfl, h91, q8, .ref q7, rv3, rfl, s9 _ _ h81, ⟨q7, _, rv, rfl, s9 _ _ (s8 _ _ h71), .inr ⟨rfl, rfl⟩, ir.same S9⟩, (ir3.same s6).same s79⟩
            refine ⟨_, rfl, S, _, dx, _, rfl, S9 _ _ hS, T.k_Pairing, T.n_Pairing_test, (by show 3 < 1000; decide), ?_⟩
            rw [pl_put]
            exact k _ ((BX.of_same S9).trans BX.upd) p1
          · have e : lkO o2 (lkey t) r = (none : Option Tst) := by
              cases o2 with
              | none => rfl
              | some p =>
                have hc : some p.2 = lkey t := by simpa using hc
                exact if_neg (fun z => z hc.symm)
            rw [e] at k
            exact nxt (k _ (BX.of_same S6) (po.same S6))
        · refine iteN (by rw [decide_eq_false ho2]; decide) ?_
          have elo : lookO (sd 1 m) (u, t, r) = none := if_neg ho2
          rw [elo] at k
          exact nxt (k _ (BX.of_same S2) (po.same S2))
end
end Rd
namespace Rd
open PySem L2
def stL (m : List PRow) (i : Nat) (x : Option Tst) (p : PRow) : Option Tst :=
  match x with
  | some y => some y
  | none => lkS i m p
theorem lkStep_two (m : List PRow) (x : Option Tst) (p : PRow) : lkStep m x p = stL m 1 (stL m 0 x p) p := by
  cases x with
  | some y => rfl
  | none =>
    show (match lookF m p with | some y => some y | none => lookF (sws m) (swp p)) = stL m 1 (lookF m p) p
    cases lookF m p <;> rfl
def sp_looks (K : PySem.W.Frag) : Sp := fun vs H Q _ => ∃ (S M TT D0 D1 dx : Addr) (m : List PRow) (ts us : List Tr), vs = [.ref S] ∧ PO K S M TT D0 D1 dx H m none ∧ Lim ts us ∧ MOk ts us m ∧ KOk m ∧
  ∀ H', BX S H H' → PO K S M TT D0 D1 dx H' m (looksF m) → Q .non H'
section
variable {P : Program} {w : World} {K : PySem.W.Frag} {mg : Str → Option Value} {base : Heap}
abbrev s_Pairing_looks : Stmt := inClass (top 45) 9
theorem sc_Pairing_looks : FnScope ["self", "trees", "recipe", "side"] ["self"] (defScope s_Pairing_looks) := ⟨rfl, rfl, rfl, by decide +kernel, rfl, by decide +kernel, by decide +kernel⟩
theorem ok_looks (T : Tx w K mg) : Fm P w K mg base CX0 72 "Pairing" "looks" ["self"] (sp_looks K) := by
  refine T.M_Pairing_looks.ok0 sc_Pairing_looks (fun _ _ _ _ _ _ us hl => match us, hl with | [_], _ => rfl)
    (fun vs H Q E h => ?_) (fun cdv A outer s H vs Q E hr h => ?_)
  · obtain ⟨S, M, TT, D0, D1, dx, m, ts, us, rfl, _⟩ := h
    rfl
  · obtain ⟨S, M, TT, D0, D1, dx, m, ts, us, rfl, po, L, mo, ko, k⟩ := h
    refine ⟨_, (pss_one (ps_for PassesOwn.never rfl (pi_list (pe_fld (pv 0) rfl)) (pg_tup rfl (pgs_cons (pg_name (i := 1) sc_Pairing_looks.nd rfl (Or.inl rfl)) (pgs_cons (pg_name (i := 2) sc_Pairing_looks.nd rfl (Or.inl rfl)) pgs_nil)))
  (pss_one (ps_for PassesOwn.never rfl (pi_range1 rfl T.z_range (pa_cons pe_int pa_nil)) (pg_name (i := 3) sc_Pairing_looks.nd rfl (Or.inl rfl))
  (pss_one (ps_if (pt_cmpR op_isN (pe_fld (pv 0) rfl) pe_non (nomark _))
  (pss_one (ps_expr (pe_fm (pv 0) T.k_Pairing (ok_looks1 T) (hr.mono (by omega)) pass0 (pa_cons (pv 1) (pa_cons (pv 2) (pa_cons (pv 3) pa_nil))))))
  pss_nil)))))), ?_⟩
    have big : 16777216 ≤ sizeLine := by decide
    obtain ⟨ms, kv0, kv1, p3⟩ := po.p3
    obtain ⟨xv, hS, htst⟩ := p3.ex
    have am := p3.am
    have hM := p3.hM
    have lm : ms.length = m.length := am.len
    have nM : M ≠ S := fun z => by rw [z, hS] at hM; cases hM
    refine ⟨_, rfl, S, _, dx, _, _, rfl, hS, T.k_Pairing, T.n_Pairing_met, pl_met, M, rfl, ⟨_, SqL.of hM⟩, ?_⟩
    refine for_list (xs := ms) (fun i σ Hc => ∃ (t1 t2 t3 : Option V), σ = [some (.ref S), t1, t2, t3] ∧ BX S H Hc ∧ PO K S M TT D0 D1 dx Hc m ((m.take i).foldl (lkStep m) none)) ⟨_, _, _, rfl, BX.refl, po⟩ ?_ ?_ ?_
    · rintro i σ Hc hi ⟨t2, t3, t4, rfl, bc, pc⟩
      exact SqL.of (bc _ _ nM hM)
    · rintro i x σ Hc hx ⟨t2, t3, t4, rfl, bc, pc⟩
      have hil : i < m.length := by rw [← lm]; exact (List.getElem?_eq_some_iff.mp hx).1
      have hw : m[i]? = some m[i] := List.getElem?_eq_getElem hil
      have hmem := List.mem_of_getElem? hw
      have row := (am.get i _ _ hw hx).kq (po.kq bc.bp)
      have et : (m.take (i + 1)).foldl (lkStep m) none = lkStep m ((m.take i).foldl (lkStep m) none) m[i] := by
        rw [List.take_add_one, hw, List.foldl_append]
        rfl
      rw [lkStep_two] at et
      generalize m[i] = ww at row et hw hmem
      obtain ⟨t, u, r⟩ := ww
      obtain ⟨p, q, tv, uv, rv, rfl, h1, h2, i1, i2, i3⟩ := row
      generalize (m.take i).foldl (lkStep m) none = st at pc et
      refine ⟨p, _, rfl, SqT.of h1, rfl, _, _, rfl, _, _, rfl, rfl, ?_⟩
      try dsimp only
      refine ⟨2, rfl, by decide, by decide, for_range (n := 2) (fun j σ Hd => ∃ t4 : Option V, σ = [some (.ref S), some (.ref q), some rv, t4] ∧ BX S Hc Hd ∧ PO K S M TT D0 D1 dx Hd m (if j = 0 then st else if j = 1 then stL m 0 st (t, u, r) else stL m 1 (stL m 0 st (t, u, r)) (t, u, r))) ⟨_, rfl, BX.refl, pc⟩ ?_ ?_⟩
      · rintro j σ Hd hj ⟨t4, rfl, bd, pd⟩
        have Kd := pc.kq bd.bp
        refine gName_k ?_
        try dsimp only
        have hj2 : j = 0 ∨ j = 1 := by omega
        rcases hj2 with rfl | rfl
        · have pd : PO K S M TT D0 D1 dx Hd m st := pd
          obtain ⟨xvc, msc, kc0, kc1, hSc, htc, _⟩ := id pd.ex
          generalize st = st1 at pd htc ⊢
          cases st1 with
          | some y =>
            obtain ⟨yp, rfl⟩ := htc.some
            refine ⟨_, rfl, S, _, dx, _, _, rfl, hSc, T.k_Pairing, T.n_Pairing_test, pl_tst, rfl, _, rfl, ?_⟩
            refine iteN (c := (decide (V.ref yp = V.non)) = true) (by simp) ?_
            exact nxt ⟨_, rfl, bd, pd⟩
          | none =>
            cases htc
            refine ⟨_, rfl, S, _, dx, _, _, rfl, hSc, T.k_Pairing, T.n_Pairing_test, pl_tst, rfl, _, rfl, ?_⟩
            refine iteP (c := (decide (V.non = V.non)) = true) (by simp) ?_
            refine ⟨_, rfl, S, dx, _, rfl, hSc, pl_no (by decide +kernel) (by decide +kernel) (by decide +kernel), _, rfl, _, rfl, _, rfl, S, M, TT, D0, D1, dx, q, tv, uv, rv, m, t, u, r, 0, ts, us, rfl, by decide, pd, Kd _ _ h2, i1.kq Kd, i2.kq Kd, i3.kq Kd, L, mo, ko, hmem, fun H9 b9 p9 => ?_⟩
            exact nxt ⟨_, rfl, bd.trans b9, p9⟩
        · have pd : PO K S M TT D0 D1 dx Hd m (stL m 0 st (t, u, r)) := pd
          obtain ⟨xvc, msc, kc0, kc1, hSc, htc, _⟩ := id pd.ex
          generalize stL m 0 st (t, u, r) = st1 at pd htc ⊢
          cases st1 with
          | some y =>
            obtain ⟨yp, rfl⟩ := htc.some
            refine ⟨_, rfl, S, _, dx, _, _, rfl, hSc, T.k_Pairing, T.n_Pairing_test, pl_tst, rfl, _, rfl, ?_⟩
            refine iteN (c := (decide (V.ref yp = V.non)) = true) (by simp) ?_
            exact nxt ⟨_, rfl, bd, pd⟩
          | none =>
            cases htc
            refine ⟨_, rfl, S, _, dx, _, _, rfl, hSc, T.k_Pairing, T.n_Pairing_test, pl_tst, rfl, _, rfl, ?_⟩
            refine iteP (c := (decide (V.non = V.non)) = true) (by simp) ?_
            refine ⟨_, rfl, S, dx, _, rfl, hSc, pl_no (by decide +kernel) (by decide +kernel) (by decide +kernel), _, rfl, _, rfl, _, rfl, S, M, TT, D0, D1, dx, q, tv, uv, rv, m, t, u, r, 1, ts, us, rfl, by decide, pd, Kd _ _ h2, i1.kq Kd, i2.kq Kd, i3.kq Kd, L, mo, ko, hmem, fun H9 b9 p9 => ?_⟩
            exact nxt ⟨_, rfl, bd.trans b9, p9⟩
      · rintro σ Hd ⟨t4, rfl, bd, pd⟩
        refine ⟨_, _, _, rfl, bc.trans bd, ?_⟩
        rw [et]
        exact pd
    · rintro σ Hc ⟨t2, t3, t4, rfl, bc, pc⟩
      have ea : (m.take ms.length).foldl (lkStep m) none = looksF m := by
        rw [lm, List.take_length]
        rfl
      rw [ea] at pc
      exact k _ bc pc
end
end Rd
namespace Rd
open PySem L2
def inP (ts us : List Tr) : Nat → PSt
  | 0 => ([], none)
  | i + 1 => match ts[i]?, us[i]? with
    | some t, some u => cmS (inP ts us i) t u (.at_ (i : Int))
    | _, _ => inP ts us i
theorem inP_init {ts us : List Tr} : ∀ (as bs : List Tr) (k : Nat), ts.drop k = as → us.drop k = bs → as.length = bs.length → inP ts us (k + as.length) = (match (inP ts us k).2 with | some _ => inP ts us k | none => initF k as bs (inP ts us k).1)
  | [], bs, k, _, _, _ => by
    show inP ts us k = _
    generalize inP ts us k = st
    obtain ⟨m, x⟩ := st
    cases x with
    | some y => rfl
    | none =>
      show (m, none) = initF k [] bs m
      rw [initF]
      intro t ts u us h
      cases h
  | t :: as, [], k, _, _, hl => absurd hl (by simp)
  | t :: as, u :: bs, k, ha, hb, hl => by
    have et : ts[k]? = some t := by rw [← List.head?_drop, ha]; rfl
    have eu : us[k]? = some u := by rw [← List.head?_drop, hb]; rfl
    have ih := inP_init (ts := ts) (us := us) as bs (k + 1) (by rw [← List.drop_drop, ha]; rfl) (by rw [← List.drop_drop, hb]; rfl) (by simpa using hl)
    have e1 : inP ts us (k + 1) = cmS (inP ts us k) t u (.at_ (k : Int)) := by rw [inP, et, eu]
    have e2 : k + (t :: as).length = k + 1 + as.length := by rw [List.length_cons]; omega
    rw [e2, ih, e1]
    generalize inP ts us k = st
    obtain ⟨m, x⟩ := st
    cases x with
    | some y => rfl
    | none =>
      show (match (comesF t u (.at_ (k : Int)) m).2 with | some _ => comesF t u (.at_ (k : Int)) m | none => initF (k + 1) as bs (comesF t u (.at_ (k : Int)) m).1) = initF k (t :: as) (u :: bs) m
      rw [initF]
      generalize comesF t u (.at_ (k : Int)) m = st2
      obtain ⟨m2, x2⟩ := st2
      cases x2 <;> rfl
theorem inP_all {ts us : List Tr} (hl : ts.length = us.length) : inP ts us ts.length = initF 0 ts us [] := by
  have := inP_init (ts := ts) (us := us) ts us 0 rfl rfl hl
  rw [Nat.zero_add] at this
  exact this
theorem row_at {ts us : List Tr} {k : Nat} {t u : Tr} (et : ts[k]? = some t) (eu : us[k]? = some u) (wt : ∀ t ∈ ts, Wf t) (wu : ∀ t ∈ us, Wf t) : RowOk ts us (t, u, .at_ (k : Int)) := by
  have mt := List.mem_of_getElem? et
  have mu := List.mem_of_getElem? eu
  have e0 : ∀ (xs : List Tr) (z : Tr), xs[k]? = some z → ev xs (.at_ (k : Int)) = some z := fun xs z h => by
    show (if (0 : Int) ≤ (k : Int) then xs[((k : Int)).toNat]? else none) = some z
    rw [if_pos (by omega), Int.toNat_natCast]
    exact h
  exact ⟨e0 _ _ et, e0 _ _ eu, trivial, wt t mt, wu u mu, allOf_of mt, allOf_of mu⟩
theorem pl_i1 {a : V} : putF "met" a [] = [(("met" : Str), a)] := rfl
theorem pl_i2 {a b : V} : putF "tables" b [(("met" : Str), a)] = [(("met" : Str), a), (("tables" : Str), b)] := by
  show (if ("met" : Str) = "tables" then _ else (("met" : Str), a) :: [(("tables" : Str), b)]) = _
  rw [if_neg (by decide +kernel)]
theorem pl_i3 {a b c : V} : putF "test" c [(("met" : Str), a), (("tables" : Str), b)] = plF a b c := by
  show (if ("met" : Str) = "test" then _ else (("met" : Str), a) :: (if ("tables" : Str) = "test" then _ else (("tables" : Str), b) :: [(("test" : Str), c)])) = _
  rw [if_neg (by decide +kernel), if_neg (by decide +kernel)]
  rfl
def sp_Pinit (K : PySem.W.Frag) : Sp := fun vs H Q _ => ∃ (S dx a b : Addr) (xs ys : List V) (ts us : List Tr), vs = [.ref S, .ref a, .ref b] ∧ H S = some (.ins (He.ga K "Pairing") dx []) ∧ H a = some (.lst xs) ∧ H b = some (.lst ys) ∧ TsAt H ts xs ∧ TsAt H us ys ∧ ts.length = us.length ∧ Lim ts us ∧ (∀ t ∈ ts, Wf t) ∧ (∀ t ∈ us, Wf t) ∧
  ∀ M TT D0 D1 H', H M = none → H D0 = none → H D1 = none → BX S H H' → PO K S M TT D0 D1 dx H' (initF 0 ts us []).1 (initF 0 ts us []).2 → Q .non H'
section
variable {P : Program} {w : World} {K : PySem.W.Frag} {mg : Str → Option Value} {base : Heap}
abbrev s_Pairing_init : Stmt := inClass (top 45) 0
theorem sc_Pairing_init : FnScope ["self", "ones", "others", "index", "trees"] ["self", "ones", "others"] (defScope s_Pairing_init) := ⟨rfl, rfl, rfl, by decide +kernel, rfl, by decide +kernel, by decide +kernel⟩
theorem ok_Pinit (T : Tx w K mg) : Fm P w K mg base CX0 60 "Pairing" "__init__" ["self", "ones", "others"] (sp_Pinit K) := by
  refine T.M_Pairing_init.ok0 sc_Pairing_init (fun _ _ _ _ _ _ us hl => match us, hl with | [_, _, _], _ => rfl)
    (fun vs H Q E h => ?_) (fun cdv A outer s H vs Q E hr h => ?_)
  · obtain ⟨S, dx, a, b, xs, ys, ts, us, rfl, _⟩ := h
    rfl
  · obtain ⟨S, dx, a, b, xs, ys, ts, us, rfl, hS, ha, hb, hts, hus, hl, L, wt, wu, k⟩ := h
    refine ⟨_, (pss_cons (ps_fld (pv 0) (pe_lst pa_nil) rfl)
  (pss_cons (ps_fld (pv 0) (pe_tup (pa_cons pe_dnewK (pa_cons pe_dnewK pa_nil))) rfl)
  (pss_cons (ps_fld (pv 0) pe_non rfl)
  (pss_one (ps_for PassesOwn.never rfl (pi_enumZip rfl T.z_enumerate rfl T.z_zip (pa_cons (pv 1) (pa_cons (pv 2) pa_nil))) (pg_tup rfl (pgs_cons (pg_name (i := 3) sc_Pairing_init.nd rfl (Or.inl rfl)) (pgs_cons (pg_name (i := 4) sc_Pairing_init.nd rfl (Or.inl rfl)) pgs_nil)))
  (pss_one (ps_expr (pe_fm (pv 0) T.k_Pairing (ok_comes T 12) (hr.mono (by omega)) pass0 (pa_cons (pv 4) (pa_cons (pe_tup (pa_cons pe_str (pa_cons (pv 3) pa_nil))) pa_nil)))))))))), ?_⟩
    have big : 16777216 ≤ sizeLine := by decide
    refine ⟨Nat.zero_le _, fun M hM => ?_⟩
    have nMS : M ≠ S := fun z => by rw [z, hS] at hM; cases hM
    refine ⟨_, rfl, S, _, dx, [], rfl, (by rw [upd_ne (Ne.symm nMS)]; exact hS), T.k_Pairing, T.n_Pairing_met, (by show 0 < 1000; decide), ?_⟩
    rw [pl_i1]
    have h2S : upd (upd H M (.lst [])) S (.ins (He.ga K "Pairing") dx [("met", .ref M)]) S = some (.ins (He.ga K "Pairing") dx [("met", .ref M)]) := upd_same
    have h2M : upd (upd H M (.lst [])) S (.ins (He.ga K "Pairing") dx [("met", .ref M)]) M = some (.lst []) := by rw [upd_ne nMS, upd_same]
    have b2 : BX S H (upd (upd H M (.lst [])) S (.ins (He.ga K "Pairing") dx [("met", .ref M)])) := fun c o h e => by
      rw [upd_ne h, upd_ne (fun z => by rw [z, hM] at e; cases e)]
      exact e
    generalize upd (upd H M (.lst [])) S (.ins (He.ga K "Pairing") dx [("met", .ref M)]) = H2 at h2S h2M b2 ⊢
    refine fun D0 g0 => ?_
    have s3 := Rd.Same.upd (o := .dK []) g0
    have h30 : upd H2 D0 (.dK []) D0 = some (.dK []) := upd_same
    generalize upd H2 D0 (.dK []) = H3 at s3 h30 ⊢
    refine fun D1 g1 => ?_
    have nDD : D0 ≠ D1 := fun z => by rw [← z, h30] at g1; cases g1
    have s4 := Rd.Same.upd (o := .dK []) g1
    have h41 : upd H3 D1 (.dK []) D1 = some (.dK []) := upd_same
    generalize upd H3 D1 (.dK []) = H4 at s4 h41 ⊢
    refine ⟨(by show 2 ≤ sizeLine; decide), fun TT gT => ?_⟩
    have s5 := Rd.Same.upd (o := .tup [.ref D0, .ref D1]) gT
    have h5T : upd H4 TT (.tup [.ref D0, .ref D1]) TT = some (.tup [.ref D0, .ref D1]) := upd_same
    generalize upd H4 TT (.tup [.ref D0, .ref D1]) = H5 at s5 h5T ⊢
    have s25 := (s3.trans s4).trans s5
    have h5S := s25 _ _ h2S
    have h5M := s25 _ _ h2M
    have h50 := s5 _ _ (s4 _ _ h30)
    have h51 := s5 _ _ h41
    refine ⟨_, rfl, S, _, dx, _, rfl, h5S, T.k_Pairing, T.n_Pairing_tables, (by show 1 < 1000; decide), ?_⟩
    rw [pl_i2]
    refine ⟨_, rfl, S, _, dx, _, rfl, upd_same, T.k_Pairing, T.n_Pairing_test, (by show 2 < 1000; decide), ?_⟩
    rw [pl_i3]
    have b7 : BX S H2 (upd (upd H5 S (.ins (He.ga K "Pairing") dx [("met", .ref M), ("tables", .ref TT)])) S (.ins (He.ga K "Pairing") dx (plF (.ref M) (.ref TT) .non))) := ((BX.of_same s25).trans BX.upd).trans BX.upd
    have c7 : BX S H5 (upd (upd H5 S (.ins (He.ga K "Pairing") dx [("met", .ref M), ("tables", .ref TT)])) S (.ins (He.ga K "Pairing") dx (plF (.ref M) (.ref TT) .non))) := BX.upd.trans BX.upd
    have h7S : upd (upd H5 S (.ins (He.ga K "Pairing") dx [("met", .ref M), ("tables", .ref TT)])) S (.ins (He.ga K "Pairing") dx (plF (.ref M) (.ref TT) .non)) S = some (.ins (He.ga K "Pairing") dx (plF (.ref M) (.ref TT) .non)) := upd_same
    generalize upd (upd H5 S (.ins (He.ga K "Pairing") dx [("met", .ref M), ("tables", .ref TT)])) S (.ins (He.ga K "Pairing") dx (plF (.ref M) (.ref TT) .non)) = H7 at b7 c7 h7S ⊢
    have nn : ∀ {c : Addr} {o : HO}, H5 c = some o → (∀ f, o ≠ .ins (He.ga K "Pairing") dx f) → c ≠ S := fun {c o} e h z => by rw [z, h5S] at e; cases e; exact h _ rfl
    have h7M := c7 _ _ nMS h5M
    have h70 := c7 _ _ (nn h50 fun f z => by cases z) h50
    have h71 := c7 _ _ (nn h51 fun f z => by cases z) h51
    have h7T := c7 _ _ (nn h5T fun f z => by cases z) h5T
    have B7 := b2.trans b7
    have po7 : PO K S M TT D0 D1 dx H7 [] none := ⟨⟨.non, [], [], [], h7S, rfl, h7M, AtL.nil, h70, trivial, h71, trivial⟩, h7T, nDD⟩
    have naS : a ≠ S := fun z => by rw [z, hS] at ha; cases ha
    have nbS : b ≠ S := fun z => by rw [z, hS] at hb; cases hb
    have fr : ∀ {c : Addr} {o : HO}, H c = some o → c ≠ S → c ≠ M ∧ c ≠ D0 ∧ c ≠ D1 := fun {c o} e h => by
      have e2 := b2 _ _ h e
      exact ⟨fun z => (by rw [z, hM] at e; cases e), fun z => (by rw [z, g0] at e2; cases e2), fun z => (by rw [← z] at g1; rw [s3 _ _ e2] at g1; cases g1)⟩
    have out : ∀ {Hc : Hp}, BP S M D0 D1 H7 Hc → BX S H Hc := fun {Hc} bc c o h e => by
      obtain ⟨f1, f2, f3⟩ := fr e h
      exact bc _ _ h f1 f2 f3 (B7 _ _ h e)
    have kq0 : ∀ {Hc : Hp}, BX S H Hc → Kq H Hc := fun {Hc} bc c xs e => bc _ _ (fun z => by rw [z, hS] at e; cases e) e
    have lx := hts.len
    have ly := hus.len
    refine ⟨_, rfl, _, rfl, a, b, xs, ys, rfl, SqL.of (B7 _ _ naS ha), SqL.of (B7 _ _ nbS hb), ?_⟩
    refine for_ez (xs := xs) (ys := ys) (by omega) (fun i σ Hc => ∃ (t3 t4 : Option V), σ = [some (.ref S), some (.ref a), some (.ref b), t3, t4] ∧ BP S M D0 D1 H7 Hc ∧ PO K S M TT D0 D1 dx Hc (inP ts us i).1 (inP ts us i).2 ∧ MOk ts us (inP ts us i).1 ∧ ((inP ts us i).2 = none → KOk (inP ts us i).1)) ⟨_, _, rfl, BP.refl, po7, ⟨(fun p h => by cases h), List.nodup_nil, List.nodup_nil⟩, fun _ p h => by cases h⟩ ?_ ?_ ?_
    · rintro i σ Hc ⟨t3, t4, rfl, bc, pc, mc, kc⟩
      exact ⟨SqL.of (out bc _ _ naS ha), SqL.of (out bc _ _ nbS hb)⟩
    · rintro i x y T1 T2 σ Hc hx hy ⟨t3, t4, rfl, bc, pc, mc, kc⟩ hT2 hT1 ne
      have s1 := Rd.Same.upd (o := .tup [x, y]) hT2
      have hT1' : upd Hc T2 (.tup [x, y]) T1 = none := by rw [upd_ne ne]; exact hT1
      have s2 := Rd.Same.upd (o := .tup [.int (i : Nat), .ref T2]) hT1'
      have e2 : upd (upd Hc T2 (.tup [x, y])) T1 (.tup [.int (i : Nat), .ref T2]) T2 = some (.tup [x, y]) := s2 _ _ upd_same
      have e1 : upd (upd Hc T2 (.tup [x, y])) T1 (.tup [.int (i : Nat), .ref T2]) T1 = some (.tup [.int (i : Nat), .ref T2]) := upd_same
      have S2 := s1.trans s2
      generalize upd (upd Hc T2 (.tup [x, y])) T1 (.tup [.int (i : Nat), .ref T2]) = Hd at e1 e2 S2 ⊢
      clear s1 s2 hT1'
      obtain ⟨t, et, it⟩ := hts.at_ hx
      obtain ⟨u, eu, iu⟩ := hus.at_ hy
      have kd : Kq H Hd := (kq0 (out bc)).trans (Kq.of_same S2)
      have pd := pc.same S2
      obtain ⟨xv, ms, kv0, kv1, hSd, _⟩ := id pd.ex
      refine ⟨T1, _, rfl, SqT.of e1, rfl, _, _, rfl, _, _, rfl, rfl, ?_⟩
      try dsimp only
      refine ⟨_, rfl, S, dx, _, rfl, hSd, pl_no (by decide +kernel) (by decide +kernel) (by decide +kernel), _, rfl, _, rfl, (by show 2 ≤ sizeLine; decide), fun q4 hq4 => ?_⟩
      have s4 := Rd.Same.upd (o := .tup [.str "at", .int (i : Nat)]) hq4
      have h41 : upd Hd q4 (.tup [.str "at", .int (i : Nat)]) q4 = some (.tup [.str "at", .int (i : Nat)]) := upd_same
      generalize upd Hd q4 (.tup [.str "at", .int (i : Nat)]) = He at s4 h41 ⊢
      have ro := row_at et eu wt wu
      have ei : inP ts us (i + 1) = cmS (inP ts us i) t u (.at_ (i : Int)) := by rw [inP, et, eu]
      refine ⟨S, M, TT, D0, D1, dx, T2, x, y, .ref q4, (inP ts us i).1, (inP ts us i).2, t, u, .at_ (i : Int), ts, us, rfl, pd.same s4, s4 _ _ e2, (it.kq kd).same s4, (iu.kq kd).same s4, ⟨q4, rfl, h41⟩, L, mc, kc, ro, L.d0 _ ro.s0, fun H9 b9 p9 => ?_⟩
      have g : MOk ts us (cmS (inP ts us i) t u (.at_ (i : Int))).1 ∧ ((cmS (inP ts us i) t u (.at_ (i : Int))).2 = none → KOk (cmS (inP ts us i) t u (.at_ (i : Int))).1) := by
        generalize inP ts us i = st at mc kc
        obtain ⟨m1, x1⟩ := st
        cases x1 with
        | some y => exact ⟨mc, kc⟩
        | none =>
          have R := comes_res t mc (kc rfl) ro
          exact ⟨R.ok, R.kok⟩
      exact nxt ⟨_, _, rfl, bc.trans ((BP.of_same (S2.trans s4)).trans b9), by rw [ei]; exact p9, by rw [ei]; exact g.1, by rw [ei]; exact g.2⟩
    · rintro σ Hc ⟨t3, t4, rfl, bc, pc, mc, kc⟩
      have e : inP ts us xs.length = initF 0 ts us [] := by rw [lx]; exact inP_all hl
      rw [e] at pc
      have fr2 : ∀ {c : Addr}, c ≠ S → (c ≠ M ∧ c ≠ D0 ∧ c ≠ D1 → False) → H c = none := fun {c} h n => by
        cases e : H c with
        | none => rfl
        | some o => exact (n (fr e h)).elim
      have nS0 : D0 ≠ S := fun z => by rw [z, h2S] at g0; cases g0
      have nS1 : D1 ≠ S := nn h51 fun f z => by cases z
      exact k M TT D0 D1 _ hM (fr2 nS0 fun z => z.2.1 rfl) (fr2 nS1 fun z => z.2.2 rfl) (out bc) pc
end
end Rd
namespace Rd
open PySem L2
def goS (ts us : List Tr) : PSt :=
  match initF 0 ts us [] with
  | (m, some x) => (m, some x)
  | (m, none) => goF ((allOf ts).length + 1) m
theorem part_goS (ts us : List Tr) : partF ts us = (match (goS ts us).2 with | some x => some x | none => looksF (goS ts us).1) := by
  unfold partF goS
  generalize initF 0 ts us [] = st
  obtain ⟨m, x⟩ := st
  cases x with
  | some y => rfl
  | none =>
    dsimp only
    generalize goF ((allOf ts).length + 1) m = st2
    obtain ⟨m2, x2⟩ := st2
    cases x2 <;> rfl
theorem initF_res {ts us : List Tr} (wt : ∀ t ∈ ts, Wf t) (wu : ∀ t ∈ us, Wf t) (hl : ts.length = us.length) : MOk ts us (initF 0 ts us []).1 ∧ ((initF 0 ts us []).2 = none → KOk (initF 0 ts us []).1) := by
  have m0 : MOk ts us [] := ⟨(fun p h => by cases h), List.nodup_nil, List.nodup_nil⟩
  have k0 : KOk [] := fun p h => by cases h
  obtain ⟨g1, c1⟩ := init_res wt wu 0 ts us (m := []) rfl rfl m0 k0 hl
  exact ⟨g1.ok, g1.kok⟩
theorem opens_res {ts us : List Tr} {m : List PRow} (hm : MOk ts us m) (hk : KOk m) : Grow ts us m (opensF m) := (fold_res m hm hk fun p hp => hm.row p hp).1
def sp_tp (K : PySem.W.Frag) : Sp := fun vs H Q _ => ∃ (a b : Addr) (xs ys : List V) (ts us : List Tr), vs = [.ref a, .ref b] ∧ H a = some (.lst xs) ∧ H b = some (.lst ys) ∧ TsAt H ts xs ∧ TsAt H us ys ∧ ts.length = us.length ∧ Lim ts us ∧ (∀ t ∈ ts, Wf t) ∧ (∀ t ∈ us, Wf t) ∧
  ∀ xv H', Same H H' → TstV K H' (partF ts us) xv → Q xv H'
section
variable {P : Program} {w : World} {K : PySem.W.Frag} {mg : Str → Option Value} {base : Heap}
abbrev s_tree_parting : Stmt := top 46
theorem sc_tree_parting : FnScope ["ones", "others", "pairing", "going"] ["ones", "others"] (defScope s_tree_parting) := ⟨rfl, rfl, rfl, by decide +kernel, rfl, by decide +kernel, by decide +kernel⟩
theorem ok_tree_parting (T : Tx w K mg) : Fk P w K mg base CX0 75 "tree_parting" ["ones", "others"] (sp_tp K) := by
  refine T.F_tree_parting.ok0 sc_tree_parting (fun _ _ _ _ _ _ us hl => match us, hl with | [_, _], _ => rfl)
    (fun vs H Q E h => ?_) (fun cdv A outer s H vs Q E hr h => ?_)
  · obtain ⟨a, b, xs, ys, ts, us, rfl, _⟩ := h
    rfl
  · obtain ⟨a, b, xs, ys, ts, us, rfl, ha, hb, hts, hus, hl, L, wt, wu, k⟩ := h
    refine ⟨_, (pss_cons (ps_set (i := 2) sc_tree_parting.nd rfl (Or.inl rfl) (pe_new T.J_Pairing T.g_Pairing (ok_Pinit T) (hr.mono (by omega)) (by rfl) pass0 (pa_cons (pv 0) (pa_cons (pv 1) pa_nil))))
  (pss_cons (ps_set (i := 3) sc_tree_parting.nd rfl (Or.inl rfl) (pe_cmpR op_isN (pe_fld (pv 2) rfl) pe_non (nomark _)))
  (pss_cons (ps_while PassesOwn.never (pt_val (pv 3))
  (pss_one (ps_set (i := 3) sc_tree_parting.nd rfl (Or.inl rfl) (pe_fm0 (pv 2) T.k_Pairing (ok_opens T) (hr.mono (by omega)) pass0))))
  (pss_cons (ps_if (pt_cmpR op_isN (pe_fld (pv 2) rfl) pe_non (nomark _))
  (pss_one (ps_expr (pe_fm0 (pv 2) T.k_Pairing (ok_looks T) (hr.mono (by omega)) pass0)))
  pss_nil)
  (pss_one (ps_ret (pe_fld (pv 2) rfl))))))), ?_⟩
    have big : 16777216 ≤ sizeLine := by decide
    refine seqAsg ⟨_, rfl, _, rfl, fun S dx nS ndx ne => ?_⟩
    have s1 : Same H (upd (upd H dx (.own S)) S (.ins (He.ga K "Pairing") dx [])) := fun c o e => by
      rw [upd_ne (ne_of_none e nS), upd_ne (ne_of_none e ndx)]
      exact e
    refine ⟨S, dx, a, b, xs, ys, ts, us, rfl, upd_same, s1 _ _ ha, s1 _ _ hb, hts.same s1, hus.same s1, hl, L, wt, wu, fun M TT D0 D1 Hi fM f0 f1 bi pi => ⟨rfl, ?_⟩⟩
    have fr : ∀ {c : Addr}, upd (upd H dx (.own S)) S (.ins (He.ga K "Pairing") dx []) c = none → H c = none := fun {c} e => by
      cases e2 : H c with
      | none => rfl
      | some o => rw [s1 _ _ e2] at e; cases e
    have fM := fr fM
    have f0 := fr f0
    have f1 := fr f1
    have si : Same H Hi := fun c o e => bi _ _ (ne_of_none e nS) (s1 _ _ e)
    have out : ∀ {Hc : Hp}, BP S M D0 D1 Hi Hc → Same H Hc := fun {Hc} bc c o e => bc _ _ (ne_of_none e nS) (ne_of_none e fM) (ne_of_none e f0) (ne_of_none e f1) (si _ _ e)
    obtain ⟨mi, ki⟩ := initF_res wt wu hl
    have part := part_goS ts us
    refine gName_k ?_
    try dsimp only
    obtain ⟨xv, ms, kv0, kv1, hS, htst, _⟩ := id pi.ex
    refine seqAsg ⟨_, rfl, S, _, dx, _, _, rfl, hS, T.k_Pairing, T.n_Pairing_test, pl_tst, rfl, ?_⟩
    refine gName_k ?_
    try dsimp only
    refine ⟨fun n σ Hc => ∃ (m : List PRow) (x : Option Tst) (g : Bool), σ = [some (.ref a), some (.ref b), some (.ref S), some (.bl g)] ∧ BP S M D0 D1 Hi Hc ∧ PO K S M TT D0 D1 dx Hc m x ∧ MOk ts us m ∧ (x = none → KOk m) ∧ ((g = true ∧ x = none ∧ goF n m = goS ts us ∧ (allOf ts).length < m.length + n) ∨ (g = false ∧ (m, x) = goS ts us)), ⟨(allOf ts).length + 1, ?_⟩, ?_⟩
    · refine ⟨_, _, _, rfl, BP.refl, pi, mi, ki, ?_⟩
      unfold goS
      generalize initF 0 ts us [] = st at htst
      obtain ⟨m, x⟩ := st
      cases x with
      | some y =>
        obtain ⟨yp, rfl⟩ := htst.some
        exact .inr ⟨by simp, rfl⟩
      | none =>
        cases htst
        exact .inl ⟨by simp, rfl, rfl, by omega⟩
    · rintro n σ Hc ⟨m, x, g, rfl, bc, pc, mc, kc, hg⟩
      refine ⟨_, rfl, g, rfl, ?_⟩
      obtain ⟨xvc, msc, kc0, kc1, hSc, htc, _⟩ := id pc.ex
      rcases hg with ⟨rfl, rfl, hgo, hlen⟩ | ⟨rfl, hfin⟩
      · cases n with
        | zero => exact absurd mc.le (by omega)
        | succ n =>
        refine iteP rfl ⟨_, fun σ' H' h => ⟨n, Nat.lt_succ_self n, h⟩, ?_⟩
        have og := opens_res mc (kc rfl)
        refine ⟨_, rfl, S, dx, _, rfl, hSc, pl_no (by decide +kernel) (by decide +kernel) (by decide +kernel), S, M, TT, D0, D1, dx, m, ts, us, rfl, pc, L, mc, kc rfl, fun H9 b9 p9 => ?_⟩
        refine gName_k ?_
        try dsimp only
        refine ⟨_, _, _, rfl, bc.trans b9, p9, og.ok, og.kok, ?_⟩
        rw [goF] at hgo
        generalize opensF m = st at og hgo
        obtain ⟨m1, x1⟩ := st
        cases x1 with
        | some y => exact .inr ⟨by simp, hgo⟩
        | none =>
          dsimp only at hgo
          obtain ⟨n1, e1⟩ := og.ext
          have e1 : m1 = m ++ n1 := e1
          by_cases hl1 : m1.length = m.length
          · rw [if_pos hl1] at hgo
            exact .inr ⟨by simp [hl1], hgo⟩
          · rw [if_neg hl1] at hgo
            have hl2 : m.length ≤ m1.length := by rw [e1, List.length_append]; omega
            exact .inl ⟨by simp [Ne.symm hl1], rfl, hgo, by show _ < m1.length + n; omega⟩
      · refine iteN (by decide) ?_
        rw [← hfin] at part
        cases x with
        | some y =>
          obtain ⟨yp, rfl⟩ := htc.some
          refine ⟨_, rfl, S, _, dx, _, _, rfl, hSc, T.k_Pairing, T.n_Pairing_test, pl_tst, rfl, _, rfl, ?_⟩
          refine iteN (c := (decide (V.ref yp = V.non)) = true) (by simp) (nxt ?_)
          refine ⟨_, rfl, S, _, dx, _, _, rfl, hSc, T.k_Pairing, T.n_Pairing_test, pl_tst, ?_⟩
          have part : partF ts us = some y := part
          exact k _ _ (out bc) (by rw [part]; exact htc)
        | none =>
          cases htc
          refine ⟨_, rfl, S, _, dx, _, _, rfl, hSc, T.k_Pairing, T.n_Pairing_test, pl_tst, rfl, _, rfl, ?_⟩
          refine iteP (c := (decide (V.non = V.non)) = true) (by simp) ?_
          refine ⟨_, rfl, S, dx, _, rfl, hSc, pl_no (by decide +kernel) (by decide +kernel) (by decide +kernel), S, M, TT, D0, D1, dx, m, ts, us, rfl, pc, L, mc, kc rfl, fun H9 b9 p9 => ?_⟩
          obtain ⟨xv9, ms9, k90, k91, hS9, ht9, _⟩ := id p9.ex
          refine nxt ⟨_, rfl, S, _, dx, _, _, rfl, hS9, T.k_Pairing, T.n_Pairing_test, pl_tst, ?_⟩
          have part : partF ts us = looksF m := part
          exact k _ _ (out (bc.trans b9.bp)) (by rw [part]; exact ht9)
end
end Rd
namespace Rd
open PySem L2
def sp_lenH (K : PySem.W.Frag) : Sp := fun vs H Q _ => ∃ (a : Addr) (ts : List Tr), vs = [.ref a] ∧ IsHp K H a ts ∧ Q (.int ts.length) H
def sp_parting (K : PySem.W.Frag) : Sp := fun vs H Q _ => ∃ (a b : Addr) (ts us : List Tr), vs = [.ref a, .ref b] ∧ IsHp K H a ts ∧ IsHp K H b us ∧ ts.length = us.length ∧ ts.length ≤ 100000 ∧ Lim ts us ∧ (∀ t ∈ ts, Wf t) ∧ (∀ t ∈ us, Wf t) ∧
  ∀ xv H', Same H H' → TstV K H' (partF ts us) xv → Q xv H'
def sp_alike (K : PySem.W.Frag) : Sp := fun vs H Q _ => ∃ (a b : Addr) (ts us : List Tr), vs = [.ref a, .ref b] ∧ IsHp K H a ts ∧ IsHp K H b us ∧ ts.length = us.length ∧ ts.length ≤ 100000 ∧ Lim ts us ∧ (∀ t ∈ ts, Wf t) ∧ (∀ t ∈ us, Wf t) ∧
  ∀ c H', Same H H' → (c = true ↔ Alk ts us) → Q (.bl c) H'
section
variable {P : Program} {w : World} {K : PySem.W.Frag} {mg : Str → Option Value} {base : Heap}
abbrev s_Heap_len : Stmt := inClass (top 51) 9
theorem sc_Heap_len : FnScope ["self"] ["self"] (defScope s_Heap_len) := ⟨rfl, rfl, rfl, by decide +kernel, rfl, by decide +kernel, by decide +kernel⟩
theorem ok_lenH (T : Tx w K mg) : Fm P w K mg base CX0 1 "Heap" "__len__" ["self"] (sp_lenH K) := by
  refine T.M_Heap_len.ok0 sc_Heap_len (fun _ _ _ _ _ _ us hl => match us, hl with | [_], _ => rfl)
    (fun vs H Q E h => ?_) (fun cdv A outer s H vs Q E hr h => ?_)
  · obtain ⟨a, ts, rfl, _⟩ := h
    rfl
  · obtain ⟨a, ts, rfl, ⟨dx, q, ws, ha, hq, hts⟩, k⟩ := h
    refine ⟨_, (pss_one (ps_ret (pe_callB call_len_seq (by rfl) T.z_len (by decide +kernel) (pa_cons (pe_fld (pv 0) rfl) pa_nil)))), ?_⟩
    refine ⟨_, rfl, a, _, dx, _, _, rfl, ha, T.k_Heap, T.n_Heap_trees, lookTr _, q, _, rfl, .inl (SqL.of hq), ?_⟩
    rw [hts.len]
    exact k
abbrev s_parting : Stmt := top 47
theorem sc_parting : FnScope ["one", "other"] ["one", "other"] (defScope s_parting) := ⟨rfl, rfl, rfl, by decide +kernel, rfl, by decide +kernel, by decide +kernel⟩
theorem ok_parting (T : Tx w K mg) : Fk P w K mg base CX0 77 "parting" ["one", "other"] (sp_parting K) := by
  refine T.F_parting.ok0 sc_parting (fun _ _ _ _ _ _ us hl => match us, hl with | [_, _], _ => rfl)
    (fun vs H Q E h => ?_) (fun cdv A outer s H vs Q E hr h => ?_)
  · obtain ⟨a, b, ts, us, rfl, _⟩ := h
    rfl
  · obtain ⟨a, b, ts, us, rfl, hha, hhb, hl, hlt, L, wt, wu, k⟩ := h
    refine ⟨_, (pss_cons (ps_if (pt_cmpR op_ne (pe_callB (call_lenO (ok_lenH T) (hr.mono (by omega))) (by rfl) T.z_len (by decide +kernel) (pa_cons (pv 0) pa_nil)) (pe_callB (call_lenO (ok_lenH T) (hr.mono (by omega))) (by rfl) T.z_len (by decide +kernel) (pa_cons (pv 1) pa_nil)) (nomark _))
  pss_never
  pss_nil)
  (pss_one (ps_ret (pe_fk (ok_tree_parting T) (hr.mono (by omega)) rfl pass0 (pa_cons (pe_fld (pv 0) rfl) (pa_cons (pe_fld (pv 1) rfl) pa_nil)))))), ?_⟩
    have big : 16777216 ≤ sizeLine := by decide
    obtain ⟨dx, q, ws, ha, hq, hts⟩ := id hha
    obtain ⟨dy, q2, ws2, hb, hq2, hts2⟩ := id hhb
    refine ⟨_, rfl, a, dx, _, rfl, ha, a, ts, rfl, hha, ts.length, rfl, (by omega), _, rfl, b, dy, _, rfl, hb, b, us, rfl, hhb, us.length, rfl, (by omega), rfl, _, rfl, ?_⟩
    refine iteN (by rw [hl]; simp) (nxt ?_)
    try dsimp only
    refine ⟨_, rfl, a, _, dx, _, _, rfl, ha, T.k_Heap, T.n_Heap_trees, lookTr _, _, rfl, b, _, dy, _, _, rfl, hb, T.k_Heap, T.n_Heap_trees, lookTr _, q, q2, ws, ws2, ts, us, rfl, hq, hq2, hts, hts2, hl, L, wt, wu, fun xv H' s' hx => k _ H' s' hx⟩
abbrev s_alike : Stmt := top 48
theorem sc_alike : FnScope ["one", "other"] ["one", "other"] (defScope s_alike) := ⟨rfl, rfl, rfl, by decide +kernel, rfl, by decide +kernel, by decide +kernel⟩
theorem ok_alike (T : Tx w K mg) : Fk P w K mg base CX0 78 "alike" ["one", "other"] (sp_alike K) := by
  refine T.F_alike.ok0 sc_alike (fun _ _ _ _ _ _ us hl => match us, hl with | [_, _], _ => rfl)
    (fun vs H Q E h => ?_) (fun cdv A outer s H vs Q E hr h => ?_)
  · obtain ⟨a, b, ts, us, rfl, _⟩ := h
    rfl
  · obtain ⟨a, b, ts, us, rfl, hha, hhb, hl, hlt, L, wt, wu, k⟩ := h
    refine ⟨_, (pss_one (ps_ret (pe_cmpR op_isN (pe_fk (ok_parting T) (hr.mono (by omega)) rfl pass0 (pa_cons (pv 0) (pa_cons (pv 1) pa_nil))) pe_non (nomark _)))), ?_⟩
    refine ⟨_, rfl, _, rfl, a, b, ts, us, rfl, hha, hhb, hl, hlt, L, wt, wu, fun xv H' s' hx => ⟨rfl, ?_⟩⟩
    have hi := part_iff wt wu hl
    refine k _ H' s' ?_
    rw [← hi]
    cases e : partF ts us with
    | none =>
      rw [e] at hx
      cases hx
      simp
    | some y =>
      rw [e] at hx
      obtain ⟨p, rfl⟩ := hx.some
      simp
end
end Rd
namespace Rd
open PySem L2
def Gd (t : Tr) : Prop := Wf t ∧ plainT t ∧ t.dep ≤ 6 ∧ t.all.length ≤ 29
end Rd
namespace Rd
open PySem L2
/-- two recipes go alike -/
def GoAl (ts us : List Tr) (r s : Rc) : Prop := ((ev ts r).isSome = (ev us r).isSome ∧ (ev ts s).isSome = (ev us s).isSome) ∧ ∀ t1 t2 u1 u2, ev ts r = some t1 → ev ts s = some t2 → ev us r = some u1 → ev us s = some u2 → (t1 = t2 ↔ u1 = u2)
theorem Alk.go {ts us : List Tr} (a : Alk ts us) {r s : Rc} (o1 : RcOk r) (o2 : RcOk s) : GoAl ts us r s := ⟨⟨a.w r o1, a.w s o2⟩, fun t1 t2 u1 u2 h1 h2 h3 h4 => a.e r s t1 t2 u1 u2 o1 o2 h1 h2 h3 h4⟩
/-- a recipe that only opens what is there -/
def OpR : Rc → Prop
  | .at_ _ => True
  | .wd _ => False
  | .un s r => (s = "first" ∨ s = "second") ∧ OpR r
  | .bi s r _ => (s = "unseal" ∨ s = "unlock") ∧ OpR r
end Rd
namespace Rd
open PySem L2
/-- a list comprehension over a list: what is made lives through all but the new list -/
theorem lclK {K : PySem.W.Frag} {a D : Addr} {xs : List V} {te : TE} {i0 : Nat} {σ : St} {H1 : Hp} {Qd : Hp → Prop} (R : Nat → Hp → V → Prop) (rm : ∀ i H H' v, Kp 0 H H' → But D H H' → R i H v → R i H' v) (hS : SqL K H1 a xs) (hl : xs.length ≤ 100000) (hD : H1 D = none)
    (hte : ∀ (i : Nat) (x : V) (H : Hp) (Q : VK), xs[i]? = some x → Same H1 H → H D ≠ none → (∀ v H', Same H H' → R i H' v → Q v H') → te ((wipe σ [i0]).set i0 (some x)) H Q)
    (hq : ∀ vs H', Same H1 H' → H' D = some (.lst vs) → vs.length = xs.length → (∀ (i : Nat) v, vs[i]? = some v → R i H' v) → Qd H') :
    ∃ W : Nat → Nat → Hp → Prop, (∃ m, W 0 m (L2.upd H1 D (.lst []))) ∧ ∀ i m H, W i m H →
      ((Itl K a).stop i H ∧ Qd H) ∨ ((Itl K a).go i H ∧ ∃ Nx : Hp → Prop, (∀ H', Nx H' → ∃ m', m' < m ∧ W (i + 1) m' H') ∧ ∀ x H', (Itl K a).yld i H x H' → gName i0 x (wipe σ [i0]) H' fun σ2 H2 => wipe σ2 [i0] = wipe σ [i0] ∧ tYes σ2 H2 fun b H3 =>
        if b = true then te σ2 H3 fun y H4 => ∃ acc, H4 D = some (.lst acc) ∧ acc.length < sizeLine ∧ Nx (L2.upd H4 D (.lst (acc ++ [y]))) else Nx H3) := by
  refine lc_list (K := K) (a := a) (xs := xs) (fun i H => ∃ vs, Same H1 H ∧ H D = some (.lst vs) ∧ vs.length = i ∧ (∀ (j : Nat) v, vs[j]? = some v → R j H v)) ?_ ?_ ?_ ?_
  · exact ⟨[], Rd.Same.upd hD, upd_same, rfl, fun j v h => by simp at h⟩
  · rintro i H hi ⟨vs, s, _⟩
    exact SqL.kept hS s
  · rintro i x H hx ⟨vs, s, hDv, hlv, hg⟩
    refine ⟨by simp [wipe], hte i x H _ hx s (by rw [hDv]; exact fun z => by cases z) fun v H' s' hv => ⟨vs, s' _ _ hDv, ?_, ?_⟩⟩
    · have : 100000 < sizeLine := by decide
      have := (List.getElem?_eq_some_iff.mp hx).1
      omega
    · have hDv' := s' _ _ hDv
      refine ⟨vs ++ [v], fun c o e => ?_, upd_same, by rw [List.length_append, hlv]; rfl, fun j v' hv' => ?_⟩
      · rw [upd_ne (ne_of_none e hD)]
        exact s' c o (s c o e)
      · have kp : But D H' (upd H' D (.lst (vs ++ [v]))) := But.upd
        have kp0 : Kp 0 H' (upd H' D (.lst (vs ++ [v]))) := Kp.upd_lst hDv'
        by_cases hj : j < vs.length
        · rw [List.getElem?_append_left hj] at hv'
          exact rm _ _ _ _ kp0 kp (rm _ _ _ _ (Kp.of_same s') (But.of_same s') (hg j v' hv'))
        · have e : j = vs.length := by
            have := (List.getElem?_eq_some_iff.mp hv').1
            rw [List.length_append, List.length_singleton] at this
            omega
          subst e
          rw [List.getElem?_append_right (Nat.le_refl _), Nat.sub_self] at hv'
          have e2 : v = v' := Option.some.inj hv'
          rw [← e2, hlv]
          exact rm _ _ _ _ kp0 kp hv
  · rintro H ⟨vs, s, hDv, hlv, hg⟩
    exact hq vs H s hDv hlv hg
/-- a list comprehension over a tuple: what is made lives through all but the new list -/
theorem lctK {K : PySem.W.Frag} {a D : Addr} {xs : List V} {te : TE} {i0 : Nat} {σ : St} {H1 : Hp} {Qd : Hp → Prop} (R : Nat → Hp → V → Prop) (rm : ∀ i H H' v, Kp 0 H H' → But D H H' → R i H v → R i H' v) (hS : SqT K H1 a xs) (hl : xs.length ≤ 100000) (hD : H1 D = none)
    (hte : ∀ (i : Nat) (x : V) (H : Hp) (Q : VK), xs[i]? = some x → Same H1 H → H D ≠ none → (∀ v H', Same H H' → R i H' v → Q v H') → te ((wipe σ [i0]).set i0 (some x)) H Q)
    (hq : ∀ vs H', Same H1 H' → H' D = some (.lst vs) → vs.length = xs.length → (∀ (i : Nat) v, vs[i]? = some v → R i H' v) → Qd H') :
    ∃ W : Nat → Nat → Hp → Prop, (∃ m, W 0 m (L2.upd H1 D (.lst []))) ∧ ∀ i m H, W i m H →
      ((Itt K a).stop i H ∧ Qd H) ∨ ((Itt K a).go i H ∧ ∃ Nx : Hp → Prop, (∀ H', Nx H' → ∃ m', m' < m ∧ W (i + 1) m' H') ∧ ∀ x H', (Itt K a).yld i H x H' → gName i0 x (wipe σ [i0]) H' fun σ2 H2 => wipe σ2 [i0] = wipe σ [i0] ∧ tYes σ2 H2 fun b H3 =>
        if b = true then te σ2 H3 fun y H4 => ∃ acc, H4 D = some (.lst acc) ∧ acc.length < sizeLine ∧ Nx (L2.upd H4 D (.lst (acc ++ [y]))) else Nx H3) := by
  refine lc_tup (K := K) (a := a) (xs := xs) (fun i H => ∃ vs, Same H1 H ∧ H D = some (.lst vs) ∧ vs.length = i ∧ (∀ (j : Nat) v, vs[j]? = some v → R j H v)) ?_ ?_ ?_ ?_
  · exact ⟨[], Rd.Same.upd hD, upd_same, rfl, fun j v h => by simp at h⟩
  · rintro i H hi ⟨vs, s, _⟩
    exact SqT.kept hS s
  · rintro i x H hx ⟨vs, s, hDv, hlv, hg⟩
    refine ⟨by simp [wipe], hte i x H _ hx s (by rw [hDv]; exact fun z => by cases z) fun v H' s' hv => ⟨vs, s' _ _ hDv, ?_, ?_⟩⟩
    · have : 100000 < sizeLine := by decide
      have := (List.getElem?_eq_some_iff.mp hx).1
      omega
    · have hDv' := s' _ _ hDv
      refine ⟨vs ++ [v], fun c o e => ?_, upd_same, by rw [List.length_append, hlv]; rfl, fun j v' hv' => ?_⟩
      · rw [upd_ne (ne_of_none e hD)]
        exact s' c o (s c o e)
      · have kp : But D H' (upd H' D (.lst (vs ++ [v]))) := But.upd
        have kp0 : Kp 0 H' (upd H' D (.lst (vs ++ [v]))) := Kp.upd_lst hDv'
        by_cases hj : j < vs.length
        · rw [List.getElem?_append_left hj] at hv'
          exact rm _ _ _ _ kp0 kp (rm _ _ _ _ (Kp.of_same s') (But.of_same s') (hg j v' hv'))
        · have e : j = vs.length := by
            have := (List.getElem?_eq_some_iff.mp hv').1
            rw [List.length_append, List.length_singleton] at this
            omega
          subst e
          rw [List.getElem?_append_right (Nat.le_refl _), Nat.sub_self] at hv'
          have e2 : v = v' := Option.some.inj hv'
          rw [← e2, hlv]
          exact rm _ _ _ _ kp0 kp hv
  · rintro H ⟨vs, s, hDv, hlv, hg⟩
    exact hq vs H s hDv hlv hg
theorem RunV.kp {ts : List Tr} {r : Rc} {H H' : Hp} {q : Addr} (k : Kp 0 H H') (h : RunV ts r H q) : RunV ts r H' q := by
  rcases h with ⟨t, u, e, h1, h2⟩ | ⟨e, u, e1, h1, h2⟩
  · exact .inl ⟨t, u, e, k _ _ rfl h1, h2.mono k⟩
  · exact .inr ⟨e, u, e1, k _ _ rfl h1, h2.mono k⟩
end Rd
namespace Rd
open PySem L2
theorem pi_tupk {X : Cx} {K : PySem.W.Frag} {tg l : Expr} {tl : TE} (hK : X.K = K) (hl : PE X l tl) : PI X tg l (iTup K tl) := by subst hK; exact pi_tup hl
theorem made_eqv (t u : Tr) : PyData.eqv (dat (.un "made" t)) (dat (.un "made" u)) = decide (t = u) := by
  rw [eqv_dat]
  apply decide_eq_decide.mpr
  exact ⟨fun e => (Tr.un.inj e).2, fun e => by rw [e]⟩
def wdV (fs : List Tr) (rc : Rc) : Str := if (ev fs rc).isSome then "made" else "stuck"
end Rd
namespace Rd
open PySem L2
theorem plain_all : ∀ {t : Tr}, plainT t → ∀ u ∈ t.all, plainT u
  | .am k x, h, u, hu => by
    rw [List.mem_singleton.mp hu]; exact h
  | .un s a, h, u, hu => by
    rcases List.mem_cons.mp hu with rfl | hu
    · exact h
    · exact plain_all (t := a) h u hu
  | .bi s a b, h, u, hu => by
    rcases List.mem_cons.mp hu with rfl | hu
    · exact h
    · obtain ⟨h1, h2⟩ := List.append_eq_nil_iff.mp h
      rcases List.mem_append.mp hu with hu | hu
      · exact plain_all (t := a) h1 u hu
      · exact plain_all (t := b) h2 u hu
theorem all_lenle : ∀ {t : Tr}, ∀ u ∈ t.all, u.all.length ≤ t.all.length
  | .am k x, u, hu => by
    rw [List.mem_singleton.mp hu]; exact Nat.le_refl _
  | .un s a, u, hu => by
    rcases List.mem_cons.mp hu with rfl | hu
    · exact Nat.le_refl _
    · have := all_lenle (t := a) u hu
      show u.all.length ≤ a.all.length + 1
      omega
  | .bi s a b, u, hu => by
    rcases List.mem_cons.mp hu with rfl | hu
    · exact Nat.le_refl _
    · show u.all.length ≤ (a.all ++ b.all).length + 1
      rw [List.length_append]
      rcases List.mem_append.mp hu with hu | hu
      · have := all_lenle (t := a) u hu
        omega
      · have := all_lenle (t := b) u hu
        omega
theorem gd_all {ts : List Tr} (h : ∀ t ∈ ts, Gd t) : ∀ u ∈ allOf ts, Gd u := fun u hu => by
  obtain ⟨t, ht, hu⟩ := List.mem_flatMap.mp hu
  obtain ⟨w1, w2, w3, w4⟩ := h t ht
  obtain ⟨a1, a2⟩ := all_wf w1 u hu
  have := all_lenle u hu
  exact ⟨a1, plain_all w2 u hu, by omega, by omega⟩
theorem gd_big {fs : List Tr} (hl : fs.length ≤ 8) (h : ∀ t ∈ fs, Gd t) : bigTs 6 fs ∧ okTs 6 fs ∧ (allOf fs).length ≤ 232 := by
  have h1 : (allOf fs).length ≤ fs.length * 29 := by
    rw [allOf_len]
    exact szs_le fun t ht => (h t ht).2.2.2
  have h2 : fs.length * 29 ≤ 8 * 29 := Nat.mul_le_mul_right _ hl
  exact ⟨⟨29, fun t ht => ⟨(h t ht).1, (h t ht).2.2.1, (h t ht).2.2.2⟩, by omega, by omega⟩, ⟨by omega, fun t ht => ⟨(h t ht).1, (h t ht).2.2.1, (h t ht).2.1⟩⟩, by omega⟩
theorem gd_lim {ts us : List Tr} (hl : ts.length ≤ 8) (h : ∀ t ∈ ts, Gd t) (g : ∀ t ∈ us, Gd t) : Lim ts us := by
  obtain ⟨_, _, h3⟩ := gd_big hl h
  exact ⟨fun t ht => by have := (gd_all h t ht).2.2.1; omega, fun t ht => by have := (gd_all g t ht).2.2.1; omega, by omega⟩
theorem cut_from2 {xs : List V} {k : Nat} (h : k ≤ xs.length) : cutV xs (some (k : Int)) none = xs.drop k := by
  unfold cutV
  rw [HT.sIx_nat, Nat.min_eq_left h]
  show (xs.drop k).take (xs.length - k) = xs.drop k
  rw [← List.length_drop, List.take_length]
theorem RunV.same {ts : List Tr} {r : Rc} {H H' : Hp} {q : Addr} (s : Same H H') (h : RunV ts r H q) : RunV ts r H' q := h.kp (Kp.of_same s)
end Rd
namespace Rd
open PySem L2
def subG (g : Int → Rc) : Rc → Rc
  | .at_ k => g k
  | .wd x => .wd x
  | .un s q => .un s (subG g q)
  | .bi s q q2 => .bi s (subG g q) (subG g q2)
theorem subG_ok {g : Int → Rc} (h : ∀ k, RcOk (g k)) : ∀ {q : Rc}, RcOk q → RcOk (subG g q)
  | .at_ k, _ => h k
  | .wd _, o => o
  | .un _ q, o => ⟨o.1, subG_ok h (q := q) o.2⟩
  | .bi _ q q2, o => ⟨o.1, subG_ok h (q := q) o.2.1, subG_ok h (q := q2) o.2.2⟩
theorem ev_subG {g : Int → Rc} {ts T : List Tr} (h : ∀ k, ev ts (.at_ k) = ev T (g k)) : ∀ q : Rc, ev ts q = ev T (subG g q)
  | .at_ k => h k
  | .wd _ => rfl
  | .un s q => by
    show (ev ts q).bind (wk1 s) = (ev T (subG g q)).bind (wk1 s)
    rw [ev_subG h q]
  | .bi s q q2 => by
    show ((ev ts q).bind fun a => (ev ts q2).bind (wk2 s a)) = ((ev T (subG g q)).bind fun a => (ev T (subG g q2)).bind (wk2 s a))
    rw [ev_subG h q, ev_subG h q2]
theorem Alk.of_sub {T U ts us : List Tr} (a : Alk T U) (g : Int → Rc) (ok : ∀ k, RcOk (g k)) (h1 : ∀ k, ev ts (.at_ k) = ev T (g k)) (h2 : ∀ k, ev us (.at_ k) = ev U (g k)) : Alk ts us :=
  ⟨fun r o => by rw [ev_subG h1, ev_subG h2]; exact a.w _ (subG_ok ok o), fun r s t1 t2 u1 u2 o1 o2 e1 e2 e3 e4 => by
    rw [ev_subG h1] at e1 e2
    rw [ev_subG h2] at e3 e4
    exact a.e _ _ _ _ _ _ (subG_ok ok o1) (subG_ok ok o2) e1 e2 e3 e4⟩
theorem ev_at {ts : List Tr} {k : Int} : ev ts (.at_ k) = if 0 ≤ k then ts[k.toNat]? else none := rfl
/-- every pair of letters stands in the other two heaps, too -/
theorem Alk.of_mem {T U ts us : List Tr} (a : Alk T U) (hl : T.length = U.length) (hl2 : ts.length = us.length) (h : ∀ z ∈ ts.zip us, z ∈ T.zip U) : Alk ts us := by
  have pick : ∀ k : Int, ∃ r, RcOk r ∧ ev ts (.at_ k) = ev T r ∧ ev us (.at_ k) = ev U r := fun k => by
    by_cases hk : 0 ≤ k ∧ k.toNat < ts.length
    · have e1 := List.getElem?_eq_getElem hk.2
      have e2 := List.getElem?_eq_getElem (show k.toNat < us.length by omega)
      have hz : (ts[k.toNat]'hk.2, us[k.toNat]'(by omega)) ∈ ts.zip us := by
        refine List.mem_of_getElem? (i := k.toNat) ?_
        rw [List.getElem?_zip_eq_some]
        exact ⟨e1, e2⟩
      obtain ⟨j, hj⟩ := List.mem_iff_getElem?.mp (h _ hz)
      rw [List.getElem?_zip_eq_some] at hj
      refine ⟨.at_ (j : Int), trivial, ?_, ?_⟩
      · rw [ev_at, ev_at, if_pos hk.1, if_pos (Int.natCast_nonneg j), e1, Int.toNat_natCast, hj.1]
      · rw [ev_at, ev_at, if_pos hk.1, if_pos (Int.natCast_nonneg j), e2, Int.toNat_natCast, hj.2]
    · refine ⟨.at_ (-1), trivial, ?_, ?_⟩
      · rw [ev_at, ev_at, if_neg (show ¬ (0 : Int) ≤ -1 by decide)]
        split
        · rename_i h0; exact List.getElem?_eq_none (by omega)
        · rfl
      · rw [ev_at, ev_at, if_neg (show ¬ (0 : Int) ≤ -1 by decide)]
        split
        · rename_i h0; exact List.getElem?_eq_none (by omega)
        · rfl
  exact a.of_sub (fun k => Classical.choose (pick k)) (fun k => (Classical.choose_spec (pick k)).1) (fun k => (Classical.choose_spec (pick k)).2.1) (fun k => (Classical.choose_spec (pick k)).2.2)
abbrev PrL := List (List Tr × List Tr)
def prP (k m n a b : Tr) : PrL := [
  ([.un "open" k], [.un "mark" k]), ([.un "own" k, .un "open" k], [.un "own" k, .un "open" m]),
  ([.un "own" (.bi "pair" a b)], [.un "own" n]), ([k, .bi "seal" a k], [k, .bi "seal" b k]),
  ([.bi "lock" a (.un "open" k), .un "open" k], [.bi "lock" b (.un "open" k), .un "open" k]),
  ([.un "mark" n, n], [.un "mark" m, n]), ([.bi "seal" n k, .bi "seal" n k], [.bi "seal" n k, .bi "seal" m k]),
  ([.bi "lock" a (.un "own" k), k], [.bi "lock" b (.un "own" k), k]),
  ([.bi "pair" k m], [.bi "seal" k m]),
  ([a], [b]), ([n, n], [n, m]), ([.bi "seal" n k, k, n], [.bi "seal" n k, k, m])]
def prS (k m n a b : Tr) : PrL := [
  ([.un "own" k], [.un "own" m]), ([.un "own" k], [.un "open" k]), ([.bi "seal" a k], [.bi "seal" b k]),
  ([.bi "lock" (.bi "pair" a n) (.un "open" k), .un "open" k], [.bi "lock" (.bi "pair" b n) (.un "open" k), .un "open" k]),
  ([.un "mark" n, m], [.un "mark" k, m]), ([.bi "seal" n k], [.un "mark" n]), ([.bi "seal" k k], [n]),
  ([.bi "lock" a (.un "open" k)], [.bi "lock" b (.un "own" m)]),
  ([.bi "lock" n (.un "own" k), k], [.bi "lock" m (.un "own" k), k]),
  ([.un "own" (.un "own" k)], [.un "own" (.un "mark" k)])]
def farT : Tr := .am "name" "FAR"
def stk (a b : Tr) : List Tr := [farT, .un "mark" farT, .bi "seal" a farT, .un "own" (.am "name" "OTHER"), .bi "pair" farT b]
def NM3 : List (Str × Str × Str) := [("K", "M", "N"), ("M", "N", "K"), ("N", "K", "M"), ("ZZ", "A1", "A"), ("A1", "A", "ZZ"), ("A", "ZZ", "A1"), ("AAAAAAAA", "B", "C9"), ("B", "C9", "AAAAAAAA"), ("C9", "AAAAAAAA", "B")]
def WD2 : List (Str × Str) := [("a", "b"), ("yes", "no"), ("own", "zzzzzzzz")]
def nmT (x : Str) : Tr := .am "name" x
def wdT (x : Str) : Tr := .am "word" x
def prP' (p : Str × Str × Str) (q : Str × Str) : PrL := prP (nmT p.1) (nmT p.2.1) (nmT p.2.2) (wdT q.1) (wdT q.2)
def prS' (p : Str × Str × Str) (q : Str × Str) : PrL := prS (nmT p.1) (nmT p.2.1) (nmT p.2.2) (wdT q.1) (wdT q.2)
def stk' (q : Str × Str) : List Tr := stk (wdT q.1) (wdT q.2)
theorem parted_all : (NM3.all fun p => WD2.all fun q => (prP' p q).all fun z => (partF z.1 z.2).isSome && decide (z.1.length = z.2.length)) = true := by decide +kernel
theorem same_all : (NM3.all fun p => WD2.all fun q => (prS' p q).all fun z => (partF (z.1 ++ stk' q) (z.2 ++ stk' q)).isNone && decide (z.1.length = z.2.length)) = true := by decide +kernel
end Rd
namespace Rd
open PySem L2
def Sq2 (K : PySem.W.Frag) (H : Hp) (a : Addr) (xs : List V) : Prop := H a = some (.tup xs) ∨ ∃ (o : Obj) (its : Array Value) (n : Nat), K.lookup a = some o ∧ o.cls = .type "tuple" ∧ o.data = .seq its n ∧ its.size ≤ sizeLine ∧ Vals xs its.toList
theorem Sq2.sq {K : PySem.W.Frag} {H : Hp} {a : Addr} {xs : List V} (h : Sq2 K H a xs) : SqT K H a xs := h.imp .inl id
theorem Sq2.mono {C : Addr} {K : PySem.W.Frag} {H H' : Hp} {a : Addr} {xs : List V} (k : Kp C H H') (h : Sq2 K H a xs) : Sq2 K H' a xs := h.imp (k _ _ rfl) id
theorem Sq2.same {K : PySem.W.Frag} {H H' : Hp} {a : Addr} {xs : List V} (s : Same H H') (h : Sq2 K H a xs) : Sq2 K H' a xs := h.imp (s _ _) id
theorem Sq2.ofT {K : PySem.W.Frag} {H : Hp} {a : Addr} {xs : List V} (h : ∀ H, SqT K H a xs) : Sq2 K H a xs := by
  rcases h (fun _ => none) with (h | ⟨_, h⟩) | h
  · cases h
  · cases h
  · exact .inr h
/-- isinstance(x, tuple) of a tuple (a written one, too), a text or a number -/
def rIsTu (K : PySem.W.Frag) : List V → Hp → VK → Prop := fun xs H Q => ∃ (x : V) (b : Bool), xs = [x, .ty "tuple"] ∧ ((∃ a ys, x = .ref a ∧ Sq2 K H a ys ∧ b = true) ∨ (∃ s, x = .str s ∧ b = false) ∨ (∃ i, x = .int i ∧ b = false) ∨ (x = .non ∧ b = false)) ∧ Q (.bl b) H
theorem call_isTu {X : Cx} {K : PySem.W.Frag} (hK : X.K = K) : CallR X (.builtin "isinstance") (rIsTu K) := by
  subst hK
  intro pins s σ H xs us Q I r h
  obtain ⟨x, b, rfl, hx, q⟩ := h
  rcases hx with ⟨a, ys, rfl, hs, rfl⟩ | ⟨z, rfl, rfl⟩ | ⟨z, rfl, rfl⟩ | ⟨rfl, rfl⟩
  · rcases hs with hs | ⟨o, its, n, h1, h2, _⟩
    · exact call_isi pins s σ H _ us Q I r ⟨_, .ty "tuple", _, _, _, rfl, .ty "tuple", .base (.tup hs), isi_tup, q⟩
    · obtain ⟨u1, u2, rfl, r1, r2⟩ := vals2 r
      cases (show u1 = Value.ref a from r1)
      have e2 := (ClsV.ty "tuple").eq r2
      subst e2
      exact PySem.W.kia_one PySem.W.kitx_tuple I.kIn ⟨o, I.kIn _ _ h1, h2⟩ isi_tup (fun z => nomatch z) fun tk => ⟨.bl true, H, I.tok tk, rfl, q⟩
  · exact call_isi pins s σ H _ us Q I r ⟨_, .ty "tuple", _, _, _, rfl, .ty "tuple", .base (.str _), isi_stup, q⟩
  · exact call_isi pins s σ H _ us Q I r ⟨_, .ty "tuple", _, _, _, rfl, .ty "tuple", .base (.int _), isi_itup, q⟩
  · exact call_isi pins s σ H _ us Q I r ⟨_, .ty "tuple", _, _, _, rfl, .ty "tuple", .base .non, isi_base (by decide +kernel), q⟩
def IsTk (K : PySem.W.Frag) (H : Hp) : Tr → V → Prop
  | .am k x, v => ∃ p, v = .ref p ∧ Sq2 K H p [.str k, .str x]
  | .un s a, v => ∃ p u, v = .ref p ∧ Sq2 K H p [.str s, u] ∧ IsTk K H a u
  | .bi s a b, v => ∃ p u u2, v = .ref p ∧ Sq2 K H p [.str s, u, u2] ∧ IsTk K H a u ∧ IsTk K H b u2
theorem IsTk.of {K : PySem.W.Frag} {H : Hp} : ∀ {t : Tr} {v : V}, IsT H t v → IsTk K H t v
  | .am _ _, v, ⟨p, e, h⟩ => ⟨p, e, .inl h⟩
  | .un s a, v, ⟨p, u, e, h, g⟩ => ⟨p, u, e, .inl h, IsTk.of g⟩
  | .bi s a b, v, ⟨p, u, u2, e, h, g1, g2⟩ => ⟨p, u, u2, e, .inl h, IsTk.of g1, IsTk.of g2⟩
theorem IsTk.mono {C : Addr} {K : PySem.W.Frag} {H H' : Hp} (k : Kp C H H') : ∀ {t : Tr} {v : V}, IsTk K H t v → IsTk K H' t v
  | .am _ _, v, ⟨p, e, h⟩ => ⟨p, e, h.mono k⟩
  | .un s a, v, ⟨p, u, e, h, g⟩ => ⟨p, u, e, h.mono k, IsTk.mono k g⟩
  | .bi s a b, v, ⟨p, u, u2, e, h, g1, g2⟩ => ⟨p, u, u2, e, h.mono k, IsTk.mono k g1, IsTk.mono k g2⟩
theorem IsTk.same {K : PySem.W.Frag} {H H' : Hp} {t : Tr} {v : V} (s : Same H H') (h : IsTk K H t v) : IsTk K H' t v := h.mono (C := 0) (Kp.of_same s)
theorem IsTk.hd {K : PySem.W.Frag} {H : Hp} {t : Tr} {v : V} (h : IsTk K H t v) : ∃ p us, v = .ref p ∧ Sq2 K H p (.str t.head :: us) := by
  cases t with
  | am k x => obtain ⟨p, e, h⟩ := h; exact ⟨p, _, e, h⟩
  | un s a => obtain ⟨p, u, e, h, _⟩ := h; exact ⟨p, _, e, h⟩
  | bi s a b => obtain ⟨p, u, u2, e, h, _⟩ := h; exact ⟨p, _, e, h⟩
theorem IsTk.dp {K : PySem.W.Frag} {H : Hp} : ∀ {t : Tr} {v : V}, IsTk K H t v → Dp K H v (dat t)
  | .am _ _, v, ⟨p, e, h⟩ => by subst e; exact .tup h.sq (.cons (.str _) (.cons (.str _) .nil))
  | .un s a, v, ⟨p, u, e, h, g⟩ => by subst e; exact .tup h.sq (.cons (.str _) (.cons (IsTk.dp g) .nil))
  | .bi s a b, v, ⟨p, u, u2, e, h, g1, g2⟩ => by subst e; exact .tup h.sq (.cons (.str _) (.cons (IsTk.dp g1) (.cons (IsTk.dp g2) .nil)))
def IsRq (K : PySem.W.Frag) (H : Hp) : Rc → V → Prop
  | .at_ k, v => ∃ p, v = .ref p ∧ Sq2 K H p [.str "at", .int k]
  | .wd x, v => ∃ p, v = .ref p ∧ Sq2 K H p [.str "word", .str x]
  | .un s r, v => ∃ p u, v = .ref p ∧ Sq2 K H p [.str s, u] ∧ IsRq K H r u
  | .bi s r q, v => ∃ p u u2, v = .ref p ∧ Sq2 K H p [.str s, u, u2] ∧ IsRq K H r u ∧ IsRq K H q u2
theorem IsRq.of {K : PySem.W.Frag} {H : Hp} (W : ∀ H, SqT K H (He.ga K "SOME_WORD") [.str "word", .str "a"]) : ∀ {r : Rc} {v : V}, IsRk K H r v → IsRq K H r v
  | .at_ _, v, ⟨p, e, h⟩ => ⟨p, e, .inl h⟩
  | .wd _, v, h => by
    rcases h with ⟨p, e, h⟩ | ⟨rfl, rfl⟩
    · exact ⟨p, e, .inl h⟩
    · exact ⟨_, rfl, Sq2.ofT W⟩
  | .un s r, v, ⟨p, u, e, h, g⟩ => ⟨p, u, e, .inl h, IsRq.of W g⟩
  | .bi s r q, v, ⟨p, u, u2, e, h, g1, g2⟩ => ⟨p, u, u2, e, .inl h, IsRq.of W g1, IsRq.of W g2⟩
theorem IsRq.mono {C : Addr} {K : PySem.W.Frag} {H H' : Hp} (k : Kp C H H') : ∀ {r : Rc} {v : V}, IsRq K H r v → IsRq K H' r v
  | .at_ _, v, ⟨p, e, h⟩ => ⟨p, e, h.mono k⟩
  | .wd _, v, ⟨p, e, h⟩ => ⟨p, e, h.mono k⟩
  | .un s a, v, ⟨p, u, e, h, g⟩ => ⟨p, u, e, h.mono k, IsRq.mono k g⟩
  | .bi s a b, v, ⟨p, u, u2, e, h, g1, g2⟩ => ⟨p, u, u2, e, h.mono k, IsRq.mono k g1, IsRq.mono k g2⟩
theorem IsRq.same {K : PySem.W.Frag} {H H' : Hp} {r : Rc} {v : V} (s : Same H H') (h : IsRq K H r v) : IsRq K H' r v := h.mono (C := 0) (Kp.of_same s)
theorem IsRq.hd {K : PySem.W.Frag} {H : Hp} {r : Rc} {v : V} (h : IsRq K H r v) : ∃ p vs, v = .ref p ∧ Sq2 K H p (.str r.tag :: vs) := by
  cases r with
  | at_ k => obtain ⟨p, e, h⟩ := h; exact ⟨p, _, e, h⟩
  | wd x => obtain ⟨p, e, h⟩ := h; exact ⟨p, _, e, h⟩
  | un s r => obtain ⟨p, u, e, h, _⟩ := h; exact ⟨p, _, e, h⟩
  | bi s r q => obtain ⟨p, u, u2, e, h, _⟩ := h; exact ⟨p, _, e, h⟩
theorem IsRq.kids {K : PySem.W.Frag} {H : Hp} {r : Rc} {v : V} (h : IsRq K H r v) (hk : r.kids ≠ []) : ∃ p us, v = .ref p ∧ Sq2 K H p (.str r.tag :: us) ∧ AtL (IsRq K) H r.kids us := by
  cases r with
  | at_ k => exact absurd rfl hk
  | wd x => exact absurd rfl hk
  | un s r =>
    obtain ⟨p, u, e, h, g⟩ := h
    exact ⟨p, [u], e, h, rfl, fun i a b h1 h2 => by
      cases i with
      | zero => cases h1; cases h2; exact g
      | succ i => cases i <;> cases h1⟩
  | bi s r q =>
    obtain ⟨p, u, u2, e, h, g1, g2⟩ := h
    refine ⟨p, [u, u2], e, h, rfl, fun i a b h1 h2 => ?_⟩
    match i, h1, h2 with
    | 0, h1, h2 => cases h1; cases h2; exact g1
    | 1, h1, h2 => cases h1; cases h2; exact g2
def IsEk (K : PySem.W.Frag) (H : Hp) (o : Option Rc) (v : V) : Prop := (∃ r, o = some r ∧ IsRq K H r v) ∨ (o = none ∧ ((∃ s, v = .str s) ∨ ∃ k, v = .int k))
theorem IsRq.els {K : PySem.W.Frag} {H : Hp} {r : Rc} {v : V} (h : IsRq K H r v) : ∃ q zs, v = .ref q ∧ Sq2 K H q zs ∧ zs.length = r.els.length ∧ zs.length ≤ 3 ∧ ∀ (i : Nat) o x, r.els[i]? = some o → zs[i]? = some x → IsEk K H o x := by
  cases r with
  | at_ k =>
    obtain ⟨p, rfl, hp⟩ := h
    refine ⟨p, _, rfl, hp, rfl, by simp, fun i o x h1 h2 => ?_⟩
    match i, h1, h2 with
    | 0, h1, h2 => cases h1; cases h2; exact .inr ⟨rfl, .inl ⟨_, rfl⟩⟩
    | 1, h1, h2 => cases h1; cases h2; exact .inr ⟨rfl, .inr ⟨_, rfl⟩⟩
  | wd y =>
    obtain ⟨p, rfl, hp⟩ := h
    refine ⟨p, _, rfl, hp, rfl, by simp, fun i o x h1 h2 => ?_⟩
    match i, h1, h2 with
    | 0, h1, h2 => cases h1; cases h2; exact .inr ⟨rfl, .inl ⟨_, rfl⟩⟩
    | 1, h1, h2 => cases h1; cases h2; exact .inr ⟨rfl, .inl ⟨_, rfl⟩⟩
  | un s r =>
    obtain ⟨p, u, rfl, hp, i1⟩ := h
    refine ⟨p, _, rfl, hp, rfl, by simp, fun i o x h1 h2 => ?_⟩
    match i, h1, h2 with
    | 0, h1, h2 => cases h1; cases h2; exact .inr ⟨rfl, .inl ⟨_, rfl⟩⟩
    | 1, h1, h2 => cases h1; cases h2; exact .inl ⟨_, rfl, i1⟩
  | bi s r q =>
    obtain ⟨p, u, u2, rfl, hp, i1, i2⟩ := h
    refine ⟨p, _, rfl, hp, rfl, by simp, fun i o x h1 h2 => ?_⟩
    match i, h1, h2 with
    | 0, h1, h2 => cases h1; cases h2; exact .inr ⟨rfl, .inl ⟨_, rfl⟩⟩
    | 1, h1, h2 => cases h1; cases h2; exact .inl ⟨_, rfl, i1⟩
    | 2, h1, h2 => cases h1; cases h2; exact .inl ⟨_, rfl, i2⟩
theorem IsEk.same {K : PySem.W.Frag} {H H' : Hp} {o : Option Rc} {v : V} (s : Same H H') (h : IsEk K H o v) : IsEk K H' o v := by
  rcases h with ⟨r, e, h⟩ | h
  · exact .inl ⟨r, e, h.same s⟩
  · exact .inr h
abbrev TsK (K : PySem.W.Frag) (H : Hp) (ts : List Tr) (vs : List V) : Prop := AtL (IsTk K) H ts vs
theorem TsK.mono {C : Addr} {K : PySem.W.Frag} {H H' : Hp} {ts : List Tr} {vs : List V} (k : Kp C H H') (h : TsK K H ts vs) : TsK K H' ts vs := ⟨h.len, fun i t v h1 h2 => (h.get i t v h1 h2).mono k⟩
theorem TsK.same {K : PySem.W.Frag} {H H' : Hp} {ts : List Tr} {vs : List V} (s : Same H H') (h : TsK K H ts vs) : TsK K H' ts vs := h.mono (C := 0) (Kp.of_same s)
theorem TsK.of {K : PySem.W.Frag} {H : Hp} {ts : List Tr} {vs : List V} (h : TsAt H ts vs) : TsK K H ts vs := ⟨h.len, fun i t v h1 h2 => .of (h.get i t v h1 h2)⟩
theorem TsK.one {K : PySem.W.Frag} {H : Hp} {t : Tr} {v : V} (h : IsTk K H t v) : TsK K H [t] [v] := ⟨rfl, fun i t' v' h1 h2 => by
  cases i with
  | zero => cases h1; cases h2; exact h
  | succ i => cases i <;> cases h1⟩
def TrVk (K : PySem.W.Frag) (H : Hp) (o : Option Tr) (v : V) : Prop := (o = none ∧ v = .non) ∨ ∃ t, o = some t ∧ IsTk K H t v
def sp_partnerk (K : PySem.W.Frag) : Sp := fun vs H Q _ => ∃ (v : V) (s : Str) (a : Tr), vs = [v] ∧ IsTk K H (.un s a) v ∧ s ∈ (["open", "own"] : List Str) ∧ ∀ u H', Same H H' → IsTk K H' (.un (prt s) a) u → Q u H'
def sp_ukeyk (K : PySem.W.Frag) : Sp := fun vs H Q _ => ∃ (v : V) (t key : Tr), vs = [v] ∧ IsTk K H t v ∧ Wf t ∧ ukey t = some key ∧ ∀ u H', Same H H' → IsTk K H' key u → Q u H'
def sp_workedk (K : PySem.W.Frag) : Sp := fun vs H Q _ => ∃ (s : Str) (a : Addr) (us : List V) (ts : List Tr), vs = [.str s, .ref a] ∧ H a = some (.lst us) ∧ TsK K H ts us ∧ (∀ t ∈ ts, Wf t ∧ t.dep ≤ 400) ∧ ((s ∈ UNL ∧ ts.length = 1) ∨ (s ∈ BIL ∧ ts.length = 2)) ∧ ∀ u H', Same H H' → TrVk K H' (wkd s ts) u → Q u H'
def RunK (K : PySem.W.Frag) (ts : List Tr) (r : Rc) (H : Hp) (q : Addr) : Prop := (∃ t u, rcx ts r = .inr t ∧ H q = some (.tup [.str "made", u]) ∧ IsTk K H t u) ∨ (∃ e u, rcx ts r = .inl e ∧ H q = some (.tup [.str "stuck", u]) ∧ IsRq K H e u)
def sp_lrunk (K : PySem.W.Frag) (n : Nat) : Sp := fun vs H Q _ => ∃ (v : V) (a : Addr) (r : Rc) (ws : List V) (ts : List Tr), vs = [v, .ref a] ∧ IsRq K H r v ∧ RcOk r ∧ r.dp ≤ n ∧ n ≤ 110 ∧ H a = some (.lst ws) ∧ TsAt H ts ws ∧ (∀ t ∈ ts, Wf t ∧ t.dep ≤ 100) ∧ ts.length ≤ 100000 ∧ ∀ q H', Same H H' → RunK K ts r H' q → Q (.ref q) H'
def spLRk (K : PySem.W.Frag) : Nat → Sp
  | 0 => fun _ _ _ _ => False
  | n + 1 => sp_lrunk K n
def sp_tuplesk (K : PySem.W.Frag) : Sp := fun vs H Q _ => ∃ (v : V) (r : Rc), vs = [v] ∧ IsRq K H r v ∧ ∀ (c : Int) H', Same H H' → c ≤ (r.sz : Int) → (c < 101 → c = (r.sz : Int)) → Q (.int c) H'
end Rd
namespace Rd
open PySem L2
section
variable {P : Program} {w : World} {K : PySem.W.Frag} {mg : Str → Option Value} {base : Heap}
theorem ok__law_partnerk (T : Tx w K mg) : Fk P w K mg base CX0 1 "_law_partner" ["_law_key"] (sp_partnerk K) := by
  refine T.F__law_partner.ok0 sc__law_partner (fun _ _ _ _ _ _ us hl => match us, hl with | [_], _ => rfl)
    (fun vs H Q E h => ?_) (fun cdv A outer s H vs Q E hr h => ?_)
  · obtain ⟨v, s, a, rfl, _⟩ := h
    rfl
  · obtain ⟨v, s, a, rfl, it, hs, k⟩ := h
    refine ⟨_, (pss_one (ps_ret (pe_tup (pa_cons (pe_ix ix_list (pe_lst (pa_cons pe_str (pa_cons pe_str pa_nil))) (pe_callTy call_int1 (by rfl) T.z_int (by decide +kernel) (pa_cons (pe_cmpR op_eq (pe_ix ix_tup (pv 0) pe_int (fun _ _ => rfl)) pe_str (nomark _)) pa_nil)) (fun _ _ => rfl)) (pa_cons (pe_ix ix_tup (pv 0) pe_int (fun _ _ => rfl)) pa_nil))))), ?_⟩
    obtain ⟨p, u, rfl, hp, iu⟩ := it
    refine ⟨(by show 2 ≤ sizeLine; decide), fun q1 hq1 => ?_⟩
    have s1 := Rd.Same.upd (o := .lst [.str "own", .str "open"]) hq1
    have h11 : upd H q1 (.lst [.str "own", .str "open"]) q1 = some (.lst [.str "own", .str "open"]) := upd_same
    generalize upd H q1 (.lst [.str "own", .str "open"]) = H1 at s1 h11 ⊢
    have fin : ∀ (z : Str), z = prt s → (∃ z', (V.str z = z') ∧ True) := fun z _ => ⟨_, rfl, trivial⟩
    refine ⟨_, rfl, p, _, _, _, rfl, rfl, (hp.same s1).sq, at_of (j := 0) rfl rfl, rfl, .inr ⟨_, rfl, ?_⟩⟩
    rw [decS]
    by_cases e : s = "own"
    · subst e
      refine ⟨q1, _, _, .str "open", rfl, rfl, SqL.of h11, at_of (j := 1) (by decide +kernel) rfl, _, rfl, p, _, _, _, rfl, rfl, (hp.same s1).sq, at_of (j := 1) rfl rfl, (by show 2 ≤ sizeLine; decide), fun q hq => ?_⟩
      have sq := Rd.Same.upd (o := .tup [.str "open", u]) hq
      exact k _ _ (s1.trans sq) ⟨q, u, rfl, .inl upd_same, (iu.same s1).same sq⟩
    · have eo : s = "open" := by
        rcases List.mem_cons.mp hs with h | h
        · exact h
        · exact absurd (List.mem_singleton.mp h) e
      subst eo
      refine ⟨q1, _, _, .str "own", rfl, rfl, SqL.of h11, at_of (j := 0) (by decide +kernel) rfl, _, rfl, p, _, _, _, rfl, rfl, (hp.same s1).sq, at_of (j := 1) rfl rfl, (by show 2 ≤ sizeLine; decide), fun q hq => ?_⟩
      have sq := Rd.Same.upd (o := .tup [.str "own", u]) hq
      exact k _ _ (s1.trans sq) ⟨q, u, rfl, .inl upd_same, (iu.same s1).same sq⟩
theorem ok__law_undoingk (T : Tx w K mg) : Fk P w K mg base CX0 2 "_law_undoing" ["_law_form"] (sp_ukeyk K) := by
  refine T.F__law_undoing.ok0 sc__law_undoing (fun _ _ _ _ _ _ us hl => match us, hl with | [_], _ => rfl)
    (fun vs H Q E h => ?_) (fun cdv A outer s H vs Q E hr h => ?_)
  · obtain ⟨v, t, key, rfl, _⟩ := h
    rfl
  · obtain ⟨v, t, key, rfl, it, wf, hk, k⟩ := h
    refine ⟨_, (pss_cons (ps_if (pt_cmpR op_eq (pe_ix ix_tup (pv 0) pe_int (fun _ _ => rfl)) pe_str (nomark _))
  (pss_one (ps_ret (pe_ix ix_tup (pv 0) pe_int (fun _ _ => rfl))))
  pss_nil)
  (pss_one (ps_ret (pe_fk (ok__law_partnerk T) (hr.mono (by omega)) rfl pass0 (pa_cons (pe_ix ix_tup (pv 0) pe_int (fun _ _ => rfl)) pa_nil))))), ?_⟩
    rcases ukey_inv wf hk with ⟨c, rfl⟩ | ⟨c, s, k0, rfl, hs, rfl⟩
    · obtain ⟨p, u1, u2, rfl, hp, i1, i2⟩ := it
      refine ⟨_, rfl, p, _, _, _, rfl, rfl, hp.sq, at_of (j := 0) rfl rfl, rfl, _, rfl, iteP (by decide +kernel) ?_⟩
      exact ⟨_, rfl, p, _, _, _, rfl, rfl, hp.sq, at_of (j := 2) rfl rfl, k _ _ (Same.refl _) i2⟩
    · obtain ⟨p, u1, u2, rfl, hp, i1, i2⟩ := it
      refine ⟨_, rfl, p, _, _, _, rfl, rfl, hp.sq, at_of (j := 0) rfl rfl, rfl, _, rfl, iteN (by decide +kernel) (nxt ?_)⟩
      try dsimp only
      exact ⟨_, rfl, p, _, _, _, rfl, rfl, hp.sq, at_of (j := 2) rfl rfl, u2, s, k0, rfl, i2, hs, fun u H' s' iu => k _ _ s' iu⟩
theorem ok__law_stepk (T : Tx w K mg) : Fk P w K mg base CX0 30 "_law_step" ["_law_kind", "_law_inner"] (sp_workedk K) := by
  refine T.F__law_step.ok0 sc__law_step (fun _ _ _ _ _ _ us hl => match us, hl with | [_, _], _ => rfl)
    (fun vs H Q E h => ?_) (fun cdv A outer s H vs Q E hr h => ?_)
  · obtain ⟨s, a, us, ts, rfl, _⟩ := h
    rfl
  · obtain ⟨s, a, us, ts, rfl, ha, hts, wt, hk, k⟩ := h
    refine ⟨_, (pss_cons (ps_if (pt_cmpR op_in_seq (pv 0) (pe_lst (pa_cons pe_str (pa_cons pe_str pa_nil))) (by rfl))
  (pss_one (ps_ret (pe_ifExp (pt_cmpR op_eq (pe_ix ix_tup (pe_ix ix_list (pv 1) pe_int (fun _ _ => rfl)) pe_int (fun _ _ => rfl)) pe_str (nomark _)) (pe_ix ix_tup (pe_ix ix_list (pv 1) pe_int (fun _ _ => rfl)) (pe_op op_add pe_int (pe_callTy call_int1 (by rfl) T.z_int (by decide +kernel) (pa_cons (pe_cmpR op_eq (pv 0) pe_str (nomark _)) pa_nil))) (fun _ _ => rfl)) pe_non)))
  pss_nil)
  (pss_cons (ps_if (pt_cmpR op_in_seq (pv 0) (pe_lst (pa_cons pe_str (pa_cons pe_str pa_nil))) (by rfl))
  (pss_cons (ps_set (i := 2) sc__law_step.nd rfl (Or.inl rfl) (pe_and (pe_cmpR op_eq (pe_ix ix_tup (pe_ix ix_list (pv 1) pe_int (fun _ _ => rfl)) pe_int (fun _ _ => rfl)) (pe_slice sl_str (pv 0) (po_some pe_int) po_none) (nomark _)) (pe_one (pe_cmpR (op_eqW (units500 hr (by omega))) (pe_fk (ok__law_undoingk T) (hr.mono (by omega)) rfl pass0 (pa_cons (pe_ix ix_list (pv 1) pe_int (fun _ _ => rfl)) pa_nil)) (pe_ix ix_list (pv 1) pe_int (fun _ _ => rfl)) (nomark _)))))
  (pss_one (ps_ret (pe_ifExp (pt_val (pv 2)) (pe_ix ix_tup (pe_ix ix_list (pv 1) pe_int (fun _ _ => rfl)) pe_int (fun _ _ => rfl)) pe_non))))
  pss_nil)
  (pss_cons (ps_if (PW.pt (pw_and (pt_cmpR op_eq (pv 0) pe_str (nomark _)) (pw_and1 (pt_cmpR op_notIn_seq (pe_ix ix_tup (pe_ix ix_list (pv 1) pe_int (fun _ _ => rfl)) pe_int (fun _ _ => rfl)) (pe_lst (pa_cons pe_str (pa_cons pe_str pa_nil))) (by rfl)))))
  (pss_one (ps_ret pe_non))
  pss_nil)
  (pss_one (ps_ret (pe_callTy call_tuple_of (by rfl) T.z_tuple (by decide +kernel) (pa_cons (pe_op op_cat (pe_lst (pa_cons (pv 0) pa_nil)) (pv 1)) pa_nil))))))), ?_⟩
    have hul := hts.len
    obtain ⟨t, u0, ht0, hu0, it, wf, dt⟩ : ∃ t u0, ts[0]? = some t ∧ us[0]? = some u0 ∧ IsTk K H t u0 ∧ Wf t ∧ t.dep ≤ 400 := by
      have hl : 0 < ts.length := by rcases hk with ⟨_, e⟩ | ⟨_, e⟩ <;> omega
      have e1 : ts[0]? = some ts[0] := List.getElem?_eq_getElem hl
      have e2 : us[0]? = some us[0] := List.getElem?_eq_getElem (by omega)
      exact ⟨_, _, e1, e2, hts.get 0 _ _ e1 e2, wt _ (List.getElem_mem hl)⟩
    have eu0 : atI us 0 = some u0 := at_of (j := 0) rfl hu0
    refine ⟨_, rfl, (by show 2 ≤ sizeLine; decide), fun q1 hq1 => ?_⟩
    have s1 := Rd.Same.upd (o := .lst [.str "first", .str "second"]) hq1
    refine ⟨q1, _, rfl, .inl (SqL.of upd_same), rfl, rfl, _, rfl, ?_⟩
    rw [if_neg Bool.false_ne_true, show inV (V.str s) [.str "first", .str "second"] = decide (s ∈ (["first", "second"] : List Str)) from inV_strs s ["first", "second"]]
    generalize upd H q1 (.lst [.str "first", .str "second"]) = H1 at s1 ⊢
    have ha1 := s1 _ _ ha
    have it1 := it.same s1
    obtain ⟨pf, zs, e0, hpf⟩ := it1.hd
    subst e0
    by_cases hf : s ∈ (["first", "second"] : List Str)
    · refine iteP (decide_eq_true hf) ?_
      obtain ⟨rfl⟩ : ts = [t] := by
        rcases hk with ⟨_, e⟩ | ⟨h, _⟩
        · match ts, e, ht0 with
          | [a], _, h => cases h; rfl
        · have : ∀ z ∈ BIL, z ∉ (["first", "second"] : List Str) := by decide +kernel
          exact absurd hf (this s h)
      refine ⟨_, rfl, a, _, _, _, rfl, rfl, SqL.of ha1, eu0, pf, _, _, _, rfl, rfl, hpf.sq, at_of (j := 0) rfl rfl, rfl, _, rfl, ?_⟩
      rw [decS]
      by_cases hp : t.head = "pair"
      · refine iteP (decide_eq_true hp) ?_
        obtain ⟨c, b, rfl⟩ : ∃ c b, t = .bi "pair" c b := by
          rcases wf.shp with ⟨k0, x0, rfl, ko⟩ | ⟨s0, a0, rfl, hs, _⟩ | ⟨s0, a0, b0, rfl, hs, wa, wb⟩
          · rcases ko with ⟨rfl, _⟩ | ⟨rfl, _⟩ | ⟨rfl, _⟩
            · exact absurd (show ("word" : Str) = "pair" from hp) (by decide +kernel)
            · exact absurd (show ("name" : Str) = "pair" from hp) (by decide +kernel)
            · exact absurd (show ("unknown" : Str) = "pair" from hp) (by decide +kernel)
          · have : ∀ z ∈ (["mark", "open", "own"] : List Str), z ≠ "pair" := by decide +kernel
            exact absurd hp (this s0 hs)
          · have hp : s0 = "pair" := hp
            subst hp
            exact ⟨a0, b0, rfl⟩
        obtain ⟨pf', u1, u2, e', hpf', i1, i2⟩ := it1
        cases e'
        have hs12 : s = "first" ∨ s = "second" := by simpa using hf
        refine ⟨_, rfl, a, _, _, _, rfl, rfl, SqL.of ha1, eu0, _, rfl, rfl, .inr ⟨_, rfl, ?_⟩⟩
        rw [decS]
        rcases hs12 with rfl | rfl
        · refine ⟨_, _, rfl, rfl, pf, _, _, _, rfl, rfl, hpf'.sq, at_of (j := 1) (by decide +kernel) rfl, k _ _ s1 (.inr ⟨c, rfl, i1⟩)⟩
        · refine ⟨_, _, rfl, rfl, pf, _, _, _, rfl, rfl, hpf'.sq, at_of (j := 2) (by decide +kernel) rfl, k _ _ s1 (.inr ⟨b, rfl, i2⟩)⟩
      · refine iteN (by rw [decide_eq_false hp]; decide) ?_
        refine k _ _ s1 (.inl ⟨?_, rfl⟩)
        show wk1 s t = none
        have hs12 : s = "first" ∨ s = "second" := by simpa using hf
        cases t with
        | am => rcases hs12 with rfl | rfl <;> rfl
        | un => rcases hs12 with rfl | rfl <;> rfl
        | bi z c b =>
          have hp : z ≠ "pair" := hp
          unfold wk1
          rcases hs12 with rfl | rfl
          · rw [if_pos rfl]
            show (if z = "pair" then some c else none) = none
            rw [if_neg hp]
          · rw [if_neg (by decide +kernel), if_pos rfl]
            show (if z = "pair" then some b else none) = none
            rw [if_neg hp]
    · refine iteN (by rw [decide_eq_false hf]; decide) (nxt ?_)
      try dsimp only
      refine ⟨_, rfl, (by show 2 ≤ sizeLine; decide), fun q2 hq2 => ?_⟩
      have s2 := Rd.Same.upd (o := .lst [.str "unseal", .str "unlock"]) hq2
      refine ⟨q2, _, rfl, .inl (SqL.of upd_same), rfl, rfl, _, rfl, ?_⟩
      rw [if_neg Bool.false_ne_true, show inV (V.str s) [.str "unseal", .str "unlock"] = decide (s ∈ (["unseal", "unlock"] : List Str)) from inV_strs s ["unseal", "unlock"]]
      generalize upd H1 q2 (.lst [.str "unseal", .str "unlock"]) = H2 at s2 ⊢
      have S2 := s1.trans s2
      have ha2 := s2 _ _ ha1
      have it2 := it1.same s2
      have hpf2 := hpf.same s2
      by_cases hu : s ∈ (["unseal", "unlock"] : List Str)
      · refine iteP (decide_eq_true hu) ?_
        obtain ⟨b, rfl⟩ : ∃ b, ts = [t, b] := by
          rcases hk with ⟨h, _⟩ | ⟨_, e⟩
          · have : ∀ z ∈ UNL, z ∉ (["unseal", "unlock"] : List Str) := by decide +kernel
            exact absurd hu (this s h)
          · match ts, e, ht0 with
            | [x, b], _, h => cases h; exact ⟨b, rfl⟩
        obtain ⟨u1, rfl⟩ : ∃ u1, us = [.ref pf, u1] := by
          match us, hul, hu0 with
          | [x, b], _, h => cases h; exact ⟨b, rfl⟩
        have ib := (hts.get 1 b u1 rfl rfl).same S2
        obtain ⟨wb, db⟩ := wt b (by simp)
        have eu1 : atI [V.ref pf, u1] 1 = some u1 := at_of (j := 1) rfl rfl
        have ew := wk2_open (b := b) hu wf
        have e1 := fits1 hu wf
        have hsl : s.length ≤ sizeLine := by
          have : ∀ z ∈ (["unseal", "unlock"] : List Str), z.length ≤ 16777216 := by decide +kernel
          exact Nat.le_trans (this s hu) (by decide)
        refine ⟨_, rfl, a, _, _, _, rfl, rfl, SqL.of ha2, eu0, pf, _, _, _, rfl, rfl, hpf2.sq, at_of (j := 0) rfl rfl, _, rfl, _, rfl, s, rfl, hsl, rfl, _, rfl, ?_⟩
        rw [decS, e1]
        by_cases h1 : (ukey t).isSome = true ∧ opr t.head = s
        · obtain ⟨key, ek⟩ := Option.isSome_iff_exists.mp h1.1
          obtain ⟨w3, w4⟩ := ukey_wf wf ek
          rw [decide_eq_true h1, if_pos rfl]
          refine ⟨_, rfl, a, _, _, _, rfl, rfl, SqL.of ha2, eu0, _, _, key, rfl, it2, wf, ek, fun u6 H6 s6 ik => ⟨_, rfl, a, _, _, _, rfl, rfl, SqL.of (s6 _ _ ha2), eu1, dat key, dat b, ik.dp, (ib.same s6).dp, w3.layW (by omega), wb.layW db, _, rfl, ?_⟩⟩
          rw [eqv_dat]
          have S6 := S2.trans s6
          by_cases h2 : key = b
          · subst h2
            rw [if_pos ⟨h1, ek⟩] at ew
            obtain ⟨sg, c, k', rfl⟩ : ∃ sg c k', t = .bi sg c k' := by
              rcases ukey_inv wf ek with ⟨c, e⟩ | ⟨c, s', k', e, _⟩
              · exact ⟨_, c, _, e⟩
              · exact ⟨_, c, _, e⟩
            obtain ⟨pf', v1, v2, e', hpf3, i1, i2⟩ := it2.same s6
            cases e'
            refine ⟨_, rfl, ?_⟩
            rw [decide_eq_true rfl]
            refine iteT ?_
            exact ⟨_, rfl, a, _, _, _, rfl, rfl, SqL.of (s6 _ _ ha2), eu0, pf, _, _, _, rfl, rfl, hpf3.sq, at_of (j := 1) rfl rfl, k _ _ S6 (.inr ⟨c, ew, i1⟩)⟩
          · rw [if_neg (fun h => h2 (by have := h.2; rw [ek] at this; exact Option.some.inj this))] at ew
            refine ⟨_, rfl, ?_⟩
            rw [decide_eq_false h2]
            exact iteF (k _ _ S6 (.inl ⟨ew, rfl⟩))
        · rw [decide_eq_false h1, if_neg (by decide)]
          refine gName_k ?_
          try dsimp only
          rw [if_neg (fun h => h1 h.1)] at ew
          exact ⟨_, rfl, _, rfl, iteF (k _ _ S2 (.inl ⟨ew, rfl⟩))⟩
      · refine iteN (by rw [decide_eq_false hu]; decide) (nxt ?_)
        try dsimp only
        obtain ⟨bl, ebl, hbl⟩ : ∃ bl : Bool, wkd s ts = (if bl = true then none else some (match ts with | [t] => .un s t | [t, u] => .bi s t u | _ => .am "" "")) ∧ (bl = true ↔ s = "lock" ∧ ∃ u, ts = [t, u] ∧ u.head ∉ (["open", "own"] : List Str)) := by
          rcases hk with ⟨h, e⟩ | ⟨h, e⟩
          · match ts, e, ht0 with
            | [x], _, h0 =>
              cases h0
              refine ⟨false, wk_else h hf, ⟨(fun z => by cases z), fun z => ?_⟩⟩
              obtain ⟨_, u, e, _⟩ := z
              cases e
          · match ts, e, ht0 with
            | [x, b], _, h0 =>
              cases h0
              refine ⟨decide (s = "lock" ∧ ¬ (b.head ∈ (["open", "own"] : List Str))), ?_, ?_⟩
              · show wk2 s t b = _
                rw [wk2_else hu]
                by_cases hc : s = "lock" ∧ ¬ (b.head ∈ (["open", "own"] : List Str))
                · rw [if_pos hc, decide_eq_true hc, if_pos rfl]
                · rw [if_neg hc, decide_eq_false hc, if_neg (by decide)]
              · rw [decide_eq_true_eq]
                exact ⟨fun z => ⟨z.1, b, rfl, z.2⟩, fun ⟨z1, u, e, z2⟩ => by cases e; exact ⟨z1, z2⟩⟩
        have ewk := ebl
        refine seqIf (b := bl) (fun Q2 kq => ?_) fun H3 s3 => ?_
        · by_cases hl : s = "lock"
          · subst hl
            obtain ⟨b, rfl⟩ : ∃ b, ts = [t, b] := by
              rcases hk with ⟨h, _⟩ | ⟨_, e⟩
              · exact absurd h (by decide +kernel)
              · match ts, e, ht0 with
                | [x, b], _, h => cases h; exact ⟨b, rfl⟩
            obtain ⟨u1, rfl⟩ : ∃ u1, us = [.ref pf, u1] := by
              match us, hul, hu0 with
              | [x, b], _, h => cases h; exact ⟨b, rfl⟩
            have ib := (hts.get 1 b u1 rfl rfl).same S2
            have eu1 : atI [V.ref pf, u1] 1 = some u1 := at_of (j := 1) rfl rfl
            obtain ⟨pb, zb, rfl, hpb⟩ := ib.hd
            have eb : bl = (true && !decide (b.head ∈ (["open", "own"] : List Str))) := by
              rw [Bool.true_and, Bool.eq_iff_iff, hbl, Bool.not_eq_true', decide_eq_false_iff_not]
              exact ⟨fun ⟨_, u, e, z⟩ => by cases e; exact z, fun z => ⟨rfl, b, rfl, z⟩⟩
            rw [eb] at kq
            refine tb_and (b := true) (c := !decide (b.head ∈ (["open", "own"] : List Str))) (fun Q3 kq3 => ⟨_, rfl, rfl, _, rfl, kq3 _ (Same.refl _)⟩) (fun H4 s4 _ Q3 kq3 => ⟨_, rfl, a, _, _, _, rfl, rfl, SqL.of (s4 _ _ ha2), eu1, pb, _, _, _, rfl, rfl, (hpb.same s4).sq, at_of (j := 0) rfl rfl, (by show 2 ≤ sizeLine; decide), fun q5 hq5 => ⟨q5, _, rfl, .inl (SqL.of upd_same), rfl, rfl, _, rfl, by
              rw [if_pos rfl, show inV (V.str b.head) [.str "open", .str "own"] = decide (b.head ∈ (["open", "own"] : List Str)) from inV_strs b.head ["open", "own"]]
              exact kq3 _ (Rd.Same.upd hq5)⟩⟩) Q2 kq
          · have eb : bl = (false && false) := by
              cases bl with
              | false => rfl
              | true => exact absurd (hbl.mp rfl).1 hl
            rw [eb] at kq
            refine tb_and (b := false) (c := false) (fun Q3 kq3 => ⟨_, rfl, rfl, _, rfl, ?_⟩) (fun _ _ e => by cases e) Q2 kq
            rw [decS, decide_eq_false hl]
            exact kq3 _ (Same.refl _)
        · have S3 := S2.trans s3
          cases bl with
          | true =>
            refine iteT ?_
            exact k _ _ S3 (.inl ⟨ewk, rfl⟩)
          | false =>
            refine iteF (nxt ?_)
            try dsimp only
            have ha3 := s3 _ _ ha2
            refine ⟨_, rfl, (by show 1 ≤ sizeLine; decide), fun q4 hq4 => ?_⟩
            have s4 := Rd.Same.upd (o := .lst [.str s]) hq4
            have h41 : upd H3 q4 (.lst [.str s]) q4 = some (.lst [.str s]) := upd_same
            generalize upd H3 q4 (.lst [.str s]) = H4 at s4 h41 ⊢
            have big : 16777216 ≤ sizeLine := by decide
            have hl12 : ts.length = 1 ∨ ts.length = 2 := by rcases hk with ⟨_, e⟩ | ⟨_, e⟩ <;> omega
            refine ⟨_, rfl, q4, a, _, _, rfl, rfl, h41, s4 _ _ ha3, (by show 1 + us.length ≤ sizeLine; omega), fun q5 hq5 => ?_⟩
            have s5 := Rd.Same.upd (o := .lst ([.str s] ++ us)) hq5
            refine ⟨q5, _, rfl, .inl ⟨SqL.of upd_same, fun q6 hq6 => ?_⟩⟩
            have s6 := Rd.Same.upd (o := .tup ([.str s] ++ us)) hq6
            have S6 := ((S3.trans s4).trans s5).trans s6
            have hts6 := hts.same S6
            refine k _ _ S6 (.inr ⟨_, ewk, ?_⟩)
            rcases hl12 with e | e
            · match ts, us, hul, e, hts6 with
              | [x], [u], _, _, h => exact ⟨q6, u, rfl, .inl upd_same, h.get 0 x u rfl rfl⟩
            · match ts, us, hul, e, hts6 with
              | [x, y], [u, v], _, _, h => exact ⟨q6, u, v, rfl, .inl upd_same, h.get 0 x u rfl rfl, h.get 1 y v rfl rfl⟩
theorem lrk_step (T : Tx w K mg) (n : Nat) (ih : Fk P w K mg base CX0 (n + 30) "_law_run" ["_law_recipe", "_law_forms"] (spLRk K n)) : Fk P w K mg base CX0 (n + 31) "_law_run" ["_law_recipe", "_law_forms"] (sp_lrunk K n) := by
  refine T.F__law_run.ok0 sc__law_run (fun _ _ _ _ _ _ us hl => match us, hl with | [_, _], _ => rfl)
    (fun vs H Q E h => ?_) (fun cdv A outer s H vs Q E hr h => ?_)
  · obtain ⟨v, a, r, ws, ts, rfl, _⟩ := h
    rfl
  · obtain ⟨v, a, r, ws, ts, rfl, ir, ok, dp, n110, ha, hts, wt, hl, k⟩ := h
    refine ⟨_, (pss_cons (ps_if (pt_cmpR op_eq (pe_ix ix_tup (pv 0) pe_int (fun _ _ => rfl)) pe_str (nomark _))
  (pss_cons (ps_if (pt_chain op_le op_lt pe_int (pe_ix ix_tup (pv 0) pe_int (fun _ _ => rfl)) (pe_callB call_len_seq (by rfl) T.z_len (by decide +kernel) (pa_cons (pv 1) pa_nil)))
  (pss_one (ps_ret (pe_tup (pa_cons pe_str (pa_cons (pe_ix ix_list (pv 1) (pe_ix ix_tup (pv 0) pe_int (fun _ _ => rfl)) (fun _ _ => rfl)) pa_nil)))))
  pss_nil)
  (pss_one (ps_ret (pe_tup (pa_cons pe_str (pa_cons (pv 0) pa_nil))))))
  pss_nil)
  (pss_cons (ps_if (pt_cmpR op_eq (pe_ix ix_tup (pv 0) pe_int (fun _ _ => rfl)) pe_str (nomark _))
  (pss_one (ps_ret (pe_tup (pa_cons pe_str (pa_cons (pv 0) pa_nil)))))
  pss_nil)
  (pss_cons (ps_set (i := 2) sc__law_run.nd rfl (Or.inl rfl) (pe_lst pa_nil))
  (pss_cons (ps_for PassesOwn.never rfl (pi_tup (pe_slice sl_tup (pv 0) (po_some pe_int) po_none)) (pg_name (i := 3) sc__law_run.nd rfl (Or.inl rfl))
  (pss_cons (ps_set (i := 4) sc__law_run.nd rfl (Or.inl rfl) (pe_fk ih (hr.mono (by omega)) rfl pass0 (pa_cons (pv 3) (pa_cons (pv 1) pa_nil))))
  (pss_cons (ps_if (pt_cmpR op_eq (pe_ix ix_tup (pv 4) pe_int (fun _ _ => rfl)) pe_str (nomark _))
  (pss_one (ps_ret (pv 4)))
  pss_nil)
  (pss_one (ps_expr (pe_bm PySem.F.plainAttrs_list PySem.F.slot_list_append PySem.F.type_list_append mt_append (pv 2) (pa_cons (pe_ix ix_tup (pv 4) pe_int (fun _ _ => rfl)) pa_nil)))))))
  (pss_cons (ps_set (i := 5) sc__law_run.nd rfl (Or.inl rfl) (pe_fk (ok__law_stepk T) (hr.mono (by omega)) rfl pass0 (pa_cons (pe_ix ix_tup (pv 0) pe_int (fun _ _ => rfl)) (pa_cons (pv 2) pa_nil))))
  (pss_one (ps_ret (pe_ifExp (pt_cmpR op_isN (pv 5) pe_non (nomark _)) (pe_tup (pa_cons pe_str (pa_cons (pv 0) pa_nil))) (pe_tup (pa_cons pe_str (pa_cons (pv 5) pa_nil))))))))))), ?_⟩
    have big : 16777216 ≤ sizeLine := by decide
    have hwl := hts.len
    obtain ⟨pf, zs, rfl, hpf⟩ := ir.hd
    refine ⟨_, rfl, pf, _, _, _, rfl, rfl, hpf.sq, at_of (j := 0) rfl rfl, rfl, _, rfl, ?_⟩
    rw [decS]
    rcases kids_cases ok with ⟨kk, rfl⟩ | ⟨x, rfl, hx⟩ | ⟨hk, h1, h2, hq, har⟩
    · refine iteP (show decide (("at" : Str) = "at") = true by decide +kernel) ?_
      obtain ⟨p, e', hp⟩ := id ir
      cases e'
      have e1 : rcx ts (.at_ kk) = (if 0 ≤ kk then (match ts[kk.toNat]? with | some t => Sum.inr t | none => .inl (Rc.at_ kk)) else .inl (Rc.at_ kk)) := rfl
      have stuck : rcx ts (.at_ kk) = .inl (.at_ kk) → ∀ q H1, H1 q = none → Same H H1 → ∀ H2, H2 = upd H1 q (.tup [.str "stuck", .ref pf]) → Q (.ref q) H2 := fun e2 q H1 nq s1 H2 eH => by
        subst eH
        have s2 := Rd.Same.upd (o := .tup [.str "stuck", .ref pf]) nq
        exact k q _ (s1.trans s2) (.inr ⟨_, _, e2, upd_same, ir.same (s1.trans s2)⟩)
      refine ⟨_, rfl, pf, _, _, _, rfl, rfl, hp.sq, at_of (j := 1) rfl rfl, _, _, rfl, rfl, _, rfl, ?_⟩
      by_cases hk0 : 0 ≤ kk
      · rw [decide_eq_true hk0, if_pos rfl]
        rw [if_pos hk0] at e1
        refine ⟨_, rfl, a, ws, rfl, .inl (SqL.of ha), _, _, rfl, rfl, _, rfl, ite2 (fun hlt => ?_) (fun hlt => ?_)⟩
        · have hlt : kk.toNat < ts.length := by
            have := of_decide_eq_true hlt
            omega
          have et : ts[kk.toNat]? = some (ts[kk.toNat]'hlt) := List.getElem?_eq_getElem hlt
          rw [et] at e1
          have hw : ws[kk.toNat]? = some (ws[kk.toNat]'(by omega)) := List.getElem?_eq_getElem (by omega)
          have it := hts.get _ _ _ et hw
          refine ⟨_, rfl, _, rfl, pf, _, _, _, rfl, rfl, hp.sq, at_of (j := 1) rfl rfl, a, _, _, _, rfl, rfl, SqL.of ha, at_of (j := kk.toNat) (by omega) hw, (by show 2 ≤ sizeLine; decide), fun q1 hq1 => ?_⟩
          have s1 := Rd.Same.upd (o := .tup [.str "made", ws[kk.toNat]'(by omega)]) hq1
          exact k q1 _ s1 (.inl ⟨_, _, e1, upd_same, .of (it.same s1)⟩)
        · have hlt : ¬ kk < (ws.length : Int) := fun h => hlt (decide_eq_true h)
          rw [List.getElem?_eq_none (by omega)] at e1
          exact nxt ⟨_, rfl, (by show 2 ≤ sizeLine; decide), fun q1 hq1 => stuck e1 q1 _ hq1 (Same.refl _) _ rfl⟩
      · rw [decide_eq_false hk0, if_neg Bool.false_ne_true]
        rw [if_neg hk0] at e1
        exact ⟨_, rfl, iteF (nxt ⟨_, rfl, (by show 2 ≤ sizeLine; decide), fun q1 hq1 => stuck e1 q1 _ hq1 (Same.refl _) _ rfl⟩)⟩
    · refine iteN (show ¬ decide (("word" : Str) = "at") = true by decide +kernel) (nxt ?_)
      try dsimp only
      obtain ⟨p, e', hp⟩ := id ir
      cases e'
      refine ⟨_, rfl, pf, _, _, _, rfl, rfl, hp.sq, at_of (j := 0) rfl rfl, rfl, _, rfl, ?_⟩
      rw [decS]
      refine iteP (show decide (("word" : Str) = "word") = true by decide +kernel) ?_
      refine ⟨_, rfl, (by show 2 ≤ sizeLine; decide), fun q1 hq1 => ?_⟩
      have s1 := Rd.Same.upd (o := .tup [.str "made", .ref pf]) hq1
      exact k q1 _ s1 (.inl ⟨_, _, rfl, upd_same, pf, rfl, hp.same s1⟩)
    · refine iteN (by rw [decide_eq_false h1]; decide) (nxt ?_)
      try dsimp only
      refine ⟨_, rfl, pf, _, _, _, rfl, rfl, hpf.sq, at_of (j := 0) rfl rfl, rfl, _, rfl, ?_⟩
      rw [decS]
      refine iteN (by rw [decide_eq_false h2]; decide) (nxt ?_)
      try dsimp only
      obtain ⟨pf', us, e', hp, hus⟩ := ir.kids hk
      cases e'
      have hul := hus.len
      have hk12 : r.kids.length ≤ 2 ∧ 1 ≤ r.kids.length := by rcases har with ⟨_, e⟩ | ⟨_, e⟩ <;> omega
      refine ⟨Nat.zero_le _, fun p np => ?_⟩
      refine gName_k ?_
      try dsimp only
      have s1 := Rd.Same.upd (o := .lst []) np
      refine ⟨_, rfl, _, rfl, pf, _, rfl, (hp.same s1).sq, ?_, fun p2 hp2 => ?_⟩
      · rintro ⟨z, _⟩
        rw [show (1 : Int) = ((1 : Nat) : Int) from rfl, HT.sIx_nat, List.length_cons] at z
        omega
      rw [cut1]
      have s2 := Rd.Same.upd (o := .tup us) hp2
      refine ⟨p2, rfl, ⟨_, SqT.of upd_same⟩, ?_⟩
      refine for_tup (xs := us) (fun i σ H' => (Same H H' ∧ H' p2 = some (.tup us) ∧ ∃ zs os, H' p = some (.lst zs) ∧ TsK K H' os zs ∧ os.length = i ∧ ∀ (j : Nat) q u, r.kids[j]? = some q → os[j]? = some u → rcx ts q = .inr u) ∧ ∃ t3 t4, σ = [some (.ref pf), some (.ref a), some (.ref p), t3, t4, none]) ⟨⟨s1.trans s2, upd_same, [], [], s2 _ _ upd_same, ⟨rfl, fun i t v h => by simp at h⟩, rfl, fun j q u _ h => by simp at h⟩, _, _, rfl⟩ ?_ ?_ ?_
      · rintro i σ H' hi ⟨⟨_, h, _⟩, _⟩
        exact SqT.of h
      · rintro i x σ H1 hx ⟨⟨sm, htu, zs, os, hzs, hts1, hol, hov⟩, t3, t4, rfl⟩
        refine gName_k ?_
        try dsimp only
        have hil := (List.getElem?_eq_some_iff.mp hx).1
        have hq1 : r.kids[i]? = some (r.kids[i]'(by omega)) := List.getElem?_eq_getElem (by omega)
        obtain ⟨ok1, dp1⟩ := hq _ (List.mem_of_getElem? hq1)
        have hzl := hts1.len
        have hG : ∀ j, j < i → ∀ p, r.kids[j]? = some p → ∃ t, rcx ts p = .inr t := fun j hj p hp => ⟨_, hov j p _ hp (List.getElem?_eq_getElem (by omega))⟩
        cases n with
        | zero => exact absurd dp (by omega)
        | succ n =>
          refine ⟨_, rfl, _, rfl, x, a, _, ws, ts, rfl, (hus.get i _ x hq1 hx).mono (C := 0) (Kp.of_same sm), ok1, (by omega), (by omega), sm _ _ ha, hts.same sm, wt, hl, fun q H2 sm2 hrv => ?_⟩
          refine gName_k ?_
          try dsimp only
          rcases hrv with ⟨t, u, et, hqq, iu⟩ | ⟨e, u, ee, hqq, ie⟩
          · refine ⟨_, rfl, q, _, _, _, rfl, rfl, SqT.of hqq, at_of (j := 0) rfl rfl, rfl, _, rfl, ?_⟩
            rw [decS]
            refine iteN (by decide +kernel) (nxt ?_)
            try dsimp only
            refine ⟨_, rfl, .inl ⟨rfl, _, SqL.of (sm2 _ _ hzs)⟩, _, rfl, q, _, _, _, rfl, rfl, SqT.of hqq, at_of (j := 1) rfl rfl, p, zs, _, rfl, rfl, sm2 _ _ hzs, (by omega), ?_⟩
            have kp := Kp.upd_lst (C := 0) (ys := zs ++ [u]) (sm2 _ _ hzs)
            refine ⟨⟨fun c o e => ?_, ?_, zs ++ [u], os ++ [t], upd_same, ?_, by rw [List.length_append, hol]; rfl, fun j q' u' h1 h2 => ?_⟩, _, _, rfl⟩
            · rw [upd_ne (ne_of_none e np)]
              exact sm2 _ _ (sm _ _ e)
            · rw [upd_ne (fun z => by rw [z, hzs] at htu; cases htu)]
              exact sm2 _ _ htu
            · exact ((hts1.same sm2).mono kp).app (TsK.one (iu.mono kp))
            · by_cases hj : j < os.length
              · rw [List.getElem?_append_left hj] at h2
                exact hov j q' u' h1 h2
              · rw [List.getElem?_append_right (by omega)] at h2
                have ej : j = i := by
                  have := (List.getElem?_eq_some_iff.mp h2).1
                  simp at this
                  omega
                subst ej
                rw [hol, Nat.sub_self] at h2
                cases h2
                rw [hq1] at h1
                cases h1
                exact et
          · refine ⟨_, rfl, q, _, _, _, rfl, rfl, SqT.of hqq, at_of (j := 0) rfl rfl, rfl, _, rfl, ?_⟩
            rw [decS]
            refine iteP (by decide +kernel) ?_
            exact ⟨_, rfl, k q _ (sm.trans sm2) (.inr ⟨e, u, rcx_stuck hq1 hG ee, hqq, ie⟩)⟩
      · rintro σ H1 ⟨⟨sm, htu, zs, os, hzs, hts1, hol, hov⟩, t3, t4, rfl⟩
        have hzl := hts1.len
        obtain ⟨os', hol', hov', hrc⟩ := rcx_all (ts := ts) hk fun j p hp => by
          have := (List.getElem?_eq_some_iff.mp hp).1
          exact ⟨_, hov j p _ hp (List.getElem?_eq_getElem (by omega))⟩
        obtain rfl : os' = os := by
          refine List.ext_getElem? fun j => ?_
          by_cases hj : j < us.length
          · have a1 : os'[j]? = some (os'[j]'(by omega)) := List.getElem?_eq_getElem (by omega)
            have a2 : os[j]? = some (os[j]'(by omega)) := List.getElem?_eq_getElem (by omega)
            have a3 : r.kids[j]? = some (r.kids[j]'(by omega)) := List.getElem?_eq_getElem (by omega)
            have b1 := hov' j _ _ a3 a1
            have b2 := hov j _ _ a3 a2
            rw [b1] at b2
            rw [a1, a2, Sum.inr.inj b2]
          · rw [List.getElem?_eq_none (by omega), List.getElem?_eq_none (by omega)]
        have wos : ∀ t ∈ os', Wf t ∧ t.dep ≤ 400 := fun t ht => by
          obtain ⟨i, hi⟩ := List.mem_iff_getElem?.mp ht
          have hil := (List.getElem?_eq_some_iff.mp hi).1
          have hq1 : r.kids[i]? = some (r.kids[i]'(by omega)) := List.getElem?_eq_getElem (by omega)
          obtain ⟨ok1, dp1⟩ := hq _ (List.mem_of_getElem? hq1)
          obtain ⟨w1, w2⟩ := rcx_wf wt ok1 (hov i _ _ hq1 hi)
          exact ⟨w1, by omega⟩
        refine ⟨_, rfl, pf, _, _, _, rfl, rfl, (hp.same sm).sq, at_of (j := 0) rfl rfl, _, rfl, _, p, zs, os', rfl, hzs, hts1, wos, ?_, fun u H4 s4 hu => ?_⟩
        · rcases har with ⟨e1, e2⟩ | ⟨e1, e2⟩
          · exact .inl ⟨e1, by omega⟩
          · exact .inr ⟨e1, by omega⟩
        · refine gName_k ?_
          try dsimp only
          have S4 := sm.trans s4
          rcases hu with ⟨e, rfl⟩ | ⟨t', e, iu⟩
          · rw [e] at hrc
            refine ⟨_, rfl, rfl, _, rfl, iteP (decide_eq_true rfl) ?_⟩
            refine ⟨_, rfl, (by show 2 ≤ sizeLine; decide), fun q1 hq1 => ?_⟩
            have s5 := Rd.Same.upd (o := .tup [.str "stuck", .ref pf]) hq1
            exact k q1 _ (S4.trans s5) (.inr ⟨_, _, hrc, upd_same, ir.same (S4.trans s5)⟩)
          · rw [e] at hrc
            obtain ⟨pu, zu, rfl, _⟩ := iu.hd
            refine ⟨_, rfl, rfl, _, rfl, iteN (by rw [decide_eq_false (fun z => by cases z)]; decide) ?_⟩
            refine ⟨_, rfl, (by show 2 ≤ sizeLine; decide), fun q1 hq1 => ?_⟩
            have s5 := Rd.Same.upd (o := .tup [.str "made", .ref pu]) hq1
            exact k q1 _ (S4.trans s5) (.inl ⟨_, _, hrc, upd_same, iu.same s5⟩)
theorem lrk_none (T : Tx w K mg) : Fk P w K mg base CX0 30 "_law_run" ["_law_recipe", "_law_forms"] (spLRk K 0) := by
  refine Fk.mono (j := 1) ?_ (by decide)
  refine T.F__law_run.ok0 sc__law_run (fun _ _ _ _ _ _ us hl => match us, hl with | [_, _], _ => rfl) (fun vs H Q E h => h.elim) (fun cdv A outer s H vs Q E hr h => h.elim)
theorem ok__law_runk (T : Tx w K mg) : ∀ n : Nat, Fk P w K mg base CX0 (n + 31) "_law_run" ["_law_recipe", "_law_forms"] (sp_lrunk K n)
  | 0 => lrk_step T 0 (lrk_none T)
  | n + 1 => lrk_step T (n + 1) (ok__law_runk T n)
theorem ok__law_tuplesk (T : Tx w K mg) : Fk P w K mg base CX0 30 "_law_tuples" ["_law_recipe"] (sp_tuplesk K) := by
  refine T.F__law_tuples.ok0 sc__law_tuples (fun _ _ _ _ _ _ us hl => match us, hl with | [_], _ => rfl)
    (fun vs H Q E h => ?_) (fun cdv A outer s H vs Q E hr h => ?_)
  · obtain ⟨v, r, rfl, _⟩ := h
    rfl
  · obtain ⟨v, r, rfl, ir, k⟩ := h
    refine ⟨_, (pss_cons (ps_par (i := 1) (j := 2) (by rfl) sc__law_tuples.nd rfl rfl (by decide) rfl rfl (pa_cons (pe_lst (pa_cons (pv 0) pa_nil)) (pa_cons pe_int pa_nil)) (by rfl))
  (pss_cons (ps_while PassesOwn.never (PW.pt (pw_and (pt_cmpR (op_neNil (units500 hr (by omega))) (pv 1) (pe_lst pa_nil) (nomark _)) (pw_and1 (pt_cmpR op_lt (pv 2) pe_int (nomark _)))))
  (pss_cons (ps_set (i := 2) sc__law_tuples.nd rfl (Or.inl rfl) (pe_op op_add (pv 2) pe_int))
  (pss_one (ps_expr (pe_bm PySem.F.plainAttrs_list PySem.F.slot_list_extend PySem.F.type_list_extend mt_extend (pv 1) (pa_cons (pe_lc (own := [("_law_part", 3)]) (g := gName 3)  (by rfl) sc__law_tuples.nd (pi_tup (pe_bm0 PySem.F.plainAttrs_list PySem.F.slot_list_pop PySem.F.type_list_pop mt_pop (pv 1))) (blkOk_by (own := [("_law_part", 3)]) (N := ["_law_recipe", "_law_waiting", "_law_count", "_law_part"]) (sc := defScope s__law_tuples) (by decide +kernel)) (fun _ _ _ _ _ => (pg_name (i := 3) sc__law_tuples.nd rfl (Or.inl rfl))) (fun _ _ _ _ _ => (pts_one (pt_val (pe_callB (call_isTu (K := K) rfl) (by rfl) T.z_isinstance (by decide +kernel) (pa_cons (pv 3) (pa_cons (pe_bltn (v := .ty "tuple") (u := .type "tuple") rfl T.z_tuple (by decide +kernel) rfl) pa_nil)))))) (fun _ _ _ _ _ => (pv 3))) pa_nil))))))
  (pss_one (ps_ret (pv 2))))), ?_⟩
    have big : 16777216 ≤ sizeLine := by decide
    refine ⟨_, rfl, (by show 1 ≤ sizeLine; decide), fun p np => ⟨_, _, rfl, ?_⟩⟩
    try dsimp only
    have s1 := Rd.Same.upd (o := .lst [v]) np
    have h11 : upd H p (.lst [v]) p = some (.lst [v]) := upd_same
    generalize upd H p (.lst [v]) = H1 at s1 h11 ⊢
    have ir1 := ir.same s1
    refine seqJoin (fun σ' Hc => ∃ (n : Nat) (t3 : Option V), σ' = [some v, some (.ref p), some (.int (n : Int)), t3] ∧ Same H Hc ∧ (n : Int) ≤ (r.sz : Int) ∧ ((n : Int) < 101 → (n : Int) = (r.sz : Int))) (fun KK hK => ?_) ?_
    · refine ⟨fun m σ Hc => ∃ (n : Nat) (t3 : Option V) (ws : List V) (rs : List Rc), σ = [some v, some (.ref p), some (.int (n : Int)), t3] ∧ Same H Hc ∧ Hc p = some (.lst ws) ∧ AtL (IsRq K) Hc rs ws ∧ n + szR rs = r.sz ∧ ws.length ≤ n + 1 ∧ n ≤ 101 ∧ m = szR rs, ⟨_, 0, _, [v], [r], rfl, s1, h11, ?_, ?_, Nat.le_refl _, (by decide), rfl⟩, ?_⟩
      · exact ⟨rfl, fun i d u h1 h2 => by
          cases i with
          | zero => cases h1; cases h2; exact ir1
          | succ i => cases h1⟩
      · simp [szR]
      · rintro m σ Hc ⟨n, t3, ws, rs, rfl, sc, hpc, hrs, hsz, hwl, hn, rfl⟩
        have hrl := hrs.len
        refine ⟨_, rfl, Nat.zero_le _, fun q hq => ⟨p, q, ws, rfl, rfl, (Rd.Same.upd hq) _ _ hpc, upd_same, _, rfl, ?_⟩⟩
        have sq := Rd.Same.upd (o := .lst []) hq
        generalize upd Hc q (.lst []) = H2 at sq ⊢
        have S2 := sc.trans sq
        have hp2 := sq _ _ hpc
        have rs2 : AtL (IsRq K) H2 rs ws := hrs.mp fun r v h => h.same sq
        cases hws : ws.isEmpty with
        | true =>
          have e0 : ws = [] := List.isEmpty_iff.mp hws
          subst e0
          have e1 : rs = [] := List.eq_nil_of_length_eq_zero hrl.symm
          subst e1
          refine iteN (by decide) ?_
          refine iteN (by decide) ?_
          have z0 : szR [] = 0 := rfl
          have zn : n = r.sz := by omega
          exact hK _ _ ⟨n, _, rfl, S2, by omega, fun _ => by omega⟩
        | false =>
          refine iteP (by decide) ?_
          refine ⟨_, rfl, _, _, rfl, rfl, _, rfl, ite2 (fun hlt => ?_) (fun hlt => ?_)⟩
          · have hlt : n < 101 := by have := of_decide_eq_true hlt; omega
            have hne : ws ≠ [] := fun e => by rw [e] at hws; cases hws
            obtain ⟨rs0, r1, ws0, y, rfl, rfl, ir1, rs0h⟩ := rs2.last hne
            rw [szR_app] at hsz
            have e1 : szR [r1] = r1.sz := by simp [szR]
            rw [List.length_append, List.length_singleton] at hwl
            refine ⟨fun σ Hc => ∃ (t3 : Option V) (ws : List V) (rs : List Rc), σ = [some v, some (.ref p), some (.int ((n + 1 : Nat) : Int)), t3] ∧ Same H Hc ∧ Hc p = some (.lst ws) ∧ AtL (IsRq K) Hc rs ws ∧ (n + 1) + szR rs = r.sz ∧ ws.length ≤ n + 2, fun σ' H' ⟨t3, ws, rs, e1, e2, e3, e4, e5, e6⟩ => ⟨szR rs, by rw [szR_app]; omega, n + 1, t3, ws, rs, e1, e2, e3, e4, e5, e6, by omega, rfl⟩, ?_⟩
            refine seqAsg ⟨_, rfl, _, _, rfl, rfl, ?_⟩
            refine gName_k ?_
            try dsimp only
            obtain ⟨q1, zs, rfl, hq1, hzl, hz3, hze⟩ := ir1.els
            have kp1 := Kp.upd_lst (C := 0) (ys := ws0) hp2
            refine ⟨_, rfl, .inl ⟨rfl, _, SqL.of hp2⟩, _, rfl, .inl ⟨rfl, _, SqL.of hp2⟩, p, _, .ref q1, rfl, rfl, hp2, (by simp), ?_⟩
            rw [List.dropLast_concat]
            have hq3 : Sq2 K (upd H2 p (.lst ws0)) q1 zs := hq1.mono kp1
            have hp3 : upd H2 p (.lst ws0) p = some (.lst ws0) := upd_same
            have ir3 := ir1.mono kp1
            have rs3 : AtL (IsRq K) (upd H2 p (.lst ws0)) rs0 ws0 := rs0h.mp fun r v h => h.mono kp1
            have S3 : Same H (upd H2 p (.lst ws0)) := fun c o e => by rw [upd_ne (ne_of_none e np)]; exact S2 _ _ e
            have hze3 : ∀ (i : Nat) o x, r1.els[i]? = some o → zs[i]? = some x → IsEk K (upd H2 p (.lst ws0)) o x := fun i o x h1 h2 => by
              rcases hze i o x h1 h2 with ⟨r, e, h⟩ | h
              · exact .inl ⟨r, e, h.mono kp1⟩
              · exact .inr h
            generalize upd H2 p (.lst ws0) = H3 at hq3 hp3 ir3 rs3 S3 hze3 ⊢
            refine ⟨q1, rfl, ⟨_, hq3.sq⟩, fun D hD => ?_⟩
            refine lcgT (C := 0) (R := IsRq K) (ds := r1.els) Option.isSome (fun o => o.getD (.wd "")) (fun _ _ _ _ kp h => h.mono kp) (hq3.sq) hzl (by omega) hD (fun i x d H4 Q4 hx hd s4 k4 => ?_) (fun i x d H4 Q4 hx hd hp4 s4 k4 => ?_) fun vs H4 s4 hD4 hvs => ?_
            · rcases (hze3 i d x hd hx).same s4 with ⟨r', rfl, ir'⟩ | ⟨rfl, ⟨z, rfl⟩ | ⟨z, rfl⟩⟩
              · obtain ⟨pf, us, rfl, hpf⟩ := ir'.hd
                exact ⟨_, rfl, _, true, rfl, .inl ⟨_, _, rfl, hpf, rfl⟩, _, rfl, k4 _ (Same.refl _)⟩
              · exact ⟨_, rfl, _, false, rfl, .inr (.inl ⟨_, rfl, rfl⟩), _, rfl, k4 _ (Same.refl _)⟩
              · exact ⟨_, rfl, _, false, rfl, .inr (.inr (.inl ⟨_, rfl, rfl⟩)), _, rfl, k4 _ (Same.refl _)⟩
            · rcases (hze3 i d x hd hx).same s4 with ⟨r', rfl, ir'⟩ | ⟨rfl, _⟩
              · exact ⟨_, rfl, k4 _ _ (Same.refl _) ir'⟩
              · cases hp4
            · rw [els_kids] at hvs
              have hvl := hvs.len
              have hk2 : r1.kids.length ≤ 2 := by cases r1 <;> simp [Rc.kids]
              refine ⟨p, D, ws0, vs, rfl, rfl, s4 _ _ hp3, hD4, (by omega), ?_⟩
              have kp5 := Kp.upd_lst (C := 0) (ys := ws0 ++ vs) (s4 _ _ hp3)
              refine ⟨_, ws0 ++ vs, rs0 ++ r1.kids, rfl, fun c o e => ?_, upd_same, ?_, ?_, ?_⟩
              · rw [upd_ne (ne_of_none e np)]
                exact s4 _ _ (S3 _ _ e)
              · exact (rs3.mp fun r v h => (h.same s4).mono kp5).app (hvs.mp fun r v h => h.mono kp5)
              · rw [szR_app]
                have := sz_kids r1
                omega
              · rw [List.length_append]
                omega
          · refine hK _ _ ⟨n, _, rfl, S2, by omega, fun h => absurd h ?_⟩
            have := of_decide_eq_false (by simpa using hlt : decide ((n : Int) < 101) = false)
            exact this
    · rintro σ' Hc ⟨n, t3, rfl, sc, ha, hb⟩
      exact ⟨_, rfl, k _ _ sc ha hb⟩
end
end Rd
namespace Rd
open PySem L2
theorem RunK.mono {C : Addr} {K : PySem.W.Frag} {ts : List Tr} {r : Rc} {H H' : Hp} {q : Addr} (k : Kp C H H') (h : RunK K ts r H q) : RunK K ts r H' q := by
  rcases h with ⟨t, u, e, h1, h2⟩ | ⟨e, u, e1, h1, h2⟩
  · exact .inl ⟨t, u, e, k _ _ rfl h1, h2.mono k⟩
  · exact .inr ⟨e, u, e1, k _ _ rfl h1, h2.mono k⟩
theorem RunK.same {K : PySem.W.Frag} {ts : List Tr} {r : Rc} {H H' : Hp} {q : Addr} (s : Same H H') (h : RunK K ts r H q) : RunK K ts r H' q := h.mono (C := 0) (Kp.of_same s)
theorem runK_wd {K : PySem.W.Frag} {ts : List Tr} {rc : Rc} {H : Hp} {q : Addr} (h : RunK K ts rc H q) : ∃ u, H q = some (.tup [.str (wdV ts rc), u]) ∧ ∀ t, ev ts rc = some t → IsTk K H t u := by
  rcases h with ⟨t, u, e, h1, h2⟩ | ⟨e, u, e1, h1, h2⟩
  · unfold wdV
    rw [(rcx_ev t).mp e]
    exact ⟨u, h1, fun t' et => by cases et; exact h2⟩
  · have n : ev ts rc = none := ev_none.mpr ⟨e, e1⟩
    unfold wdV
    rw [n]
    exact ⟨u, h1, fun t' et => by cases et⟩
theorem runK_dp {K : PySem.W.Frag} {ts : List Tr} {r : Rc} {H : Hp} {q : Addr} {t : Tr} (h : RunK K ts r H q) (e : ev ts r = some t) (wt : ∀ t ∈ ts, Wf t ∧ t.dep ≤ 100) (ok : RcOk r) (dp : r.dp ≤ 110) : Dp K H (.ref q) (dat (.un "made" t)) ∧ LayW (dat (.un "made" t)) := by
  rcases h with ⟨t', u, e', hp, it⟩ | ⟨x, u, ee, hp, ie⟩
  · rw [(rcx_ev t').mp e'] at e
    cases e
    obtain ⟨wf, hd⟩ := rcx_wf (D := 100) wt ok e'
    have i1 : IsTk K H (.un "made" t) (.ref q) := ⟨q, u, rfl, .inl hp, it⟩
    have fm : (Tr.un "made" t).fine := ⟨okS_by (by decide +kernel), wf.fine⟩
    have hd2 := dat_dep (t := .un "made" t)
    have hd3 : (Tr.un "made" t).dep = t.dep + 1 := rfl
    exact ⟨i1.dp, dat_lay fm, by omega⟩
  · rw [(rcx_ev t).mpr e] at ee
    cases ee
theorem int_choose {Pz : Nat → Int → Prop} : ∀ {vs : List V} (o : Nat), (∀ (i : Nat) v, vs[i]? = some v → ∃ c, v = .int c ∧ Pz (o + i) c) → ∃ ns : List Int, vs = ns.map V.int ∧ ∀ (i : Nat) c, ns[i]? = some c → Pz (o + i) c
  | [], _, _ => ⟨[], rfl, fun i c h => by simp at h⟩
  | v :: vs, o, h => by
    obtain ⟨c, rfl, p1⟩ := h 0 v rfl
    obtain ⟨ns, rfl, h3⟩ := int_choose (vs := vs) (o + 1) fun i v' e => by
      obtain ⟨c, e1, e2⟩ := h (i + 1) v' (by simpa using e)
      exact ⟨c, e1, by rw [show o + 1 + i = o + (i + 1) by omega]; exact e2⟩
    refine ⟨c :: ns, rfl, fun i c' hc => ?_⟩
    cases i with
    | zero => cases hc; exact p1
    | succ i => rw [show o + (i + 1) = o + 1 + i by omega]; exact h3 i c' (by simpa using hc)
theorem wdV_ne {ts gs : List Tr} {r : Rc} (h : (ev ts r).isSome ≠ (ev gs r).isSome) : wdV ts r ≠ wdV gs r := by
  unfold wdV
  cases h1 : (ev ts r).isSome <;> cases h2 : (ev gs r).isSome
  · exact absurd (h1.trans h2.symm) h
  · decide +kernel
  · decide +kernel
  · exact absurd (h1.trans h2.symm) h
theorem made4 : SeqAt.shaped (.list [.str "made", .str "made", .str "made", .str "made"]) = true ∧ PyData.eqv (.list [.str "made", .str "made", .str "made", .str "made"]) (.list [.str "made", .str "made", .str "made", .str "made"]) = true := by decide +kernel
def sp_ptm (K : PySem.W.Frag) : Sp := fun vs H Q _ => ∃ (v : V) (F G : Addr) (us ws : List V) (ts gs : List Tr) (y : Tst), vs = [v, .ref F, .ref G] ∧ TstV K H (some y) v ∧ Gen ts gs y ∧ H F = some (.lst us) ∧ H G = some (.lst ws) ∧ TsAt H ts us ∧ TsAt H gs ws ∧ (∀ t ∈ ts, Wf t ∧ t.dep ≤ 100) ∧ (∀ t ∈ gs, Wf t ∧ t.dep ≤ 100) ∧ ts.length ≤ 1000 ∧ gs.length ≤ 1000 ∧ ∀ H', Same H H' → Q (.bl true) H'
section
variable {P : Program} {w : World} {K : PySem.W.Frag} {mg : Str → Option Value} {base : Heap}
abbrev s__law_parts_them : Stmt := top 61
theorem sc__law_parts_them : FnScope ["_law_test", "_law_ones", "_law_others", "_law_recipe", "_law_found", "_law_forms", "_law_one"] ["_law_test", "_law_ones", "_law_others"] (defScope s__law_parts_them) := ⟨rfl, rfl, rfl, by decide +kernel, rfl, by decide +kernel, by decide +kernel⟩
theorem ok__law_parts_them (T : Tx w K mg) : Fk P w K mg base CX0 140 "_law_parts_them" ["_law_test", "_law_ones", "_law_others"] (sp_ptm K) := by
  refine T.F__law_parts_them.ok0 sc__law_parts_them (fun _ _ _ _ _ _ us hl => match us, hl with | [_, _, _], _ => rfl)
    (fun vs H Q E h => ?_) (fun cdv A outer s H vs Q E hr h => ?_)
  · obtain ⟨v, F, G, us, ws, ts, gs, y, rfl, _⟩ := h
    rfl
  · obtain ⟨v, F, G, us, ws, ts, gs, y, rfl, hv, gen, hF, hG, hts, hgs, wt, wg, lt, lg, k⟩ := h
    refine ⟨_, (pss_cons (ps_if (PW.pt (pw_or (pt_not (pt_val (pe_callB (call_isTu (K := K) rfl) (by rfl) T.z_isinstance (by decide +kernel) (pa_cons (pv 0) (pa_cons (pe_bltn (v := .ty "tuple") (u := .type "tuple") rfl T.z_tuple (by decide +kernel) rfl) pa_nil))))) (pw_or1 (pt_cmpR op_lt (pe_callB call_len_seq (by rfl) T.z_len (by decide +kernel) (pa_cons (pv 0) pa_nil)) pe_int (nomark _)))))
  (pss_one (ps_ret pe_bl))
  pss_nil)
  (pss_cons (ps_if (pt_cmpR op_gt (pe_callB (cr_max rfl) (by rfl) T.z_max (by decide +kernel) (pa_cons (pe_lc (own := [("_law_recipe", 3)]) (g := gName 3) (tt := tYes) (by rfl) sc__law_parts_them.nd (pi_tupk (K := K) rfl (pe_slice sl_tup (pv 0) (po_some pe_int) po_none)) (blkOk_by (own := [("_law_recipe", 3)]) (N := ["_law_test", "_law_ones", "_law_others", "_law_recipe", "_law_found", "_law_forms", "_law_one"]) (sc := defScope s__law_parts_them) (by decide +kernel)) (fun _ _ _ _ _ => (pg_name (i := 3) sc__law_parts_them.nd rfl (Or.inl rfl))) (fun _ _ _ _ _ => pts_nil) (fun _ _ _ _ _ => (pe_fk (ok__law_tuplesk T) (hr.mono (by omega)) rfl pass0 (pa_cons (pv 3) pa_nil)))) pa_nil)) pe_int (nomark _))
  (pss_one (ps_ret pe_bl))
  pss_nil)
  (pss_cons (ps_if (PW.pt (pw_and (pt_cmpR op_eq (pe_callB call_len_seq (by rfl) T.z_len (by decide +kernel) (pa_cons (pv 0) pa_nil)) pe_int (nomark _)) (pw_and1 (pt_cmpR op_eq (pe_ix ix_tup (pv 0) pe_int (fun _ _ => rfl)) pe_str (nomark _)))))
  (pss_one (ps_ret (pe_cmpR op_ne (pe_ix ix_tup (pe_fk (ok__law_runk T 101) (hr.mono (by omega)) rfl pass0 (pa_cons (pe_ix ix_tup (pv 0) pe_int (fun _ _ => rfl)) (pa_cons (pv 1) pa_nil))) pe_int (fun _ _ => rfl)) (pe_ix ix_tup (pe_fk (ok__law_runk T 101) (hr.mono (by omega)) rfl pass0 (pa_cons (pe_ix ix_tup (pv 0) pe_int (fun _ _ => rfl)) (pa_cons (pv 2) pa_nil))) pe_int (fun _ _ => rfl)) (nomark _))))
  pss_nil)
  (pss_cons (ps_if (PW.pt (pw_or (pt_cmpR op_ne (pe_callB call_len_seq (by rfl) T.z_len (by decide +kernel) (pa_cons (pv 0) pa_nil)) pe_int (nomark _)) (pw_or1 (pt_cmpR op_ne (pe_ix ix_tup (pv 0) pe_int (fun _ _ => rfl)) pe_str (nomark _)))))
  (pss_one (ps_ret pe_bl))
  pss_nil)
  (pss_cons (ps_setLc (i := 4) (own := [("_law_forms", 5)]) (g := gName 5) (tt := tYes) (by rfl) sc__law_parts_them.nd rfl rfl (sw_true rfl rfl rfl (by decide +kernel)) (pi_list (pe_lst (pa_cons (pv 1) (pa_cons (pv 2) pa_nil)))) (blkOk_by (own := [("_law_forms", 5)]) (N := ["_law_test", "_law_ones", "_law_others", "_law_recipe", "_law_found", "_law_forms", "_law_one"]) (sc := defScope s__law_parts_them) (by decide +kernel)) (fun _ _ _ _ _ => (pg_name (i := 5) sc__law_parts_them.nd rfl (Or.inr rfl))) (fun _ _ _ _ _ => pts_nil) (fun _ _ _ _ _ => (pe_lc (own := [("_law_recipe", 3)]) (g := gName 3) (tt := tYes) (by rfl) sc__law_parts_them.nd (pi_tupk (K := K) rfl (pe_slice (kSl (r := rSlT) (K := K) rfl sl_tup) (pv 0) (po_some pe_int) po_none)) (blkOk_by (own := [("_law_recipe", 3)]) (N := ["_law_test", "_law_ones", "_law_others", "_law_recipe", "_law_found", "_law_forms", "_law_one"]) (by kernel_rfl)) (fun _ _ _ _ _ => (pg_name (i := 3) sc__law_parts_them.nd rfl (Or.inl rfl))) (fun _ _ _ _ _ => pts_nil) (fun _ _ _ _ _ => (pe_fk (ok__law_runk T 101) (hr.mono (by omega)) rfl pass0 (pa_cons (pv 3) (pa_cons (pv 5) pa_nil)))))))
  (pss_cons (ps_if (pt_cmpR (op_neD hr.units) (pe_lc (own := [("_law_one", 6)]) (g := gName 6) (tt := tYes) (by rfl) sc__law_parts_them.nd (pi_list (pe_op op_cat (pe_ix ix_list (pv 4) pe_int (fun _ _ => rfl)) (pe_ix ix_list (pv 4) pe_int (fun _ _ => rfl)))) (blkOk_by (own := [("_law_one", 6)]) (N := ["_law_test", "_law_ones", "_law_others", "_law_recipe", "_law_found", "_law_forms", "_law_one"]) (sc := defScope s__law_parts_them) (by decide +kernel)) (fun _ _ _ _ _ => (pg_name (i := 6) sc__law_parts_them.nd rfl (Or.inl rfl))) (fun _ _ _ _ _ => pts_nil) (fun _ _ _ _ _ => (pe_ix (kIx (r := rIxT) (K := K) rfl ix_tup) (pv 6) pe_int (fun _ _ => rfl)))) (pe_op op_rep (pe_lst (pa_cons pe_str pa_nil)) pe_int) (nomark _))
  (pss_one (ps_ret pe_bl))
  pss_nil)
  (pss_one (ps_ret (pe_cmpR op_ne (pe_cmpR (op_eqW (units500 hr (by omega))) (pe_ix ix_list (pe_ix ix_list (pv 4) pe_int (fun _ _ => rfl)) pe_int (fun _ _ => rfl)) (pe_ix ix_list (pe_ix ix_list (pv 4) pe_int (fun _ _ => rfl)) pe_int (fun _ _ => rfl)) (nomark _)) (pe_cmpR (op_eqW (units500 hr (by omega))) (pe_ix ix_list (pe_ix ix_list (pv 4) pe_int (fun _ _ => rfl)) pe_int (fun _ _ => rfl)) (pe_ix ix_list (pe_ix ix_list (pv 4) pe_int (fun _ _ => rfl)) pe_int (fun _ _ => rfl)) (nomark _)) (nomark _)))))))))), ?_⟩
    have big : 16777216 ≤ sizeLine := by decide
    have W : ∀ H, SqT K H (He.ga K "SOME_WORD") [.str "word", .str "a"] := T.U_SOME_WORD.tp
    obtain ⟨p, zs, rfl, hp, hl, rs, hrs, hgn⟩ : ∃ p zs, v = .ref p ∧ H p = some (.tup (.str (match y with | .works _ => "works" | .same _ _ => "same") :: zs)) ∧ (zs.length = 1 ∨ zs.length = 2) ∧ ∃ rs : List Rc, AtL (IsRq K) H rs zs ∧ (match y with | .works r => rs = [r] | .same r s => rs = [r, s]) := by
      cases y with
      | works r =>
        obtain ⟨p, u, rfl, h1, h2⟩ := hv
        exact ⟨p, [u], rfl, h1, .inl rfl, [r], ⟨rfl, fun i a b e1 e2 => by
          cases i with
          | zero => cases e1; cases e2; exact IsRq.of W h2
          | succ i => cases i <;> cases e1⟩, rfl⟩
      | same r s =>
        obtain ⟨p, u, u2, rfl, h1, h2, h3⟩ := hv
        refine ⟨p, [u, u2], rfl, h1, .inr rfl, [r, s], ⟨rfl, fun i a b e1 e2 => ?_⟩, rfl⟩
        match i, e1, e2 with
        | 0, e1, e2 => cases e1; cases e2; exact IsRq.of W h2
        | 1, e1, e2 => cases e1; cases e2; exact IsRq.of W h3
    have hzl := hrs.len
    refine seqIf (b := false) (tb_or (b := false) (c := false) (fun Q2 kq => ?_) (fun H1 s1 _ Q2 kq => ?_)) fun H1 s1 => iteF (nxt ?_)
    · exact ⟨_, rfl, _, true, rfl, .inl ⟨p, _, rfl, .inl hp, rfl⟩, _, rfl, kq _ (Same.refl _)⟩
    · refine ⟨_, rfl, p, _, rfl, .inr (SqT.of (s1 _ _ hp)), _, _, rfl, rfl, _, rfl, ?_⟩
      rw [decide_eq_false (by rw [List.length_cons]; omega)]
      exact kq _ (Same.refl _)
    try dsimp only
    have hp1 := s1 _ _ hp
    have hrs1 : AtL (IsRq K) H1 rs zs := ⟨hrs.len, fun i r v e1 e2 => (hrs.get i r v e1 e2).same s1⟩
    refine ⟨_, rfl, _, rfl, p, _, rfl, SqT.of hp1, ?_, fun p2 hp2 => ?_⟩
    · rintro ⟨z, _⟩
      rw [show (1 : Int) = ((1 : Nat) : Int) from rfl, HT.sIx_nat, List.length_cons] at z
      omega
    rw [cut1]
    have s2 := Rd.Same.upd (o := .tup zs) hp2
    have e2 : upd H1 p2 (.tup zs) p2 = some (.tup zs) := upd_same
    generalize upd H1 p2 (.tup zs) = H2 at s2 e2 ⊢
    refine ⟨p2, rfl, ⟨_, SqT.of e2⟩, fun D hD => ?_⟩
    refine lctK (fun j _ v => ∃ c : Int, v = .int c ∧ ∀ r, rs[j]? = some r → c < 101 → c = (r.sz : Int)) (fun j H H' v k b h => h) (SqT.of e2) (by omega) hD (fun j x H3 Q3 hx s3 nD k3 => ?_) fun vs H3 s3 hD3 hlv hvs => ?_
    · have hil := (List.getElem?_eq_some_iff.mp hx).1
      have hr : rs[j]? = some rs[j] := List.getElem?_eq_getElem (by omega)
      exact ⟨_, rfl, x, rs[j], rfl, ((hrs1.get j _ _ hr hx).same s2).same s3, fun c H4 s4 c1 c2 => k3 _ H4 s4 ⟨c, rfl, fun r er hc => by rw [hr] at er; cases er; exact c2 hc⟩⟩
    obtain ⟨ns, rfl, hns⟩ := int_choose (Pz := fun j c => ∀ r, rs[j]? = some r → c < 101 → c = (r.sz : Int)) 0 fun i v e => by
      obtain ⟨c, e1, e2⟩ := hvs i v e
      exact ⟨c, e1, by rw [Nat.zero_add]; exact e2⟩
    rw [List.length_map] at hlv
    have S3 := s1.trans (s2.trans s3)
    refine ⟨D, ns, rfl, SqL.of hD3, by omega, fun m hm hmx => ⟨_, _, rfl, rfl, _, rfl, ite2 (fun h1 => k _ S3) (fun h1 => nxt ?_)⟩⟩
    try dsimp only
    have h100 : m ≤ 100 := by
      have : ¬ (100 : Int) < m := fun z => h1 (decide_eq_true z)
      omega
    have dps : ∀ r ∈ rs, r.dp ≤ 101 := fun r hr => by
      obtain ⟨j, hj⟩ := List.mem_iff_getElem?.mp hr
      have hjl := (List.getElem?_eq_some_iff.mp hj).1
      have hc : ns[j]? = some (ns[j]'(by omega)) := List.getElem?_eq_getElem (by omega)
      have h2 := hmx _ (List.mem_of_getElem? hc)
      have h3 := hns j _ hc r (by rw [Nat.zero_add]; exact hj) (by omega)
      have := r.dp_sz
      omega
    have hp3 := S3 _ _ hp
    have hF3 := S3 _ _ hF
    have hG3 := S3 _ _ hG
    have hts3 := hts.same S3
    have hgs3 := hgs.same S3
    have hrs3 : AtL (IsRq K) H3 rs zs := ⟨hrs.len, fun i r v e1 e2 => (hrs.get i r v e1 e2).same S3⟩
    clear hvs hns hmx hm h1
    cases y with
    | works r =>
      have e : rs = [r] := hgn
      subst e
      obtain ⟨u, rfl⟩ : ∃ u, zs = [u] := by
        match zs, hzl with
        | [u], _ => exact ⟨u, rfl⟩
      have ir := hrs3.get 0 r u rfl rfl
      have dr := dps r (by simp)
      refine seqIf (b := true) (tb_and (b := true) (c := true) (fun Q2 kq => ?_) (fun H4 s4 _ Q2 kq => ?_)) fun H4 s4 => iteT ?_
      · exact ⟨_, rfl, p, _, rfl, .inr (SqT.of hp3), rfl, _, rfl, kq _ (Same.refl _)⟩
      · exact ⟨_, rfl, p, _, _, _, rfl, rfl, SqT.of (s4 _ _ hp3), at_of (j := 0) rfl rfl, rfl, _, rfl, kq _ (Same.refl _)⟩
      refine ⟨_, rfl, p, _, _, _, rfl, rfl, SqT.of (s4 _ _ hp3), at_of (j := 1) rfl rfl, _, rfl, u, F, r, us, ts, rfl, ir.same s4, gen.1, dr, (by decide), s4 _ _ hF3, hts3.same s4, wt, (by omega), fun q1 H5 s5 hr1 => ?_⟩
      obtain ⟨w1, x1, _⟩ := runK_wd hr1
      have S5 := s4.trans s5
      refine ⟨q1, _, _, _, rfl, rfl, SqT.of x1, at_of (j := 0) rfl rfl, _, rfl, p, _, _, _, rfl, rfl, SqT.of (S5 _ _ hp3), at_of (j := 1) rfl rfl, _, rfl, u, G, r, ws, gs, rfl, ir.same S5, gen.1, dr, (by decide), S5 _ _ hG3, hgs3.same S5, wg, (by omega), fun q2 H6 s6 hr2 => ?_⟩
      obtain ⟨w2, x2, _⟩ := runK_wd hr2
      refine ⟨q2, _, _, _, rfl, rfl, SqT.of x2, at_of (j := 0) rfl rfl, rfl, ?_⟩
      rw [decide_eq_false (fun z => wdV_ne gen.2 (V.str.inj z))]
      exact k _ (S3.trans (S5.trans s6))
    | same r s0 =>
      have e : rs = [r, s0] := hgn
      subst e
      obtain ⟨u, u2, rfl⟩ : ∃ u u2, zs = [u, u2] := by
        match zs, hzl with
        | [u, u2], _ => exact ⟨u, u2, rfl⟩
      have ir := hrs3.get 0 r u rfl rfl
      have is := hrs3.get 1 s0 u2 rfl rfl
      have dr := dps r (by simp)
      have ds := dps s0 (by simp)
      obtain ⟨okr, oks, t1, t2, v1, v2, e1, e2', e3, e4, ngn⟩ := gen
      refine seqIf (b := false) (tb_and (b := false) (c := false) (fun Q2 kq => ?_) (fun H4 s4 z => by cases z)) fun H4 s4 => iteF (nxt ?_)
      · exact ⟨_, rfl, p, _, rfl, .inr (SqT.of hp3), rfl, _, rfl, kq _ (Same.refl _)⟩
      try dsimp only
      refine seqIf (b := false) (tb_or (b := false) (c := false) (fun Q2 kq => ?_) (fun H5 s5 _ Q2 kq => ?_)) fun H5 s5 => iteF (nxt ?_)
      · exact ⟨_, rfl, p, _, rfl, .inr (SqT.of (s4 _ _ hp3)), rfl, _, rfl, kq _ (Same.refl _)⟩
      · exact ⟨_, rfl, p, _, _, _, rfl, rfl, SqT.of (s5 _ _ (s4 _ _ hp3)), at_of (j := 0) rfl rfl, rfl, _, rfl, kq _ (Same.refl _)⟩
      try dsimp only
      have S5 := s4.trans s5
      have hp5 := S5 _ _ hp3
      have hF5 := S5 _ _ hF3
      have hG5 := S5 _ _ hG3
      refine seqAsg ⟨_, rfl, _, rfl, (by show 2 ≤ sizeLine; decide), fun q0 h0 => ?_⟩
      have sq0 := Rd.Same.upd (o := .lst [.ref F, .ref G]) h0
      have e0 : upd H5 q0 (.lst [.ref F, .ref G]) q0 = some (.lst [.ref F, .ref G]) := upd_same
      generalize upd H5 q0 (.lst [.ref F, .ref G]) = H6 at sq0 e0 ⊢
      refine ⟨q0, rfl, ⟨_, SqL.of e0⟩, fun D hD => ?_⟩
      refine lclK (fun j H v => ∃ D2 q1 q2, v = .ref D2 ∧ D2 ≠ D ∧ H D2 = some (.lst [.ref q1, .ref q2]) ∧ RunK K (if j = 0 then ts else gs) r H q1 ∧ RunK K (if j = 0 then ts else gs) s0 H q2) (fun j H H' v k b ⟨D2, q1, q2, e, n, h1, h2, h3⟩ => ⟨D2, q1, q2, e, n, b _ _ n h1, h2.mono k, h3.mono k⟩) (SqL.of e0) (by show 2 ≤ 100000; decide) hD (fun j x H7 Q7 hx s7 nD k7 => ?_) fun vs H7 s7 hD7 hlv7 hvs7 => ?_
      · have inner : ∀ (L : Addr) (lv : List V) (fs : List Tr), x = .ref L → H5 L = some (.lst lv) → TsAt H5 fs lv → (∀ t ∈ fs, Wf t ∧ t.dep ≤ 100) → fs.length ≤ 1000 → fs = (if j = 0 then ts else gs) → tLc (iTup K (tSl (rSlT K) (tVar 0) (tPart (tC (V.int 1))) tNoPart)) (gName 3) tYes (tCall (sp_lrunk K 101) [] E0 (tCons (tVar 3) (tCons (tVar 5) tNil))) (List.map (fun x => x.snd) [(("_law_recipe" : Str), 3)]) (List.set (wipe (L2.start ["_law_test", "_law_ones", "_law_others", "_law_recipe", "_law_found", "_law_forms", "_law_one"] [V.ref p, V.ref F, V.ref G]) [5]) 5 (some x)) H7 Q7 := fun L lv fs ex hL htl wl ll efs => by
          subst ex
          have S7 := sq0.trans s7
          refine ⟨_, rfl, _, rfl, p, _, rfl, SqT.of (S7 _ _ hp5), ?_, fun p8 hp8 => ?_⟩
          · rintro ⟨z, _⟩
            rw [show (1 : Int) = ((1 : Nat) : Int) from rfl, HT.sIx_nat, List.length_cons] at z
            have : [u, u2].length = 2 := rfl
            omega
          rw [cut1]
          have s8 := Rd.Same.upd (o := .tup [u, u2]) hp8
          have e8 : upd H7 p8 (.tup [u, u2]) p8 = some (.tup [u, u2]) := upd_same
          generalize upd H7 p8 (.tup [u, u2]) = H8 at s8 e8 ⊢
          refine ⟨p8, rfl, ⟨_, SqT.of e8⟩, fun D2 hD2 => ?_⟩
          have nDD : D2 ≠ D := fun z => by rw [← z] at nD; exact nD (s8.free hD2)
          refine lctK (fun i H v => ∃ q, v = .ref q ∧ RunK K fs (if i = 0 then r else s0) H q) (fun i H H' v k b ⟨q, e, h⟩ => ⟨q, e, h.mono k⟩) (SqT.of e8) (by show 2 ≤ 100000; decide) hD2 (fun i y H9 Q9 hy s9 _ k9 => ?_) fun vs H9 s9 hD9 hlv9 hvs9 => ?_
          · have S9 := (S7.trans s8).trans s9
            have T9 := S5.trans S9
            have hi : (i = 0 ∧ y = u) ∨ (i = 1 ∧ y = u2) := by
              match i, hy with
              | 0, hy => cases hy; exact .inl ⟨rfl, rfl⟩
              | 1, hy => cases hy; exact .inr ⟨rfl, rfl⟩
            rcases hi with ⟨rfl, rfl⟩ | ⟨rfl, rfl⟩
            · exact ⟨_, rfl, _, rfl, _, L, r, lv, fs, rfl, ir.same T9, okr, dr, (by decide), S9 _ _ hL, htl.same S9, wl, (by omega), fun q H' s'' hq => k9 _ H' s'' ⟨q, rfl, hq⟩⟩
            · exact ⟨_, rfl, _, rfl, _, L, s0, lv, fs, rfl, is.same T9, oks, ds, (by decide), S9 _ _ hL, htl.same S9, wl, (by omega), fun q H' s'' hq => k9 _ H' s'' ⟨q, rfl, hq⟩⟩
          · obtain ⟨v1, v2, rfl⟩ : ∃ v1 v2, vs = [v1, v2] := by
              match vs, hlv9 with
              | [v1, v2], _ => exact ⟨v1, v2, rfl⟩
            obtain ⟨q1, rfl, h1⟩ := hvs9 0 v1 rfl
            obtain ⟨q2, rfl, h2⟩ := hvs9 1 v2 rfl
            rw [← efs] at k7
            exact k7 _ H9 (s8.trans s9) ⟨D2, q1, q2, rfl, nDD, hD9, h1, h2⟩
        have hj : (j = 0 ∧ x = .ref F) ∨ (j = 1 ∧ x = .ref G) := by
          match j, hx with
          | 0, hx => cases hx; exact .inl ⟨rfl, rfl⟩
          | 1, hx => cases hx; exact .inr ⟨rfl, rfl⟩
        rcases hj with ⟨rfl, rfl⟩ | ⟨rfl, rfl⟩
        · exact inner F us ts rfl hF5 (hts3.same S5) wt lt rfl
        · exact inner G ws gs rfl hG5 (hgs3.same S5) wg lg rfl
      obtain ⟨f1, f2, rfl⟩ : ∃ v1 v2, vs = [v1, v2] := by
        match vs, hlv7 with
        | [v1, v2], _ => exact ⟨v1, v2, rfl⟩
      obtain ⟨D1, a1, a2, rfl, nD1, hD1, ra1, ra2⟩ := hvs7 0 _ rfl
      obtain ⟨D2, b1, b2, rfl, nD2, hD2, rb1, rb2⟩ := hvs7 1 _ rfl
      have ra1 : RunK K ts r H7 a1 := ra1
      have ra2 : RunK K ts s0 H7 a2 := ra2
      have rb1 : RunK K gs r H7 b1 := rb1
      have rb2 : RunK K gs s0 H7 b2 := rb2
      refine gName_k ?_
      try dsimp only
      have S7 := S5.trans (sq0.trans s7)
      have mk : ∀ {fs : List Tr} {rc : Rc} {t : Tr} {q : Addr}, RunK K fs rc H7 q → ev fs rc = some t → ∃ w, H7 q = some (.tup [.str "made", w]) := fun {fs rc t q} h e => by
        obtain ⟨w, h1, _⟩ := runK_wd h
        unfold wdV at h1
        rw [e] at h1
        exact ⟨w, h1⟩
      obtain ⟨y1, m1⟩ := mk ra1 e1
      obtain ⟨y2, m2⟩ := mk ra2 e2'
      obtain ⟨y3, m3⟩ := mk rb1 e3
      obtain ⟨y4, m4⟩ := mk rb2 e4
      refine ⟨_, rfl, D, _, _, _, rfl, rfl, SqL.of hD7, at_of (j := 0) rfl rfl, _, rfl, D, _, _, _, rfl, rfl, SqL.of hD7, at_of (j := 1) rfl rfl, D1, D2, _, _, rfl, rfl, hD1, hD2, (by show 2 + 2 ≤ sizeLine; decide), fun q8 hq8 => ?_⟩
      have s8 := Rd.Same.upd (o := .lst ([V.ref a1, V.ref a2] ++ [V.ref b1, V.ref b2])) hq8
      have e8 : upd H7 q8 (.lst ([V.ref a1, V.ref a2] ++ [V.ref b1, V.ref b2])) q8 = some (.lst [V.ref a1, V.ref a2, V.ref b1, V.ref b2]) := upd_same
      generalize upd H7 q8 (.lst ([V.ref a1, V.ref a2] ++ [V.ref b1, V.ref b2])) = H8 at s8 e8 ⊢
      refine ⟨q8, rfl, ⟨_, SqL.of e8⟩, fun E8 hE8 => ?_⟩
      refine lclK (fun i H v => v = .str "made") (fun i H H' v k b h => h) (SqL.of e8) (by show 4 ≤ 100000; decide) hE8 (fun i y H9 Q9 hy s9 _ k9 => ?_) fun vs H9 s9 hE9 hlv9 hvs9 => ?_
      · have S9 := s8.trans s9
        obtain ⟨qq, yy, rfl, mq⟩ : ∃ qq yy, y = .ref qq ∧ H7 qq = some (.tup [.str "made", yy]) := by
          match i, hy with
          | 0, hy => cases hy; exact ⟨a1, y1, rfl, m1⟩
          | 1, hy => cases hy; exact ⟨a2, y2, rfl, m2⟩
          | 2, hy => cases hy; exact ⟨b1, y3, rfl, m3⟩
          | 3, hy => cases hy; exact ⟨b2, y4, rfl, m4⟩
        exact ⟨_, rfl, qq, _, _, _, rfl, rfl, SqT.of (S9 _ _ mq), at_of (j := 0) rfl rfl, k9 _ H9 (Same.refl _) rfl⟩
      obtain ⟨z1, z2, z3, z4, rfl⟩ : ∃ v1 v2 v3 v4, vs = [v1, v2, v3, v4] := by
        match vs, hlv9 with
        | [v1, v2, v3, v4], _ => exact ⟨v1, v2, v3, v4, rfl⟩
      have g1 := hvs9 0 z1 rfl
      have g2 := hvs9 1 z2 rfl
      have g3 := hvs9 2 z3 rfl
      have g4 := hvs9 3 z4 rfl
      subst g1 g2 g3 g4
      have S9 := s8.trans s9
      refine ⟨(by show 1 ≤ sizeLine; decide), fun q10 hq10 => ⟨q10, 4, [.str "made"], rfl, rfl, upd_same, by decide, by decide, (by show 1 * 4 ≤ sizeLine; decide), fun q11 hq11 => ?_⟩⟩
      have t11 := (Rd.Same.upd (o := .lst [.str "made"]) hq10).trans (Rd.Same.upd (o := .lst (List.replicate (4 : Int).toNat [V.str "made"]).flatten) hq11)
      refine ⟨.list [.str "made", .str "made", .str "made", .str "made"], .list [.str "made", .str "made", .str "made", .str "made"], .lst (SqL.of (t11 _ _ hE9)) (.cons (.str _) (.cons (.str _) (.cons (.str _) (.cons (.str _) .nil)))), .lst (SqL.of upd_same) (.cons (.str _) (.cons (.str _) (.cons (.str _) (.cons (.str _) .nil)))), made4.1, made4.1, _, rfl, ?_⟩
      rw [made4.2]
      refine iteF (nxt ?_)
      try dsimp only
      have S11 := S9.trans t11
      have hD11 := S11 _ _ hD7
      have hD12 := S11 _ _ hD1
      have hD13 := S11 _ _ hD2
      obtain ⟨d1, l1⟩ := runK_dp (ra1.same S11) e1 wt okr (by omega)
      obtain ⟨d2, l2⟩ := runK_dp (ra2.same S11) e2' wt oks (by omega)
      obtain ⟨d3, l3⟩ := runK_dp (rb1.same S11) e3 wg okr (by omega)
      obtain ⟨d4, l4⟩ := runK_dp (rb2.same S11) e4 wg oks (by omega)
      refine ⟨_, rfl, D, _, _, _, rfl, rfl, SqL.of hD11, at_of (j := 0) rfl rfl, D1, _, _, _, rfl, rfl, SqL.of hD12, at_of (j := 0) rfl rfl, _, rfl, D, _, _, _, rfl, rfl, SqL.of hD11, at_of (j := 0) rfl rfl, D1, _, _, _, rfl, rfl, SqL.of hD12, at_of (j := 1) rfl rfl, _, _, d1, d2, l1, l2, ?_⟩
      rw [made_eqv]
      refine ⟨_, rfl, D, _, _, _, rfl, rfl, SqL.of hD11, at_of (j := 1) rfl rfl, D2, _, _, _, rfl, rfl, SqL.of hD13, at_of (j := 0) rfl rfl, _, rfl, D, _, _, _, rfl, rfl, SqL.of hD11, at_of (j := 1) rfl rfl, D2, _, _, _, rfl, rfl, SqL.of hD13, at_of (j := 1) rfl rfl, _, _, d3, d4, l3, l4, ?_⟩
      rw [made_eqv]
      refine ⟨rfl, ?_⟩
      rw [decide_eq_false (fun z => ngn (by simpa using V.bl.inj z))]
      exact k _ (S3.trans (S7.trans S11))
end
end Rd
namespace Rd
open PySem L2
def ins1 {α : Type} (xs : List α) (s : α) (d : Int) : List α := xs.take (d % ((xs.length : Int) + 1)).toNat ++ [s] ++ xs.drop (d % ((xs.length : Int) + 1)).toNat
def insM {α : Type} (xs : List α) (l : List (α × Int)) : List α := l.foldl (fun ys p => ins1 ys p.1 p.2) xs
theorem ins1_len {α : Type} {xs : List α} {s : α} {d : Int} : (ins1 xs s d).length = xs.length + 1 := by
  unfold ins1
  rw [List.length_append, List.length_append, List.length_take, List.length_drop, List.length_singleton]
  omega
theorem insM_len {α : Type} : ∀ {l : List (α × Int)} {xs : List α}, (insM xs l).length = xs.length + l.length
  | [], xs => rfl
  | p :: l, xs => by
    show (insM (ins1 xs p.1 p.2) l).length = _
    rw [insM_len, ins1_len, List.length_cons]; omega
theorem insM_snoc {α : Type} {xs : List α} {l : List (α × Int)} {p : α × Int} : insM xs (l ++ [p]) = ins1 (insM xs l) p.1 p.2 := by
  unfold insM
  rw [List.foldl_append]; rfl
theorem tk_zip {α β : Type} : ∀ {xs : List α} {ys : List β} {n : Nat}, (xs.zip ys).take n = (xs.take n).zip (ys.take n)
  | [], _, n => by cases n <;> simp
  | _ :: _, [], n => by cases n <;> simp
  | x :: xs, y :: ys, 0 => rfl
  | x :: xs, y :: ys, n + 1 => by
    show (x, y) :: (xs.zip ys).take n = (x, y) :: (xs.take n).zip (ys.take n)
    rw [tk_zip]
theorem dr_zip {α β : Type} : ∀ {xs : List α} {ys : List β} {n : Nat}, (xs.zip ys).drop n = (xs.drop n).zip (ys.drop n)
  | [], _, n => by cases n <;> simp
  | _ :: _, [], n => by cases n <;> simp
  | x :: xs, y :: ys, 0 => rfl
  | x :: xs, y :: ys, n + 1 => by
    show (xs.zip ys).drop n = (xs.drop n).zip (ys.drop n)
    rw [dr_zip]
theorem ins1_zip {α : Type} {xs ys : List α} {s : α} {d : Int} (h : xs.length = ys.length) : (ins1 xs s d).zip (ins1 ys s d) = ins1 (xs.zip ys) (s, s) d := by
  unfold ins1
  rw [List.length_zip, ← h, Nat.min_self]
  rw [List.zip_append (by rw [List.length_append, List.length_append, List.length_take, List.length_take, h]), List.zip_append (by rw [List.length_take, List.length_take, h]), tk_zip, dr_zip]
  rfl
theorem insM_zip {α : Type} : ∀ {l : List (α × Int)} {xs ys : List α}, xs.length = ys.length → (insM xs l).zip (insM ys l) = insM (xs.zip ys) (l.map fun p => ((p.1, p.1), p.2))
  | [], xs, ys, h => rfl
  | p :: l, xs, ys, h => by
    show (insM (ins1 xs p.1 p.2) l).zip (insM (ins1 ys p.1 p.2) l) = insM (ins1 (xs.zip ys) (p.1, p.1) p.2) (l.map fun p => ((p.1, p.1), p.2))
    rw [insM_zip (by rw [ins1_len, ins1_len, h]), ins1_zip h]
theorem ins1_mem {α : Type} {xs : List α} {s : α} {d : Int} {z : α} : z ∈ ins1 xs s d ↔ z ∈ xs ∨ z = s := by
  unfold ins1
  rw [List.mem_append, List.mem_append, List.mem_singleton]
  constructor
  · rintro ((h | h) | h)
    · exact .inl (List.mem_of_mem_take h)
    · exact .inr h
    · exact .inl (List.mem_of_mem_drop h)
  · rintro (h | h)
    · rw [← List.take_append_drop (d % ((xs.length : Int) + 1)).toNat xs] at h
      rcases List.mem_append.mp h with h | h
      · exact .inl (.inl h)
      · exact .inr h
    · exact .inl (.inr h)
theorem insM_mem {α : Type} : ∀ {l : List (α × Int)} {xs : List α} {z : α}, z ∈ insM xs l ↔ z ∈ xs ∨ z ∈ l.map (·.1)
  | [], xs, z => by simp [insM]
  | p :: l, xs, z => by
    show z ∈ insM (ins1 xs p.1 p.2) l ↔ _
    rw [insM_mem, ins1_mem, List.map_cons, List.mem_cons]
    constructor
    · rintro ((h | h) | h)
      · exact .inl h
      · exact .inr (.inl h)
      · exact .inr (.inr h)
    · rintro (h | h | h)
      · exact .inl (.inl h)
      · exact .inl (.inr h)
      · exact .inr h
theorem TsAt.tk {H : Hp} {ts : List Tr} {vs : List V} {n : Nat} (h : TsAt H ts vs) : TsAt H (ts.take n) (vs.take n) := ⟨by rw [List.length_take, List.length_take, h.len], fun i t v e1 e2 => by
  rw [List.getElem?_take] at e1 e2
  split at e1
  · rename_i hi
    rw [if_pos hi] at e2
    exact h.get i t v e1 e2
  · cases e1⟩
theorem TsAt.dr {H : Hp} {ts : List Tr} {vs : List V} {n : Nat} (h : TsAt H ts vs) : TsAt H (ts.drop n) (vs.drop n) := ⟨by rw [List.length_drop, List.length_drop, h.len], fun i t v e1 e2 => by
  rw [List.getElem?_drop] at e1 e2
  exact h.get _ t v e1 e2⟩
def sp_more : Sp := fun vs H Q _ => ∃ (qr qf qs : Addr) (ds : List Int) (us ws : List V) (fs gs : List Tr), vs = [.ref qr, .ref qf, .ref qs] ∧ H qr = some (.lst (ds.map V.int)) ∧ H qf = some (.lst us) ∧ H qs = some (.lst ws) ∧ TsAt H fs us ∧ TsAt H gs ws ∧ gs.length ≤ ds.length ∧ fs.length ≤ 100 ∧ gs.length ≤ 100 ∧
  ∀ q vs H', Same H H' → H' q = some (.lst vs) → TsAt H' (insM fs (gs.zip ds)) vs → Q (.ref q) H'
section
variable {P : Program} {w : World} {K : PySem.W.Frag} {mg : Str → Option Value} {base : Heap}
abbrev s__law_more : Stmt := top 64
theorem sc__law_more : FnScope ["_law_row_here", "_law_forms", "_law_some", "_law_found", "_law_k", "_law_spot"] ["_law_row_here", "_law_forms", "_law_some"] (defScope s__law_more) := ⟨rfl, rfl, rfl, by decide +kernel, rfl, by decide +kernel, by decide +kernel⟩
theorem ok__law_more (T : Tx w K mg) : Fk P w K mg base CX0 3 "_law_more" ["_law_row_here", "_law_forms", "_law_some"] sp_more := by
  refine T.F__law_more.ok0 sc__law_more (fun _ _ _ _ _ _ us hl => match us, hl with | [_, _, _], _ => rfl)
    (fun vs H Q E h => ?_) (fun cdv A outer s H vs Q E hr h => ?_)
  · obtain ⟨qr, qf, qs, ds, us, ws, fs, gs, rfl, _⟩ := h
    rfl
  · obtain ⟨qr, qf, qs, ds, us, ws, fs, gs, rfl, hr0, hf, hs, hfs, hgs, hl, hf1, hg1, k⟩ := h
    refine ⟨_, (pss_cons (ps_set (i := 3) sc__law_more.nd rfl (Or.inl rfl) (pe_callTy call_list_of (by rfl) T.z_list (by decide +kernel) (pa_cons (pv 1) pa_nil)))
  (pss_cons (ps_for PassesOwn.never rfl (pi_range1 rfl T.z_range (pa_cons (pe_callB call_len_seq (by rfl) T.z_len (by decide +kernel) (pa_cons (pv 2) pa_nil)) pa_nil)) (pg_name (i := 4) sc__law_more.nd rfl (Or.inl rfl))
  (pss_cons (ps_set (i := 5) sc__law_more.nd rfl (Or.inl rfl) (pe_op op_mod (pe_callTy call_int1 (by rfl) T.z_int (by decide +kernel) (pa_cons (pe_ix ix_list (pv 0) (pv 4) (fun _ _ => rfl)) pa_nil)) (pe_op op_add (pe_callB call_len_seq (by rfl) T.z_len (by decide +kernel) (pa_cons (pv 3) pa_nil)) pe_int)))
  (pss_one (ps_expr (pe_bm PySem.F.plainAttrs_list PySem.F.slot_list_insert PySem.F.type_list_insert mt_insert (pv 3) (pa_cons (pv 5) (pa_cons (pe_ix ix_list (pv 2) (pv 4) (fun _ _ => rfl)) pa_nil)))))))
  (pss_one (ps_ret (pv 3))))), ?_⟩
    have big : 16777216 ≤ sizeLine := by decide
    have hfl := hfs.len
    have hgl := hgs.len
    refine seqAsg ⟨_, rfl, qf, us, rfl, .inl (SqL.of hf), fun q hq => ?_⟩
    have s1 := Rd.Same.upd (o := .lst us) hq
    have e1 : upd H q (.lst us) q = some (.lst us) := upd_same
    generalize upd H q (.lst us) = H1 at s1 e1 ⊢
    refine gName_k ?_
    try dsimp only
    have nq : ∀ {a : Addr} {o : HO}, H a = some o → a ≠ q := fun e z => by rw [z, hq] at e; cases e
    refine seqJoin (fun σ' Hc => ∃ (t4 t5 : Option V) (vs : List V), σ' = [some (.ref qr), some (.ref qf), some (.ref qs), some (.ref q), t4, t5] ∧ But q H1 Hc ∧ Hc q = some (.lst vs) ∧ TsAt Hc (insM fs (gs.zip ds)) vs) (fun KK hK => ?_) ?_
    · refine ⟨_, rfl, qs, ws, rfl, .inl (SqL.of (s1 _ _ hs)), ws.length, rfl, (by omega), (by omega), for_range (n := ws.length) (fun i σ Hc => ∃ (t4 t5 : Option V) (vs : List V), σ = [some (.ref qr), some (.ref qf), some (.ref qs), some (.ref q), t4, t5] ∧ But q H1 Hc ∧ Hc q = some (.lst vs) ∧ TsAt Hc (insM fs ((gs.zip ds).take i)) vs) ⟨_, _, us, rfl, But.refl, e1, hfs.same s1⟩ ?_ (fun σ Hc ⟨t4, t5, vs, e, b, h1, h2⟩ => hK _ _ ⟨t4, t5, vs, e, b, h1, by
        rw [List.take_of_length_le (by rw [List.length_zip]; omega)] at h2
        exact h2⟩)⟩
      rintro i σ Hc hi ⟨t4, t5, vs, rfl, bc, hqc, hts⟩
      refine gName_k ?_
      try dsimp only
      have hvl := hts.len
      rw [insM_len] at hvl
      have hzl : (gs.zip ds).length = gs.length := by rw [List.length_zip]; omega
      rw [List.length_take] at hvl
      have hid : i < ds.length := by omega
      have hig : i < gs.length := by omega
      have ed : (ds.map V.int)[i]? = some (V.int ds[i]) := by rw [List.getElem?_map, List.getElem?_eq_getElem hid]; rfl
      have eg : gs[i]? = some gs[i] := List.getElem?_eq_getElem hig
      have ew : ws[i]? = some ws[i] := List.getElem?_eq_getElem hi
      have hrc := bc _ _ (nq hr0) (s1 _ _ hr0)
      have hsc := bc _ _ (nq hs) (s1 _ _ hs)
      have kp1 : Kp 0 H1 Hc := fun c o hi' e => bc _ _ (fun z => by rw [z, e1] at e; cases e; cases hi') e
      have iw := ((hgs.get i _ _ eg ew).same s1).mono kp1
      generalize hdz : ds[i] = dz at ed
      generalize hgz : gs[i] = gz at iw
      generalize ws[i] = wz at ew iw
      have m0 : 0 ≤ dz % ((vs.length : Int) + 1) := Int.emod_nonneg _ (by omega)
      have m1 : dz % ((vs.length : Int) + 1) < (vs.length : Int) + 1 := Int.emod_lt_of_pos _ (by omega)
      refine seqAsg ⟨_, rfl, _, rfl, qr, _, _, _, rfl, rfl, SqL.of hrc, at_of (j := i) (by omega) ed, .inl ⟨_, rfl, _, rfl, q, vs, rfl, .inl (SqL.of hqc), _, _, rfl, rfl, _, _, rfl, rfl, (by show (0 : Int) < (vs.length : Int) + 1; omega), ?_⟩⟩
      refine gName_k ?_
      try dsimp only
      refine ⟨_, rfl, .inl ⟨rfl, _, SqL.of hqc⟩, _, rfl, _, rfl, _, rfl, qs, _, _, _, rfl, rfl, SqL.of hsc, at_of (j := i) (by omega) ew, q, vs, _, wz, rfl, rfl, hqc, (by omega), m0, (by omega), ?_⟩
      have e2 : (gs.zip ds).take (i + 1) = (gs.zip ds).take i ++ [(gz, dz)] := by
        rw [List.take_add_one, List.getElem?_eq_getElem (by omega), List.getElem_zip, hgz, hdz]; rfl
      have kp := Kp.upd_lst (C := 0) (ys := vs.take (dz % ((vs.length : Int) + 1)).toNat ++ [wz] ++ vs.drop (dz % ((vs.length : Int) + 1)).toNat) hqc
      refine ⟨_, _, _, rfl, bc.trans But.upd, upd_same, ?_⟩
      rw [e2, insM_snoc]
      unfold ins1
      rw [← hts.len]
      exact ((hts.tk.app (TsAt.one iw)).app hts.dr).mono kp
    rintro σ' Hc ⟨t4, t5, vs, rfl, bc, hqc, hts⟩
    exact ⟨_, rfl, k q vs Hc (fun c o e => bc _ _ (nq e) (s1 _ _ e)) hqc hts⟩
end
end Rd
namespace Rd
open PySem L2
def EvV (σ : St) (H0 : Hp) (R : Hp → V → Prop) (te : TE) : Prop := ∀ H Q, Same H0 H → (∀ v H', Same H H' → R H' v → Q v H') → te σ H Q
def EvA (σ : St) (H0 : Hp) (R : Hp → List V → Prop) (ta : TA) : Prop := ∀ H (Q : List V → Hp → Prop), Same H0 H → (∀ vs H', Same H H' → R H' vs → Q vs H') → ta σ H Q
abbrev EvF (σ : St) (H0 : Hp) (te : TE) (t : Tr) : Prop := EvV σ H0 (fun H v => IsT H t v) te
abbrev EvFs (σ : St) (H0 : Hp) (ta : TA) (ts : List Tr) : Prop := EvA σ H0 (fun H vs => TsAt H ts vs) ta
/-- a list of forms, and two of them in a tuple -/
def IsL1 (H : Hp) (ts : List Tr) (v : V) : Prop := ∃ q us, v = .ref q ∧ H q = some (.lst us) ∧ TsAt H ts us
def IsPr (H : Hp) (z : List Tr × List Tr) (v : V) : Prop := ∃ p u w, v = .ref p ∧ H p = some (.tup [u, w]) ∧ IsL1 H z.1 u ∧ IsL1 H z.2 w
theorem IsL1.same {H H' : Hp} {ts : List Tr} {v : V} (s : Same H H') (h : IsL1 H ts v) : IsL1 H' ts v := by
  obtain ⟨q, us, e, h1, h2⟩ := h
  exact ⟨q, us, e, s _ _ h1, h2.same s⟩
theorem IsPr.same {H H' : Hp} {z : List Tr × List Tr} {v : V} (s : Same H H') (h : IsPr H z v) : IsPr H' z v := by
  obtain ⟨p, u, w, e, h1, h2, h3⟩ := h
  exact ⟨p, u, w, e, s _ _ h1, h2.same s, h3.same s⟩
section
variable {σ : St} {H0 : Hp}
theorem ef_var {i : Nat} {v : V} {t : Tr} (h : σ[i]? = some (some v)) (it : IsT H0 t v) : EvF σ H0 (tVar i) t := fun H Q s k => ⟨v, h, k v H (Same.refl _) (it.same s)⟩
theorem ef_un {s : Str} {te : TE} {t : Tr} (h : EvF σ H0 te t) : EvF σ H0 (tTup (tCons (tC (.str s)) (tCons te tNil))) (.un s t) := fun H Q s0 k => by
  refine h H _ s0 fun v H' s1 it => ⟨(by show 2 ≤ sizeLine; decide), fun q hq => ?_⟩
  have s2 := Rd.Same.upd (o := .tup [.str s, v]) hq
  exact k _ _ (s1.trans s2) ⟨q, v, rfl, upd_same, it.same s2⟩
theorem ef_bi {s : Str} {te tf : TE} {t u : Tr} (h : EvF σ H0 te t) (g : EvF σ H0 tf u) : EvF σ H0 (tTup (tCons (tC (.str s)) (tCons te (tCons tf tNil)))) (.bi s t u) := fun H Q s0 k => by
  refine h H _ s0 fun v H1 s1 it => ?_
  refine g H1 _ (s0.trans s1) fun w H2 s2 iu => ⟨(by show 3 ≤ sizeLine; decide), fun q hq => ?_⟩
  have s3 := Rd.Same.upd (o := .tup [.str s, v, w]) hq
  exact k _ _ ((s1.trans s2).trans s3) ⟨q, v, w, rfl, upd_same, (it.same s2).same s3, iu.same s3⟩
theorem ea_nil : EvFs σ H0 tNil [] := fun H Q s0 k => k _ _ (Same.refl _) ⟨rfl, fun i t v h => by simp at h⟩
theorem ea_cons {te : TE} {ta : TA} {t : Tr} {ts : List Tr} (h : EvF σ H0 te t) (g : EvFs σ H0 ta ts) : EvFs σ H0 (tCons te ta) (t :: ts) := fun H Q s0 k => by
  refine h H _ s0 fun v H1 s1 it => ?_
  exact g H1 _ (s0.trans s1) fun vs H2 s2 its => k _ _ (s1.trans s2) ((TsAt.one (it.same s2)).app its)
theorem ep_pr {ta tb : TA} {ts us : List Tr} (hl : ts.length ≤ 1000) (hl2 : us.length ≤ 1000) (h : EvFs σ H0 ta ts) (g : EvFs σ H0 tb us) : EvV σ H0 (fun H v => IsPr H (ts, us) v) (tTup (tCons (tLst ta) (tCons (tLst tb) tNil))) := fun H Q s0 k => by
  have big : 16777216 ≤ sizeLine := by decide
  refine h H _ s0 fun vs H1 s1 h1 => ⟨by have := h1.len; omega, fun q1 hq1 => ?_⟩
  have s2 := Rd.Same.upd (o := .lst vs) hq1
  have e1 : upd H1 q1 (.lst vs) q1 = some (.lst vs) := upd_same
  generalize upd H1 q1 (.lst vs) = H2 at s2 e1 ⊢
  refine g H2 _ ((s0.trans s1).trans s2) fun ws H3 s3 h3 => ⟨by have := h3.len; omega, fun q2 hq2 => ?_⟩
  have s4 := Rd.Same.upd (o := .lst ws) hq2
  have e2 : upd H3 q2 (.lst ws) q2 = some (.lst ws) := upd_same
  generalize upd H3 q2 (.lst ws) = H4 at s4 e2 ⊢
  refine ⟨(by show 2 ≤ sizeLine; decide), fun q hq => ?_⟩
  have s5 := Rd.Same.upd (o := .tup [.ref q1, .ref q2]) hq
  have S25 := (s3.trans s4).trans s5
  exact k _ _ ((s1.trans s2).trans S25) ⟨q, _, _, rfl, upd_same, ⟨q1, vs, rfl, S25 _ _ e1, (h1.same s2).same S25⟩, ⟨q2, ws, rfl, s5 _ _ e2, (h3.same s4).same s5⟩⟩
theorem eq_nil : EvA σ H0 (fun H vs => AtL IsPr H [] vs) tNil := fun H Q s0 k => k _ _ (Same.refl _) ⟨rfl, fun i t v h => by simp at h⟩
theorem eq_cons {te : TE} {ta : TA} {z : List Tr × List Tr} {zs : PrL} (h : EvV σ H0 (fun H v => IsPr H z v) te) (g : EvA σ H0 (fun H vs => AtL IsPr H zs vs) ta) : EvA σ H0 (fun H vs => AtL IsPr H (z :: zs) vs) (tCons te ta) := fun H Q s0 k => by
  refine h H _ s0 fun v H1 s1 it => ?_
  refine g H1 _ (s0.trans s1) fun vs H2 s2 its => k _ _ (s1.trans s2) ⟨by rw [List.length_cons, List.length_cons, its.len], fun i b u e1 e2 => ?_⟩
  cases i with
  | zero => cases e1; cases e2; exact it.same s2
  | succ i => exact its.get i b u (by simpa using e1) (by simpa using e2)
end
def sp_prs : Sp := fun vs H Q _ => ∃ (kv mv nv av bv : V) (k m n a b : Tr), vs = [kv, mv, nv, av, bv] ∧ IsT H k kv ∧ IsT H m mv ∧ IsT H n nv ∧ IsT H a av ∧ IsT H b bv ∧
  ∀ q q1 q2 us ws H', Same H H' → H' q = some (.tup [.ref q1, .ref q2]) → H' q1 = some (.lst us) → H' q2 = some (.lst ws) → AtL IsPr H' (prP k m n a b) us → AtL IsPr H' (prS k m n a b) ws → Q (.ref q) H'
section
variable {P : Program} {w : World} {K : PySem.W.Frag} {mg : Str → Option Value} {base : Heap}
abbrev s__law_pairs_of_heaps : Stmt := top 63
theorem sc__law_pairs_of_heaps : FnScope ["_law_k", "_law_m", "_law_n", "_law_a", "_law_b", "_law_box", "_law_locked", "_law_parted", "_law_same"] ["_law_k", "_law_m", "_law_n", "_law_a", "_law_b"] (defScope s__law_pairs_of_heaps) := ⟨rfl, rfl, rfl, by decide +kernel, rfl, by decide +kernel, by decide +kernel⟩
theorem ok__law_pairs_of_heaps (T : Tx w K mg) : Fk P w K mg base CX0 1 "_law_pairs_of_heaps" ["_law_k", "_law_m", "_law_n", "_law_a", "_law_b"] sp_prs := by
  refine T.F__law_pairs_of_heaps.ok0 sc__law_pairs_of_heaps (fun _ _ _ _ _ _ us hl => match us, hl with | [_, _, _, _, _], _ => rfl)
    (fun vs H Q E h => ?_) (fun cdv A outer s H vs Q E hr h => ?_)
  · obtain ⟨kv, mv, nv, av, bv, k, m, n, a, b, rfl, _⟩ := h
    rfl
  · obtain ⟨kv, mv, nv, av, bv, k, m, n, a, b, rfl, ik, im, iN, ia, ib, kk⟩ := h
    refine ⟨_, (pss_cons (ps_set (i := 5) sc__law_pairs_of_heaps.nd rfl (Or.inl rfl) (pe_tup (pa_cons pe_str (pa_cons (pv 2) (pa_cons (pv 0) pa_nil)))))
  (pss_cons (ps_set (i := 6) sc__law_pairs_of_heaps.nd rfl (Or.inl rfl) (pe_tup (pa_cons pe_str (pa_cons (pe_tup (pa_cons pe_str (pa_cons (pv 3) (pa_cons (pv 2) pa_nil)))) (pa_cons (pe_tup (pa_cons pe_str (pa_cons (pv 0) pa_nil))) pa_nil)))))
  (pss_cons (ps_set (i := 7) sc__law_pairs_of_heaps.nd rfl (Or.inl rfl) (pe_lst (pa_cons (pe_tup (pa_cons (pe_lst (pa_cons (pe_tup (pa_cons pe_str (pa_cons (pv 0) pa_nil))) pa_nil)) (pa_cons (pe_lst (pa_cons (pe_tup (pa_cons pe_str (pa_cons (pv 0) pa_nil))) pa_nil)) pa_nil))) (pa_cons (pe_tup (pa_cons (pe_lst (pa_cons (pe_tup (pa_cons pe_str (pa_cons (pv 0) pa_nil))) (pa_cons (pe_tup (pa_cons pe_str (pa_cons (pv 0) pa_nil))) pa_nil))) (pa_cons (pe_lst (pa_cons (pe_tup (pa_cons pe_str (pa_cons (pv 0) pa_nil))) (pa_cons (pe_tup (pa_cons pe_str (pa_cons (pv 1) pa_nil))) pa_nil))) pa_nil))) (pa_cons (pe_tup (pa_cons (pe_lst (pa_cons (pe_tup (pa_cons pe_str (pa_cons (pe_tup (pa_cons pe_str (pa_cons (pv 3) (pa_cons (pv 4) pa_nil)))) pa_nil))) pa_nil)) (pa_cons (pe_lst (pa_cons (pe_tup (pa_cons pe_str (pa_cons (pv 2) pa_nil))) pa_nil)) pa_nil))) (pa_cons (pe_tup (pa_cons (pe_lst (pa_cons (pv 0) (pa_cons (pe_tup (pa_cons pe_str (pa_cons (pv 3) (pa_cons (pv 0) pa_nil)))) pa_nil))) (pa_cons (pe_lst (pa_cons (pv 0) (pa_cons (pe_tup (pa_cons pe_str (pa_cons (pv 4) (pa_cons (pv 0) pa_nil)))) pa_nil))) pa_nil))) (pa_cons (pe_tup (pa_cons (pe_lst (pa_cons (pe_tup (pa_cons pe_str (pa_cons (pv 3) (pa_cons (pe_tup (pa_cons pe_str (pa_cons (pv 0) pa_nil))) pa_nil)))) (pa_cons (pe_tup (pa_cons pe_str (pa_cons (pv 0) pa_nil))) pa_nil))) (pa_cons (pe_lst (pa_cons (pe_tup (pa_cons pe_str (pa_cons (pv 4) (pa_cons (pe_tup (pa_cons pe_str (pa_cons (pv 0) pa_nil))) pa_nil)))) (pa_cons (pe_tup (pa_cons pe_str (pa_cons (pv 0) pa_nil))) pa_nil))) pa_nil))) (pa_cons (pe_tup (pa_cons (pe_lst (pa_cons (pe_tup (pa_cons pe_str (pa_cons (pv 2) pa_nil))) (pa_cons (pv 2) pa_nil))) (pa_cons (pe_lst (pa_cons (pe_tup (pa_cons pe_str (pa_cons (pv 1) pa_nil))) (pa_cons (pv 2) pa_nil))) pa_nil))) (pa_cons (pe_tup (pa_cons (pe_lst (pa_cons (pv 5) (pa_cons (pv 5) pa_nil))) (pa_cons (pe_lst (pa_cons (pv 5) (pa_cons (pe_tup (pa_cons pe_str (pa_cons (pv 1) (pa_cons (pv 0) pa_nil)))) pa_nil))) pa_nil))) (pa_cons (pe_tup (pa_cons (pe_lst (pa_cons (pe_tup (pa_cons pe_str (pa_cons (pv 3) (pa_cons (pe_tup (pa_cons pe_str (pa_cons (pv 0) pa_nil))) pa_nil)))) (pa_cons (pv 0) pa_nil))) (pa_cons (pe_lst (pa_cons (pe_tup (pa_cons pe_str (pa_cons (pv 4) (pa_cons (pe_tup (pa_cons pe_str (pa_cons (pv 0) pa_nil))) pa_nil)))) (pa_cons (pv 0) pa_nil))) pa_nil))) (pa_cons (pe_tup (pa_cons (pe_lst (pa_cons (pe_tup (pa_cons pe_str (pa_cons (pv 0) (pa_cons (pv 1) pa_nil)))) pa_nil)) (pa_cons (pe_lst (pa_cons (pe_tup (pa_cons pe_str (pa_cons (pv 0) (pa_cons (pv 1) pa_nil)))) pa_nil)) pa_nil))) (pa_cons (pe_tup (pa_cons (pe_lst (pa_cons (pv 3) pa_nil)) (pa_cons (pe_lst (pa_cons (pv 4) pa_nil)) pa_nil))) (pa_cons (pe_tup (pa_cons (pe_lst (pa_cons (pv 2) (pa_cons (pv 2) pa_nil))) (pa_cons (pe_lst (pa_cons (pv 2) (pa_cons (pv 1) pa_nil))) pa_nil))) (pa_cons (pe_tup (pa_cons (pe_lst (pa_cons (pe_tup (pa_cons pe_str (pa_cons (pv 2) (pa_cons (pv 0) pa_nil)))) (pa_cons (pv 0) (pa_cons (pv 2) pa_nil)))) (pa_cons (pe_lst (pa_cons (pe_tup (pa_cons pe_str (pa_cons (pv 2) (pa_cons (pv 0) pa_nil)))) (pa_cons (pv 0) (pa_cons (pv 1) pa_nil)))) pa_nil))) pa_nil))))))))))))))
  (pss_cons (ps_set (i := 8) sc__law_pairs_of_heaps.nd rfl (Or.inl rfl) (pe_lst (pa_cons (pe_tup (pa_cons (pe_lst (pa_cons (pe_tup (pa_cons pe_str (pa_cons (pv 0) pa_nil))) pa_nil)) (pa_cons (pe_lst (pa_cons (pe_tup (pa_cons pe_str (pa_cons (pv 1) pa_nil))) pa_nil)) pa_nil))) (pa_cons (pe_tup (pa_cons (pe_lst (pa_cons (pe_tup (pa_cons pe_str (pa_cons (pv 0) pa_nil))) pa_nil)) (pa_cons (pe_lst (pa_cons (pe_tup (pa_cons pe_str (pa_cons (pv 0) pa_nil))) pa_nil)) pa_nil))) (pa_cons (pe_tup (pa_cons (pe_lst (pa_cons (pe_tup (pa_cons pe_str (pa_cons (pv 3) (pa_cons (pv 0) pa_nil)))) pa_nil)) (pa_cons (pe_lst (pa_cons (pe_tup (pa_cons pe_str (pa_cons (pv 4) (pa_cons (pv 0) pa_nil)))) pa_nil)) pa_nil))) (pa_cons (pe_tup (pa_cons (pe_lst (pa_cons (pv 6) (pa_cons (pe_tup (pa_cons pe_str (pa_cons (pv 0) pa_nil))) pa_nil))) (pa_cons (pe_lst (pa_cons (pe_tup (pa_cons pe_str (pa_cons (pe_tup (pa_cons pe_str (pa_cons (pv 4) (pa_cons (pv 2) pa_nil)))) (pa_cons (pe_tup (pa_cons pe_str (pa_cons (pv 0) pa_nil))) pa_nil)))) (pa_cons (pe_tup (pa_cons pe_str (pa_cons (pv 0) pa_nil))) pa_nil))) pa_nil))) (pa_cons (pe_tup (pa_cons (pe_lst (pa_cons (pe_tup (pa_cons pe_str (pa_cons (pv 2) pa_nil))) (pa_cons (pv 1) pa_nil))) (pa_cons (pe_lst (pa_cons (pe_tup (pa_cons pe_str (pa_cons (pv 0) pa_nil))) (pa_cons (pv 1) pa_nil))) pa_nil))) (pa_cons (pe_tup (pa_cons (pe_lst (pa_cons (pe_tup (pa_cons pe_str (pa_cons (pv 2) (pa_cons (pv 0) pa_nil)))) pa_nil)) (pa_cons (pe_lst (pa_cons (pe_tup (pa_cons pe_str (pa_cons (pv 2) pa_nil))) pa_nil)) pa_nil))) (pa_cons (pe_tup (pa_cons (pe_lst (pa_cons (pe_tup (pa_cons pe_str (pa_cons (pv 0) (pa_cons (pv 0) pa_nil)))) pa_nil)) (pa_cons (pe_lst (pa_cons (pv 2) pa_nil)) pa_nil))) (pa_cons (pe_tup (pa_cons (pe_lst (pa_cons (pe_tup (pa_cons pe_str (pa_cons (pv 3) (pa_cons (pe_tup (pa_cons pe_str (pa_cons (pv 0) pa_nil))) pa_nil)))) pa_nil)) (pa_cons (pe_lst (pa_cons (pe_tup (pa_cons pe_str (pa_cons (pv 4) (pa_cons (pe_tup (pa_cons pe_str (pa_cons (pv 1) pa_nil))) pa_nil)))) pa_nil)) pa_nil))) (pa_cons (pe_tup (pa_cons (pe_lst (pa_cons (pe_tup (pa_cons pe_str (pa_cons (pv 2) (pa_cons (pe_tup (pa_cons pe_str (pa_cons (pv 0) pa_nil))) pa_nil)))) (pa_cons (pv 0) pa_nil))) (pa_cons (pe_lst (pa_cons (pe_tup (pa_cons pe_str (pa_cons (pv 1) (pa_cons (pe_tup (pa_cons pe_str (pa_cons (pv 0) pa_nil))) pa_nil)))) (pa_cons (pv 0) pa_nil))) pa_nil))) (pa_cons (pe_tup (pa_cons (pe_lst (pa_cons (pe_tup (pa_cons pe_str (pa_cons (pe_tup (pa_cons pe_str (pa_cons (pv 0) pa_nil))) pa_nil))) pa_nil)) (pa_cons (pe_lst (pa_cons (pe_tup (pa_cons pe_str (pa_cons (pe_tup (pa_cons pe_str (pa_cons (pv 0) pa_nil))) pa_nil))) pa_nil)) pa_nil))) pa_nil))))))))))))
  (pss_one (ps_ret (pe_tup (pa_cons (pv 7) (pa_cons (pv 8) pa_nil))))))))), ?_⟩
    have big : 16777216 ≤ sizeLine := by decide
    refine seqAsg ?_
    refine ef_bi (t := n) (u := k) (ef_var rfl iN) (ef_var rfl ik) H _ (Same.refl _) fun v5 H1 s1 i5 => ?_
    refine gName_k ?_
    try dsimp only
    refine seqAsg ?_
    refine ef_bi (ef_bi (t := a) (u := n) (ef_var rfl ia) (ef_var rfl iN)) (ef_un (t := k) (ef_var rfl ik)) H1 _ s1 fun v6 H2 s2 i6 => ?_
    refine gName_k ?_
    try dsimp only
    have S2 := s1.trans s2
    have i5 := i5.same s2
    have ik := ik.same S2
    have im := im.same S2
    have iN := iN.same S2
    have ia := ia.same S2
    have ib := ib.same S2
    refine seqAsg ?_
    refine (show EvA _ H2 (fun H vs => AtL IsPr H (prP k m n a b) vs) _ from by
      unfold prP
      repeat' first | exact ef_var rfl (by assumption) | exact ea_nil | exact eq_nil | refine eq_cons ?_ ?_ | refine ep_pr (Nat.le_of_ble_eq_true rfl) (Nat.le_of_ble_eq_true rfl) ?_ ?_ | refine ea_cons ?_ ?_ | refine ef_un ?_ | refine ef_bi ?_ ?_) H2 _ (Same.refl _) fun us H3 s3 hus => ?_
    have l12 := hus.len
    refine ⟨by rw [l12]; show 12 ≤ sizeLine; decide, fun q1 hq1 => ?_⟩
    have s4 := Rd.Same.upd (o := .lst us) hq1
    have e4 : upd H3 q1 (.lst us) q1 = some (.lst us) := upd_same
    generalize upd H3 q1 (.lst us) = H4 at s4 e4 ⊢
    refine gName_k ?_
    try dsimp only
    have S4 := s3.trans s4
    have i5 := i5.same S4
    have i6 := i6.same S4
    have ik := ik.same S4
    have im := im.same S4
    have iN := iN.same S4
    have ia := ia.same S4
    have ib := ib.same S4
    refine seqAsg ?_
    refine (show EvA _ H4 (fun H vs => AtL IsPr H (prS k m n a b) vs) _ from by
      unfold prS
      repeat' first | exact ef_var rfl (by assumption) | exact ea_nil | exact eq_nil | refine eq_cons ?_ ?_ | refine ep_pr (Nat.le_of_ble_eq_true rfl) (Nat.le_of_ble_eq_true rfl) ?_ ?_ | refine ea_cons ?_ ?_ | refine ef_un ?_ | refine ef_bi ?_ ?_) H4 _ (Same.refl _) fun ws H5 s5 hws => ?_
    have l10 := hws.len
    refine ⟨by rw [l10]; show 10 ≤ sizeLine; decide, fun q2 hq2 => ?_⟩
    have s6 := Rd.Same.upd (o := .lst ws) hq2
    have e6 : upd H5 q2 (.lst ws) q2 = some (.lst ws) := upd_same
    generalize upd H5 q2 (.lst ws) = H6 at s6 e6 ⊢
    refine gName_k ?_
    try dsimp only
    refine ⟨_, rfl, _, rfl, (by show 2 ≤ sizeLine; decide), fun q hq => ?_⟩
    have s7 := Rd.Same.upd (o := .tup [.ref q1, .ref q2]) hq
    have S7 := (s5.trans s6).trans s7
    exact kk q q1 q2 us ws _ (S2.trans (S4.trans S7)) upd_same (S7 _ _ e4) (s7 _ _ e6) ⟨l12, fun i z v h1 h2 => ((hus.get i z v h1 h2).same s4).same S7⟩ ⟨l10, fun i z v h1 h2 => ((hws.get i z v h1 h2).same s6).same s7⟩
end
end Rd
namespace Rd
open PySem L2
def koB (k x : Str) : Bool := (decide (k = "word") && isWord x) || (decide (k = "name") && isName x)
def wfB : Tr → Bool
  | .am k x => koB k x
  | .un s a => decide (s ∈ (["mark", "open", "own"] : List Str)) && wfB a
  | .bi s a b => wfB a && wfB b && (decide (s ∈ (["pair", "seal"] : List Str)) || (decide (s = "lock") && decide (b.head ∈ (["open", "own"] : List Str))))
theorem wfB_ok : ∀ {t : Tr}, wfB t = true → Wf t
  | .am k x, h => by
    refine .am ?_
    rcases Bool.or_eq_true_iff.mp (show (_ || _) = true from h) with h | h
    · obtain ⟨h1, h2⟩ := He.ba h
      exact .inl ⟨of_decide_eq_true h1, h2⟩
    · obtain ⟨h1, h2⟩ := He.ba h
      exact .inr (.inl ⟨of_decide_eq_true h1, h2⟩)
  | .un s a, h => by
    obtain ⟨h1, h2⟩ := He.ba (show (_ && _) = true from h)
    exact .un (of_decide_eq_true h1) (wfB_ok h2)
  | .bi s a b, h => by
    obtain ⟨h1, h2⟩ := He.ba (show (_ && _) = true from h)
    obtain ⟨ha, hb⟩ := He.ba h1
    rcases Bool.or_eq_true_iff.mp h2 with h2 | h2
    · exact .bi (of_decide_eq_true h2) (wfB_ok ha) (wfB_ok hb)
    · obtain ⟨h3, h4⟩ := He.ba h2
      have e := of_decide_eq_true h3
      subst e
      have wb := wfB_ok hb
      have h4 := of_decide_eq_true h4
      have h4 : b.head = "open" ∨ b.head = "own" := by simpa using h4
      rcases wb.shp with ⟨k0, x, rfl, ko⟩ | ⟨s0, a0, rfl, hs, wa⟩ | ⟨s0, a0, b0, rfl, hs, _⟩
      · exfalso
        have h4 : k0 = "open" ∨ k0 = "own" := h4
        rcases ko with ⟨rfl, _⟩ | ⟨rfl, _⟩ | ⟨rfl, _⟩ <;> revert h4 <;> decide +kernel
      · have h4 : s0 = "open" ∨ s0 = "own" := h4
        exact .lk (by rcases h4 with rfl | rfl <;> decide +kernel) (wfB_ok ha) wa
      · exfalso
        have h4 : s0 = "open" ∨ s0 = "own" := h4
        have : ∀ z ∈ (["pair", "seal", "lock"] : List Str), ¬ (z = "open" ∨ z = "own") := by decide +kernel
        exact this s0 hs h4
def gdB (t : Tr) : Bool := wfB t && decide (t.txt "unknown" = []) && decide (t.dep ≤ 6) && decide (t.all.length ≤ 29)
theorem gdB_ok {t : Tr} (h : gdB t = true) : Gd t := by
  obtain ⟨h, h4⟩ := He.ba (show (_ && _) = true from h)
  obtain ⟨h, h3⟩ := He.ba h
  obtain ⟨h1, h2⟩ := He.ba h
  exact ⟨wfB_ok h1, of_decide_eq_true (p := t.txt "unknown" = []) h2, of_decide_eq_true h3, of_decide_eq_true h4⟩
theorem pairs_gd : (NM3.all fun p => WD2.all fun q => (stk' q).all gdB && (prP' p q ++ prS' p q).all fun z => z.1.all gdB && z.2.all gdB && decide (z.1.length ≤ 3) && decide (z.1.length = z.2.length)) = true := by decide +kernel
theorem zip_self {α : Type} : ∀ {xs : List α} {s : α}, s ∈ xs → (s, s) ∈ xs.zip xs
  | x :: xs, s, h => by
    rcases List.mem_cons.mp h with rfl | h
    · exact List.mem_cons_self
    · exact List.mem_cons_of_mem _ (zip_self h)
section
variable {p : Str × Str × Str} {q : Str × Str} {z : List Tr × List Tr}
theorem pr_gd (hp : p ∈ NM3) (hq : q ∈ WD2) : (∀ s ∈ stk' q, Gd s) ∧ ∀ z ∈ prP' p q ++ prS' p q, (∀ t ∈ z.1, Gd t) ∧ (∀ t ∈ z.2, Gd t) ∧ z.1.length ≤ 3 ∧ z.1.length = z.2.length := by
  obtain ⟨h1, h2⟩ := He.ba (List.all_eq_true.mp (List.all_eq_true.mp pairs_gd p hp) q hq)
  refine ⟨fun s hs => gdB_ok (List.all_eq_true.mp h1 s hs), fun z hz => ?_⟩
  obtain ⟨h3, h7⟩ := He.ba (List.all_eq_true.mp h2 z hz)
  obtain ⟨h3, h6⟩ := He.ba h3
  obtain ⟨h4, h5⟩ := He.ba h3
  exact ⟨fun t ht => gdB_ok (List.all_eq_true.mp h4 t ht), fun t ht => gdB_ok (List.all_eq_true.mp h5 t ht), of_decide_eq_true h6, of_decide_eq_true h7⟩
theorem more_zip {ss : List Tr} {ds : List Int} {xs ys : List Tr} (hl : xs.length = ys.length) : ∀ x, x ∈ (insM xs (ss.zip ds)).zip (insM ys (ss.zip ds)) → x ∈ xs.zip ys ∨ ∃ s ∈ ss, x = (s, s) := fun x hx => by
  rw [insM_zip hl, insM_mem] at hx
  rcases hx with h | h
  · exact .inl h
  · rw [List.map_map] at h
    obtain ⟨y, hy, rfl⟩ := List.mem_map.mp h
    exact .inr ⟨y.1, (List.of_mem_zip hy).1, rfl⟩
theorem same_more (hp : p ∈ NM3) (hq : q ∈ WD2) (hz : z ∈ prS' p q) {ss : List Tr} {ds : List Int} (hs : ∀ s ∈ ss, s ∈ stk' q) : Alk (insM z.1 (ss.zip ds)) (insM z.2 (ss.zip ds)) := by
  obtain ⟨g1, g2⟩ := pr_gd hp hq
  obtain ⟨gx, gy, _, hl⟩ := g2 z (List.mem_append_right _ hz)
  obtain ⟨h1, _⟩ := He.ba (List.all_eq_true.mp (List.all_eq_true.mp (List.all_eq_true.mp same_all p hp) q hq) z hz)
  have e : partF (z.1 ++ stk' q) (z.2 ++ stk' q) = none := Option.isNone_iff_eq_none.mp h1
  have wa : ∀ {xs : List Tr}, (∀ t ∈ xs, Gd t) → ∀ t ∈ xs ++ stk' q, Wf t := fun h t ht => by
    rcases List.mem_append.mp ht with ht | ht
    · exact (h t ht).1
    · exact (g1 t ht).1
  have a := (part_iff (wa gx) (wa gy) (by rw [List.length_append, List.length_append, hl])).mp e
  refine a.of_mem (by rw [List.length_append, List.length_append, hl]) (by rw [insM_len, insM_len, hl]) fun x hx => ?_
  rw [List.zip_append hl]
  rcases more_zip hl x hx with h | ⟨s, h, rfl⟩
  · exact List.mem_append_left _ h
  · exact List.mem_append_right _ (zip_self (hs s h))
theorem parted_more (hp : p ∈ NM3) (hq : q ∈ WD2) (hz : z ∈ prP' p q) {ss : List Tr} {ds : List Int} : ¬ Alk (insM z.1 (ss.zip ds)) (insM z.2 (ss.zip ds)) := fun a => by
  obtain ⟨g1, g2⟩ := pr_gd hp hq
  obtain ⟨gx, gy, _, hl⟩ := g2 z (List.mem_append_left _ hz)
  obtain ⟨h1, _⟩ := He.ba (List.all_eq_true.mp (List.all_eq_true.mp (List.all_eq_true.mp parted_all p hp) q hq) z hz)
  have b : Alk z.1 z.2 := a.of_mem (by rw [insM_len, insM_len, hl]) hl fun x hx => by
    rw [insM_zip hl, insM_mem]
    exact .inl hx
  rw [(part_iff (fun t ht => (gx t ht).1) (fun t ht => (gy t ht).1) hl).mpr b] at h1
  cases h1
theorem more_gd {ss : List Tr} {ds : List Int} {xs : List Tr} (h : ∀ t ∈ xs, Gd t) (g : ∀ t ∈ ss, Gd t) : ∀ t ∈ insM xs (ss.zip ds), Gd t := fun t ht => by
  rcases insM_mem.mp ht with h1 | h1
  · exact h t h1
  · obtain ⟨y, hy, rfl⟩ := List.mem_map.mp h1
    exact g _ (List.of_mem_zip hy).1
end
def NMB : List (List Str) := [["K", "M", "N"], ["ZZ", "A1", "A"], ["AAAAAAAA", "B", "C9"]]
def WDB : List (List Str) := [["a", "b"], ["yes", "no"], ["own", "zzzzzzzz"]]
theorem nm_rot {j t : Nat} (hj : j < 3) (ht : t < 3) : ∃ l, NMB[j]? = some l ∧ ∃ p ∈ NM3, l.drop t ++ l.take t = [p.1, p.2.1, p.2.2] := by
  have : ∀ j ∈ [0, 1, 2], ∀ t ∈ [0, 1, 2], ∃ l ∈ NMB, NMB[j]? = some l ∧ ∃ p ∈ NM3, l.drop t ++ l.take t = [p.1, p.2.1, p.2.2] := by decide +kernel
  have m : ∀ {i : Nat}, i < 3 → i ∈ [0, 1, 2] := fun {i} h => by
    match i, h with
    | 0, _ => decide
    | 1, _ => decide
    | 2, _ => decide
  obtain ⟨l, _, h1, h2⟩ := this j (m hj) t (m ht)
  exact ⟨l, h1, h2⟩
theorem wd_at {j : Nat} (hj : j < 3) : ∃ q ∈ WD2, WDB[j]? = some [q.1, q.2] := by
  match j, hj with
  | 0, _ => exact ⟨("a", "b"), by decide +kernel, rfl⟩
  | 1, _ => exact ⟨("yes", "no"), by decide +kernel, rfl⟩
  | 2, _ => exact ⟨("own", "zzzzzzzz"), by decide +kernel, rfl⟩
end Rd
namespace Rd
open PySem L2
theorem cut_toN {xs : List V} {k : Nat} : cutV xs none (some (k : Int)) = xs.take k := by
  unfold cutV
  rw [HT.sIx_nat]
  show (xs.drop 0).take (min k xs.length - 0) = xs.take k
  rw [List.drop_zero, Nat.sub_zero, ← List.take_eq_take_min]
theorem if_vars {i j m : Nat} {σ : St} {H : Hp} {Q : VK} {c : Bool} {u v : V} (h0 : σ[m]? = some (some (.bl c))) (h1 : σ[i]? = some (some u)) (h2 : σ[j]? = some (some v)) (k : Q (if c = true then u else v) H) : tIf (tB (tVar m)) (tVar i) (tVar j) σ H Q := by
  refine ⟨_, h0, c, rfl, ?_⟩
  cases c with
  | true => exact iteT ⟨_, h1, k⟩
  | false => exact iteF ⟨_, h2, k⟩
theorem ef_am {σ : St} {H0 : Hp} {s x : Str} : EvF σ H0 (tTup (tCons (tC (.str s)) (tCons (tC (.str x)) tNil))) (.am s x) := fun H Q s0 k => ⟨(by show 2 ≤ sizeLine; decide), fun q hq => k _ _ (Rd.Same.upd (o := .tup [.str s, .str x]) hq) ⟨q, rfl, upd_same⟩⟩
theorem ef_ix {K : PySem.W.Frag} {σ : St} {H0 : Hp} {i j : Nat} {q : Addr} {us : List V} {v : V} {t : Tr} (h : σ[i]? = some (some (.ref q))) (hq : H0 q = some (.lst us)) (hj : us[j]? = some v) (it : IsT H0 t v) : EvF σ H0 (tOp (rIxL K) (tVar i) (tC (.int (j : Int)))) t := fun H Q s k => ⟨_, h, q, _, _, v, rfl, rfl, SqL.of (s _ _ hq), at_of (j := j) rfl hj, k v H (Same.refl _) (it.same s)⟩
theorem nmb_len : ∀ l ∈ NMB, l.length = 3 := by decide +kernel
theorem eqv_bb (b : Bool) : PyData.eqv (.list [.bool b, .bool b]) (.list [.bool b, .bool b]) = true := by cases b <;> decide +kernel
def spLaw (K : PySem.W.Frag) : Sp := fun vs H Q _ => ∃ (a : Addr) (ns : List Int), vs = [.ref a] ∧ SqL K H a (ns.map V.int) ∧ ns.length ≤ 63 ∧ ∀ H', Q (.bl true) H'
section
variable {P : Program} {w : World} {K : PySem.W.Frag} {mg : Str → Option Value} {base : Heap}
abbrev s_law : Stmt := top 65
theorem sc_law : FnScope ["_law_script", "_law_row_here", "_law_names", "_law_turn", "_law_atoms", "_law_name", "_law_words", "_law_word", "_law_parted", "_law_same", "_law_far", "_law_stock", "_law_k", "_law_draw", "_law_some", "_law_j", "_law_due", "_law_rows", "_law_one", "_law_other", "_law_first", "_law_second", "_law_test"] ["_law_script"] (defScope s_law) := ⟨rfl, rfl, rfl, by decide +kernel, rfl, by decide +kernel, by decide +kernel⟩
theorem ok_law {f : Addr} {fd : FuncData} (F : FunD K "law" "law" (defArgs s_law) (defBody s_law) (defScope s_law) [] [] f fd) (T : Tx w K mg) : FnOk P w K mg base CX0 150 f fd ["_law_script"] (spLaw K) := by
  refine F.ok sc_law (fun vs H Q E h => ?_) (fun cdv A outer s H vs Q E hr h => ?_)
  · obtain ⟨a, ns, rfl, _⟩ := h
    rfl
  · obtain ⟨a, ns, rfl, hS, hn, k⟩ := h
    refine ⟨_, PSs.nox (pss_cons (ps_set (i := 1) sc_law.nd rfl (Or.inr rfl) (pe_fk (ok__law_row T) (hr.mono (by omega)) rfl pass0 (pa_cons (pe_fk (ok__law_cell_at T) (hr.mono (by omega)) rfl pass0 (pa_cons (pv 0) (pa_cons pe_int pa_nil))) (pa_cons pe_int pa_nil))))
  (pss_cons (ps_set (i := 2) sc_law.nd rfl (Or.inl rfl) (pe_ix ix_list (pe_lst (pa_cons (pe_lst (pa_cons pe_str (pa_cons pe_str (pa_cons pe_str pa_nil)))) (pa_cons (pe_lst (pa_cons pe_str (pa_cons pe_str (pa_cons pe_str pa_nil)))) (pa_cons (pe_lst (pa_cons pe_str (pa_cons pe_str (pa_cons pe_str pa_nil)))) pa_nil)))) (pe_op op_mod (pe_callTy call_int1 (by rfl) T.z_int (by decide +kernel) (pa_cons (pe_ix ix_list (pv 1) pe_int (fun _ _ => rfl)) pa_nil)) pe_int) (fun _ _ => rfl)))
  (pss_cons (ps_set (i := 3) sc_law.nd rfl (Or.inl rfl) (pe_op op_mod (pe_callTy call_int1 (by rfl) T.z_int (by decide +kernel) (pa_cons (pe_ix ix_list (pv 1) pe_int (fun _ _ => rfl)) pa_nil)) pe_int))
  (pss_cons (ps_setLc (i := 4) (own := [("_law_name", 5)]) (g := gName 5) (tt := tYes) (by rfl) sc_law.nd rfl rfl (sw_true rfl rfl rfl (by decide +kernel)) (pi_list (pe_op op_cat (pe_slice sl_list (pv 2) (po_some (pv 3)) po_none) (pe_slice sl_list (pv 2) po_none (po_some (pv 3))))) (blkOk_by (own := [("_law_name", 5)]) (N := ["_law_script", "_law_row_here", "_law_names", "_law_turn", "_law_atoms", "_law_name", "_law_words", "_law_word", "_law_parted", "_law_same", "_law_far", "_law_stock", "_law_k", "_law_draw", "_law_some", "_law_j", "_law_due", "_law_rows", "_law_one", "_law_other", "_law_first", "_law_second", "_law_test"]) (sc := defScope s_law) (by decide +kernel)) (fun _ _ _ _ _ => (pg_name (i := 5) sc_law.nd rfl (Or.inl rfl))) (fun _ _ _ _ _ => pts_nil) (fun _ _ _ _ _ => (pe_tup (pa_cons pe_str (pa_cons (pv 5) pa_nil)))))
  (pss_cons (ps_setLc (i := 6) (own := [("_law_word", 7)]) (g := gName 7) (tt := tYes) (by rfl) sc_law.nd rfl rfl (sw_true rfl rfl rfl (by decide +kernel)) (pi_list (pe_ix ix_list (pe_lst (pa_cons (pe_lst (pa_cons pe_str (pa_cons pe_str pa_nil))) (pa_cons (pe_lst (pa_cons pe_str (pa_cons pe_str pa_nil))) (pa_cons (pe_lst (pa_cons pe_str (pa_cons pe_str pa_nil))) pa_nil)))) (pe_op op_mod (pe_callTy call_int1 (by rfl) T.z_int (by decide +kernel) (pa_cons (pe_ix ix_list (pv 1) pe_int (fun _ _ => rfl)) pa_nil)) pe_int) (fun _ _ => rfl))) (blkOk_by (own := [("_law_word", 7)]) (N := ["_law_script", "_law_row_here", "_law_names", "_law_turn", "_law_atoms", "_law_name", "_law_words", "_law_word", "_law_parted", "_law_same", "_law_far", "_law_stock", "_law_k", "_law_draw", "_law_some", "_law_j", "_law_due", "_law_rows", "_law_one", "_law_other", "_law_first", "_law_second", "_law_test"]) (sc := defScope s_law) (by decide +kernel)) (fun _ _ _ _ _ => (pg_name (i := 7) sc_law.nd rfl (Or.inl rfl))) (fun _ _ _ _ _ => pts_nil) (fun _ _ _ _ _ => (pe_tup (pa_cons pe_str (pa_cons (pv 7) pa_nil)))))
  (pss_cons (ps_asg (pe_fk (ok__law_pairs_of_heaps T) (hr.mono (by omega)) rfl pass0 (pa_cons (pe_ix ix_list (pv 4) pe_int (fun _ _ => rfl)) (pa_cons (pe_ix ix_list (pv 4) pe_int (fun _ _ => rfl)) (pa_cons (pe_ix ix_list (pv 4) pe_int (fun _ _ => rfl)) (pa_cons (pe_ix ix_list (pv 6) pe_int (fun _ _ => rfl)) (pa_cons (pe_ix ix_list (pv 6) pe_int (fun _ _ => rfl)) pa_nil)))))) (pg_tup rfl (pgs_cons (pg_name (i := 8) sc_law.nd rfl (Or.inl rfl)) (pgs_cons (pg_name (i := 9) sc_law.nd rfl (Or.inl rfl)) pgs_nil))))
  (pss_cons (ps_set (i := 10) sc_law.nd rfl (Or.inl rfl) (pe_tup (pa_cons pe_str (pa_cons pe_str pa_nil))))
  (pss_cons (ps_set (i := 11) sc_law.nd rfl (Or.inr rfl) (pe_lst (pa_cons (pv 10) (pa_cons (pe_tup (pa_cons pe_str (pa_cons (pv 10) pa_nil))) (pa_cons (pe_tup (pa_cons pe_str (pa_cons (pe_ix ix_list (pv 6) pe_int (fun _ _ => rfl)) (pa_cons (pv 10) pa_nil)))) (pa_cons (pe_tup (pa_cons pe_str (pa_cons (pe_tup (pa_cons pe_str (pa_cons pe_str pa_nil))) pa_nil))) (pa_cons (pe_tup (pa_cons pe_str (pa_cons (pv 10) (pa_cons (pe_ix ix_list (pv 6) pe_int (fun _ _ => rfl)) pa_nil)))) pa_nil)))))))
  (pss_cons (ps_for PassesOwn.never rfl (pi_range1 rfl T.z_range (pa_cons pe_int pa_nil)) (pg_name (i := 12) sc_law.nd rfl (Or.inl rfl))
  (pss_cons (ps_set (i := 13) sc_law.nd rfl (Or.inl rfl) (pe_callTy call_int1 (by rfl) T.z_int (by decide +kernel) (pa_cons (pe_ix ix_list (pv 1) (pe_op op_add pe_int (pv 12)) (fun _ _ => rfl)) pa_nil)))
  (pss_cons (ps_setLc (i := 14) (own := [("_law_j", 15)]) (g := gName 15) (tt := tYes) (by rfl) sc_law.nd rfl rfl (sw_true rfl rfl rfl (by decide +kernel)) (pi_range1 rfl T.z_range (pa_cons (pe_op op_mod (pe_op op_fdiv (pv 13) pe_int) pe_int) pa_nil)) (blkOk_by (own := [("_law_j", 15)]) (N := ["_law_script", "_law_row_here", "_law_names", "_law_turn", "_law_atoms", "_law_name", "_law_words", "_law_word", "_law_parted", "_law_same", "_law_far", "_law_stock", "_law_k", "_law_draw", "_law_some", "_law_j", "_law_due", "_law_rows", "_law_one", "_law_other", "_law_first", "_law_second", "_law_test"]) (sc := defScope s_law) (by decide +kernel)) (fun _ _ _ _ _ => (pg_name (i := 15) sc_law.nd rfl (Or.inl rfl))) (fun _ _ _ _ _ => pts_nil) (fun _ _ _ _ _ => (pe_ix (kIx (r := rIxL) (K := K) rfl ix_list) (pv 11) (pe_op op_mod (pe_callTy call_int1 (by rfl) T.z_int (by decide +kernel) (pa_cons (pe_ix (kIx (r := rIxL) (K := K) rfl ix_list) (pv 1) (pe_op op_add pe_int (pv 15)) (fun _ _ => rfl)) pa_nil)) pe_int) (fun _ _ => rfl))))
  (pss_cons (ps_set (i := 16) sc_law.nd rfl (Or.inl rfl) (pe_cmpR op_eq (pe_op op_mod (pv 13) pe_int) pe_int (nomark _)))
  (pss_cons (ps_set (i := 17) sc_law.nd rfl (Or.inl rfl) (pe_ifExp (pt_val (pv 16)) (pv 9) (pv 8)))
  (pss_cons (ps_asg (pe_ix ix_list (pv 17) (pe_op op_mod (pe_op op_fdiv (pv 13) pe_int) (pe_callB call_len_seq (by rfl) T.z_len (by decide +kernel) (pa_cons (pv 17) pa_nil))) (fun _ _ => rfl)) (pg_tup rfl (pgs_cons (pg_name (i := 18) sc_law.nd rfl (Or.inl rfl)) (pgs_cons (pg_name (i := 19) sc_law.nd rfl (Or.inl rfl)) pgs_nil))))
  (pss_cons (ps_par (i := 18) (j := 19) (by rfl) sc_law.nd rfl rfl (by decide) rfl rfl (pa_cons (pe_fk (ok__law_more T) (hr.mono (by omega)) rfl pass0 (pa_cons (pe_slice sl_list (pv 1) (po_some pe_int) po_none) (pa_cons (pv 18) (pa_cons (pv 14) pa_nil)))) (pa_cons (pe_fk (ok__law_more T) (hr.mono (by omega)) rfl pass0 (pa_cons (pe_slice sl_list (pv 1) (po_some pe_int) po_none) (pa_cons (pv 19) (pa_cons (pv 14) pa_nil)))) pa_nil)) (by rfl))
  (pss_cons (ps_par (i := 20) (j := 21) (by rfl) sc_law.nd rfl rfl (by decide) rfl rfl (pa_cons (pe_fk (ok__law_heap T) (hr.mono (by omega)) rfl pass0 (pa_cons (pv 18) pa_nil)) (pa_cons (pe_fk (ok__law_heap T) (hr.mono (by omega)) rfl pass0 (pa_cons (pv 19) pa_nil)) pa_nil)) (by rfl))
  (pss_cons (ps_if (pt_cmpR (op_neD hr.units) (pe_lst (pa_cons (pe_fk (ok_alike T) (hr.mono (by omega)) rfl pass0 (pa_cons (pv 20) (pa_cons (pv 21) pa_nil))) (pa_cons (pe_fk (ok_alike T) (hr.mono (by omega)) rfl pass0 (pa_cons (pv 21) (pa_cons (pv 20) pa_nil))) pa_nil))) (pe_op op_rep (pe_lst (pa_cons (pv 16) pa_nil)) pe_int) (nomark _))
  (pss_one (ps_ret pe_bl))
  pss_nil)
  (pss_cons (ps_set (i := 22) sc_law.nd rfl (Or.inl rfl) (pe_fk (ok_parting T) (hr.mono (by omega)) rfl pass0 (pa_cons (pv 20) (pa_cons (pv 21) pa_nil))))
  (pss_one (ps_if (PW.pt (pw_or (pt_cmpR op_ne (pe_cmpR op_isN (pv 22) pe_non (nomark _)) (pv 16) (nomark _)) (pw_or1 (PW.pt (pw_and (pt_not (pt_val (pv 16))) (pw_and1 (pt_not (pt_val (pe_fk (ok__law_parts_them T) (hr.mono (by omega)) rfl pass0 (pa_cons (pv 22) (pa_cons (pv 18) (pa_cons (pv 19) pa_nil))))))))))))
  (pss_one (ps_ret pe_bl))
  pss_nil))))))))))))
  (pss_one (ps_ret pe_bl))))))))))), ?_⟩
    have big : 16777216 ≤ sizeLine := by decide
    have three : 3 ≤ sizeLine := by decide
    have two : 2 ≤ sizeLine := by decide
    refine seqAsg ⟨_, rfl, a, ns, 0, rfl, hS, hn, (by decide), fun c => ⟨c, 24, rfl, (by decide), fun qd ds H1 s1 nqd hqd hrow => ?_⟩⟩
    refine gName_k ?_
    try dsimp only
    obtain ⟨hdl, hdr⟩ := hrow
    have dz : ∀ j : Nat, j < 24 → ∃ z : Int, (ds.map V.int)[j]? = some (V.int z) := fun j hj => by
      rw [List.getElem?_map, List.getElem?_eq_getElem (by omega)]
      exact ⟨_, rfl⟩
    obtain ⟨d0, ed0⟩ := dz 0 (by decide)
    obtain ⟨d1, ed1⟩ := dz 1 (by decide)
    obtain ⟨d2, ed2⟩ := dz 2 (by decide)
    obtain ⟨j0, hj0, ej0⟩ : ∃ j : Nat, j < 3 ∧ d0 % 3 = (j : Int) := ⟨(d0 % 3).toNat, by omega, by omega⟩
    obtain ⟨j1, hj1, ej1⟩ : ∃ j : Nat, j < 3 ∧ d1 % 3 = (j : Int) := ⟨(d1 % 3).toNat, by omega, by omega⟩
    obtain ⟨j2, hj2, ej2⟩ : ∃ j : Nat, j < 3 ∧ d2 % 3 = (j : Int) := ⟨(d2 % 3).toNat, by omega, by omega⟩
    obtain ⟨ln, eln, p, hp, erot⟩ := nm_rot hj0 hj1
    obtain ⟨qw, hqw, ewd⟩ := wd_at hj2
    -- the names
    refine seqAsg ⟨three, fun q0 hq0 => ?_⟩
    have t0 := Rd.Same.upd (o := .lst [V.str "K", V.str "M", V.str "N"]) hq0
    have h0 : upd H1 q0 (.lst [V.str "K", V.str "M", V.str "N"]) q0 = some (.lst ((["K", "M", "N"] : List Str).map V.str)) := upd_same
    generalize upd H1 q0 (.lst [V.str "K", V.str "M", V.str "N"]) = T0 at t0 h0 ⊢
    refine ⟨three, fun q1 hq1 => ?_⟩
    have t1 := Rd.Same.upd (o := .lst [V.str "ZZ", V.str "A1", V.str "A"]) hq1
    have h1 : upd T0 q1 (.lst [V.str "ZZ", V.str "A1", V.str "A"]) q1 = some (.lst ((["ZZ", "A1", "A"] : List Str).map V.str)) := upd_same
    generalize upd T0 q1 (.lst [V.str "ZZ", V.str "A1", V.str "A"]) = T1 at t1 h1 ⊢
    refine ⟨three, fun q2 hq2 => ?_⟩
    have t2 := Rd.Same.upd (o := .lst [V.str "AAAAAAAA", V.str "B", V.str "C9"]) hq2
    have h2 : upd T1 q2 (.lst [V.str "AAAAAAAA", V.str "B", V.str "C9"]) q2 = some (.lst ((["AAAAAAAA", "B", "C9"] : List Str).map V.str)) := upd_same
    generalize upd T1 q2 (.lst [V.str "AAAAAAAA", V.str "B", V.str "C9"]) = T2 at t2 h2 ⊢
    refine ⟨three, fun q9 hq9 => ?_⟩
    have t9 := Rd.Same.upd (o := .lst [V.ref q0, V.ref q1, V.ref q2]) hq9
    have h9 : upd T2 q9 (.lst [V.ref q0, V.ref q1, V.ref q2]) q9 = some (.lst [V.ref q0, V.ref q1, V.ref q2]) := upd_same
    generalize upd T2 q9 (.lst [V.ref q0, V.ref q1, V.ref q2]) = T9 at t9 h9 ⊢
    have s2 : Same H1 T9 := ((t0.trans t1).trans t2).trans t9
    obtain ⟨qn, eqn, hqn⟩ : ∃ qn, [V.ref q0, V.ref q1, V.ref q2][j0]? = some (V.ref qn) ∧ T9 qn = some (.lst (ln.map V.str)) := by
      match j0, hj0, eln with
      | 0, _, e => cases e; exact ⟨q0, rfl, t9 _ _ (t2 _ _ (t1 _ _ h0))⟩
      | 1, _, e => cases e; exact ⟨q1, rfl, t9 _ _ (t2 _ _ h1)⟩
      | 2, _, e => cases e; exact ⟨q2, rfl, t9 _ _ h2⟩
    refine ⟨_, rfl, qd, _, _, _, rfl, rfl, SqL.of (s2 _ _ hqd), at_of (j := 0) rfl ed0, .inl ⟨_, rfl, _, _, rfl, rfl, (by show (0 : Int) < 3; decide), q9, _, _, _, rfl, rfl, SqL.of h9, at_of (j := j0) ej0 eqn, ?_⟩⟩
    refine gName_k ?_
    try dsimp only
    clear hq0 hq1 hq2 hq9 h0 h1 h2 h9 t0 t1 t2 t9
    have hqd2 := s2 _ _ hqd
    refine seqAsg ⟨_, rfl, qd, _, _, _, rfl, rfl, SqL.of hqd2, at_of (j := 1) rfl ed1, .inl ⟨_, rfl, _, _, rfl, rfl, (by show (0 : Int) < 3; decide), ?_⟩⟩
    refine gName_k ?_
    try dsimp only
    rw [ej1]
    -- the atoms
    refine ⟨_, rfl, _, rfl, (j1 : Int), rfl, qn, _, rfl, SqL.of hqn, fun q3 hq3 => ?_⟩
    have l3 : ln.length = 3 := nmb_len ln (List.mem_of_getElem? eln)
    rw [cut_from2 (by rw [List.length_map]; omega), ← List.map_drop]
    have u3 := Rd.Same.upd (o := .lst ((ln.drop j1).map V.str)) hq3
    have g3 : upd T9 q3 (.lst ((ln.drop j1).map V.str)) q3 = some (.lst ((ln.drop j1).map V.str)) := upd_same
    generalize upd T9 q3 (.lst ((ln.drop j1).map V.str)) = H3 at u3 g3 ⊢
    refine ⟨_, rfl, _, rfl, (j1 : Int), rfl, qn, _, rfl, SqL.of (u3 _ _ hqn), fun q4 hq4 => ?_⟩
    rw [cut_toN, ← List.map_take]
    have u4 := Rd.Same.upd (o := .lst ((ln.take j1).map V.str)) hq4
    have g4 : upd H3 q4 (.lst ((ln.take j1).map V.str)) q4 = some (.lst ((ln.take j1).map V.str)) := upd_same
    generalize upd H3 q4 (.lst ((ln.take j1).map V.str)) = H4 at u4 g4 ⊢
    refine ⟨q3, q4, _, _, rfl, rfl, u4 _ _ g3, g4, (by rw [List.length_map, List.length_map, List.length_drop, List.length_take]; omega), fun q5 hq5 => ?_⟩
    rw [← List.map_append, erot]
    have u5 := Rd.Same.upd (o := .lst (([p.1, p.2.1, p.2.2] : List Str).map V.str)) hq5
    have g5 : upd H4 q5 (.lst (([p.1, p.2.1, p.2.2] : List Str).map V.str)) q5 = some (.lst [V.str p.1, V.str p.2.1, V.str p.2.2]) := upd_same
    generalize upd H4 q5 (.lst (([p.1, p.2.1, p.2.2] : List Str).map V.str)) = H5 at u5 g5 ⊢
    refine ⟨q5, rfl, ⟨_, SqL.of g5⟩, fun D1 hD1 => ?_⟩
    refine lcl (C := 0) (fun i H v => ∃ t, [nmT p.1, nmT p.2.1, nmT p.2.2][i]? = some t ∧ IsT H t v) (fun i H H' v kp ⟨t, e, h⟩ => ⟨t, e, h.mono kp⟩) (SqL.of g5) (by show 3 ≤ 100000; decide) hD1 (fun i y H2 Q2 hy s2 k2 => ?_) fun vs1 H6 s6 hD6 hv6 hvs6 => ?_
    · obtain ⟨x, rfl, hx⟩ : ∃ x, y = .str x ∧ [nmT p.1, nmT p.2.1, nmT p.2.2][i]? = some (nmT x) := by
        match i, hy with
        | 0, hy => cases hy; exact ⟨_, rfl, rfl⟩
        | 1, hy => cases hy; exact ⟨_, rfl, rfl⟩
        | 2, hy => cases hy; exact ⟨_, rfl, rfl⟩
      exact ⟨_, rfl, two, fun q hq => k2 _ _ (Rd.Same.upd hq) ⟨nmT x, hx, q, rfl, upd_same⟩⟩
    have ha1 : TsAt H6 [nmT p.1, nmT p.2.1, nmT p.2.2] vs1 := TsAt.of hv6 hvs6
    obtain ⟨x0, x1, x2, rfl⟩ : ∃ x0 x1 x2, vs1 = [x0, x1, x2] := by
      match vs1, hv6 with
      | [x0, x1, x2], _ => exact ⟨x0, x1, x2, rfl⟩
    refine gName_k ?_
    try dsimp only
    have S6 : Same H1 H6 := s2.trans (u3.trans (u4.trans (u5.trans s6)))
    clear hq3 hq4 hq5 g3 g4 g5
    -- the words
    refine ⟨two, fun q0 hq0 => ?_⟩
    have t0 := Rd.Same.upd (o := .lst [V.str "a", V.str "b"]) hq0
    have h0 : upd H6 q0 (.lst [V.str "a", V.str "b"]) q0 = some (.lst [V.str "a", V.str "b"]) := upd_same
    generalize upd H6 q0 (.lst [V.str "a", V.str "b"]) = T0 at t0 h0 ⊢
    refine ⟨two, fun q1 hq1 => ?_⟩
    have t1 := Rd.Same.upd (o := .lst [V.str "yes", V.str "no"]) hq1
    have h1 : upd T0 q1 (.lst [V.str "yes", V.str "no"]) q1 = some (.lst [V.str "yes", V.str "no"]) := upd_same
    generalize upd T0 q1 (.lst [V.str "yes", V.str "no"]) = T1 at t1 h1 ⊢
    refine ⟨two, fun q2 hq2 => ?_⟩
    have t2 := Rd.Same.upd (o := .lst [V.str "own", V.str "zzzzzzzz"]) hq2
    have h2 : upd T1 q2 (.lst [V.str "own", V.str "zzzzzzzz"]) q2 = some (.lst [V.str "own", V.str "zzzzzzzz"]) := upd_same
    generalize upd T1 q2 (.lst [V.str "own", V.str "zzzzzzzz"]) = T2 at t2 h2 ⊢
    refine ⟨three, fun q9 hq9 => ?_⟩
    have t9 := Rd.Same.upd (o := .lst [V.ref q0, V.ref q1, V.ref q2]) hq9
    have h9 : upd T2 q9 (.lst [V.ref q0, V.ref q1, V.ref q2]) q9 = some (.lst [V.ref q0, V.ref q1, V.ref q2]) := upd_same
    generalize upd T2 q9 (.lst [V.ref q0, V.ref q1, V.ref q2]) = T9' at t9 h9 ⊢
    have s7 : Same H6 T9' := ((t0.trans t1).trans t2).trans t9
    obtain ⟨qv, eqv', hqv⟩ : ∃ qv, [V.ref q0, V.ref q1, V.ref q2][j2]? = some (V.ref qv) ∧ T9' qv = some (.lst [V.str qw.1, V.str qw.2]) := by
      match j2, hj2, ewd with
      | 0, _, e =>
        have e : [("a" : Str), "b"] = [qw.1, qw.2] := Option.some.inj e
        rw [← (List.cons.inj e).1, ← (List.cons.inj (List.cons.inj e).2).1]
        exact ⟨q0, rfl, t9 _ _ (t2 _ _ (t1 _ _ h0))⟩
      | 1, _, e =>
        have e : [("yes" : Str), "no"] = [qw.1, qw.2] := Option.some.inj e
        rw [← (List.cons.inj e).1, ← (List.cons.inj (List.cons.inj e).2).1]
        exact ⟨q1, rfl, t9 _ _ (t2 _ _ h1)⟩
      | 2, _, e =>
        have e : [("own" : Str), "zzzzzzzz"] = [qw.1, qw.2] := Option.some.inj e
        rw [← (List.cons.inj e).1, ← (List.cons.inj (List.cons.inj e).2).1]
        exact ⟨q2, rfl, t9 _ _ h2⟩
    refine ⟨_, rfl, qd, _, _, _, rfl, rfl, SqL.of ((S6.trans s7) _ _ hqd), at_of (j := 2) rfl ed2, .inl ⟨_, rfl, _, _, rfl, rfl, (by show (0 : Int) < 3; decide), q9, _, _, _, rfl, rfl, SqL.of h9, at_of (j := j2) ej2 eqv', ?_⟩⟩
    refine ⟨qv, rfl, ⟨_, SqL.of hqv⟩, fun D2 hD2 => ?_⟩
    refine lcl (C := 0) (fun i H v => ∃ t, [wdT qw.1, wdT qw.2][i]? = some t ∧ IsT H t v) (fun i H H' v kp ⟨t, e, h⟩ => ⟨t, e, h.mono kp⟩) (SqL.of hqv) (by show 2 ≤ 100000; decide) hD2 (fun i y H2 Q2 hy s2 k2 => ?_) fun vs2 H8 s8 hD8 hv8 hvs8 => ?_
    · obtain ⟨x, rfl, hx⟩ : ∃ x, y = .str x ∧ [wdT qw.1, wdT qw.2][i]? = some (wdT x) := by
        match i, hy with
        | 0, hy => cases hy; exact ⟨_, rfl, rfl⟩
        | 1, hy => cases hy; exact ⟨_, rfl, rfl⟩
      exact ⟨_, rfl, two, fun q hq => k2 _ _ (Rd.Same.upd hq) ⟨wdT x, hx, q, rfl, upd_same⟩⟩
    have hb1 : TsAt H8 [wdT qw.1, wdT qw.2] vs2 := TsAt.of hv8 hvs8
    obtain ⟨y0, y1, rfl⟩ : ∃ x0 x1, vs2 = [x0, x1] := by
      match vs2, hv8 with
      | [x0, x1], _ => exact ⟨x0, x1, rfl⟩
    refine gName_k ?_
    try dsimp only
    have S8 := s7.trans s8
    clear hq0 hq1 hq2 hq9 h0 h1 h2 h9 t0 t1 t2 t9
    have ha8 := ha1.same S8
    have hD18 := S8 _ _ hD6
    -- the pairs
    refine seqAsg ⟨_, rfl, D1, _, _, _, rfl, rfl, SqL.of hD18, at_of (j := 0) rfl rfl, _, rfl, D1, _, _, _, rfl, rfl, SqL.of hD18, at_of (j := 1) rfl rfl, _, rfl, D1, _, _, _, rfl, rfl, SqL.of hD18, at_of (j := 2) rfl rfl, _, rfl, D2, _, _, _, rfl, rfl, SqL.of hD8, at_of (j := 0) rfl rfl, _, rfl, D2, _, _, _, rfl, rfl, SqL.of hD8, at_of (j := 1) rfl rfl, x0, x1, x2, y0, y1, _, _, _, _, _, rfl, ha8.get 0 _ _ rfl rfl, ha8.get 1 _ _ rfl rfl, ha8.get 2 _ _ rfl rfl, hb1.get 0 _ _ rfl rfl, hb1.get 1 _ _ rfl rfl, fun q qP qS pv sv H9 s9 hq hqP hqS hpv hsv => ?_⟩
    refine ⟨q, _, rfl, SqT.of hq, rfl, _, _, rfl, _, _, rfl, rfl, ?_⟩
    try dsimp only
    have hpv : AtL IsPr H9 (prP' p qw) pv := hpv
    have hsv : AtL IsPr H9 (prS' p qw) sv := hsv
    -- far, stock
    refine seqAsg ⟨two, fun qf hqf => ?_⟩
    have s10 := Rd.Same.upd (o := .tup [.str "name", .str "FAR"]) hqf
    have ifar : IsT (upd H9 qf (.tup [.str "name", .str "FAR"])) farT (.ref qf) := ⟨qf, rfl, upd_same⟩
    generalize upd H9 qf (.tup [.str "name", .str "FAR"]) = H10 at s10 ifar ⊢
    refine gName_k ?_
    try dsimp only
    have S10 := s9.trans s10
    have hb10 := hb1.same S10
    have hD210 := S10 _ _ hD8
    have iy0 := hb10.get 0 _ _ rfl rfl
    have iy1 := hb10.get 1 _ _ rfl rfl
    refine seqAsg ?_
    refine (show EvFs _ H10 _ (stk (wdT qw.1) (wdT qw.2)) from by
      unfold stk
      repeat' first | exact ef_var rfl (by assumption) | exact ef_ix (j := 0) rfl hD210 rfl iy0 | exact ef_ix (j := 1) rfl hD210 rfl iy1 | exact ea_nil | exact ef_am | refine ea_cons ?_ ?_ | refine ef_un ?_ | refine ef_bi ?_ ?_) H10 _ (Same.refl _) fun kv H11 s11 hkv => ?_
    refine ⟨by rw [hkv.len]; show 5 ≤ sizeLine; decide, fun qk hqk => ?_⟩
    have s12 := Rd.Same.upd (o := .lst kv) hqk
    have e12 : upd H11 qk (.lst kv) qk = some (.lst kv) := upd_same
    generalize upd H11 qk (.lst kv) = H12 at s12 e12 ⊢
    refine gName_k ?_
    try dsimp only
    have S12 := (s10.trans s11).trans s12
    have hkv12 : TsAt H12 (stk' qw) kv := hkv.same s12
    have hqP12 := S12 _ _ hqP
    have hqS12 := S12 _ _ hqS
    have hpv12 : AtL IsPr H12 (prP' p qw) pv := ⟨hpv.len, fun i z v h1 h2 => (hpv.get i z v h1 h2).same S12⟩
    have hsv12 : AtL IsPr H12 (prS' p qw) sv := ⟨hsv.len, fun i z v h1 h2 => (hsv.get i z v h1 h2).same S12⟩
    have hqd12 : H12 qd = some (.lst (ds.map V.int)) := (((S6.trans S8).trans s9).trans S12) _ _ hqd
    obtain ⟨gk, gp⟩ := pr_gd hp hqw
    have lP : (prP' p qw).length = 12 := rfl
    have lS : (prS' p qw).length = 10 := rfl
    have lk : kv.length = 5 := hkv12.len
    clear ha1 ha8 hb1 hb10 iy0 iy1 hpv hsv hkv hqP hqS hD18 hD210 hD6 hD8 hqv hqn hqd2 ifar
    refine seqJoin (fun σ Hc => ∃ (t12 t13 t14 t16 t17 t18 t19 t20 t21 t22 : Option V), σ = [some (.ref a), some (.ref qd), some (.ref qn), some (.int (j1 : Int)), some (.ref D1), none, some (.ref D2), none, some (.ref qP), some (.ref qS), some (.ref qf), some (.ref qk), t12, t13, t14, none, t16, t17, t18, t19, t20, t21, t22] ∧ Same H12 Hc) (fun KK hK => ?_) (fun _ _ _ => k _)
    refine ⟨6, rfl, by decide, by decide, for_range (n := 6) (fun i σ Hc => ∃ (t12 t13 t14 t16 t17 t18 t19 t20 t21 t22 : Option V), σ = [some (.ref a), some (.ref qd), some (.ref qn), some (.int (j1 : Int)), some (.ref D1), none, some (.ref D2), none, some (.ref qP), some (.ref qS), some (.ref qf), some (.ref qk), t12, t13, t14, none, t16, t17, t18, t19, t20, t21, t22] ∧ Same H12 Hc) ⟨_, _, _, _, _, _, _, _, _, _, rfl, Same.refl _⟩ ?_ (fun σ' Hc h => hK σ' Hc h)⟩
    rintro i σ Hc hi ⟨t12, t13, t14, t16, t17, t18, t19, t20, t21, t22, rfl, sc⟩
    refine gName_k ?_
    try dsimp only
    obtain ⟨dw, edw⟩ := dz (3 + i) (by omega)
    have hqdc := sc _ _ hqd12
    refine seqAsg ⟨_, rfl, _, rfl, _, _, rfl, rfl, qd, _, _, _, rfl, rfl, SqL.of hqdc, at_of (j := 3 + i) (by omega) edw, .inl ⟨_, rfl, ?_⟩⟩
    refine gName_k ?_
    try dsimp only
    -- some letters more
    obtain ⟨n4, hn4, en4⟩ : ∃ n : Nat, n < 4 ∧ dw / 40 % 4 = (n : Int) := ⟨(dw / 40 % 4).toNat, by omega, by omega⟩
    refine ⟨_, rfl, _, _, rfl, rfl, ⟨by decide, by decide⟩, _, _, rfl, rfl, (by show (0 : Int) < 4; decide), _, rfl, ?_⟩
    rw [en4]
    refine ⟨by omega, by omega, fun D hD => ?_⟩
    refine lc_range (n := n4) (fun i H => ∃ vs ss, Same Hc H ∧ H D = some (.lst vs) ∧ TsAt H ss vs ∧ ss.length = i ∧ ∀ s ∈ ss, s ∈ stk' qw) ⟨[], [], Rd.Same.upd hD, upd_same, ⟨rfl, fun i t v h => by simp at h⟩, rfl, fun s h => by cases h⟩ (fun j H hj ⟨vs, ss, sH, hDv, hss, hsl, hsk⟩ => ?_) (fun Hd ⟨vs, ss, sd, hDv, hss, hsl, hsk⟩ => ?_)
    · obtain ⟨dj, edj⟩ := dz (9 + j) (by omega)
      obtain ⟨jm, hjm, ejm⟩ : ∃ m : Nat, m < 5 ∧ dj % 5 = (m : Int) := ⟨(dj % 5).toNat, by omega, by omega⟩
      have SH := sc.trans sH
      have hvl := hss.len
      have ev : kv[jm]? = some kv[jm] := List.getElem?_eq_getElem (by omega)
      have l5 : (stk' qw).length = 5 := rfl
      have et : (stk' qw)[jm]? = some (stk' qw)[jm] := List.getElem?_eq_getElem (by omega)
      have it := (hkv12.get jm _ _ et ev).same SH
      have hm := List.mem_of_getElem? et
      refine ⟨by simp [wipe], ?_⟩
      unfold tYes
      try dsimp only
      rw [if_pos rfl]
      refine ⟨_, rfl, _, rfl, _, rfl, _, _, rfl, rfl, qd, _, _, _, rfl, rfl, SqL.of (SH _ _ hqd12), at_of (j := 9 + j) (by omega) edj, .inl ⟨_, rfl, _, _, rfl, rfl, (by show (0 : Int) < 5; decide), qk, _, _, _, rfl, rfl, SqL.of (SH _ _ e12), at_of (j := jm) ejm ev, vs, hDv, (by omega), vs ++ [kv[jm]], ss ++ [(stk' qw)[jm]], fun c o e => ?_, upd_same, ?_, by rw [List.length_append, hsl]; rfl, fun s hs => ?_⟩⟩
      · rw [upd_ne (ne_of_none e hD)]
        exact sH _ _ e
      · have kp := Kp.upd_lst (C := 0) (ys := vs ++ [kv[jm]]) hDv
        exact (hss.mono kp).app (TsAt.one (it.mono kp))
      · rcases List.mem_append.mp hs with h | h
        · exact hsk s h
        · rw [List.mem_singleton.mp h]; exact hm
    refine gName_k ?_
    try dsimp only
    have hvl := hss.len
    refine seqAsg ⟨_, rfl, _, _, rfl, rfl, (by show (0 : Int) < 2; decide), rfl, ?_⟩
    generalize decide (V.int (dw % 2) = V.int 0) = due
    refine gName_k ?_
    try dsimp only
    refine seqAsg (if_vars (i := 9) (j := 8) (m := 16) rfl rfl rfl ?_)
    have Sd := sc.trans sd
    obtain ⟨qR, eR, rv, zs, hqR, hzs, hrl0, hrl, hzg, hal⟩ : ∃ qR, (if due = true then V.ref qS else V.ref qP) = .ref qR ∧ ∃ (rv : List V) (zs : PrL), Hd qR = some (.lst rv) ∧ AtL IsPr Hd zs rv ∧ 0 < rv.length ∧ rv.length ≤ 100 ∧ (∀ z ∈ zs, (∀ t ∈ z.1, Gd t) ∧ (∀ t ∈ z.2, Gd t) ∧ z.1.length ≤ 3 ∧ z.1.length = z.2.length) ∧ (∀ z ∈ zs, ∀ (ss : List Tr) (ds : List Int), (∀ s ∈ ss, s ∈ stk' qw) → (Alk (insM z.1 (ss.zip ds)) (insM z.2 (ss.zip ds)) ↔ due = true)) := by
      cases due with
      | true => exact ⟨qS, rfl, sv, prS' p qw, Sd _ _ hqS12, ⟨hsv12.len, fun i z v h1 h2 => (hsv12.get i z v h1 h2).same Sd⟩, by rw [hsv12.len, lS]; decide, by rw [hsv12.len, lS]; decide, fun z hz => gp z (List.mem_append_right _ hz), fun z hz ss ds hs => ⟨fun _ => rfl, fun _ => same_more hp hqw hz hs⟩⟩
      | false => exact ⟨qP, rfl, pv, prP' p qw, Sd _ _ hqP12, ⟨hpv12.len, fun i z v h1 h2 => (hpv12.get i z v h1 h2).same Sd⟩, by rw [hpv12.len, lP]; decide, by rw [hpv12.len, lP]; decide, fun z hz => gp z (List.mem_append_left _ hz), fun z hz ss ds hs => ⟨fun a => absurd a (parted_more hp hqw hz), fun e => by cases e⟩⟩
    rw [eR]
    refine gName_k ?_
    try dsimp only
    have hzl := hzs.len
    have Lp : (0 : Int) < (rv.length : Int) := by omega
    obtain ⟨js, hjs, ejs⟩ : ∃ m : Nat, m < rv.length ∧ dw / 2 % (rv.length : Int) = (m : Int) := by
      have h1 := Int.emod_nonneg (dw / 2) (show (rv.length : Int) ≠ 0 by omega)
      have h2 := Int.emod_lt_of_pos (dw / 2) Lp
      exact ⟨(dw / 2 % (rv.length : Int)).toNat, by omega, by omega⟩
    have ez : zs[js]? = some zs[js] := List.getElem?_eq_getElem (by omega)
    have er : rv[js]? = some rv[js] := List.getElem?_eq_getElem hjs
    have iz := hzs.get js _ _ ez er
    have hzm := List.mem_of_getElem? ez
    generalize zs[js] = z at iz hzm
    generalize rv[js] = zv at iz er
    obtain ⟨pz, _, _, rfl, hpz, ⟨a1, l1, rfl, ha1, ht1⟩, ⟨a2, l2, rfl, ha2, ht2⟩⟩ := iz
    obtain ⟨gx, gy, hx3, hxy⟩ := hzg z hzm
    refine seqAsg ⟨_, rfl, _, rfl, _, _, rfl, rfl, ⟨by decide, by decide⟩, _, rfl, qR, rv, rfl, .inl (SqL.of hqR), _, _, rfl, rfl, Lp, qR, _, _, _, rfl, rfl, SqL.of hqR, at_of (j := js) ejs er, ?_⟩
    refine ⟨pz, _, rfl, SqT.of hpz, rfl, _, _, rfl, _, _, rfl, rfl, ?_⟩
    try dsimp only
    have hqdd := Sd _ _ hqd12
    refine ⟨_, rfl, (12 : Int), rfl, qd, _, rfl, SqL.of hqdd, fun q7 hq7 => ?_⟩
    have hcut : cutV (ds.map V.int) (some (12 : Int)) none = (ds.drop 12).map V.int := by
      rw [show (12 : Int) = ((12 : Nat) : Int) by rfl, cut_from2 (by rw [List.length_map]; omega), List.map_drop]
    rw [hcut]
    have s7 := Rd.Same.upd (o := .lst ((ds.drop 12).map V.int)) hq7
    have e7 : upd Hd q7 (.lst ((ds.drop 12).map V.int)) q7 = some (.lst ((ds.drop 12).map V.int)) := upd_same
    generalize upd Hd q7 (.lst ((ds.drop 12).map V.int)) = H7 at s7 e7 ⊢
    have hdd : (ds.drop 12).length = 12 := by rw [List.length_drop]; omega
    refine ⟨_, rfl, _, rfl, q7, a1, D, ds.drop 12, l1, vs, z.1, ss, rfl, e7, s7 _ _ ha1, s7 _ _ hDv, ht1.same s7, hss.same s7, by omega, by omega, by omega, fun qa va H13 s13 hqa hta => ?_⟩
    have S13 := s7.trans s13
    refine ⟨_, rfl, (12 : Int), rfl, qd, _, rfl, SqL.of (S13 _ _ hqdd), fun q8 hq8 => ?_⟩
    rw [hcut]
    have s14 := Rd.Same.upd (o := .lst ((ds.drop 12).map V.int)) hq8
    have e14 : upd H13 q8 (.lst ((ds.drop 12).map V.int)) q8 = some (.lst ((ds.drop 12).map V.int)) := upd_same
    generalize upd H13 q8 (.lst ((ds.drop 12).map V.int)) = H14 at s14 e14 ⊢
    have S14 := S13.trans s14
    refine ⟨_, rfl, _, rfl, q8, a2, D, ds.drop 12, l2, vs, z.2, ss, rfl, e14, S14 _ _ ha2, S14 _ _ hDv, ht2.same S14, hss.same S14, by omega, by omega, by omega, fun qb vb H15 s15 hqb htb => ⟨_, _, rfl, ?_⟩⟩
    try dsimp only
    have hqa15 := (s14.trans s15) _ _ hqa
    have hta15 := hta.same (s14.trans s15)
    have hA := hal z hzm ss (ds.drop 12) hsk
    have gA := more_gd (ds := ds.drop 12) gx (fun t ht => gk t (hsk t ht))
    have gB := more_gd (ds := ds.drop 12) gy (fun t ht => gk t (hsk t ht))
    have lA : (insM z.1 (ss.zip (ds.drop 12))).length ≤ 6 := by rw [insM_len, List.length_zip]; omega
    have lB : (insM z.1 (ss.zip (ds.drop 12))).length = (insM z.2 (ss.zip (ds.drop 12))).length := by rw [insM_len, insM_len, hxy]
    generalize insM z.1 (ss.zip (ds.drop 12)) = fs at hta15 hA gA lA lB
    generalize insM z.2 (ss.zip (ds.drop 12)) = gs at htb hA gB lB
    clear hta
    have wA : ∀ t ∈ fs, Wf t ∧ t.dep ≤ 6 := fun t ht => ⟨(gA t ht).1, (gA t ht).2.2.1⟩
    have wB : ∀ t ∈ gs, Wf t ∧ t.dep ≤ 6 := fun t ht => ⟨(gB t ht).1, (gB t ht).2.2.1⟩
    have lim1 : Lim fs gs := gd_lim (by omega) gA gB
    have lim2 : Lim gs fs := gd_lim (by omega) gB gA
    refine ⟨_, rfl, qa, va, fs, rfl, hqa15, hta15, (gd_big (by omega) gA).2.1, fun h H16 s16 hH => ⟨_, rfl, qb, vb, gs, rfl, s16 _ _ hqb, htb.same s16, (gd_big (by omega) gB).2.1, fun h' H17 s17 hG => ⟨_, _, rfl, ?_⟩⟩⟩
    try dsimp only
    have hH17 := hH.same s17
    have S17 := s16.trans s17
    have wf : ∀ t ∈ fs, Wf t := fun t ht => (wA t ht).1
    have wg : ∀ t ∈ gs, Wf t := fun t ht => (wB t ht).1
    refine ⟨_, rfl, _, rfl, h, h', fs, gs, rfl, hH17, hG, lB, by omega, lim1, wf, wg, fun c1 H18 s18 hc1 => ⟨_, rfl, _, rfl, h', h, gs, fs, rfl, hG.same s18, hH17.same s18, lB.symm, by omega, lim2, wg, wf, fun c2 H19 s19 hc2 => ⟨two, fun q20 hq20 => ?_⟩⟩⟩
    have ec1 : c1 = due := Bool.eq_iff_iff.mpr (hc1.trans hA)
    have ec2 : c2 = due := Bool.eq_iff_iff.mpr (hc2.trans ((show Alk gs fs ↔ Alk fs gs from ⟨fun a => a.symm, fun a => a.symm⟩).trans hA))
    subst ec1 ec2
    have s20 := Rd.Same.upd (o := .lst [.bl c2, .bl c2]) hq20
    have e20 : upd H19 q20 (.lst [.bl c2, .bl c2]) q20 = some (.lst [.bl c2, .bl c2]) := upd_same
    generalize upd H19 q20 (.lst [.bl c2, .bl c2]) = H20 at s20 e20 ⊢
    refine ⟨_, rfl, (by show 1 ≤ sizeLine; decide), fun q21 hq21 => ⟨q21, 2, [.bl c2], rfl, rfl, upd_same, by decide, by decide, (by show 1 * 2 ≤ sizeLine; decide), fun q22 hq22 => ?_⟩⟩
    have s22 := (Rd.Same.upd (o := .lst [.bl c2]) hq21).trans (Rd.Same.upd (o := .lst (List.replicate (2 : Int).toNat [V.bl c2]).flatten) hq22)
    refine ⟨.list [.bool c2, .bool c2], .list [.bool c2, .bool c2], .lst (SqL.of (s22 _ _ e20)) (.cons (.bl _) (.cons (.bl _) .nil)), .lst (SqL.of upd_same) (.cons (.bl _) (.cons (.bl _) .nil)), rfl, rfl, _, rfl, ?_⟩
    rw [eqv_bb]
    refine iteN (by decide) (nxt ?_)
    try dsimp only
    have S22 := (s18.trans s19).trans (s20.trans s22)
    have hH22 := hH17.same S22
    have hG22 := hG.same S22
    refine seqAsg ⟨_, rfl, _, rfl, h, h', fs, gs, rfl, hH22, hG22, lB, by omega, lim1, wf, wg, fun xv H23 s23 hx => ?_⟩
    refine gName_k ?_
    try dsimp only
    have Sall := Sd.trans (S14.trans (s15.trans (S17.trans (S22.trans s23))))
    have hqa23 := (S17.trans (S22.trans s23)) _ _ hqa15
    have hta23 := hta15.same (S17.trans (S22.trans s23))
    have hqb23 := (S17.trans (S22.trans s23)) _ _ hqb
    have htb23 := htb.same (S17.trans (S22.trans s23))
    cases c2 with
    | true =>
      rw [(part_iff wf wg lB).mpr (hA.mpr rfl)] at hx
      cases hx
      refine oneIf (b := false) (tb_or (b := false) (c := false) (fun Q2 kq => ⟨_, rfl, rfl, _, rfl, rfl, _, rfl, kq _ (Same.refl _)⟩) (fun H1 s1 _ => tb_and (b := false) (c := false) (fun Q2 kq => tb_not (b := true) (fun Q3 k3 => ⟨_, rfl, _, rfl, k3 _ (Same.refl _)⟩) Q2 kq) (fun _ _ z => by cases z))) fun H1 s1 => iteF ⟨_, _, _, _, _, _, _, _, _, _, rfl, Sall.trans s1⟩
    | false =>
      obtain ⟨y, ey⟩ : ∃ y, partF fs gs = some y := by
        cases e : partF fs gs with
        | some y => exact ⟨y, rfl⟩
        | none => exact absurd (hA.mp ((part_iff wf wg lB).mp e)) (by decide)
      rw [ey] at hx
      have gen := (part_ok wf wg lB).1 y ey
      obtain ⟨px, rfl⟩ := hx.some
      refine oneIf (b := false) (tb_or (b := false) (c := false) (fun Q2 kq => ⟨_, rfl, rfl, _, rfl, rfl, _, rfl, ?_⟩) (fun H1 s1 _ => tb_and (b := true) (c := false) (fun Q2 kq => tb_not (b := false) (fun Q3 k3 => ⟨_, rfl, _, rfl, k3 _ (Same.refl _)⟩) Q2 kq) (fun H2 s2 _ Q2 kq => tb_not (b := true) (fun Q3 k3 => ⟨_, rfl, _, rfl, _, rfl, .ref px, qa, qb, va, vb, fs, gs, y, rfl, hx.kq (Kq.of_same (s1.trans s2)), gen, (s1.trans s2) _ _ hqa23, (s1.trans s2) _ _ hqb23, hta23.same (s1.trans s2), htb23.same (s1.trans s2), (fun t ht => ⟨wf t ht, by have := (wA t ht).2; omega⟩), (fun t ht => ⟨wg t ht, by have := (wB t ht).2; omega⟩), (by omega), (by omega), fun H3 s3 => ⟨_, rfl, k3 _ s3⟩⟩) Q2 kq))) fun H1 s1 => iteF ⟨_, _, _, _, _, _, _, _, _, _, rfl, Sall.trans s1⟩
      have e2 : decide (V.ref px = V.non) = false := decide_eq_false (fun z => by cases z)
      rw [e2]
      exact kq _ (Same.refl _)
end
end Rd
set_option maxHeartbeats 0
namespace Rd
open PySem L2
theorem tx_ok {w : World} {K : PySem.W.Frag} {h : Heap} {mg : Str → Option Value} (X : K.In h) (G : h.Ns mainGlobals mg) (ct : He.SaysT fa fn ts w K) (cc : He.SaysD fa fn K) (cz : He5.SaysA [] fs K) (hx : exq K = true) : Tx w K mg where
  z_len := He.free_ok X G (cc.fact 0 rfl)
  z_all := He.free_ok X G (cc.fact 1 rfl)
  z_abs := He.free_ok X G (cc.fact 2 rfl)
  z_int := He.free_ok X G (cc.fact 3 rfl)
  z_list := He.free_ok X G (cc.fact 4 rfl)
  z_tuple := He.free_ok X G (cc.fact 5 rfl)
  z_range := He.free_ok X G (cc.fact 6 rfl)
  z_max := He.free_ok X G (cc.fact 7 rfl)
  z_isinstance := He.free_ok X G (cc.fact 8 rfl)
  z_sorted := He.free_ok X G (cc.fact 9 rfl)
  z_str := He.free_ok X G (cc.fact 10 rfl)
  z_enumerate := He.free_ok X G (cc.fact 11 rfl)
  z_zip := He.free_ok X G (cc.fact 12 rfl)
  c_SMALL := He.str_ok X G (cc.fact 13 rfl)
  c_GREAT := He.str_ok X G (cc.fact 14 rfl)
  c_DIGITS := He.str_ok X G (cc.fact 15 rfl)
  D_SIGNS := kd_ok (He.glo_ok X G (cc.fact 16 rfl)) (ct.tab 0 rfl) (exl_ok hx 0 rfl)
  U_MAKEABLE := ktB_ok (He.glo_ok X G (cc.fact 17 rfl)) (exl_ok hx 1 rfl)
  U_SHUT := ktB_ok (He.glo_ok X G (cc.fact 18 rfl)) (exl_ok hx 2 rfl)
  D_OPENERS := kds_ok (He.glo_ok X G (cc.fact 19 rfl)) (ct.tab 1 rfl) (exl_ok hx 3 rfl)
  U_SOME_WORD := ktB_ok (He.glo_ok X G (cc.fact 20 rfl)) (exl_ok hx 4 rfl)
  U_KEYS := ktB_ok (He.glo_ok X G (cc.fact 21 rfl)) (exl_ok hx 5 rfl)
  F_is_word := ⟨(cc.def_ 0 (d := d0) rfl), He.glo_ok X G (cc.fact 22 rfl)⟩
  F_is_unknown := ⟨(cc.def_ 1 (d := d1) rfl), He.glo_ok X G (cc.fact 23 rfl)⟩
  F_is_name := ⟨(cc.def_ 2 (d := d2) rfl), He.glo_ok X G (cc.fact 24 rfl)⟩
  F_atom_tree := ⟨(cc.def_ 3 (d := d3) rfl), He.glo_ok X G (cc.fact 25 rfl)⟩
  F_is_atom_form := ⟨(cc.def_ 4 (d := d4) rfl), He.glo_ok X G (cc.fact 26 rfl)⟩
  F_check_form := ⟨(cc.def_ 5 (d := d5) rfl), He.glo_ok X G (cc.fact 27 rfl)⟩
  F_parts_of := ⟨(cc.def_ 6 (d := d6) rfl), He.glo_ok X G (cc.fact 28 rfl)⟩
  F_atoms_of := ⟨(cc.def_ 7 (d := d7) rfl), He.glo_ok X G (cc.fact 29 rfl)⟩
  F_tree_text := ⟨(cc.def_ 8 (d := d8) rfl), He.glo_ok X G (cc.fact 30 rfl)⟩
  F_is_plain := ⟨(cc.def_ 9 (d := d9) rfl), He.glo_ok X G (cc.fact 31 rfl)⟩
  F_partner := ⟨(cc.def_ 10 (d := d10) rfl), He.glo_ok X G (cc.fact 32 rfl)⟩
  F_undoing_key := ⟨(cc.def_ 11 (d := d11) rfl), He.glo_ok X G (cc.fact 33 rfl)⟩
  F_worked := ⟨(cc.def_ 12 (d := d12) rfl), He.glo_ok X G (cc.fact 34 rfl)⟩
  F_tree_parting := ⟨(cc.def_ 13 (d := d13) rfl), He.glo_ok X G (cc.fact 35 rfl)⟩
  F_parting := ⟨(cc.def_ 14 (d := d14) rfl), He.glo_ok X G (cc.fact 36 rfl)⟩
  F_alike := ⟨(cc.def_ 15 (d := d15) rfl), He.glo_ok X G (cc.fact 37 rfl)⟩
  F_check_plain := ⟨(cc.def_ 16 (d := d16) rfl), He.glo_ok X G (cc.fact 38 rfl)⟩
  F__law_cell_at := ⟨(cc.def_ 17 (d := d17) rfl), He.glo_ok X G (cc.fact 39 rfl)⟩
  F__law_mixed := ⟨(cc.def_ 18 (d := d18) rfl), He.glo_ok X G (cc.fact 40 rfl)⟩
  F__law_row := ⟨(cc.def_ 19 (d := d19) rfl), He.glo_ok X G (cc.fact 41 rfl)⟩
  F__law_partner := ⟨(cc.def_ 20 (d := d20) rfl), He.glo_ok X G (cc.fact 42 rfl)⟩
  F__law_undoing := ⟨(cc.def_ 21 (d := d21) rfl), He.glo_ok X G (cc.fact 43 rfl)⟩
  F__law_heap := ⟨(cc.def_ 22 (d := d22) rfl), He.glo_ok X G (cc.fact 44 rfl)⟩
  F__law_run := ⟨(cc.def_ 23 (d := d23) rfl), He.glo_ok X G (cc.fact 45 rfl)⟩
  F__law_step := ⟨(cc.def_ 24 (d := d24) rfl), He.glo_ok X G (cc.fact 46 rfl)⟩
  F__law_parts_them := ⟨(cc.def_ 25 (d := d25) rfl), He.glo_ok X G (cc.fact 47 rfl)⟩
  F__law_tuples := ⟨(cc.def_ 26 (d := d26) rfl), He.glo_ok X G (cc.fact 48 rfl)⟩
  F__law_pairs_of_heaps := ⟨(cc.def_ 27 (d := d27) rfl), He.glo_ok X G (cc.fact 49 rfl)⟩
  F__law_more := ⟨(cc.def_ 28 (d := d28) rfl), He.glo_ok X G (cc.fact 50 rfl)⟩
  g_RoadError := He.glo_ok X G (cc.fact 52 rfl)
  r_RoadError := rexB_ok (exl_ok hx 6 rfl)
  X_BadAtom := ⟨He.glo_ok X G (cc.fact 53 rfl), oexB_ok (exl_ok hx 7 rfl), He.noat_ok (cc.fact 56 rfl), ⟨(cc.def_ 30 (d := d30) rfl), He.meth_ok (cc.fact 55 rfl)⟩, xfB_ok (exl_ok hx 8 rfl), He.exm_ok (cc.fact 54 rfl)⟩
  X_BadForm := ⟨He.glo_ok X G (cc.fact 57 rfl), oexB_ok (exl_ok hx 9 rfl), He.noat_ok (cc.fact 60 rfl), ⟨(cc.def_ 31 (d := d31) rfl), He.meth_ok (cc.fact 59 rfl)⟩, xfB_ok (exl_ok hx 10 rfl), He.exm_ok (cc.fact 58 rfl)⟩
  k_Letter := He.cls_ok (cc.fact 62 rfl)
  n_Letter_tree := He.noat_ok (cc.fact 63 rfl)
  I_Letter := ⟨(cc.def_ 32 (d := d32) rfl), He.mkr_ok (cc.fact 64 rfl), He.glo_ok X G (cc.fact 61 rfl), He.cls_ok (cc.fact 62 rfl)⟩
  S_Letter_of := sh_ok (cz.def_ 0 (d := e0) rfl) (He.glo_ok X G (cc.fact 61 rfl)) (exl_ok hx 11 rfl)
  M_Letter_unknowns := ⟨(cc.def_ 33 (d := d33) rfl), He.meth_ok (cc.fact 65 rfl)⟩
  k_Pairing := He.cls_ok (cc.fact 67 rfl)
  g_Pairing := He.glo_ok X G (cc.fact 66 rfl)
  n_Pairing_met := He.noat_ok (cc.fact 68 rfl)
  n_Pairing_tables := He.noat_ok (cc.fact 69 rfl)
  n_Pairing_test := He.noat_ok (cc.fact 70 rfl)
  J_Pairing := He.mkr_ok (cc.fact 72 rfl)
  M_Pairing_init := ⟨(cc.def_ 34 (d := d34) rfl), He.meth_ok (cc.fact 71 rfl)⟩
  M_Pairing_comes := ⟨(cc.def_ 35 (d := d35) rfl), He.meth_ok (cc.fact 73 rfl)⟩
  M_Pairing_is_known := ⟨(cc.def_ 36 (d := d36) rfl), He.meth_ok (cc.fact 74 rfl)⟩
  M_Pairing_kinds := ⟨(cc.def_ 37 (d := d37) rfl), He.meth_ok (cc.fact 75 rfl)⟩
  M_Pairing_over := ⟨(cc.def_ 38 (d := d38) rfl), He.meth_ok (cc.fact 76 rfl)⟩
  M_Pairing_built := ⟨(cc.def_ 39 (d := d39) rfl), He.meth_ok (cc.fact 77 rfl)⟩
  M_Pairing_opens := ⟨(cc.def_ 40 (d := d40) rfl), He.meth_ok (cc.fact 78 rfl)⟩
  M_Pairing_opens_one := ⟨(cc.def_ 41 (d := d41) rfl), He.meth_ok (cc.fact 79 rfl)⟩
  M_Pairing_looks_at := ⟨(cc.def_ 42 (d := d42) rfl), He.meth_ok (cc.fact 80 rfl)⟩
  M_Pairing_looks := ⟨(cc.def_ 43 (d := d43) rfl), He.meth_ok (cc.fact 81 rfl)⟩
  k_Heap := He.cls_ok (cc.fact 83 rfl)
  g_Heap := He.glo_ok X G (cc.fact 82 rfl)
  n_Heap_trees := He.noat_ok (cc.fact 84 rfl)
  J_Heap := He.mkr_ok (cc.fact 86 rfl)
  M_Heap_init := ⟨(cc.def_ 44 (d := d44) rfl), He.meth_ok (cc.fact 85 rfl)⟩
  M_Heap_len := ⟨(cc.def_ 45 (d := d45) rfl), He.meth_ok (cc.fact 87 rfl)⟩
  B_Heap := boB_ok (exl_ok hx 12 rfl)
theorem facts {P : Program} {w : World} {K : PySem.W.Frag} {h : Heap} {mg : Str → Option Value} {f : Addr} (X : K.In h) (G : h.Ns mainGlobals mg) (hfa : mg ("law" : Str) = some (.ref f)) (c : SaysZ fa fn ts exq fs w K) :
    ∃ fd : FuncData, (∀ (s : Shared) (v : Value), BindsTo s fd ⟨[v], []⟩ [("_law_script", v)]) ∧ ∀ base : Heap, K.In base → base.Ns mainGlobals mg → FnOk P w K mg base CX0 150 f fd ["_law_script"] (spLaw K) := by
  have cc := c.y.t.d
  have T := tx_ok X G c.y.t cc c.s c.y.more
  obtain ⟨fd, F⟩ := cc.def_ 29 (d := d29) rfl
  have e := hfa.symm.trans (He.glo_ok X G (cc.fact 51 (f := .glo "law") rfl))
  cases e
  have b := FunD.bindsA (ps := ["_law_script"]) F fun _ _ _ _ _ _ us hl => match us, hl with | [_], _ => rfl
  exact ⟨fd, fun s v => b s [v] rfl, fun base _ _ => ok_law F T⟩
end Rd
open PySem PySem.W PySem.Calls PyProof.Rows
set_option maxRecDepth 100000 in
set_option maxHeartbeats 0 in
theorem PySem.Challenge.cw_openroads_k49_what_parts_heaps_holds : PySem.Challenge.rw_openroads_k49_what_parts_heaps.Holds := by
  w_on; o_law
  refine HandSHeadRun.head_any (r := OpenLaw.row PySem.Challenge.rw_openroads_k49_what_parts_heaps) (q := Rd.qv) (H := Rd.hk) (ob := Rd.ob) (M := 8000) (loose := Rd.loo) (d := HandSHeadRun.topDef (OpenLaw.row PySem.Challenge.rw_openroads_k49_what_parts_heaps).prog 65) (kwd := []) Rd.ob_eq
    (by kernel_rfl) (fun s => by kernel_rfl) Rd.run (by kernel_rfl) (by kernel_rfl) (by kernel_rfl) (by rfl) (by first | assumption | decide +kernel) (by decide +kernel) ⟨rfl, rfl, rfl, rfl, rfl, by decide +kernel⟩ ?hw ?hc
  case hw => w_witness2
  case hc =>
    refine L2.walk_ofE (l := PySem.Challenge.rw_openroads_k49_what_parts_heaps) (n := 63) (k := 150) (x := "_law_script") (CX := L2.CX0) rfl (by decide) (by kernel_rfl) ⟨rfl, by decide, by decide⟩ ?F (fun _ _ _ _ z => z)
    intro w mg fa h Y G hmg0
    obtain ⟨K, KX, c⟩ := Y
    have hmg : mg ("law" : PySem.Str) = some (.ref fa) := by
      have e : (HandSHeadRun.topDef (OpenLaw.row PySem.Challenge.rw_openroads_k49_what_parts_heaps).prog 65).name = ("law" : PySem.Str) := by kernel_rfl
      rw [← e]
      exact hmg0
    obtain ⟨fd, hb, hF⟩ := Rd.facts (P := (PySem.Challenge.rw_openroads_k49_what_parts_heaps).prog) (w := w) KX G hmg c
    exact ⟨K, fd, Rd.spLaw K, KX, hb, fun H a ns hl _ hS => ⟨a, ns, rfl, hS, hl, fun _ => rfl⟩, hF⟩
