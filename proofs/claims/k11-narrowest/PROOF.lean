import PyProof.Rows.All
import Wide.All
import OpenK.AllK
import Wide.FinOn
import KE.KStateDown
import Lean
import HandS.ForMost
import HandS.ForExc
import HandS.Flow
import HandS.StrMore
import HandS.Defaults
import HandS.ExcInit
import HandS.ExcField
import HandS.More
import HandS.HeadHook3
import PyProof.ListStr
import HandS.Head0
import HandS.Head1
import HandS.Head2
import HandS.HeadEnd
import HandS.Zip
import HandS.FStr
import HandS.StrMore
import HandS.Codes
import HandS.OwnEq
import HandS.NoneIn
import HandS.Small
import HandS.HotCalls
import HandS.ExcInitHot
import PyProof.InstEq
import HandS.IsInst
import HandS.HeadNt
import PyProof.Rows.SortShellAny
import HandS.Set
import HandS.SetFor
import HandS.SetBool
import HandS.Deep
import HandS.TupAny
import KE.KEqDict
import HandS.DictComp
import HandS.DeepEq
import HandS.List
import HandS.SetKeys
import KE.GoesNew
import KE.GoesMore
import PyProof.AutoSeq1
import HandS.Sort
import KE.KSortTupAny
import KE.KOpsOwn
import HandS.TupLe
import HandS.WordsDict
import KE.KDictList
import PyProof.SetRoads
import HandS.ExcCtx
import HandS.Comp
import KE.GoesRaise
import KE.GoesComp
import KE.KIsAll
import KE.KExcIs
import HandS.Base
import HandS.Call
import HandS.Exc
import HandS.ExcIs
import HandS.Property
import KE.KDictZip
import PyProof.ListNew
import HandS.ListItems
import PyProof.NeKinds
import PyProof.EnumMake
import PyProof.EnumFor
import PyProof.ZipIter
import KE.KTurns
import HandS.Iter
import PyProof.CollectWalk
import KE.KItemsList
import PySem.Challenge.RW_openroads_k11_narrowest_fillings
set_option Elab.async false
set_option linter.all false
set_option maxRecDepth 100000
set_option maxHeartbeats 4000000
namespace Rd
open PySem PySem.Spec PyProof.Rows L2
/-- a function of the module by its name: promise, binding, place -/
structure Fk (P : Program) (w : World) (K : PySem.W.Frag) (mg : Str → Option Value) (base : Heap) (CX : CXT) (k : Nat) (x : Str) (ps : List Str) (sp : Sp) : Prop where
  ex : ∃ fd, FnOk P w K mg base CX k (He.ga K x) fd ps sp ∧ Binds K fd ps []
  g : mg x = some (.ref (He.ga K x))
  kp : PySem.W.keepIn K (.ref (He.ga K x)) = true
/-- what the head tells of a function of the module -/
structure Fh (K : PySem.W.Frag) (mg : Str → Option Value) (x : Str) (st : Stmt) : Prop where
  ex : ∃ fd, FunD K x x (defArgs st) (defBody st) (defScope st) [] [] (He.ga K x) fd
  g : mg x = some (.ref (He.ga K x))
section
variable {P : Program} {w : World} {K : PySem.W.Frag} {mg : Str → Option Value} {base : Heap} {CX : CXT} {k : Nat} {x : Str} {ps N : List Str} {sp : Sp} {st : Stmt}
theorem Fh.ok (F : Fh K mg x st) (S : FnScope N ps (defScope st))
    (hb : ∀ (kV doc pm : Value) (an : Option Addr) (cdv ct : Value) (us : List Value), us.length = ps.length → bindArgs (PySem.W.fnOf x x (defArgs st) (defBody st) (defScope st) .none kV doc pm an cdv ct) ⟨us, []⟩ = pure (ps.zip us))
    (len : ∀ vs H Q E, sp vs H Q E → vs.length = ps.length)
    (hbody : ∀ (cdv : Value) (A : Around) (outer : List Env) (s : Shared) (H : Hp) (vs : List V) (Q : VK) (E : XK), Room k (A.deeper (envOfC x (defScope st) s.heap.objs.size (He.ga K x) cdv)) → sp vs H Q E →
      ∃ t, PSs (cxOf CX P w K mg base N x (defScope st) (He.ga K x) cdv A outer s H E) (defBody st) t ∧ t { nx := fun _ H' => Q .non H', rt := Q } (start N vs) H) : Fk P w K mg base CX (k + 1) x ps sp := by
  obtain ⟨fd, F'⟩ := F.ex
  exact ⟨⟨fd, F'.ok S len hbody, F'.bindsN hb⟩, F.g, F'.kp⟩
/-- no exception leaves -/
theorem Fh.ok0 (F : Fh K mg x st) (S : FnScope N ps (defScope st))
    (hb : ∀ (kV doc pm : Value) (an : Option Addr) (cdv ct : Value) (us : List Value), us.length = ps.length → bindArgs (PySem.W.fnOf x x (defArgs st) (defBody st) (defScope st) .none kV doc pm an cdv ct) ⟨us, []⟩ = pure (ps.zip us))
    (len : ∀ vs H Q E, sp vs H Q E → vs.length = ps.length)
    (hbody : ∀ (cdv : Value) (A : Around) (outer : List Env) (s : Shared) (H : Hp) (vs : List V) (Q : VK) (E : XK), Room k (A.deeper (envOfC x (defScope st) s.heap.objs.size (He.ga K x) cdv)) → sp vs H Q E →
      ∃ t, PSs (cxOf CX0 P w K mg base N x (defScope st) (He.ga K x) cdv A outer s H E).nox (defBody st) t ∧ t { nx := fun _ H' => Q .non H', rt := Q } (start N vs) H) : Fk P w K mg base CX0 (k + 1) x ps sp :=
  F.ok S hb len fun cdv A outer s H vs Q E hr h => by
    obtain ⟨t, h1, h2⟩ := hbody cdv A outer s H vs Q E hr h
    exact ⟨t, h1.nox, h2⟩
theorem Fk.mono {j : Nat} (F : Fk P w K mg base CX j x ps sp) (h : j ≤ k) : Fk P w K mg base CX k x ps sp := by
  obtain ⟨⟨fd, a, b⟩, c, d⟩ := F
  exact ⟨⟨fd, a.mono h, b⟩, c, d⟩
end
section
variable {X : Cx} {CX : CXT} {k : Nat} {ps : List Str} {sp : Sp} {E : XK} {x : Str} {p pos : Pos} {e : Expr} {es : List Expr} {t : TA}
theorem pe_fk (F : Fk X.prog X.w X.K X.mg X.base CX k x ps sp) (hr : Room k X.A) (hg : Gl X x) (hx : Passes CX X E)
    (ha : PA X (e :: es) t) (hdb : (x == ("__debug__" : Str)) = false := by decide) (he : starEach (e :: es) X.env = (false, eval e X.env) :: starEach es X.env := by rfl) (hpl : (backTo pos (starEach es X.env)).any (·.1) = false := by rfl) :
    PE X (.Call (.Name x p) (e :: es) [] pos) (tCall sp [] E t) := by
  obtain ⟨⟨fd, a, b⟩, c, d⟩ := F
  exact pe_call a hr hg c d b .nil hx ha hdb he hpl
theorem pe_gstr {z : Str} (hm : ∃ t, X.mg x = some (.str z t)) (hg : Gl X x := by rfl) (hd : (x == ("__debug__" : Str)) = false := by decide) : PE X (.Name x pos) (tC (.str z)) := by
  obtain ⟨t, hm⟩ := hm
  exact pe_glob hg hm ⟨t, rfl⟩ hd
end
end Rd
namespace Rd
open PySem PySem.Spec PyProof.Rows L2
/-- an exception class over ValueError, as OexC wants it -/
def oexB (K : PySem.W.Frag) (x : Str) : Bool := (match K.lookup (He.ga K x) with
  | some ⟨.type c, _, .cls cd, sl⟩ => decide (c = "type") && (match cd.mro, sl.toList with
    | .ref C' :: bm, [_, _, _, _, some (.builtin n), _] => decide (C' = He.ga K x) && (decide (n = "ValueError.__new__") && (!cd.hasDel && (cd.hasDict && PySem.HandSPX.refsVE bm)))
    | _, _ => false)
  | _ => false) && (He.eqO (PySem.W.findIn K (.ref (He.ga K x)) "__setattr__") (some (some (.builtin "object.__setattr__"))) && (decide (PySem.W.subIn K (.ref (He.ga K x)) (.type "BaseException") = some true) && (decide (PySem.W.typeIn K (.ref (He.ga K x)) = some (.type "type")) && PySem.W.keepIn K (.ref (He.ga K x)))))
theorem oexB_ok {K : PySem.W.Frag} {x : Str} (h : oexB K x = true) : OexC K (He.ga K x) := by
  obtain ⟨h1, h⟩ := He.ba h
  obtain ⟨h2, h⟩ := He.ba h
  obtain ⟨h3, h⟩ := He.ba h
  obtain ⟨h4, h5⟩ := He.ba h
  refine ⟨?_, He.eqO_ok h2, of_decide_eq_true h3, of_decide_eq_true h4, h5⟩
  cases e : K.lookup (He.ga K x) with
  | none => rw [e] at h1; cases h1
  | some o =>
    rw [e] at h1
    obtain ⟨oc, od, dt, sl⟩ := o
    cases oc with
    | type c =>
      cases dt with
      | cls cd =>
        obtain ⟨h6, h7⟩ := He.ba (show (decide (c = "type") && (match cd.mro, sl.toList with
          | .ref C' :: bm, [_, _, _, _, some (.builtin n), _] => decide (C' = He.ga K x) && (decide (n = "ValueError.__new__") && (!cd.hasDel && (cd.hasDict && PySem.HandSPX.refsVE bm)))
          | _, _ => false)) = true from h1)
        have ec : c = "type" := of_decide_eq_true h6
        subst ec
        obtain ⟨nm, bs, mro, ns, qn, hd, sn, sb, ab, col, del⟩ := cd
        obtain ⟨sl⟩ := sl
        simp only at h7
        split at h7
        · obtain ⟨h8, h9⟩ := He.ba h7
          obtain ⟨h10, h11⟩ := He.ba h9
          obtain ⟨h12, h13⟩ := He.ba h11
          obtain ⟨h14, h15⟩ := He.ba h13
          rename_i C' bm k0 k1 k2 k3 n k5
          have e1 : C' = He.ga K x := of_decide_eq_true h8
          have e2 : n = "ValueError.__new__" := of_decide_eq_true h10
          have e3 : del = false := by simpa using h12
          subst e2 e3
          have e4 : hd = true := h14
          subst e4
          rw [e1]
          exact ⟨_, _, _, _, bm, _, _, _, _, _, _, _, _, _, _, rfl, h15⟩
        · cases h7
      | _ => cases h1
    | _ => cases dt <;> cases h1
end Rd
namespace Rd
open PySem L2
/-- [f(c) for c in text], f pure -/
theorem lcs {x : Str} {te : TE} {i : Nat} {σ : St} {H1 : Hp} {D : Addr} {Qd : Hp → Prop} (f : Nat → V) (hx : x.length ≤ sizeLine)
    (hte : ∀ c (H : Hp) (Q : VK), c ∈ x.cps.toList → Q (f c) H → te ((wipe σ [i]).set i (some (.str ⟨#[c]⟩))) H Q) (hq : Qd (upd H1 D (.lst (x.cps.toList.map f)))) :
    ∃ W : Nat → Nat → Hp → Prop, (∃ m, W 0 m (upd H1 D (.lst []))) ∧ ∀ j m H, W j m H →
      ((Its x).stop j H ∧ Qd H) ∨ ((Its x).go j H ∧ ∃ Nx : Hp → Prop, (∀ H', Nx H' → ∃ m', m' < m ∧ W (j + 1) m' H') ∧ ∀ v H', (Its x).yld j H v H' → gName i v (wipe σ [i]) H' fun σ2 H2 => wipe σ2 [i] = wipe σ [i] ∧ tYes σ2 H2 fun b H3 =>
        if b = true then te σ2 H3 fun y H4 => ∃ acc, H4 D = some (.lst acc) ∧ acc.length < sizeLine ∧ Nx (upd H4 D (.lst (acc ++ [y]))) else Nx H3) := by
  have hs : x.cps.toList.length = x.cps.size := by simp
  refine ⟨fun j m H => m = x.cps.size - j ∧ j ≤ x.cps.size ∧ H = upd H1 D (.lst ((x.cps.toList.take j).map f)), ⟨_, rfl, Nat.zero_le _, rfl⟩, ?_⟩
  rintro j m H ⟨rfl, hj, rfl⟩
  by_cases hlt : j < x.cps.size
  · refine .inr ⟨hlt, fun H' => H' = upd H1 D (.lst ((x.cps.toList.take (j + 1)).map f)), fun H' e => ⟨x.cps.size - (j + 1), by omega, rfl, hlt, e⟩, ?_⟩
    rintro v H' ⟨rfl, c, hc, rfl⟩
    have hc2 : x.cps.toList[j]? = some c := by simpa using hc
    refine ⟨by simp [wipe], hte c _ _ (List.mem_of_getElem? hc2) ⟨_, upd_same, ?_, ?_⟩⟩
    · rw [List.length_map, List.length_take, hs]
      have : x.cps.size ≤ sizeLine := hx
      omega
    · show upd (upd H1 D _) D _ = _
      rw [upd_upd, List.take_succ, hc2]
      simp
  · have e : j = x.cps.size := by omega
    subst e
    refine .inl ⟨Nat.le_refl _, ?_⟩
    rw [← hs, List.take_length]
    exact hq
theorem Same.upd {H : Hp} {p : Addr} {o : HO} (h : H p = none) : Same H (L2.upd H p o) := fun a u e => by rw [upd_ne (ne_of_none e h)]; exact e
theorem Same.upd' {H H1 : Hp} {p : Addr} {o : HO} (x : Same H H1) (h : H1 p = none) : Same H (L2.upd H1 p o) := x.trans (Rd.Same.upd h)
end Rd
namespace Rd
open PySem L2
theorem seqAsg {te : TE} {g : TG} {u : TS} {D : Ends} {σ : St} {H : Hp} (h : te σ H fun x H1 => g x σ H1 (u D)) : tSeq (tAsg te g) u D σ H := h
theorem gName_k {i : Nat} {v : V} {σ : St} {H : Hp} {R : St → Hp → Prop} (h : R (σ.set i (some v)) H) : gName i v σ H R := h
end Rd
namespace Rd
open PySem L2
/-- a test that answers b, the heap may grow -/
def TB (t : TT) (σ : St) (H : Hp) (b : Bool) : Prop := ∀ Q : Bool → Hp → Prop, (∀ H', Same H H' → Q b H') → t σ H Q
theorem tb_and {t u : TT} {σ : St} {H : Hp} {b c : Bool} (h1 : TB t σ H b) (h2 : ∀ H', Same H H' → b = true → TB u σ H' c) : TB (tAnd t u) σ H (b && c) := fun Q k => h1 _ fun H' s => by
  cases b with
  | true => exact h2 H' s rfl Q fun H2 s2 => k H2 (s.trans s2)
  | false => exact k H' s
theorem tb_or {t u : TT} {σ : St} {H : Hp} {b c : Bool} (h1 : TB t σ H b) (h2 : ∀ H', Same H H' → b = false → TB u σ H' c) : TB (tOr t u) σ H (b || c) := fun Q k => h1 _ fun H' s => by
  cases b with
  | true => exact k H' s
  | false => exact h2 H' s rfl Q fun H2 s2 => k H2 (s.trans s2)
theorem seqIf {c : TT} {t u v : TS} {D : Ends} {σ : St} {H : Hp} {b : Bool} (hc : TB c σ H b) (k : ∀ H', Same H H' → if b = true then t { D with nx := v D } σ H' else u { D with nx := v D } σ H') : tSeq (tIfS c t u) v D σ H := hc _ k
end Rd
namespace Rd
open PySem L2
theorem nxt {D : Ends} {σ : St} {H : Hp} (h : D.nx σ H) : tNext D σ H := h
end Rd
namespace Rd
open PySem L2
/-- C0.__init__ read off the class C0 -/
structure REx (K : PySem.W.Frag) (C0 : Addr) : Prop where
  sga : PySem.W.specialIn K (.ref C0) "__getattribute__" = some (some (.builtin "type.__getattribute__"))
  ty : PySem.W.typeIn K (.ref C0) = some (.type "type")
  rd : PySem.W.readsIn K C0 (.type "type") = true
  fc : PySem.W.findCls K (.ref C0) (.type "type") "__init__" = some (.val (.builtin "ValueError.__init__"))
def rexB (K : PySem.W.Frag) (x : Str) : Bool := He.eqO (PySem.W.specialIn K (.ref (He.ga K x)) "__getattribute__") (some (some (.builtin "type.__getattribute__"))) && (decide (PySem.W.typeIn K (.ref (He.ga K x)) = some (.type "type")) && (PySem.W.readsIn K (He.ga K x) (.type "type") &&
  (match PySem.W.findCls K (.ref (He.ga K x)) (.type "type") "__init__" with
    | some (.val (.builtin n)) => decide (n = "ValueError.__init__")
    | _ => false)))
theorem rexB_ok {K : PySem.W.Frag} {x : Str} (h : rexB K x = true) : REx K (He.ga K x) := by
  obtain ⟨h1, h⟩ := He.ba h
  obtain ⟨h2, h⟩ := He.ba h
  obtain ⟨h3, h4⟩ := He.ba h
  refine ⟨He.eqO_ok h1, of_decide_eq_true h2, h3, ?_⟩
  split at h4
  · rename_i n e
    rw [e, of_decide_eq_true h4]
  · cases h4
section
variable {X : Cx} {e : Expr} {es : List Expr} {ta : TA} {p1 p2 pos : Pos}
theorem pe_reinit {pl : Sem Bool} {x : Str} {C0 : Addr} (hg : Gl X x) (hm : X.mg x = some (.ref C0)) (R0 : REx X.K C0) (ha : PA X (e :: es) ta) (hd : (x == ("__debug__" : Str)) = false := by decide)
    (hc : eval (.Call (.Attribute (.Name x p1) "__init__" p2) (e :: es) [] pos) X.env = (do
      let ov ← eval (.Name x p1) X.env
      standAt p2.atName
      let (f, first) ← holding [ov] (getMethod ov "__init__" pl)
      callWith pos f first (backTo pos (starEach (e :: es) X.env)) (backToKw pos (keywordEach [] X.env))) := by rfl)
    (he : starEach (e :: es) X.env = (false, eval e X.env) :: starEach es X.env := by rfl) (hpl : (backTo pos (starEach es X.env)).any (·.1) = false := by rfl) :
    PE X (.Call (.Attribute (.Name x p1) "__init__" p2) (e :: es) [] pos) (tVeI X.K ta) := by
  refine ⟨fun pins s σ H Q I h => ?_⟩
  refine PySem.W.methodCall_KW (ld_glob I hg hm ?_ hd) hc
  obtain ⟨m, fr⟩ := I.fr
  refine PySem.W.method_of_cls fr I.ok.mod.kin R0.sga (PySem.W.cls_val fr I.ok.mod.kin R0.ty R0.rd R0.fc (by decide +kernel) ?_)
  show wpAny _ _ (callWith pos (Value.builtin "ValueError.__init__") [] (backTo pos (starEach (e :: es) X.env)) []) _ _ _
  refine PyProof.Rows.callWith_method1 (thn (ha.run pos pins _ σ H _ (I.tok _) h) fun us s1 ⟨vs, H1, I1, r1, a, C, ws, ev, hl, T, ea, q⟩ => ?_) he hpl
  subst ev
  cases r1 with
  | @cons _ u0 _ ur ra rw' =>
    obtain rfl : u0 = Value.ref a := ra
    have hlen : ur.length ≤ sizeLine := by
      rw [← Paired.length rw', sizeLine_eq]
      omega
    exact oinit_ok T I1 ea hlen fun s' J => ⟨.non, H1, J, rfl, q⟩
end
/-- the __init__ of an exception with one field -/
def spX1 (K : PySem.W.Frag) (f : Str) : Sp := fun vs H Q _ => ∃ (a C : Addr) (v : V), vs = [.ref a, v] ∧ OexC K C ∧ PySem.W.findIn K (.ref C) f = some none ∧ H a = some (exo a C none) ∧
  ∀ dx, H dx = none → dx ≠ a → Q .non (upd (upd H dx (exd dx [(f, v)])) a (exo a C (some dx)))
/-- reading a raise of such an exception, behind its argument -/
theorem rd_raise1 {K : PySem.W.Frag} {C : Addr} {f : Str} {v : V} {H1 : Hp} {R : XK} (T : OexC K C) (no : PySem.W.findIn K (.ref C) f = some none)
    (k : ∀ d H', Same H1 H' → H1 d = none → H' d = some (.xd [(f, v)]) → R (.ref C) (some d) H') :
    ([v] : List V).length ≤ 1000 ∧ ∀ a, H1 a = none → spX1 K f (.ref a :: ([v] ++ [])) (upd H1 a (exo a C none)) (fun v' H2 => v' = .non ∧ ∃ (d : Addr) (fs : List (Str × V)), H2 a = some (exo a C (some d)) ∧ H2 d = some (exd d fs) ∧ H1 d = none ∧ R (.ref C) (some d) (upd (del H2 a) d (.xd fs))) (fun _ _ _ => False) := by
  refine ⟨by show 1 ≤ 1000; decide, fun a ha => ⟨a, C, v, rfl, T, no, upd_same, fun dx hdx ne => ⟨rfl, dx, [(f, v)], upd_same, ?_, ?_, ?_⟩⟩⟩
  · rw [upd_ne ne, upd_same]
  · rw [upd_ne ne] at hdx
    exact hdx
  · rw [upd_ne ne] at hdx
    refine k dx _ (fun b o e => ?_) hdx upd_same
    rw [upd_ne (ne_of_none e hdx), del_ne (ne_of_none e ha), upd_ne (ne_of_none e ha), upd_ne (ne_of_none e hdx), upd_ne (ne_of_none e ha)]
    exact e
structure Mh (K : PySem.W.Frag) (c m q : Str) (st : Stmt) : Prop where
  ex : ∃ fd, FunD K m q (defArgs st) (defBody st) (defScope st) [] [] (He.ma K (He.ga K c) m) fd
  me : Meth K (He.ga K c) m (He.ma K (He.ga K c) m)
structure Fm (P : Program) (w : World) (K : PySem.W.Frag) (mg : Str → Option Value) (base : Heap) (CX : CXT) (k : Nat) (c m : Str) (ps : List Str) (sp : Sp) : Prop where
  ex : ∃ fd, FnOk P w K mg base CX k (He.ma K (He.ga K c) m) fd ps sp ∧ Binds K fd ps []
  me : Meth K (He.ga K c) m (He.ma K (He.ga K c) m)
section
variable {P : Program} {w : World} {K : PySem.W.Frag} {mg : Str → Option Value} {base : Heap} {CX : CXT} {k : Nat} {c m q : Str} {ps N : List Str} {sp : Sp} {st : Stmt}
theorem Mh.ok (F : Mh K c m q st) (S : FnScope N ps (defScope st))
    (hb : ∀ (kV doc pm : Value) (an : Option Addr) (cdv ct : Value) (us : List Value), us.length = ps.length → bindArgs (PySem.W.fnOf m q (defArgs st) (defBody st) (defScope st) .none kV doc pm an cdv ct) ⟨us, []⟩ = pure (ps.zip us))
    (len : ∀ vs H Q E, sp vs H Q E → vs.length = ps.length)
    (hbody : ∀ (cdv : Value) (A : Around) (outer : List Env) (s : Shared) (H : Hp) (vs : List V) (Q : VK) (E : XK), Room k (A.deeper (PyProof.Rows.envOfC q (defScope st) s.heap.objs.size (He.ma K (He.ga K c) m) cdv)) → sp vs H Q E →
      ∃ t, PSs (cxOf CX P w K mg base N q (defScope st) (He.ma K (He.ga K c) m) cdv A outer s H E) (defBody st) t ∧ t { nx := fun _ H' => Q .non H', rt := Q } (start N vs) H) : Fm P w K mg base CX (k + 1) c m ps sp := by
  obtain ⟨fd, F'⟩ := F.ex
  exact ⟨⟨fd, F'.ok S len hbody, F'.bindsN hb⟩, F.me⟩
theorem Mh.ok0 (F : Mh K c m q st) (S : FnScope N ps (defScope st))
    (hb : ∀ (kV doc pm : Value) (an : Option Addr) (cdv ct : Value) (us : List Value), us.length = ps.length → bindArgs (PySem.W.fnOf m q (defArgs st) (defBody st) (defScope st) .none kV doc pm an cdv ct) ⟨us, []⟩ = pure (ps.zip us))
    (len : ∀ vs H Q E, sp vs H Q E → vs.length = ps.length)
    (hbody : ∀ (cdv : Value) (A : Around) (outer : List Env) (s : Shared) (H : Hp) (vs : List V) (Q : VK) (E : XK), Room k (A.deeper (PyProof.Rows.envOfC q (defScope st) s.heap.objs.size (He.ma K (He.ga K c) m) cdv)) → sp vs H Q E →
      ∃ t, PSs (cxOf CX0 P w K mg base N q (defScope st) (He.ma K (He.ga K c) m) cdv A outer s H E).nox (defBody st) t ∧ t { nx := fun _ H' => Q .non H', rt := Q } (start N vs) H) : Fm P w K mg base CX0 (k + 1) c m ps sp :=
  F.ok S hb len fun cdv A outer s H vs Q E hr h => by
    obtain ⟨t, h1, h2⟩ := hbody cdv A outer s H vs Q E hr h
    exact ⟨t, h1.nox, h2⟩
end
section
variable {X : Cx} {CX : CXT} {k : Nat} {ps : List Str} {sp : Sp} {E : XK} {x c m : Str} {p pos apos : Pos} {e o : Expr} {es : List Expr} {t : TA} {ta : TE}
theorem pe_fm0 {pl : Sem Bool} (he : PE X o ta) (cl : Cls X.K (He.ga X.K c)) (F : Fm X.prog X.w X.K X.mg X.base CX k c m ps sp) (hr : Room k X.A) (hx : Passes CX X E)
    (ht : eval (.Call (.Attribute o m apos) [] [] pos) X.env = (do
      let ov ← eval o X.env
      standAt apos.atName
      let (f, first) ← holding [ov] (getMethod ov m pl)
      callWith pos f first (backTo pos (starEach [] X.env)) (backToKw pos (keywordEach [] X.env))) := by rfl) :
    PE X (.Call (.Attribute o m apos) [] [] pos) (tMeth (He.ga X.K c) m sp [] E ta tNil) := by
  obtain ⟨⟨fd, a, b⟩, me⟩ := F
  exact pe_meth0 he cl me a hr b .nil hx ht
end
structure Xh (K : PySem.W.Frag) (mg : Str → Option Value) (x f q : Str) (st : Stmt) : Prop where
  g : mg x = some (.ref (He.ga K x))
  oex : OexC K (He.ga K x)
  no : PySem.W.findIn K (.ref (He.ga K x)) f = some none
  init : Mh K x "__init__" q st
  xf : XfC K (He.ga K x)
  em : PySem.W.exmOne K (.ref (He.ga K x)) (.ref (He.ga K x)) = some true
structure Ih (K : PySem.W.Frag) (mg : Str → Option Value) (c q : Str) (st : Stmt) (dvs : List V) : Prop where
  ex : ∃ fd, FunD K "__init__" q (defArgs st) (defBody st) (defScope st) dvs [] (He.ma K (He.ga K c) "__init__") fd
  mkr : Mk K (He.ga K c) (He.ma K (He.ga K c) "__init__")
  g : mg c = some (.ref (He.ga K c))
  cl : Cls K (He.ga K c)
structure Fi (P : Program) (w : World) (K : PySem.W.Frag) (mg : Str → Option Value) (base : Heap) (CX : CXT) (k : Nat) (c : Str) (ps : List Str) (sp : Sp) (v : V) : Prop where
  ex : ∃ fd, FnOk P w K mg base CX k (He.ma K (He.ga K c) "__init__") fd ps sp ∧ Binds K fd ps [] ∧ ∃ ds, Vals [v] ds ∧ Binds K fd ps ds
  mkr : Mk K (He.ga K c) (He.ma K (He.ga K c) "__init__")
  g : mg c = some (.ref (He.ga K c))
section
variable {P : Program} {w : World} {K : PySem.W.Frag} {mg : Str → Option Value} {base : Heap} {CX : CXT} {k : Nat} {c q : Str} {ps N : List Str} {sp : Sp} {st : Stmt} {v : V}
theorem Ih.ok {n : Nat} (F : Ih K mg c q st [v]) (S : FnScope N ps (defScope st)) (hn : ps.length = n + 1)
    (hb1 : ∀ (T : Addr) (kV doc pm : Value) (an : Option Addr) (cdv ct : Value) (us its : List Value), us.length = n → its.length = 1 →
      ∃ k, bindArgs (PySem.W.fnOf "__init__" q (defArgs st) (defBody st) (defScope st) (.ref T) kV doc pm an cdv ct) ⟨us, []⟩ = seqItems? (.ref T) >>= k ∧ k (some its.toArray) = pure (ps.zip (us ++ its.drop 0)))
    (hb2 : ∀ (T : Addr) (kV doc pm : Value) (an : Option Addr) (cdv ct : Value) (us its : List Value), us.length = n + 1 → its.length = 1 →
      ∃ k, bindArgs (PySem.W.fnOf "__init__" q (defArgs st) (defBody st) (defScope st) (.ref T) kV doc pm an cdv ct) ⟨us, []⟩ = seqItems? (.ref T) >>= k ∧ k (some its.toArray) = pure (ps.zip (us ++ its.drop 1)))
    (len : ∀ vs H Q E, sp vs H Q E → vs.length = ps.length)
    (hbody : ∀ (cdv : Value) (A : Around) (outer : List Env) (s : Shared) (H : Hp) (vs : List V) (Q : VK) (E : XK), Room k (A.deeper (PyProof.Rows.envOfC q (defScope st) s.heap.objs.size (He.ma K (He.ga K c) "__init__") cdv)) → sp vs H Q E →
      ∃ t, PSs (cxOf CX P w K mg base N q (defScope st) (He.ma K (He.ga K c) "__init__") cdv A outer s H E) (defBody st) t ∧ t { nx := fun _ H' => Q .non H', rt := Q } (start N vs) H) : Fi P w K mg base CX (k + 1) c ps sp v := by
  obtain ⟨fd, F'⟩ := F.ex
  have b1 := F'.binds1 (ps := ps) n 0 (List.cons_ne_nil _ _) (by rw [hn]; rfl) hb1
  obtain ⟨ds, e, b2⟩ := F'.binds1 (ps := ps) (n + 1) 1 (List.cons_ne_nil _ _) (by rw [hn]; rfl) hb2
  cases e
  exact ⟨⟨fd, F'.ok S len hbody, b2, b1⟩, F.mkr, F.g⟩
end
section
variable {X : Cx} {CX : CXT} {k : Nat} {ps : List Str} {sp : Sp} {E : XK} {c : Str} {p pos : Pos} {e : Expr} {es : List Expr} {t : TA} {v : V}
/-- C(.., ..), every argument written -/
theorem pe_mk2 (F : Fi X.prog X.w X.K X.mg X.base CX k c ps sp v) (hr : Room (k + 1) X.A) (hg : Gl X c) (hx : Passes CX X E)
    (ha : PA X (e :: es) t) (hdb : (c == ("__debug__" : Str)) = false := by decide) (he : starEach (e :: es) X.env = (false, eval e X.env) :: starEach es X.env := by rfl) (hpl : (backTo pos (starEach es X.env)).any (·.1) = false := by rfl) :
    PE X (.Call (.Name c p) (e :: es) [] pos) (tMake (He.ga X.K c) sp [] E t) := by
  obtain ⟨⟨fd, a, b, _⟩, M, g⟩ := F
  exact pe_make M a hr hg g b .nil hx ha hdb he hpl
/-- .. the last by its default -/
theorem pe_mk1 (F : Fi X.prog X.w X.K X.mg X.base CX k c ps sp v) (hr : Room (k + 1) X.A) (hg : Gl X c) (hx : Passes CX X E)
    (ha : PA X (e :: es) t) (hdb : (c == ("__debug__" : Str)) = false := by decide) (he : starEach (e :: es) X.env = (false, eval e X.env) :: starEach es X.env := by rfl) (hpl : (backTo pos (starEach es X.env)).any (·.1) = false := by rfl) :
    PE X (.Call (.Name c p) (e :: es) [] pos) (tMake (He.ga X.K c) sp [v] E t) := by
  obtain ⟨⟨fd, a, _, ds, e1, b⟩, M, g⟩ := F
  exact pe_make M a hr hg g b e1 hx ha hdb he hpl
end
end Rd
namespace Rd
open PySem L2
/-- what is reached from the module in n steps, each address once (what was seen: the bits of a number) -/
def seenB (st : List Addr × Nat) (a : Addr) : List Addr × Nat := bif Nat.beq (Nat.mod (Nat.shiftRight st.2 a) 2) 1 then st else (a :: st.1, Nat.lor st.2 (Nat.shiftLeft 1 a))
def stepB (g : Addr → Option Obj) (fr : List Addr) (m : Nat) : List Addr × Nat := (fr.flatMap fun a => match g a with
  | some o => He.refsD o
  | none => []).foldl seenB ([], m)
def goB (g : Addr → Option Obj) : Nat → List Addr → List Addr → Nat → List Addr
  | 0, all, _, _ => all
  | n + 1, all, fr, m => match stepB g fr m with
    | (xs, m') => goB g n (all ++ xs) xs m'
abbrev AlY : Type := He.AlT × Bool
structure SaysY (fa : List He.Fa) (fn : List He.DefD) (ts : List He.Tab) (ex : PySem.W.Frag → Bool) (w : World) (K : PySem.W.Frag) : Prop where
  t : He.SaysT fa fn ts w K
  more : ex K = true
def valY (fn : List He.DefD) (ts : List He.Tab) (w : World) : AlY := (He.valT fn ts w, true)
end Rd
namespace Rd
open PySem L2
structure Kd (w : World) (K : PySem.W.Frag) (mg : Str → Option Value) (x : Str) (kvs : List (Str × Int)) : Prop where
  g : mg x = some (.ref (He.ga K x))
  kd : ∃ es n, KDict K w (He.ga K x) es n
  no : ∀ z, z ∉ kvs.map (·.1) → PySem.W.nsIn K (He.ga K x) z = some none
  ys : ∀ p ∈ kvs, ∃ t, PySem.W.nsIn K (He.ga K x) p.1 = some (some (.int p.2 t))
def kdB (K : PySem.W.Frag) (a : Addr) (kvs : List (Str × Int)) : Bool := (match K.lookup a with
  | some ⟨_, _, .dict es _, _⟩ => es.toList.all fun e => (match e.key with
    | .str x _ => (kvs.map (·.1)).contains x
    | _ => false)
  | _ => false) && kvs.all fun p => (match PySem.W.nsIn K a p.1 with
    | some (some (.int i _)) => decide (i = p.2)
    | _ => false)
theorem kd_ok {w : World} {K : PySem.W.Frag} {mg : Str → Option Value} {x : Str} {kvs : List (Str × Int)} (g : mg x = some (.ref (He.ga K x))) (kd : ∃ es n, KDict K w (He.ga K x) es n) (h : kdB K (He.ga K x) kvs = true) : Kd w K mg x kvs := by
  obtain ⟨h1, h2⟩ := He.ba h
  refine ⟨g, kd, fun z hz => ?_, fun p hp => ?_⟩
  · obtain ⟨es, n, D⟩ := kd
    rw [D.at_] at h1
    have h3 : es.toList.all (fun e => (match e.key with
      | .str x _ => (kvs.map (·.1)).contains x
      | _ => false)) = true := h1
    have h4 := List.all_eq_true.mp h3
    unfold PySem.W.nsIn
    rw [D.at_]
    have e1 : es.toList.find? (·.key.isStr z) = none := by
      rw [List.find?_eq_none]
      intro e he q
      have h5 := h4 e he
      cases ek : e.key with
      | str y t =>
        rw [ek] at h5 q
        have e2 : y = z := eq_of_beq q
        subst e2
        exact hz (List.contains_iff_mem.mp h5)
      | _ =>
        rw [ek] at h5
        cases h5
    have e2 : es.toList.any (·.refKey) = false := by
      rw [List.any_eq_false]
      intro e he q
      have h5 := h4 e he
      unfold DictEntry.refKey at q
      cases ek : e.key with
      | str y t =>
        rw [ek] at q
        cases q
      | _ =>
        rw [ek] at h5
        cases h5
    show (match es.toList.find? (·.key.isStr z) with
      | some e => some (some e.val)
      | none => if es.toList.any (·.refKey) then none else some none) = some none
    rw [e1, e2]
    rfl
  · have h3 := List.all_eq_true.mp h2 p hp
    split at h3
    · rename_i i t e
      rw [e]
      exact ⟨t, by rw [of_decide_eq_true h3]⟩
    · cases h3
section
variable {X : Cx} {x : Str} {kvs : List (Str × Int)} {pos : Pos}
theorem pe_kd (D : Kd X.w X.K X.mg x kvs) (hg : Gl X x := by rfl) (hd : (x == ("__debug__" : Str)) = false := by decide) : PE X (.Name x pos) (tC (.ref (He.ga X.K x))) := pe_glob hg D.g rfl hd
def rInK (K : PySem.W.Frag) (x : Str) (kvs : List (Str × Int)) : R2 := fun a b H Q => ∃ z, a = .str z ∧ b = .ref (He.ga K x) ∧ Q (.bl (decide (z ∈ kvs.map (·.1)))) H
def rNotInK (K : PySem.W.Frag) (x : Str) (kvs : List (Str × Int)) : R2 := fun a b H Q => ∃ z, a = .str z ∧ b = .ref (He.ga K x) ∧ Q (.bl (!decide (z ∈ kvs.map (·.1)))) H
theorem Kd.look {w : World} {K : PySem.W.Frag} {mg : Str → Option Value} (D : Kd w K mg x kvs) (z : Str) : ∃ r, PySem.W.nsIn K (He.ga K x) z = some r ∧ r.isSome = decide (z ∈ kvs.map (·.1)) := by
  by_cases h : z ∈ kvs.map (·.1)
  · obtain ⟨p, hp, rfl⟩ := List.mem_map.mp h
    obtain ⟨t, e⟩ := D.ys p hp
    exact ⟨_, e, by rw [decide_eq_true h]; rfl⟩
  · exact ⟨_, D.no z h, by rw [decide_eq_false h]; rfl⟩
theorem op_inK (D : Kd X.w X.K X.mg x kvs) : OpR X (compareOp .In) (rInK X.K x kvs) := by
  intro pins s σ H a b v u Q I ra rb h
  obtain ⟨z, rfl, rfl, q⟩ := h
  obtain ⟨es, n, kd⟩ := D.kd
  obtain ⟨r, e1, e2⟩ := D.look z
  exact op_in_kd kd pins s σ H _ _ v u Q I ra rb ⟨z, r, rfl, rfl, e1, by rw [e2]; exact q⟩
theorem op_notInK (D : Kd X.w X.K X.mg x kvs) : OpR X (compareOp .NotIn) (rNotInK X.K x kvs) := by
  intro pins s σ H a b v u Q I ra rb h
  obtain ⟨z, rfl, rfl, q⟩ := h
  obtain ⟨es, n, kd⟩ := D.kd
  obtain ⟨r, e1, e2⟩ := D.look z
  exact op_notIn_kd kd pins s σ H _ _ v u Q I ra rb ⟨z, r, rfl, rfl, e1, by rw [e2]; exact q⟩
end
end Rd
namespace Rd
open PySem L2
theorem at0 {X : Cx} {σ : St} : PassesAt CX0 X σ E0 := fun _ _ _ _ _ _ h => h.elim
theorem back_of {X : Cx} {pins : List (Addr × Obj)} {σ : St} {Q : VK} {v : Value} {s : Shared} (h : EP X pins σ Q v s) : PySem.W.CmpBack (EP X pins σ Q) v s := by
  obtain ⟨x, H', I', r, q⟩ := id h
  cases v with
  | notImplemented =>
    cases x with
    | non => cases r
    | bl b => cases r
    | int i => obtain ⟨t, e⟩ := r; cases e
    | str z => obtain ⟨t, e⟩ := r; cases e
    | byt b => obtain ⟨t, e⟩ := r; cases e
    | flt b => obtain ⟨t, e⟩ := r; cases e
    | ref a => cases r
    | ty n => cases r
  | _ => exact h
def tBo (C : Addr) (sp : Sp) (E : St → XK) (ta tb : TE) : TE := fun σ H Q => ta σ H fun x H1 => tb σ H1 fun y H2 => ∃ a b dx dy fs gs, x = .ref a ∧ y = .ref b ∧ H2 a = some (.ins C dx fs) ∧ H2 b = some (.ins C dy gs) ∧ sp [.ref a, .ref b] H2 Q (E σ)
def tUo (C : Addr) (sp : Sp) (E : St → XK) (ta : TE) : TE := fun σ H Q => ta σ H fun x H1 => ∃ a dx fs, x = .ref a ∧ H1 a = some (.ins C dx fs) ∧ sp [.ref a] H1 Q (E σ)
section
variable {X : Cx} {CX : CXT} {k : Nat} {ps : List Str} {sp : Sp} {E : St → XK} {c m : Str} {pos : Pos} {a b : Expr} {ta tb : TE}
theorem pe_bo {op : Operator} (ha : PE X a ta) (hb : PE X b tb) (sf : PySem.W.selfFirst X.K (He.ga X.K c) = true) (F : Fm X.prog X.w X.K X.mg X.base CX k c m ps sp) (hr : Room k X.A) (hx : ∀ σ, PassesAt CX X σ (E σ)) (hm : PySem.dunder op.info.2 = m := by decide +kernel) :
    PE X (.BinOp a op b pos) (tBo (He.ga X.K c) sp E ta tb) := by
  obtain ⟨⟨fd, f1, b1⟩, me⟩ := F
  refine ⟨fun pins s σ H Q I h => ?_⟩
  refine wpAny_BinOp (binT ha hb I h fun v u s2 x y H2 I2 rx ry q => ?_)
  obtain ⟨p, r, dx, dy, fs, gs, rfl, rfl, hp, hr2, q⟩ := q
  cases rx
  cases ry
  obtain ⟨mA, J, _⟩ := ins_get I2.hok hp
  obtain ⟨mB, J', _⟩ := ins_get I2.hok hr2
  obtain ⟨od, J, _⟩ := J.look
  obtain ⟨od', J', _⟩ := J'.look
  obtain ⟨mm, hF⟩ := I2.fr
  refine PySem.W.binop_K hF I2.ok.mod.kin J J'.type sf (by rw [hm]; exact me.at_) me.fn (thn (run_fnS (vs := [.ref p, .ref r]) (E := E) f1 hr b1 (hx σ) I2 (.cons rfl (.cons rfl .nil)) q) fun v s' hq => back_of hq)
theorem pe_uo {op : UnaryOp} (ha : PE X a ta) (F : Fm X.prog X.w X.K X.mg X.base CX k c m ps sp) (hr : Room k X.A) (hx : ∀ σ, PassesAt CX X σ (E σ))
    (hm : (op = .Invert ∧ m = "__invert__") ∨ (op = .UAdd ∧ m = "__pos__") ∨ (op = .USub ∧ m = "__neg__")) : PE X (.UnaryOp op a pos) (tUo (He.ga X.K c) sp E ta) := by
  obtain ⟨⟨fd, f1, b1⟩, me⟩ := F
  refine ⟨fun pins s σ H Q I h => ?_⟩
  refine PyProof.Rows.UnaryOp_ (thn (ha.run pins s σ H _ I h) fun v s1 ⟨x, H1, I1, r1, q1⟩ => ?_)
  obtain ⟨p, dx, fs, rfl, hp, q⟩ := q1
  cases r1
  obtain ⟨mA, J, _⟩ := ins_get I1.hok hp
  obtain ⟨od, J, _⟩ := J.look
  have go : wpAny (model X.prog X.w) X.A (callSpecial? (.ref p) m) (fun r s' => ∃ v, r = some v ∧ EP X pins σ Q v s') X.xe s1 :=
    PySem.W.special_fn I1.kIn J me.at_ (beq_iff_eq.mp me.fn) (thn (run_fnS (vs := [.ref p]) (E := E) f1 hr b1 (hx σ) I1 (.cons rfl .nil) q) fun v s' hq => ⟨v, rfl, hq⟩)
  unfold unaryOp
  refine wpAny_holding ?_
  rcases hm with ⟨rfl, rfl⟩ | ⟨rfl, rfl⟩ | ⟨rfl, rfl⟩
  · refine wpAny_bind (thn go fun r s' ⟨v, e, hq⟩ => ?_)
    subst e
    exact wpAny_pure hq
  · refine wpAny_bind (thn go fun r s' ⟨v, e, hq⟩ => ?_)
    subst e
    exact wpAny_pure hq
  · refine wpAny_bind (thn go fun r s' ⟨v, e, hq⟩ => ?_)
    subst e
    exact wpAny_pure hq
end
end Rd
namespace Rd
open PySem L2
theorem in_strs (z : Str) : ∀ l : List Str, inV (.str z) (l.map V.str) = decide (z ∈ l)
  | [] => by simp [inV]
  | a :: r => by
    have ih := in_strs z r
    unfold inV at ih ⊢
    rw [List.map_cons, List.any_cons, ih]
    show ((a == z) || _) = _
    by_cases h : a = z
    · subst h
      simp
    · have e : (a == z) = false := by simpa using h
      rw [e, Bool.false_or]
      have h' : z ≠ a := fun q => h q.symm
      simp [h']
theorem flat_strs : ∀ l : List Str, (l.map V.str).all flatV = true
  | [] => rfl
  | a :: r => by rw [List.map_cons, List.all_cons, flat_strs r]; rfl
section
variable {X : Cx}
def rInT (K : PySem.W.Frag) : R2 := fun x y H Q => ∃ (z : Str) (p : Addr) (l : List Str), x = .str z ∧ y = .ref p ∧ SqT K H p (l.map V.str) ∧ Q (.bl (decide (z ∈ l))) H
def rNotInT (K : PySem.W.Frag) : R2 := fun x y H Q => ∃ (z : Str) (p : Addr) (l : List Str), x = .str z ∧ y = .ref p ∧ SqT K H p (l.map V.str) ∧ Q (.bl (!decide (z ∈ l))) H
theorem op_inT : OpR X (compareOp .In) (rInT X.K) := by
  intro pins s σ H x y v u Q I rx ry h
  obtain ⟨z, p, l, rfl, rfl, hs, q⟩ := h
  exact op_in_seq pins s σ H _ _ v u Q I rx ry ⟨p, _, rfl, .inr hs, rfl, flat_strs l, by show Q (.bl (inV _ _)) H; rw [in_strs]; exact q⟩
theorem op_notInT : OpR X (compareOp .NotIn) (rNotInT X.K) := by
  intro pins s σ H x y v u Q I rx ry h
  obtain ⟨z, p, l, rfl, rfl, hs, q⟩ := h
  exact op_notIn_seq pins s σ H _ _ v u Q I rx ry ⟨p, _, rfl, .inr hs, rfl, flat_strs l, by show Q (.bl (!inV _ _)) H; rw [in_strs]; exact q⟩
end
end Rd
namespace Rd
open PySem L2
theorem passN {X : Cx} : Passes (L2N.CX X.prog X.w) X E0 := fun _ _ _ _ _ _ _ h => by
  obtain ⟨_, _, _, _, _, _, _, _, _, _, _, _, z⟩ := h
  exact z.elim
theorem atN {X : Cx} {σ : St} : PassesAt (L2N.CX X.prog X.w) X σ E0 := fun _ _ _ _ _ I h => passN _ _ _ _ _ _ I h
section
variable {X : Cx} {k : Nat} {x f c m : Str} {p pos apos : Pos} {e o : Expr} {te : TE} {ta : TA} {ps : List Str} {sp : Sp} {CX : CXT} {to : TE}
theorem pmk_xN {es : List Expr} {q : Str} {st : Stmt} (T : Xh X.K X.mg x f q st) (Fq : Fm X.prog X.w X.K X.mg X.base CX0 k x "__init__" ps sp) (hr : Room (k + 1) X.A) (hg : Gl X x) (ha : PA X (e :: es) ta)
    (hdb : (x == ("__debug__" : Str)) = false := by decide) (he : starEach (e :: es) X.env = (false, eval e X.env) :: starEach es X.env := by rfl) (hpl : (backTo pos (starEach es X.env)).any (·.1) = false := by rfl) :
    L2N.PMk X (.Call (.Name x p) (e :: es) [] pos) (tMkO (He.ga X.K x) sp [] ta) := by
  obtain ⟨⟨fd, F1, hb⟩, me⟩ := Fq
  intro pins s σ H Q I h
  obtain ⟨nm, q', N, bs, bm, sn, sub, ab, col, dd, k0, k1, k2, k3, k5, hC, hbm⟩ := T.oex.cls
  refine wpAny_Call_Name_kw (ld_glob I hg T.g ?_ hdb)
  refine PySem.W.callWith_K (h₀ := X.base) I.ok.mod.kin T.oex.kC (thn (ha.run pos pins s σ H _ I h) fun us s1 ⟨vs, H1, I1, r1, hz, q1⟩ => ⟨I1.kIn, ?_⟩) he hpl
  show wpAny _ _ (call (.ref (He.ga X.K x)) us) _ _ _
  obtain ⟨hp, g, dr, tk, os⟩ := s1
  have hsz : hp.objs.size ≤ hp.objs.size + 1 := Nat.le_succ _
  have hn : H1 (hp.objs.size + 1) = none := I1.hok.fresh hsz
  have hq := q1 (hp.objs.size + 1) hn
  rw [List.append_nil] at hq
  have kk : ∀ b o, hp.get? b = some o → ((hp.push (PySem.W.kdv_tup us)).push (PySem.HandSPX.excO (He.ga X.K x) hp.objs.size)).get? b = some o := fun b o e => Heap.get?_push_of_some _ (Heap.get?_push_of_some _ e)
  have hget : ((hp.push (PySem.W.kdv_tup us)).push (PySem.HandSPX.excO (He.ga X.K x) hp.objs.size)).get? (hp.objs.size + 1) = some (PySem.HandSPX.excO (He.ga X.K x) hp.objs.size) := by heap_get
  have I2 : Inv X pins σ (upd H1 (hp.objs.size + 1) (exo (hp.objs.size + 1) (He.ga X.K x) none)) ⟨(hp.push (PySem.W.kdv_tup us)).push (PySem.HandSPX.excO (He.ga X.K x) hp.objs.size), g, dr, tk, os⟩ :=
    I1.laid (t' := tk) (a := hp.objs.size + 1) (o := exo (hp.objs.size + 1) (He.ga X.K x) none) (h' := (hp.push (PySem.W.kdv_tup us)).push (PySem.HandSPX.excO (He.ga X.K x) hp.objs.size)) kk hsz (exo_ok hget)
  have r2 : Vals (V.ref (hp.objs.size + 1) :: vs) (Value.ref (hp.objs.size + 1) :: us) := .cons rfl r1
  have hl : (Value.ref (hp.objs.size + 1) :: us).length = ps.length := by
    have e := r2.length
    rw [F1.len _ _ _ _ hq] at e
    exact e.symm
  have hus : us.length ≤ sizeLine := by
    rw [← Paired.length r1, sizeLine_eq]
    omega
  have hbt := hb ⟨(hp.push (PySem.W.kdv_tup us)).push (PySem.HandSPX.excO (He.ga X.K x) hp.objs.size), g, dr, tk, os⟩ (Value.ref (hp.objs.size + 1) :: us) I2.kIn (by rw [List.append_nil]; exact hl)
  rw [List.append_nil] at hbt
  refine wpAny_call (PySem.HandSPX.call_own PySem.F.excBase_ValueError (fun Y => PySem.HandSPX.refsVE_contains Y bm hbm) (I1.kIn _ _ hC) (PySem.W.looks_findIn I1.kIn me.at_) (fun self => PySem.W.bind_fn I1.kIn self (beq_iff_eq.mp me.fn)) hus
    (codeAny_mono (F1.run _ X.stack _ _ ⟨Value.ref (hp.objs.size + 1) :: us, []⟩ (Value.ref (hp.objs.size + 1) :: us) _ _ (fun _ _ _ => False) (hr.make (He.ga X.K x) us []) (I2.env0.make (He.ga X.K x) us []) hbt r2 hq) fun r s' hq' => ?_))
  cases r with
  | error er => exact hq'.elim
  | ok fl =>
    cases fl with
    | ret u =>
      obtain ⟨v, H2, os2, bare2, un2, hok2, rv, ev, d, fs, ea, ed, hd1, q2⟩ := hq'
      subst ev
      obtain ⟨h2, g2, d2, t2, os'⟩ := s'
      obtain ⟨t0, G, J, kG, ge, hoe, na⟩ := mk_end0 (d2 := d2) (t2 := t2) I1 hsz kk un2 hok2 os2 bare2 ea ed hd1
      exact ⟨rv, _, _, _, ⟨G, g2, d2, t2, os'⟩, _, .ref (He.ga X.K x), some d, rfl, J, kG, ge, hoe, ⟨rfl, rfl, fun vs e => by cases e; rfl⟩, rfl, rfl, na, rfl, bare2, raises_own T.oex.exC T.oex.tyC, q2⟩
    | next => exact False.elim hq'
    | brk => exact False.elim hq'
    | cont => exact False.elim hq'
end
end Rd
namespace Rd
open PySem L2
structure IsiC (K : PySem.W.Frag) (C : Addr) : Prop where
  ha : PySem.W.findIn K (.ref C) "__class__" = some (some (.builtin "object.__class__"))
  hn : PySem.W.specialIn K (.builtin "object.__class__") "__get__" = some (some (.builtin "getset_descriptor.__get__"))
  htk : PySem.W.takesIn K (.builtin "object.__class__") = some true
  hm : PySem.W.mroIn K C (.type "object") = some true
  ne : PySem.W.findIn K (.ref C) "__ne__" = some (some (.builtin "object.__ne__"))
theorem IsiC.ty {K : PySem.W.Frag} {C : Addr} (h : IsiC K C) (cl : Cls K C) {H : Hp} {a dx : Addr} {fs : List (Str × V)} (e : H a = some (.ins C dx fs)) : TyX K H (.ref a) (.ref C) := .base (.ins e cl h.ha h.hn h.htk h.hm)
end Rd
namespace Rd
open PySem L2
def sfn (K : PySem.W.Frag) (c m : Str) : Addr := He5.wf K (He.ga K c) "staticmethod" m
structure Sh (K : PySem.W.Frag) (mg : Str → Option Value) (c m q : Str) (st : Stmt) : Prop where
  ex : ∃ fd, FunD K m q (defArgs st) (defBody st) (defScope st) [] [] (sfn K c m) fd
  g : mg c = some (.ref (He.ga K c))
  at_ : PySem.W.findCls K (.ref (He.ga K c)) (.type "type") m = some (.get (.builtin "staticmethod.__get__") (.ref (He.ma K (He.ga K c) m)) .none (.ref (He.ga K c)))
  rc : ∃ rest, PySem.W.recIn K (He.ma K (He.ga K c) m) "staticmethod" = some (.ref (sfn K c m) :: rest)
  sga : PySem.W.specialIn K (.ref (He.ga K c)) "__getattribute__" = some (some (.builtin "type.__getattribute__"))
  ty : PySem.W.typeIn K (.ref (He.ga K c)) = some (.type "type")
  rd : PySem.W.readsIn K (He.ga K c) (.type "type") = true
structure Fs (P : Program) (w : World) (K : PySem.W.Frag) (mg : Str → Option Value) (base : Heap) (CX : CXT) (k : Nat) (c m q : Str) (st : Stmt) (ps : List Str) (sp : Sp) : Prop where
  ex : ∃ fd, FnOk P w K mg base CX k (sfn K c m) fd ps sp ∧ Binds K fd ps [] ∧ PySem.W.keepIn K (.ref (sfn K c m)) = true
  sh : Sh K mg c m q st
section
variable {P : Program} {w : World} {K : PySem.W.Frag} {mg : Str → Option Value} {base : Heap} {CX : CXT} {k : Nat} {c m q : Str} {ps N : List Str} {sp : Sp} {st : Stmt}
theorem Sh.ok (F : Sh K mg c m q st) (S : FnScope N ps (defScope st))
    (hb : ∀ (kV doc pm : Value) (an : Option Addr) (cdv ct : Value) (us : List Value), us.length = ps.length → bindArgs (PySem.W.fnOf m q (defArgs st) (defBody st) (defScope st) .none kV doc pm an cdv ct) ⟨us, []⟩ = pure (ps.zip us))
    (len : ∀ vs H Q E, sp vs H Q E → vs.length = ps.length)
    (hbody : ∀ (cdv : Value) (A : Around) (outer : List Env) (s : Shared) (H : Hp) (vs : List V) (Q : VK) (E : XK), Room k (A.deeper (PyProof.Rows.envOfC q (defScope st) s.heap.objs.size (sfn K c m) cdv)) → sp vs H Q E →
      ∃ t, PSs (cxOf CX P w K mg base N q (defScope st) (sfn K c m) cdv A outer s H E) (defBody st) t ∧ t { nx := fun _ H' => Q .non H', rt := Q } (start N vs) H) : Fs P w K mg base CX (k + 1) c m q st ps sp := by
  obtain ⟨fd, F'⟩ := F.ex
  exact ⟨⟨fd, F'.ok S len hbody, F'.bindsN hb, F'.kp⟩, F⟩
end
abbrev AlZ : Type := AlY × He.AlD
structure SaysZ (fa : List He.Fa) (fn : List He.DefD) (ts : List He.Tab) (ex : PySem.W.Frag → Bool) (fs : List He5.DefA) (w : World) (K : PySem.W.Frag) : Prop where
  y : SaysY fa fn ts ex w K
  s : He5.SaysA [] fs K
def valZ (fn : List He.DefD) (ts : List He.Tab) (fs : List He5.DefA) (w : World) : AlZ := (valY fn ts w, He5.valA fs)
end Rd
namespace Rd
open PySem PySem.Spec PyProof.Rows L2
def kt (e : Int × Value) : Str := match e.2 with | .str x _ => x | _ => Str.empty
/-- a row of such a set -/
def GT (w : World) (e : Int × Value) : Prop := ∃ x t, e.2 = Value.str x t ∧ e.1 = hashStr w x
def addS (l : List Str) (x : Str) : List Str := if x ∈ l then l else x :: l
/-- what a table must be so that it can be walked -/
structure Tb (w : World) (n : Nat) (t : SetTable) : Prop where
  sm : n < scanBound
  ft : t.fits n = true
  ri : Ris t.place.toList
  ld : w.params.followText "set-order" = true ∨ t.led = true
/-- a set of the texts l (in any order) at a -/
structure SetS (w : World) (h : Heap) (a : Addr) (l : List Str) : Prop where
  nd : l.Nodup
  ex : ∃ o es ep t, h.get? a = some o ∧ o.ExactSet ∧ o.data = .set es ep t ∧ (∀ e ∈ es.toList, GT w e) ∧ (es.toList.map kt).Perm l ∧ Tb w es.size t
theorem SetS.at {w : World} {h h' : Heap} {a : Addr} {l : List Str} (R : SetS w h a l) (k : ∀ o, h.get? a = some o → h'.get? a = some o) : SetS w h' a l := by
  obtain ⟨nd, o, es, ep, t, ho, r⟩ := R
  exact ⟨nd, o, es, ep, t, k o ho, r⟩
section
variable {P : Program} {w : World}
theorem gt_is {e : Int × Value} (g : GT w e) (x : Str) : (PySem.strKind P w).is x e.2 = true ↔ kt e = x := by
  obtain ⟨y, t, h1, _⟩ := g
  unfold kt
  rw [h1]
  show ((y == x) = true) ↔ y = x
  exact beq_iff_eq
theorem gt_elems {l : List (Int × Value)} (g : ∀ e ∈ l, GT w e) : ElemsOf (PySem.strKind P w) l := fun e he => by
  obtain ⟨x, t, h1, h2⟩ := g e he
  exact ⟨⟨x, by rw [h1]; exact strKind_is P w x t, h2⟩, by rw [h1] <;> rfl⟩
theorem gt_mem {l : List (Int × Value)} (g : ∀ e ∈ l, GT w e) (x : Str) : x ∈ l.map kt ↔ ∃ e ∈ l, (PySem.strKind P w).is x e.2 = true := by
  constructor
  · intro h
    obtain ⟨e, he, q⟩ := List.mem_map.mp h
    exact ⟨e, he, (gt_is (g e he) x).2 q⟩
  · rintro ⟨e, he, q⟩
    exact List.mem_map.mpr ⟨e, he, (gt_is (g e he) x).1 q⟩
theorem SetS.setOf {h : Heap} {a : Addr} {l : List Str} (R : SetS w h a l) : h.SetOf (PySem.strKind P w) a (fun x => decide (x ∈ l)) l.length := by
  obtain ⟨nd, o, es, ep, t, ho, hx, hd, g, pm, T⟩ := R
  refine ⟨o, es, ep, t, ho, hx, hd, gt_elems g, fun x => ?_, T.sm, T.ft, ?_⟩
  · rw [decide_eq_true_eq, ← pm.mem_iff]
    exact gt_mem g x
  · rw [← pm.length_eq, List.length_map, Array.length_toList]
theorem setS_fresh {h : Heap} {a : Addr} (ho : h.get? a = some { cls := .type "set", dict := none, data := .set #[] 0 (.fresh 0 0 (!w.params.followText "set-order")) }) : SetS w h a [] := by
  refine ⟨List.nodup_nil, _, #[], 0, _, ho, ⟨rfl, rfl, rfl⟩, rfl, (fun e he => by simp at he), List.Perm.refl _, (by decide), (by rfl), List.Pairwise.nil, ?_⟩
  show _ ∨ (!w.params.followText "set-order") = true
  cases w.params.followText "set-order" with
  | false => exact .inr rfl
  | true => exact .inl rfl
end
section
variable {P : Program} {w : World} {A : Around} {E : Value → Shared → Prop} {s : Shared} {a : Addr} {l : List Str}
theorem setS_tail {g : Bool → Sem Unit} (hg : ∀ (b : Bool) (s₁ : Shared) (Q' : Unit → Shared → Prop), Q' () s₁ → wpAny (model P w) A (g b) Q' E s₁)
    {o : Obj} {es e1 : Array (Int × Value)} {ep : Nat} {t t2 : SetTable} {m : List Str} (ho : s.heap.get? a = some o) (hx : o.ExactSet) (hd : o.data = .set es ep t)
    (g1 : ∀ e ∈ e1.toList, GT w e) (p1 : (e1.toList.map kt).Perm m) (nm : m.Nodup) (T : Tb w e1.size t2) {old : Bool} {R : Option Bool → Shared → Prop} (hR : ∀ h', Heap.SameBut a s.heap h' → SetS w h' a m → R (some true) { s with heap := h' }) :
    wpAny (model P w) A (do
        storeSet a e1 t2
        if (!old && t2.tooFull) = true then do
            g (relayAll t2 e1 (SetTable.grown e1.size)).2.2
            storeSet a (relayAll t2 e1 (SetTable.grown e1.size)).1 (relayAll t2 e1 (SetTable.grown e1.size)).2.1
            pure (some true)
          else pure (some true)) R E s := by
  refine wpAny_bind (wpAny_storeSet_of ho hd ?_ (fits_of_scanBound T.sm))
  have o1 := store_at (es' := e1) (t' := t2) ho hd
  have b1 := Heap.SameBut.update s.heap a (Obj.putSet e1 t2)
  split
  · have pm := relayAll_perm t2 e1 (SetTable.grown e1.size)
    have f3 := relayAll_fits t2 e1 (SetTable.grown e1.size)
    have r3 := relayAll_ris t2 e1 (SetTable.grown e1.size)
    have l3 := relayAll_led t2 e1 (SetTable.grown e1.size)
    generalize relayAll t2 e1 (SetTable.grown e1.size) = Z at pm f3 r3 l3 ⊢
    obtain ⟨e2, t3, gave⟩ := Z
    dsimp only at pm f3 r3 l3 ⊢
    have z2 : e2.size = e1.size := by rw [← Array.length_toList, pm.length_eq, Array.length_toList]
    have T3 : Tb w e2.size t3 := ⟨by rw [z2]; exact T.sm, f3, r3, T.ld.imp id fun z => by rw [l3]; exact z⟩
    refine wpAny_bind (hg _ _ _ ?_)
    refine wpAny_bind (wpAny_storeSet_of o1 rfl ?_ (fits_of_scanBound T3.sm))
    exact wpAny_pure (hR _ (b1.trans (Heap.SameBut.update _ a _)) ⟨nm, _, e2, _, t3, store_at (es' := e2) (t' := t3) o1 rfl, hx, rfl, fun e he => g1 e (pm.mem_iff.mp he), (pm.map kt).trans p1, T3⟩)
  · exact wpAny_pure (hR _ b1 ⟨nm, _, e1, _, t2, o1, hx, rfl, g1, p1, T⟩)
theorem setS_addH {x : Str} {tk : Tok} {Q : Bool → Shared → Prop} (R : SetS w s.heap a l) (room : l.length + 1 < scanBound)
    (hQ : ∀ b h', Heap.SameBut a s.heap h' → SetS w h' a (addS l x) → Q b { s with heap := h' }) : wpAny (model P w) A (setAddHashed a (.str x tk) ((PySem.strKind P w).hash x)) Q E s := by
  obtain ⟨nd, o, es, ep, t, ho, hx, hd, g, pm, T⟩ := R
  have sc : (Value.str x tk).scannable = true := rfl
  have el : ElemsOf (PySem.strKind P w) es.toList := gt_elems g
  have zl : es.size = l.length := by rw [← pm.length_eq, List.length_map, Array.length_toList]
  unfold setAddHashed setAddHashedIn
  refine wpAny_holding (wpAny_bind (wpAny_setState_of ho hd T.ft ?_))
  dsimp only
  rw [byScan_of sc T.sm el]
  simp only [↓reduceIte]
  unfold setAddByScan
  refine wpAny_bind ?_
  refine wpAny_bind (wpAny_rule ?_)
  refine wpAny_bind (wpAny_setScan_of (strKind_is P w x tk) ho hd T.ft el ?_)
  cases fi : List.findIdx? (fun e => (PySem.strKind P w).is x e.2) es.toList with
  | some j =>
    dsimp only
    obtain ⟨hj, pj, _⟩ := List.findIdx?_eq_some_iff_getElem.mp fi
    have inl : x ∈ l := pm.mem_iff.mp ((gt_mem (P := P) g x).2 ⟨es.toList[j], List.getElem_mem hj, pj⟩)
    have e : addS l x = l := if_pos inl
    exact wpAny_pure (wpAny_pure (hQ _ s.heap (Heap.SameBut.refl a s.heap) (by rw [e]; exact ⟨nd, o, es, ep, t, ho, hx, hd, g, pm, T⟩)))
  | none =>
    dsimp only
    have nin : x ∉ l := fun z => by
      obtain ⟨e, he, q⟩ := (gt_mem (P := P) g x).1 (pm.mem_iff.mpr z)
      have c := List.findIdx?_eq_none_iff.mp fi e he
      rw [q] at c
      cases c
    have ea : addS l x = x :: l := if_neg nin
    rw [ea] at hQ
    have nm : (x :: l).Nodup := List.nodup_cons.mpr ⟨nin, nd⟩
    have gw : ∀ (b : Bool) {s₁ : Shared} {Q' : Unit → Shared → Prop}, Q' () s₁ → wpAny (model P w) A (match b with | true => rule "set.scan.the-table-gave-way" | false => pure ()) Q' E s₁ :=
      fun b s₁ Q' q => by cases b <;> first | exact wpAny_pure q | exact wpAny_rule q
    have pq := layNew_perm t es ((PySem.strKind P w).hash x) (.str x tk)
    have f1 := layNew_fits t es ((PySem.strKind P w).hash x) (.str x tk)
    have r1 := layNew_ris t es ((PySem.strKind P w).hash x) (.str x tk) T.ri
    have l1 := layNew_led t es ((PySem.strKind P w).hash x) (.str x tk)
    generalize layNew t es ((PySem.strKind P w).hash x) (.str x tk) = Z at pq f1 r1 l1 ⊢
    obtain ⟨e1, t1, old, gave⟩ := Z
    dsimp only at pq f1 r1 l1 ⊢
    rw [Array.toList_push] at pq
    have pc : e1.toList.Perm (((PySem.strKind P w).hash x, Value.str x tk) :: es.toList) := pq.trans (List.perm_append_singleton _ _)
    have p1 : (e1.toList.map kt).Perm (x :: l) := (pc.map kt).trans (pm.cons x)
    have g1 : ∀ e ∈ e1.toList, GT w e := fun e he => by
      rcases List.mem_cons.mp (pc.mem_iff.mp he) with z | z
      · rw [z]; exact ⟨x, tk, rfl, rfl⟩
      · exact g e z
    have z1 : e1.size = l.length + 1 := by rw [← Array.length_toList, pc.length_eq, List.length_cons, Array.length_toList, zl]
    have s1 : e1.size < scanBound := by rw [z1]; exact room
    have ld : w.params.followText "set-order" = true ∨ t1.led = true := T.ld.imp id fun z => by rw [l1]; exact z
    refine wpAny_bind (gw _ ?_)
    split
    · refine wpAny_bind ?_
      rw [hashByValue_scannable 8 sc]
      refine wpAny_pure ?_
      refine setS_tail ?_ ho hx hd g1 p1 nm ⟨s1, ?_, ?_, ?_⟩ ?_
      · intro b s₁ Q' q; cases b <;> first | exact wpAny_pure q | exact wpAny_rule q
      · first | (split <;> first | exact f1 | exact SetTable.fits_plain_off f1) | exact f1
      · first | (split <;> exact r1) | exact r1
      · first | (split <;> exact ld) | exact ld
      · intro h' sb r; dsimp only; exact wpAny_pure (hQ _ h' sb r)
    · refine wpAny_bind (wpAny_pure ?_)
      simp only [↓reduceIte]
      refine setS_tail ?_ ho hx hd g1 p1 nm ⟨s1, f1, r1, ld⟩ ?_
      · intro b s₁ Q' q; cases b <;> first | exact wpAny_pure q | exact wpAny_rule q
      · intro h' sb r; dsimp only; exact wpAny_pure (hQ _ h' sb r)
/-- found.add(x) -/
theorem setS_add {x : Str} {tk : Tok} {Q : Value → Shared → Prop} (R : SetS w s.heap a l) (room : l.length + 1 < scanBound)
    (hQ : ∀ h', Heap.SameBut a s.heap h' → SetS w h' a (addS l x) → Q .none { s with heap := h', toks := s.toks + 1 }) : wpAny (model P w) A (call (.builtin "set.add") [.ref a, .str x tk]) Q E s := by
  refine wpAny_call_entry F.slot_set_add (R.setOf (P := P)).typeIs F.entry_set_add ?_ (F.args_set_add_2 _ _)
  unfold Builtin.«set.add» Builtin.Frozenset.oneOther
  simp only [List.isEmpty_nil, bind_assoc]
  unfold Builtin.Frozenset.addrOf setAdd
  refine wpAny_bind (wpAny_pure ?_)
  try dsimp only
  refine wpAny_bind (wpAny_pure ?_)
  try dsimp only
  refine wpAny_bind (wpAny_holding (wpAny_bind ((PySem.strKind P w).pyHash (strKind_is P w x tk) ?_)))
  refine setS_addH (s := { s with toks := s.toks + 1 }) R room fun b h' sb r => ?_
  show wpAny _ _ (ret Value.none) _ _ _
  exact wpAny_pure ⟨_, rfl, hQ h' sb r⟩
end
def SetSO (w : World) (a : Addr) (l : List Str) : HO := .ext fun h => SetS w h a l
theorem setSO_new {w : World} {P : Program} {H : Hp} {h : Heap} {a : Addr} {l : List Str} (R : SetS w h a l) : ObjOk P w H h a (SetSO w a l) := by
  have ⟨_, o, _, _, _, ho, _⟩ := R
  exact ⟨R, ⟨o, ho⟩, fun h1 h2 p k => SetS.at p k⟩
section
variable {X : Cx}
theorem setSO_get {pins : List (Addr × Obj)} {σ : L2.St} {H : Hp} {s : Shared} {a : Addr} {l : List Str} (I : Inv X pins σ H s) (ha : H a = some (SetSO X.w a l)) : SetS X.w s.heap a l := (I.hok a _ ha).1
theorem addS_ok {pins : List (Addr × Obj)} {σ : L2.St} {H : Hp} {s : Shared} {E : Value → Shared → Prop} {D : Addr} {l : List Str} {x : Str} {tk : Tok} {Q : Value → Shared → Prop} (I : Inv X pins σ H s) (hD : H D = some (SetSO X.w D l)) (room : l.length + 1 < scanBound)
    (h : ∀ s', Inv X pins σ (upd H D (SetSO X.w D (addS l x))) s' → Q .none s') : wpAny (model X.prog X.w) X.A (call (.builtin "set.add") [.ref D, .str x tk]) Q E s := by
  refine setS_add (setSO_get I hD) room fun h' sb new => ?_
  have he : ∃ u, h'.get? D = some u := by
    have ⟨_, o, _, _, _, ho, _⟩ := new
    exact ⟨o, ho⟩
  exact h _ (I.write (e := D) (t' := s.toks + 1) (by rw [hD]; trivial) (.inl rfl) (fun b u hb hu => (sb.2 b hb).trans hu) he (setSO_new new))
end
end Rd
namespace Rd
open PySem PySem.Spec PyProof.Rows L2
def tScS (w : World) (wi : TI) (g : TG) (tt : TT) (te : TE) (vs : List Nat) : TE := fun σ H Q => wi σ H fun J H1 => ∀ D, H1 D = none → ∃ W : Nat → Nat → Hp → Prop, (∃ m, W 0 m (upd H1 D (SetSO w D []))) ∧ ∀ i m H, W i m H →
  (J.stop i H ∧ Q (.ref D) H) ∨ (J.go i H ∧ ∃ Nx : Hp → Prop, (∀ H', Nx H' → ∃ m', m' < m ∧ W (i + 1) m' H') ∧ ∀ x H', J.yld i H x H' → g x (wipe σ vs) H' fun σ2 H2 => wipe σ2 vs = wipe σ vs ∧ tt σ2 H2 fun b H3 =>
    if b = true then te σ2 H3 fun y H4 => ∃ (c : Str) (l : List Str), y = .str c ∧ H4 D = some (SetSO w D l) ∧ l.length + 1 < scanBound ∧ Nx (upd H4 D (SetSO w D (addS l c))) else Nx H3)
section
variable {X : Cx}
theorem pe_scS {elt tg iter : Expr} {ifs : List Expr} {scope : Scope} {own : List (PySem.Str × Nat)} {pos : Pos} {wi : TI} {g : TG} {tt : TT} {te : TE} (hc : X.calm = true) (hN : X.N.Nodup) (hi : PI X tg iter wi) (ok : BlkOk X.N X.env.scope scope own)
    (hg : ∀ (s : Shared) (H : Hp) (C : Addr) (cl : List (PySem.Str × Addr)) (fp : List Addr), PG (X.blk s H scope (compEnvC scope cl C X.env) fp) tg g) (ht : ∀ (s : Shared) (H : Hp) (C : Addr) (cl : List (PySem.Str × Addr)) (fp : List Addr), PTs (X.blk s H scope (compEnvC scope cl C X.env) fp) ifs tt)
    (he : ∀ (s : Shared) (H : Hp) (C : Addr) (cl : List (PySem.Str × Addr)) (fp : List Addr), PE (X.blk s H scope (compEnvC scope cl C X.env) fp) elt te) (hs : ∀ x, foldedSetIterable iter X.env x = pure x := by intro _; rfl) :
    PE X (.SetComp elt [⟨tg, iter, ifs, 0⟩] scope pos) (tScS X.w wi g tt te (own.map (·.2))) := by
  refine ⟨fun pins s σ H Q I h => ?_⟩
  rw [PpSet.eval_SetComp]
  have hfree : ∀ y ∈ scope.names, y.2 = .free → ∃ c, X.env.cells.lookup y.1 = some c := fun y hy e => (ok.free y hy e).elim (fun k => I.ok.has _ (.inl k)) fun k => I.ok.has _ (.inr k)
  refine wpAny_comprehension_free (use := none) rfl hs (closure_ok hfree) ok.kind (fun y hy e => by rw [ok.uniq y hy, e]) (thn (hi.run pins s σ H _ I h) fun xv s1 hx => thn hx fun itv s2 h2 => ?_)
  obtain ⟨it, fp, tn, J, H2, e, I2, T, st2, f2, q⟩ := h2
  subst e
  refine PpSet.newSet_ok (newEnv_comp ?_)
  generalize hD : s2.heap.objs.size = D
  have Dn : H2 D = none := I2.hok.fresh (Nat.le_of_eq hD)
  obtain ⟨W, ⟨m0, w0⟩, turn⟩ := q D Dn
  generalize hO : ({ cls := .type "set", dict := none, data := .set #[] 0 (.fresh 0 0 (!X.w.params.followText "set-order")) } : Obj) = ob
  generalize e3 : ({ s2 with heap := s2.heap.push ob } : Shared) = s3
  have h3 : s3.heap = s2.heap.push ob := by rw [← e3]
  have I3 : Inv X pins σ (upd H2 D (SetSO X.w D [])) s3 := by
    rw [← e3]
    refine I2.laid (t' := s2.toks) (fun b o e => Heap.get?_push_of_some _ e) (Nat.le_of_eq hD) (setSO_new (setS_fresh ?_))
    rw [← hD, ← hO]
    exact Heap.get?_push_size _ rfl
  have f3 : ∀ b ∈ fp, FpOk X pins (upd H2 D (SetSO X.w D [])) b ∧ b < s3.heap.objs.size := fun b hb => by
    obtain ⟨o, e, _⟩ := T.obj _ _ st2 b hb
    have lt := Heap.lt_size e
    refine ⟨⟨?_, (f2 b hb).2⟩, by rw [h3, Heap.size_push]; exact Nat.lt_succ_of_lt lt⟩
    rw [upd_ne (by rw [← hD]; exact Nat.ne_of_lt lt)]
    exact (f2 b hb).1
  have st3 : tn 0 s3.heap := T.keep _ _ _ st2 fun b _ o e => by rw [h3]; exact Heap.get?_push_of_some _ e
  have I4 := block_start I3 ok hN f3
  have pg := hg s3 (upd H2 D (SetSO X.w D [])) s3.heap.objs.size (cellsFrom (s3.heap.objs.size + 1) scope.names (cloFrom X.env.cells scope.names [])) fp
  have pt := ht s3 (upd H2 D (SetSO X.w D [])) s3.heap.objs.size (cellsFrom (s3.heap.objs.size + 1) scope.names (cloFrom X.env.cells scope.names [])) fp
  have pe := he s3 (upd H2 D (SetSO X.w D [])) s3.heap.objs.size (cellsFrom (s3.heap.objs.size + 1) scope.names (cloFrom X.env.cells scope.names [])) fp
  show codeAny _ _ (.compStart (.SetComp elt [⟨tg, iter, ifs, 0⟩] scope pos) 0 (.ref it) (.ref D) (compEnvC scope (cellsFrom (s3.heap.objs.size + 1) scope.names (cloFrom X.env.cells scope.names [])) s3.heap.objs.size X.env)) _ { s3 with heap := pushCells (s3.heap.push { cls := .type "dict", data := .dict #[] }) scope.names }
  have nfp : ∀ b ∈ fp, (upd H2 D (SetSO X.w D [])) b = none := fun b hb => (f3 b hb).1.1
  generalize hce : compEnvC scope (cellsFrom (s3.heap.objs.size + 1) scope.names (cloFrom X.env.cells scope.names [])) s3.heap.objs.size X.env = ce at I4 pg pt pe ⊢
  have cL : ce.locals = s3.heap.objs.size := by subst hce; rfl
  generalize hH3 : upd H2 D (SetSO X.w D []) = H3 at I3 I4 pg pt pe w0 nfp f3
  generalize hs4 : ({ s3 with heap := pushCells (s3.heap.push { cls := .type "dict", data := .dict #[] }) scope.names } : Shared) = s4 at I4 ⊢
  have st4 : tn 0 s4.heap := T.keep _ _ _ st3 fun b _ o e => by rw [← hs4]; exact pushCells_keeps _ _ _ _ (Heap.get?_push_of_some _ e)
  have stat : ∀ {σ' : L2.St} {H' : Hp} {s' : Shared}, Inv (X.blk s3 H3 scope ce fp) [] σ' H' s' → (∀ b ∈ fp, H' b = none) → ∀ b ∈ fp, FpOk (X.blk s3 H3 scope ce fp) [] H' b := fun {σ' H' s'} I' hn b hb =>
    ⟨hn b hb, (I'.ok.exf b hb).1, I'.ok.exfs b hb, .inl hb, fun x c e => (I'.ok.exf b hb).2 x c e, fun p hp => absurd (show p ∈ ([] : List (Addr × Obj)) ++ [] from hp) (by simp)⟩
  have loop : codeAny (model X.prog X.w) X.A (.compLoop (.SetComp elt [⟨tg, iter, ifs, 0⟩] scope pos) 0 (.ref it) (.ref D) ce) (compPost (model X.prog X.w) X.A X.xe none (EP X pins σ Q) (.ref D) s3.heap.objs.size) s4 := by
    refine PpSet.compLoopS_any (fun n s' => ∃ i H', Inv (X.blk s3 H3 scope ce fp) [] (wipe σ (own.map (·.2))) H' s' ∧ tn i s'.heap ∧ (∀ b ∈ fp, H' b = none) ∧ W i n H') ?_ m0 ⟨0, H3, I4, st4, nfp, w0⟩
    rintro n s5 ⟨i, H5, I5, st5, n5, w5⟩
    rcases turn i n H5 w5 with ⟨stop, qq⟩ | ⟨go, Nx, hNx, step⟩
    · refine thnF (T.done (X.blk s3 H3 scope ce fp) rfl rfl rfl hc i [] s5 _ H5 (fun _ _ => False) I5 (stat I5 n5) st5 stop) fun r s6 ⟨hr, I6⟩ => ?_
      subst hr
      have I7 : Inv X pins σ H5 s6 := I3.call' (ch := fp) I6.os I6.base I6.hok I6.bare fun b hb => ⟨(f3 b hb).1.2.2.2.1, (f3 b hb).1.2.1, (f3 b hb).1.2.2.2.2.1, (f3 b hb).1.2.2.2.2.2⟩
      have nC : H5 s3.heap.objs.size = none := by
        have z : H5 ce.locals = none := I6.free
        rw [cL] at z
        exact z
      obtain ⟨m, hn, _⟩ := I6.loc
      have hn : s6.heap.Ns ce.locals m := hn
      rw [cL] at hn
      refine ⟨m, hn, fun h'' sb => ?_⟩
      obtain ⟨g0, g1, g2, g3, g4, g5⟩ := I3.fpOk (Nat.le_refl _) nC
      exact ⟨.ref D, H5, I7.turned (t' := s6.toks) (fun b o hb e => (sb.2 b hb).trans e) g0 g1 g3 g4 g5, rfl, qq⟩
    · refine thnF (T.item (X.blk s3 H3 scope ce fp) rfl rfl rfl hc i [] s5 _ H5 (fun _ _ => False) I5 (stat I5 n5) st5 go) fun r s6 ⟨u, hr, h6⟩ => ?_
      subst hr
      refine thnF h6 fun _ s7 ⟨x, H7, I7, r7, y7, st7, n7⟩ => ?_
      refine thnF (pg.run _ s7 _ H7 x u _ (I7.pinned (stat I7 n7) (T.obj _ _ st7)) r7 (step x H7 y7)) fun _ s8 ⟨σ8, H8, I8, hw8, q8⟩ => ?_
      refine thnF (pt.run _ s8 σ8 H8 _ I8 q8) fun b s9 ⟨H9, I9, q9⟩ => ?_
      have fin : ∀ {s' : Shared} {H' : Hp}, Inv (X.blk s3 H3 scope ce fp) ([] ++ pinsAt fp s7.heap) σ8 H' s' → Nx H' → ∃ m, m < n ∧ ∃ i H', Inv (X.blk s3 H3 scope ce fp) [] (wipe σ (own.map (·.2))) H' s' ∧ tn i s'.heap ∧ (∀ b ∈ fp, H' b = none) ∧ W i m H' := fun {s' H'} I' nx => by
        obtain ⟨m', hm, w'⟩ := hNx H' nx
        have pin' : ∀ b ∈ fp, ∀ o, s7.heap.get? b = some o → s'.heap.get? b = some o ∧ H' b = none := fun b hb o e => by
          have z := I'.pin (b, o) (List.mem_append_right _ (List.mem_append_right _ (mem_pinsAt hb e)))
          exact ⟨z.1, z.2.1⟩
        refine ⟨m', hm, i + 1, H', (I'.unpinned (pins := [])).weak (by rw [← hw8, wipe_length]) (fun j v e => by rw [← hw8] at e; exact (wipe_some e).1), T.keep _ _ _ st7 fun b hb o e => (pin' b hb o e).1, fun b hb => ?_, w'⟩
        obtain ⟨o, e, _⟩ := T.obj _ _ st7 b hb
        exact (pin' b hb o e).2
      cases b with
      | false =>
        simp only [Bool.false_eq_true, if_false] at q9 ⊢
        exact fin I9 q9
      | true =>
        simp only [if_true] at q9 ⊢
        refine thnF (pe.run _ s9 σ8 H9 _ I9 q9) fun z s10 ⟨yv, H10, I10, r10, c, l, ey, hD10, hz10, nx⟩ => ?_
        subst ey
        obtain ⟨tk, rfl⟩ := r10
        exact addS_ok (X := X.blk s3 H3 scope ce fp) I10 hD10 hz10 fun s11 I11 => fin I11 nx
  exact PpSet.codeAny_compStart_set loop (T.self X.A 0 _ _ _ st4 loop)
end
section
variable {P : Program} {w : World} {A : Around} {E : Value → Shared → Prop} {s : Shared}
theorem strs_of : ∀ (l : List Value), (∀ v ∈ l, ∃ x t, v = Value.str x t) → ∃ xs, StrsAre l xs
  | [], _ => ⟨[], .nil⟩
  | v :: l, h => by
    obtain ⟨x, t, rfl⟩ := h v List.mem_cons_self
    obtain ⟨xs, g⟩ := strs_of l fun u hu => h u (List.mem_cons_of_mem _ hu)
    exact ⟨x :: xs, .cons x t g⟩
theorem strs_kt {es : List (Int × Value)} (g : ∀ e ∈ es, GT w e) : StrsAre (es.map (·.2)) (es.map kt) := by
  induction es with
  | nil => exact .nil
  | cons e r ih =>
    obtain ⟨x, t, h1, _⟩ := g e List.mem_cons_self
    have hk : kt e = x := by unfold kt; rw [h1]
    rw [List.map_cons, List.map_cons, h1, hk]
    exact .cons x t (ih fun e he => g e (List.mem_cons_of_mem _ he))
def rawS : Value → Str
  | .str x _ => x
  | _ => Str.empty
theorem strs_raw {l : List Value} {xs : List Str} (h : StrsAre l xs) : l.map rawS = xs := by
  induction h with
  | nil => rfl
  | cons x t _ ih => rw [List.map_cons, ih]; rfl
theorem sorted_setS {a : Addr} {l : List Str} {Q : Value → Shared → Prop} (R : SetS w s.heap a l) (hh : A.handled = none)
    (hQ : ∀ s' p (out : Array Value) (c : Nat) (ys : List Str), (∀ b o, s.heap.get? b = some o → s'.heap.get? b = some o) → s'.gens = s.gens → s'.os = s.os → s.heap.objs.size ≤ p →
      s'.heap.get? p = some (seqObj "list" out c) → StrsAre out.toList ys → ys.Perm l → sortedS ys = true → Q (.ref p) s') :
    wpAny (model P w) A (call (.builtin "sorted") [.ref a]) Q E s := by
  obtain ⟨nd, o, es, ep, t, ho, hx, hd, g, pm, T⟩ := R
  refine Calls.call_function_entry kind_sorted plain_sorted entry_sorted (args_sorted1 _) ?_
  unfold Builtin.«sorted»
  refine wpAny_bind (m := checkCount "sorted" 1 1 _) (wpAny_pure ?_)
  refine wpAny_bind (collect_set (A := A.in1) hh ⟨o, ho, hx.1, hd⟩ T.ft T.sm T.ri T.ld fun s1 vs k1 hz g1 o1 pv => ?_)
  have hvl : vs.length = es.size := by rw [pv.length_eq, List.length_map, Array.length_toList]
  obtain ⟨xs, hxs⟩ := strs_of vs fun v hv => by
    obtain ⟨e, he, q⟩ := List.mem_map.mp (pv.mem_iff.mp hv)
    obtain ⟨x, tk, h1, _⟩ := g e he
    exact ⟨x, tk, by rw [← q]; exact h1⟩
  have px : xs.Perm l := by
    rw [← strs_raw hxs]
    refine ((pv.map rawS).trans ?_).trans pm
    rw [strs_raw (strs_kt g)]
  have hvs : vs.length ≤ sizeLine := by rw [hvl]; exact fits_of_scanBound T.sm
  refine wpAny_bind (wpAny_newList ?_ hvs)
  have hoL : (s1.heap.push (seqObj "list" vs.toArray 0)).get? s1.heap.objs.size = some (seqObj "list" vs.toArray 0) := Heap.get?_push_size _ rfl
  refine wpAny_bind (wpAny_holding (wpAny_call_entry slot_list_sort ⟨_, hoL, rfl⟩ entry_list_sort (list_sort_treeKAny strKind_oneLt hoL hxs.keysOf (fun v₁ v₂ rest e => keyKind_strs (by rw [← e]; exact hxs)) hvs fun st' hp hs => ⟨_, rfl, ?_⟩) (args_list_sort _)))
  obtain ⟨ys, h1, h2, h3⟩ := sorted_out_str hxs hp hs
  obtain ⟨c, hc⟩ := sortedHeap_at (vs := vs) hoL
  refine wpAny_pure ⟨_, rfl, hQ _ s1.heap.objs.size _ c ys (fun b u e => ?_) g1 o1 hz hc h1 (h2.trans px) h3⟩
  have q := k1 b u e
  have hlt := Heap.lt_size q
  rw [sortedHeap_old (Nat.ne_of_lt hlt) (by rw [size_push']; exact Nat.lt_succ_of_lt hlt)]
  exact Heap.get?_push_of_some _ q
end
section
variable {X : Cx}
def rSortedSS (w : World) : List V → Hp → VK → Prop := fun vs H Q => ∃ (a : Addr) (l : List Str), vs = [V.ref a] ∧ H a = some (SetSO w a l) ∧
  ∀ (ys : List Str) (p : Addr), ys.Perm l → ys.Nodup → sortedS ys = true → H p = none → Q (.ref p) (upd H p (.lst (ys.map V.str)))
theorem cr_sortedSS (hc : X.calm = true) : CallR X (.builtin "sorted") (rSortedSS X.w) := by
  intro pins s σ H vs us Q I r h
  obtain ⟨a, l, rfl, ha, q⟩ := h
  have R := setSO_get I ha
  rw [Vals.ref1 r]
  have hl : l.length ≤ sizeLine := by
    have ⟨_, o, es, ep, t, _, _, _, _, pm, T⟩ := R
    rw [← pm.length_eq, List.length_map, Array.length_toList]
    exact fits_of_scanBound T.sm
  refine sorted_setS R (I.ok.hd hc) fun s' p out c ys k g o hp hgt hi pm hs => ?_
  have hlen : (ys.map V.str).length ≤ sizeLine := by rw [List.length_map, pm.length_eq]; exact hl
  have hn : H p = none := I.hok.fresh hp
  obtain ⟨h2, g2, d2, t2, o2⟩ := s'
  obtain rfl : o2 = s.os := o
  obtain rfl : g2 = s.gens := g
  have J : Inv X pins σ (upd H p (.lst (ys.map V.str))) ⟨h2, s.gens, d2, t2, s.os⟩ := I.call (d' := d2) (t' := t2) (g' := s.gens) (ch := []) (Un.laid k hp hn) (I.hok.laid k hp ⟨hlen, out.toList, c, vals_of_strs hi, hgt⟩) I.bare (fun _ z => nomatch z)
  exact ⟨.ref p, _, J, rfl, q ys p pm (pm.nodup_iff.mpr R.nd) hs hn⟩
end
end Rd
namespace Rd
open PySem PySem.Spec PyProof.Rows L2
/-- texts put into a set one behind another -/
def putS (l : List Str) : List Str → List Str
  | [] => l
  | x :: r => putS (addS l x) r
theorem addS_mem {l : List Str} {x y : Str} : y ∈ addS l x ↔ y ∈ l ∨ y = x := by
  unfold addS
  split
  · exact ⟨.inl, fun h => h.elim id fun e => by rw [e]; assumption⟩
  · rw [List.mem_cons]
    exact Or.comm
theorem addS_nd {l : List Str} {x : Str} (h : l.Nodup) : (addS l x).Nodup := by
  unfold addS
  split
  · exact h
  · exact List.nodup_cons.mpr ⟨by assumption, h⟩
theorem putS_mem {y : Str} : ∀ {r l : List Str}, y ∈ putS l r ↔ y ∈ l ∨ y ∈ r
  | [], l => by simp [putS]
  | x :: r, l => by
    rw [putS, putS_mem, addS_mem, List.mem_cons, or_assoc]
theorem putS_nd : ∀ {r l : List Str}, l.Nodup → (putS l r).Nodup
  | [], _, h => h
  | _ :: r, _, h => putS_nd (r := r) (addS_nd h)
theorem putS_app : ∀ {r q l : List Str}, putS l (r ++ q) = putS (putS l r) q
  | [], _, _ => rfl
  | x :: r, q, l => putS_app (r := r) (q := q) (l := addS l x)
section
variable {P : Program} {w : World} {A : Around} {E : Value → Shared → Prop} {s : Shared}
theorem fillS {I : Addr} {fp wr : List Addr} {G : Array GenState → Array GenState → Prop} {n : Nat} {Pv : Nat → Value → Prop} {St : Nat → Shared → Prop} {R : Result → Shared → Prop}
    (W : WalksS P w A.in1 I fp wr G n Pv St) (S : Addr) (nS : S ∉ fp) (xs : List Str) (hn : n = xs.length) (hb : ∀ i : Nat, (putS [] (xs.take i)).length + 1 < scanBound) (hv : ∀ i v, Pv i v → ∃ x t, xs[i]? = some x ∧ v = .str x t) :
    ∀ (k i : Nat) (s : Shared), n - i = k → i ≤ n → St i s → SetS w s.heap S (putS [] (xs.take i)) →
      (∀ s', Moved (S :: wr) G s s' → SetS w s'.heap S (putS [] xs) → R (.ok (.ret .none)) s') → codeAny (model P w) A (.builtin "set.update.loop" ⟨[.ref S, .ref I], []⟩) R s := by
  have nw : S ∉ wr := fun h => nS (W.sub _ h)
  have su : ∀ b ∈ wr, b ∈ S :: wr := fun b hb => List.mem_cons_of_mem _ hb
  intro k
  induction k with
  | zero =>
    intro i s hk hi hst hS hR
    obtain rfl : i = n := by omega
    refine codeAny_builtin F.entry_set_update_loop ?_
    rw [Around.under_plainId F.plain_set_update_loop _]
    show wpAny _ A.in1 (pyNext (.ref I) >>= _) _ _ s
    refine wpAny_bind (W.done s _ _ hst fun s' hm => ?_)
    show wpAny _ A.in1 (ret Value.none) _ _ s'
    rw [List.take_of_length_le (by omega)] at hS
    exact wpAny_pure (hR s' (hm.mono su) (hS.at fun o e => hm.heap S o nw e))
  | succ k ih =>
    intro i s hk hi hst hS hR
    have lt : i < n := by omega
    refine codeAny_builtin F.entry_set_update_loop ?_
    rw [Around.under_plainId F.plain_set_update_loop _]
    show wpAny _ A.in1 (pyNext (.ref I) >>= _) _ _ s
    refine wpAny_bind (W.item i s _ _ lt hst fun v s' hP hst' hm => ?_)
    obtain ⟨x, t, hx, rfl⟩ := hv i v hP
    show wpAny _ A.in1 (holding [Value.str x t] (setAdd S (.str x t)) >>= _) _ _ s'
    refine wpAny_bind (wpAny_holding ?_)
    unfold setAdd
    refine wpAny_holding (wpAny_bind ((PySem.strKind P w).pyHash (k := x) (strKind_is _ _ _ _) ?_))
    have len : (putS [] (xs.take i)).length + 1 < scanBound := hb i
    refine setS_addH (s := { s' with toks := s'.toks + 1 }) (hS.at fun o e => hm.heap S o nw e) len fun b h' sb hS2 => ?_
    have hS3 : SetS w h' S (putS [] (xs.take (i + 1))) := by
      rw [List.take_add_one, hx, putS_app]
      exact hS2
    refine wpAny_pure ⟨plainId_quiet F.plain_set_update_loop _, ih (i + 1) _ (by omega) lt (W.frame _ s' _ _ hst' (Nat.le_succ _) fun b hb o e => ?_) hS3 fun s'' hm2 hS4 => ?_⟩
    · rw [sb.2 b (fun h : b = S => nS (by rw [← h]; exact hb))]; exact e
    · refine hR s'' (Moved.trans W.gtrans ((hm.mono su).then_heap (Nat.le_succ _) fun b o hb e => ?_) hm2) hS4
      rw [sb.2 b (fun h : b = S => hb (by rw [h]; exact List.mem_cons_self))]; exact e
theorem strs_val : ∀ {us : List Value} {xs : List Str}, StrsAre us xs → ∀ (i : Nat) (v : Value), us[i]? = some v → ∃ x t, xs[i]? = some x ∧ v = .str x t
  | _, _, .nil, i, v, h => by simp at h
  | _, _, .cons n t hr, 0, v, h => by simp at h; exact ⟨n, t, rfl, h.symm⟩
  | _, _, .cons n t hr, i + 1, v, h => by
    rw [List.getElem?_cons_succ] at h ⊢
    exact strs_val hr i v h
/-- the new set -/
abbrev newO (w : World) : Obj := { cls := .type "set", dict := none, data := .set #[] 0 (.fresh 0 0 (!w.params.followText "set-order")) }
theorem set_of_list {l : Addr} {items : Array Value} (xs : List Str) {Q : Value → Shared → Prop} (hh : A.handled = none) (hl : s.heap.IsList l items) (hit : StrsAre items.toList xs) (hb : ∀ i : Nat, (putS [] (xs.take i)).length + 1 < scanBound)
    (h : ∀ (h' : Heap) (tk : Nat), SetS w h' s.heap.objs.size (putS [] xs) → (∀ b o, s.heap.get? b = some o → h'.get? b = some o) → Q (.ref s.heap.objs.size) { s with heap := h', toks := tk }) :
    wpAny (model P w) A (call (.type "set") [.ref l]) Q E s := by
  have isz : items.size = xs.length := by
    have q := StrsAre.length hit
    rw [Array.length_toList] at q
    exact q
  obtain ⟨c, tl, hmro⟩ := F.called_set.mro
  have hmade := F.called_set.made
  have hsub := F.called_set.sub
  refine wpAny_call (codeAny_of_tree ?_)
  show wpAny _ _ (callAny (.type "set") _) _ _ _
  refine wpAny_pure ⟨Code.quiet_builtin _ (by decide +kernel), codeAny_builtin F.entry_type_call ?_⟩
  rw [Around.under_plain (weight_type_call_type "set" [.ref l] []) rfl]
  have h1 := F.called_set.notType
  have h2 := F.called_set.canCreate
  have hct := F.typeCall_set_1 (.ref l)
  repeat (any_goals (first | assumption | wp_step))
  refine codeAny_mono (code_set_led1 (.ref l) (E := E) (Q₁ := fun obj s₁ => obj = .ref s.heap.objs.size ∧ s₁ = { s with heap := s.heap.push (newO w) }) ⟨rfl, rfl⟩) fun r s₁ hr => ?_
  cases r with
  | error e => exact hr
  | ok fl =>
    cases fl with
    | ret obj =>
      obtain ⟨rfl, rfl⟩ := hr
      have hS : (s.heap.push (newO w)).get? s.heap.objs.size = some (newO w) := Heap.get?_push_size _ rfl
      have hT : Shared.TypeIs { s with heap := s.heap.push (newO w) } (.ref s.heap.objs.size) "set" := ⟨_, hS, rfl⟩
      have hli := F.called_set.init.lookup
      have hbi := F.called_set.init.bind (.ref s.heap.objs.size)
      repeat (any_goals (first | assumption | wp_step))
      refine codeAny_mono (codeAny_call_builtin (R := wants (fun r s₂ => r = .none ∧ ∃ h' tk, s₂ = { s with heap := h', toks := tk } ∧ SetS w h' s.heap.objs.size (putS [] xs) ∧ (∀ b o, s.heap.get? b = some o → h'.get? b = some o)) E) F.called_set.init.plain F.entry_set_init (check_set_init_1 hT ?_)) fun r₂ s₂ hr₂ => ?_
      · obtain ⟨ol, hol, hcl, nl, hdl⟩ := hl
        obtain ⟨ocls, odict, odata, oslots⟩ := ol
        simp only at hcl hdl
        subst hcl; subst hdl
        have hol' : (s.heap.push (newO w)).get? l = some { cls := .type "list", dict := odict, data := .seq items nl, slots := oslots } := Heap.get?_push_of_some _ hol
        have hsls := F.sub_list_set
        have hslf := F.sub_list_frozenset
        have hne : (Value.type "list" == Value.type "dict") = false := by decide
        have hl1 : (s.heap.push (newO w)).IsList l items := ⟨_, hol', rfl, nl, rfl⟩
        unfold Builtin.«set.__init__» noKeywords Builtin.Frozenset.updateFrom
        generalize hPI : pyIter = PI
        wp_walk
        subst hPI
        refine wpAny_pyIter_list hl1 ?_
        refine wpAny_bind (wpAny_runValue ?_)
        have lS : l < s.heap.objs.size := Heap.lt_size hol
        have hh3 : A.in1.in1.in1.handled = none := by simp [hh]
        have nI : l ≠ (s.heap.push (newO w)).objs.size := by
          rw [Heap.size_push]; exact Nat.ne_of_lt (Nat.lt_succ_of_lt lS)
        have nSf : s.heap.objs.size ∉ [(s.heap.push (newO w)).objs.size, l] := by
          rw [Heap.size_push]
          simp only [List.mem_cons, List.mem_singleton, List.not_mem_nil, or_false, not_or]
          exact ⟨Nat.ne_of_lt (Nat.lt_succ_self _), Nat.ne_of_gt lS⟩
        refine fillS ((Walks.list hh3 _ l nI items).toS) s.heap.objs.size nSf xs isz hb (fun i v hv => strs_val hit i v (by rw [Array.getElem?_toList]; exact hv)) (items.size - 0) 0 _ (by omega) (Nat.zero_le _)
          ⟨⟨_, Heap.get?_push_size _ rfl, rfl, rfl⟩, (hl1.push _)⟩ (setS_fresh (Heap.get?_push_of_some _ hS)) ?_
        intro s' hm hS'
        obtain ⟨h', g2, d', tk', os'⟩ := s'
        have eg : g2 = s.gens := hm.gens
        have ed : d' = s.drawn := hm.drawn
        have eo : os' = s.os := hm.os
        subst eg; subst ed; subst eo
        show wpAny _ _ _ _ _ _
        refine wpAny_pure ?_
        show wpAny _ _ (ret Value.none) _ _ _
        refine wpAny_pure ⟨rfl, h', tk', rfl, hS', fun b o e => ?_⟩
        have hb0 : b < s.heap.objs.size := Heap.lt_size e
        have hb2 : b ≠ (s.heap.push (newO w)).objs.size := by
          rw [Heap.size_push]; exact Nat.ne_of_lt (Nat.lt_succ_of_lt hb0)
        exact hm.heap b o (by simp only [List.mem_cons, List.mem_singleton, List.not_mem_nil, or_false, not_or]; exact ⟨Nat.ne_of_lt hb0, hb2⟩) (Heap.get?_push_of_some _ (Heap.get?_push_of_some _ e))
      · cases r₂ with
        | error e => exact hr₂
        | ok fl₂ =>
          cases fl₂ with
          | ret r =>
            obtain ⟨rfl, h', tk, rfl, hS', hk'⟩ := hr₂
            repeat (any_goals (first | assumption | wp_step))
            exact h _ _ hS' hk'
          | _ => exact hr₂.elim
    | _ => exact hr.elim
end
section
variable {X : Cx}
def rSetOfS (K : PySem.W.Frag) (w : World) : List V → Hp → VK → Prop := fun vs H Q => ∃ (l : Addr) (xs : List Str), vs = [V.ref l] ∧ SqL K H l (xs.map V.str) ∧ (∀ i : Nat, (putS [] (xs.take i)).length + 1 < scanBound) ∧ ∀ a, H a = none → Q (.ref a) (upd H a (SetSO w a (putS [] xs)))
theorem cr_setOfS (hc : X.calm = true) : CallR X (.type "set") (rSetOfS X.K X.w) := by
  intro pins s σ H vs us Q I r h
  obtain ⟨l, xs, rfl, hl, hb, q⟩ := h
  rw [Vals.ref1 r]
  obtain ⟨its, rv, pl, hz⟩ := I.list hl
  exact set_of_list xs (I.ok.hd hc) pl.isList (by simpa using rv.strs) hb fun h' tk R k =>
    ⟨.ref s.heap.objs.size, upd H s.heap.objs.size (SetSO X.w s.heap.objs.size (putS [] xs)), I.laid (t' := tk) k (Nat.le_refl _) (setSO_new R), rfl, q _ (I.hok.fresh (Nat.le_refl _))⟩
end
end Rd
namespace Rd
open PySem L2
theorem _root_.L2.Room.units65 {k : Nat} {A : Around} (r : Room k A) : A.units + 65 < cLine := by have := r.un; omega
end Rd
namespace Rd
open PySem L2
section
variable {X : Cx} {K : PySem.W.Frag}
theorem kIx {r : PySem.W.Frag → R2} (hK : X.K = K) (h : IxR X (r X.K)) : IxR X (r K) := hK ▸ h
theorem kOp {o : Value → Value → Sem Value} {r : PySem.W.Frag → R2} (hK : X.K = K) (h : OpR X o (r X.K)) : OpR X o (r K) := hK ▸ h
end
end Rd
namespace Rd
open PySem PySem.Spec L2
section
variable {X : Cx} {K : PySem.W.Frag}
theorem pg_tupk {es : List Expr} {k : Nat} {pos : Pos} {t : TGs} {n : Nat} (hK : X.K = K) (hc : X.calm = true) (h : PGs X es t)
    (hn : (assignEach es X.env).length = n := by rfl) (hst : (assignEach es X.env).findIdx? (·.1) = none := by rfl) : PG X (.Tuple es k pos) (gTup K n t) := by subst hK; exact pg_tup hc h hn hst
theorem pe_fldk {e : Expr} {f : Str} {pos : Pos} {ta : TE} (hK : X.K = K) (he : PE X e ta) (hb : attributeBase e f X.env (eval e X.env) = eval e X.env) : PE X (.Attribute e f pos) (tFld K ta f) := by subst hK; exact pe_fld he hb
end
end Rd
namespace Rd
open PySem PySem.Spec PyProof.Rows L2
/-- the tuples at a and b, the items in new pairs -/
def Itzt (K : PySem.W.Frag) (a b : Addr) : It :=
  ⟨fun i H => ∃ (xs ys : List V) (x y : V), SqT K H a xs ∧ SqT K H b ys ∧ xs[i]? = some x ∧ ys[i]? = some y,
    fun i H v H' => ∃ T x y, v = .ref T ∧ H T = none ∧ H' = L2.upd H T (.tup [x, y]) ∧ (∀ xs, SqT K H a xs → xs[i]? = some x) ∧ ∀ ys, SqT K H b ys → ys[i]? = some y,
    fun i H => ∃ xs ys : List V, SqT K H a xs ∧ SqT K H b ys ∧ i = min xs.length ys.length⟩
theorem turn_zipT {P : Program} {w : World} {K : PySem.W.Frag} {elts : List Expr} {kk : Nat} {tpos : Pos} {a b z TI TO i1 i2 : Addr} (S : ZipSep2 z TI TO i1 i2 [i1, a] [i2, b]) (hia : a ≠ i1) (hib : b ≠ i2) :
    Turn P w K (.Tuple elts kk tpos) (Itzt K a b) [z, TI, TO, i1, i2] z (fun i h => IsZip h z TI TO .none ∧ IsTupOf2 h TI (.ref i1) (.ref i2) ∧ (∃ x y, IsTupOf2 h TO x y) ∧ h.IsTupleIter i1 a i ∧ h.IsTupleIter i2 b i) where
  mem := by simp
  obj := fun i h st c hc => by
    obtain ⟨hz, hTI, ⟨x, y, hTO⟩, ⟨o1, e1, _, d1⟩, ⟨o2, e2, _, d2⟩⟩ := st
    have e' : c = z ∨ c = TI ∨ c = TO ∨ c = i1 ∨ c = i2 := by simpa using hc
    rcases e' with q | q | q | q | q
    · rw [q]; exact ⟨_, hz, fun v q => nomatch q⟩
    · rw [q]; exact ⟨_, hTI, fun v q => nomatch q⟩
    · rw [q]; exact ⟨_, hTO, fun v q => nomatch q⟩
    · rw [q]; exact ⟨o1, e1, fun v q => by rw [d1] at q; cases q⟩
    · rw [q]; exact ⟨o2, e2, fun v q => by rw [d2] at q; cases q⟩
  keep := fun i h h' st k => by
    obtain ⟨hz, hTI, ⟨x, y, hTO⟩, h1, h2⟩ := st
    exact ⟨k z (by simp) _ hz, k TI (by simp) _ hTI, ⟨x, y, k TO (by simp) _ hTO⟩, h1.at fun o q => k i1 (by simp) o q, h2.at fun o q => k i2 (by simp) o q⟩
  item := by
    intro X hP hw hK hc i pins s σ H E I hf st hg
    subst hP hw hK
    obtain ⟨hz, hTI, hTO, h1, h2⟩ := st
    obtain ⟨xs, ys, x, y, hqx, hqy, hx, hy⟩ := hg
    obtain ⟨its, rv, p, _⟩ := I.tuple hqx
    obtain ⟨its2, rv2, p2, _⟩ := I.tuple hqy
    obtain ⟨u, hu, ru⟩ := rv.get hx
    obtain ⟨u2, hu2, ru2⟩ := rv2.get hy
    have l1 : i < its.length := by
      obtain ⟨q, _⟩ := List.getElem?_eq_some_iff.mp hu
      exact q
    have l2 : i < its2.length := by
      obtain ⟨q, _⟩ := List.getElem?_eq_some_iff.mp hu2
      exact q
    have G := GoesN.zip2 (elts := elts) (x1 := kk) (pos := tpos) (A := X.A) S (Draws.tuple (prog := X.prog) (w := X.w) (A := X.A.in1) (I.ok.hd hc) i1 a hia its.toArray) (Draws.tuple (prog := X.prog) (w := X.w) (A := X.A.in1) (I.ok.hd hc) i2 b hib its2.toArray)
    refine G.goes i s (fun v s2 => ∃ x H', Inv X pins σ H' s2 ∧ RelV x v ∧ (Itzt X.K a b).yld i H x H' ∧ (IsZip s2.heap z TI TO .none ∧ IsTupOf2 s2.heap TI (.ref i1) (.ref i2) ∧ (∃ x y, IsTupOf2 s2.heap TO x y) ∧ s2.heap.IsTupleIter i1 a (i + 1) ∧ s2.heap.IsTupleIter i2 b (i + 1)) ∧ ∀ b ∈ [z, TI, TO, i1, i2], H' b = none) E (by simp; omega) ⟨hz, hTI, hTO, ⟨h1, p⟩, ⟨h2, p2⟩⟩ fun v h' tk hY st' hk htk => ?_
    obtain ⟨T, x', y', rfl, hnew, ex, ey, hT⟩ := hY
    have ex' : x' = u := by
      have : its[i]? = some x' := by simpa using ex
      rw [hu] at this
      exact (Option.some.inj this).symm
    have ey' : y' = u2 := by
      have : its2[i]? = some y' := by simpa using ey
      rw [hu2] at this
      exact (Option.some.inj this).symm
    subst ex' ey'
    obtain ⟨z', hTI', hTO', ⟨h1', _⟩, ⟨h2', _⟩⟩ := st'
    have new : ObjOk X.prog X.w (L2.upd H T (.tup [x, y])) h' T (.tup [x, y]) :=
      ⟨by show 2 ≤ sizeLine; decide, [x', y'], .cons ru (.cons ru2 .nil), hT⟩
    have I1 : Inv X pins σ (L2.upd H T (.tup [x, y])) { s with heap := h', toks := tk } :=
      I.turnedNew (t' := tk) (ch := [z, TI, TO, i1, i2]) (fun c o hb q => hk c o (fun q' => hb (by
        have e' : c = z ∨ c = TO ∨ c = i1 ∨ c = i2 := by simpa using q'
        rcases e' with q | q | q | q <;> simp [q])) q) hf hnew new
    refine ⟨.ref T, _, I1, rfl, ⟨T, x, y, rfl, I.hok.fresh hnew, rfl, fun l hl => by rw [I.tuple_inj hl hqx]; exact hx, fun l hl => by rw [I.tuple_inj hl hqy]; exact hy⟩, ⟨z', hTI', hTO', h1', h2'⟩, fun c hcm => ?_⟩
    have hlt : c < s.heap.objs.size := by
      have e' : c = z ∨ c = TI ∨ c = TO ∨ c = i1 ∨ c = i2 := by simpa using hcm
      obtain ⟨_, _, hTO⟩ := hTO
      rcases e' with q | q | q | q | q
      · rw [q]; exact Heap.lt_size hz
      · rw [q]; exact Heap.lt_size hTI
      · rw [q]; exact Heap.lt_size hTO
      · rw [q]; obtain ⟨_, e1, _⟩ := h1; exact Heap.lt_size e1
      · rw [q]; obtain ⟨_, e2, _⟩ := h2; exact Heap.lt_size e2
    rw [upd_ne (Nat.ne_of_lt (Nat.lt_of_lt_of_le hlt hnew))]
    exact (hf c hcm).1
  done := by
    intro X hP hw hK hc i pins s σ H E I hf st hg
    subst hP hw hK
    obtain ⟨hz, hTI, hTO, h1, h2⟩ := st
    obtain ⟨xs, ys, hqx, hqy, hend⟩ := hg
    obtain ⟨its, rv, p, _⟩ := I.tuple hqx
    obtain ⟨its2, rv2, p2, _⟩ := I.tuple hqy
    have l1 := rv.length
    have l2 := rv2.length
    have G := GoesN.zip2 (elts := elts) (x1 := kk) (pos := tpos) (A := X.A) S (Draws.tuple (prog := X.prog) (w := X.w) (A := X.A.in1) (I.ok.hd hc) i1 a hia its.toArray) (Draws.tuple (prog := X.prog) (w := X.w) (A := X.A.in1) (I.ok.hd hc) i2 b hib its2.toArray)
    have hi : i = min its.toArray.size its2.toArray.size := by simp; omega
    subst hi
    exact G.stops s (fun s1 => Inv X pins σ H s1) E ⟨hz, hTI, hTO, ⟨h1, p⟩, ⟨h2, p2⟩⟩ fun h' tk hk htk => I.turnedL (t' := tk) (ch := [z, TI, TO, i1, i2]) (fun c o hb q => hk c o (fun q' => hb (by
        have e' : c = z ∨ c = TO ∨ c = i1 ∨ c = i2 := by simpa using q'
        rcases e' with q | q | q | q <;> simp [q])) q) hf
  self := fun A i s Q E st h => wpAny_pyIter_zip st.1 h
def iZipT (K : PySem.W.Frag) (ta : TA) : TI := fun σ H R => ta σ H fun vs H1 => ∃ a b xs ys, vs = [.ref a, .ref b] ∧ SqT K H1 a xs ∧ SqT K H1 b ys ∧ R (Itzt K a b) H1
theorem pi_zipT {X : Cx} {e e2 : Expr} {ta : TA} {p pos tpos : Pos} {elts : List Expr} {kk : Nat} (hg : Gl X "zip") (hm : X.mg "zip" = none) (ha : PA X [e, e2] ta)
    (hs : starEach [e, e2] X.env = (false, eval e X.env) :: starEach [e2] X.env := by rfl) (hpl : (backTo pos (starEach [e2] X.env)).any (·.1) = false := by rfl) :
    PI X (.Tuple elts kk tpos) (.Call (.Name "zip" p) [e, e2] [] pos) (iZipT X.K ta) := by
  refine ⟨fun pins s σ H R I h => ?_⟩
  refine Call_ (ld_blt I hg hm PyProof.Rows.boot_zip (PyProof.Rows.callWith_type1 (thn (ha.run pos pins s σ H _ I h) fun us s1 ⟨vs, H1, I1, r1, q1⟩ => ?_) hs hpl))
  obtain ⟨a, b, xs, ys, ex, hqx, hqy, q⟩ := q1
  subst ex
  cases r1 with
  | cons r rr =>
    cases rr with
    | cons r' rr =>
      cases rr
      cases r
      cases r'
      obtain ⟨its, rv, p1, _⟩ := I1.tuple hqx
      obtain ⟨its2, rv2, p2, _⟩ := I1.tuple hqy
      have la : a < s1.heap.objs.size := by obtain ⟨_, e1, _⟩ := p1; exact Heap.lt_size e1
      have lb : b < s1.heap.objs.size := by obtain ⟨_, e1, _⟩ := p2; exact Heap.lt_size e1
      refine zip_begins2 (begins_tuple a its.toArray) (begins_tuple b its2.toArray) p1 p2 fun h' hz hTI hTO h1 h2 hsz hk => wpAny_pyIter_zip hz ?_
      have I2 : Inv X pins σ H1 { s1 with heap := h' } := I1.kept (t' := s1.toks) hk
      refine ⟨s1.heap.objs.size + 4, [s1.heap.objs.size + 4, s1.heap.objs.size + 2, s1.heap.objs.size + 3, s1.heap.objs.size, s1.heap.objs.size + 1], _, _, H1, rfl, I2, turn_zipT (zip_sep2 (fp1 := [a]) (fp2 := [b]) (by simpa using la) (by simpa using lb)) (Nat.ne_of_lt la) (Nat.ne_of_lt (Nat.lt_succ_of_lt lb)), ⟨hz, hTI, ⟨_, _, hTO⟩, ⟨_, h1, rfl, rfl⟩, ⟨_, h2, rfl, rfl⟩⟩, fun c hcm => ?_, q⟩
      have e' : c = s1.heap.objs.size + 4 ∨ c = s1.heap.objs.size + 2 ∨ c = s1.heap.objs.size + 3 ∨ c = s1.heap.objs.size ∨ c = s1.heap.objs.size + 1 := by simpa using hcm
      have hle : s1.heap.objs.size ≤ c := by
        rcases e' with z | z | z | z | z
        · rw [z]; exact Nat.le_add_right _ _
        · rw [z]; exact Nat.le_add_right _ _
        · rw [z]; exact Nat.le_add_right _ _
        · rw [z]; exact Nat.le_refl _
        · rw [z]; exact Nat.le_add_right _ _
      exact I1.fpOk hle (I1.hok.fresh hle)
end Rd
namespace Rd
open PySem L2
theorem pi_zipTk {X : Cx} {K : PySem.W.Frag} {e e2 : Expr} {ta : TA} {p pos tpos : Pos} {elts : List Expr} {kk : Nat} (hK : X.K = K) (hg : Gl X "zip") (hm : X.mg "zip" = none) (ha : PA X [e, e2] ta)
    (hs : starEach [e, e2] X.env = (false, eval e X.env) :: starEach [e2] X.env := by rfl) (hpl : (backTo pos (starEach [e2] X.env)).any (·.1) = false := by rfl) :
    PI X (.Tuple elts kk tpos) (.Call (.Name "zip" p) [e, e2] [] pos) (iZipT K ta) := by subst hK; exact pi_zipT hg hm ha hs hpl
end Rd
namespace PySem
namespace AutoSeq1
end AutoSeq1
end PySem
namespace PySem.W
open Lean Elab Tactic Meta PySem PySem.Calls PyProof.Rows
end PySem.W
namespace Rd
open PySem PySem.SeqAt
open PySem.AutoSeq1 (wpAny_loadPart')
open PySem.MeetsSeq PySem.MeetsSeq2 PySem.MeetsSeq3
open Ob (RcOp lexAt lexAt_succ lexAt_zero)
/-- the pairs ahead of j are equal -/
def Ahead (e : Nat → Bool) (j : Nat) : Prop := ∀ i, i < j → e i = true
theorem Ahead.more {e : Nat → Bool} {j : Nat} (h : Ahead e j) (q : e j = true) : Ahead e (j + 1) := fun i hi => by
  rcases Nat.lt_succ_iff_lt_or_eq.mp hi with z | z
  · exact h i z
  · rw [z]; exact q
end Rd
namespace Rd
open PySem PySem.Spec PyProof.Rows L2
/-- the values of a list of references -/
theorem vals_refs : ∀ {as : List Addr} {us : List Value}, Vals (as.map V.ref) us → us = as.map Value.ref
  | [], _, h => by cases h; rfl
  | a :: as, _, h => by
    cases h with
    | cons h1 h2 =>
      cases h1
      rw [vals_refs h2]
      rfl
end Rd
namespace Rd
open PySem L2
def pfn (K : PySem.W.Frag) (c m : Str) : Addr := He5.wf K (He.ga K c) "property" m
structure Ph (K : PySem.W.Frag) (c m q : Str) (st : Stmt) : Prop where
  ex : ∃ fd, FunD K m q (defArgs st) (defBody st) (defScope st) [] [] (pfn K c m) fd
  pr : PropOf K (He.ga K c) m (He.ma K (He.ga K c) m) (pfn K c m)
structure Fp (P : Program) (w : World) (K : PySem.W.Frag) (mg : Str → Option Value) (base : Heap) (CX : CXT) (k : Nat) (c m : Str) (ps : List Str) (sp : Sp) : Prop where
  ex : ∃ fd, FnOk P w K mg base CX k (pfn K c m) fd ps sp ∧ Binds K fd ps []
  pr : PropOf K (He.ga K c) m (He.ma K (He.ga K c) m) (pfn K c m)
section
variable {P : Program} {w : World} {K : PySem.W.Frag} {mg : Str → Option Value} {base : Heap} {k : Nat} {c m q : Str} {ps N : List Str} {sp : Sp} {st : Stmt}
theorem Ph.ok0 (F : Ph K c m q st) (S : FnScope N ps (defScope st))
    (hb : ∀ (kV doc pm : Value) (an : Option Addr) (cdv ct : Value) (us : List Value), us.length = ps.length → bindArgs (PySem.W.fnOf m q (defArgs st) (defBody st) (defScope st) .none kV doc pm an cdv ct) ⟨us, []⟩ = pure (ps.zip us))
    (len : ∀ vs H Q E, sp vs H Q E → vs.length = ps.length)
    (hbody : ∀ (cdv : Value) (A : Around) (outer : List Env) (s : Shared) (H : Hp) (vs : List V) (Q : VK) (E : XK), Room k (A.deeper (PyProof.Rows.envOfC q (defScope st) s.heap.objs.size (pfn K c m) cdv)) → sp vs H Q E →
      ∃ t, PSs (cxOf CX0 P w K mg base N q (defScope st) (pfn K c m) cdv A outer s H E).nox (defBody st) t ∧ t { nx := fun _ H' => Q .non H', rt := Q } (start N vs) H) : Fp P w K mg base CX0 (k + 1) c m ps sp := by
  obtain ⟨fd, F'⟩ := F.ex
  refine ⟨⟨fd, F'.ok S len fun cdv A outer s H vs Q E hr h => ?_, F'.bindsN hb⟩, F.pr⟩
  obtain ⟨t, h1, h2⟩ := hbody cdv A outer s H vs Q E hr h
  exact ⟨t, h1.nox, h2⟩
end
end Rd
namespace PySem
open Sem (wp)
section
variable {prog : Program} {w : World} {A : Around} {E : Value → Shared → Prop} {s : Shared} {z TI TO T i1 i2 : Addr} {fp1 fp2 : List Addr} {n1 n2 i : Nat} {P1 P2 : Nat → Value → Prop} {St1 St2 : Nat → Heap → Prop} {f : Bool} {oT : Obj}
theorem zipH2_next_item {Q : Value → Shared → Prop} (S : ZipSep2 z TI TO i1 i2 fp1 fp2) (D1 : Draws prog w A i1 fp1 n1 P1 St1) (D2 : Draws prog w A i2 fp2 n2 P2 St2)
    (hz : IsZipHeld s.heap z TI TO T f) (hT : s.heap.get? T = some oT) (hTI : IsTupOf2 s.heap TI (.ref i1) (.ref i2)) (st1 : St1 i s.heap) (st2 : St2 i s.heap) (hlt1 : i < n1) (hlt2 : i < n2)
    (hQ : ∀ x1 x2 h' tk, P1 i x1 → P2 i x2 → IsZipHeld h' z TI TO T true → St1 (i + 1) h' → St2 (i + 1) h' → IsTupOf2 h' s.heap.objs.size x1 x2 → h'.objs.size = s.heap.objs.size + 1 →
      (∀ c o, c ≠ z → c ≠ i1 → c ≠ i2 → s.heap.get? c = some o → h'.get? c = some o) → Q (.ref s.heap.objs.size) { s with heap := h', toks := tk }) :
    wpAny (model prog w) A (Builtin.«zip.__next__» ⟨[.ref z], []⟩) (fun fin s' => ∃ v, fin = .done (.ret v) ∧ Q v s') E s := by
  obtain ⟨hp, g, d, tk0, os⟩ := s
  show wpAny _ _ (field (.ref z) 2 >>= _) _ _ _
  refine wpAny_bind (wpAny_field hz rfl (x := .bool false) rfl ?_)
  show wpAny _ _ (field (.ref z) 3 >>= _) _ _ _
  refine wpAny_bind (wpAny_field hz rfl (x := .ref TI) rfl ?_)
  refine wpAny_bind (wpAny_seqItems hTI rfl ?_)
  show wpAny _ _ (Builtin.SmallTypes.ownedTupleIsFree (.ref z) >>= _) _ _ _
  refine wpAny_bind (wpAny_tupleHeld_zip hz hT fun g0 hz0 hs0 => ?_)
  replace hs0 : Heap.SameBut z hp g0 := hs0
  simp only [Bool.false_eq_true, if_false]
  refine wpAny_bind ?_
  rw [← Array.forIn_toList]
  simp only [List.forIn_cons, List.forIn_nil]
  refine wpAny_bind (wpAny_bind (wpAny_holding ?_))
  show wpAny _ _ (Builtin.SmallTypes.nextOf (.ref i1) >>= _) _ _ ⟨g0, g, d, tk0, os⟩
  refine wpAny_bind (D1.item i _ _ _ hlt1 (D1.over st1 hs0 S.zf1) fun x1 p1 tk1 hx1 sn1 hp1 => wpAny_pure ?_)
  replace hp1 : Heap.SameBut i1 g0 p1 := hp1
  refine wpAny_pure ?_
  refine wpAny_bind (wpAny_bind (wpAny_holding ?_))
  show wpAny _ _ (Builtin.SmallTypes.nextOf (.ref i2) >>= _) _ _ ⟨p1, g, d, tk1, os⟩
  refine wpAny_bind (D2.item i _ _ _ hlt2 (D2.over (D2.over st2 hs0 S.zf2) hp1 S.sep1_2) fun x2 p2 tk2 hx2 sn2 hp2 => wpAny_pure ?_)
  replace hp2 : Heap.SameBut i2 p1 p2 := hp2
  refine wpAny_pure (wpAny_pure ?_)
  show wpAny _ _ (newTuple [x1, x2] >>= _) _ _ _
  refine wpAny_bind (wpAny_newTuple ?_)
  have hsz : p2.objs.size = hp.objs.size := by rw [hp2.1, hp1.1, hs0.1]
  have hz₃ : IsZipHeld p2 z TI TO T true := hp2.extBut _ _ S.zi2 (hp1.extBut _ _ S.zi1 hz0)
  have hkk : ∀ c o, c ≠ z → c ≠ i1 → c ≠ i2 → hp.get? c = some o → p2.get? c = some o := fun c o c1 c2 c3 e => hp2.extBut _ _ c3 (hp1.extBut _ _ c2 (hs0.extBut _ _ c1 e))
  have h1₃ : St1 (i + 1) p2 := D1.over sn1 hp2 S.sep2_1
  refine wpAny_pure ⟨_, rfl, ?_⟩
  show Q (.ref p2.objs.size) _
  have hpn : IsTupOf2 (p2.push { cls := .type "tuple", data := .seq #[x1, x2] }) p2.objs.size x1 x2 := Heap.get?_push_size _ rfl
  have hz4 : (p2.push { cls := .type "tuple", data := .seq #[x1, x2] }).objs.size = p2.objs.size + 1 := Heap.size_push ..
  rw [hsz] at hpn hz4 ⊢
  exact hQ x1 x2 _ tk2 hx1 hx2 (Heap.get?_push_of_some _ hz₃) (D1.frame _ _ _ h1₃ fun b _ o e => Heap.get?_push_of_some _ e) (D2.frame _ _ _ sn2 fun b _ o e => Heap.get?_push_of_some _ e) hpn hz4 fun c o c1 c2 c3 e => Heap.get?_push_of_some _ (hkk c o c1 c2 c3 e)
theorem zipH2_next_end {Q : Fin → Shared → Prop} (S : ZipSep2 z TI TO i1 i2 fp1 fp2) (D1 : Draws prog w A i1 fp1 n1 P1 St1)
    (hz : IsZipHeld s.heap z TI TO T f) (hT : s.heap.get? T = some oT) (hTI : IsTupOf2 s.heap TI (.ref i1) (.ref i2)) (st1 : St1 n1 s.heap)
    (hE : ∀ h' e, (∀ c o, c ≠ z → c ≠ i1 → c ≠ i2 → s.heap.get? c = some o → h'.get? c = some o) → (∃ o, h'.get? e = some o ∧ o.cls = .type "StopIteration") → E (.ref e) { s with heap := h' }) :
    wpAny (model prog w) A (Builtin.«zip.__next__» ⟨[.ref z], []⟩) Q E s := by
  obtain ⟨hp, g, d, tk0, os⟩ := s
  show wpAny _ _ (field (.ref z) 2 >>= _) _ _ _
  refine wpAny_bind (wpAny_field hz rfl (x := .bool false) rfl ?_)
  show wpAny _ _ (field (.ref z) 3 >>= _) _ _ _
  refine wpAny_bind (wpAny_field hz rfl (x := .ref TI) rfl ?_)
  refine wpAny_bind (wpAny_seqItems hTI rfl ?_)
  show wpAny _ _ (Builtin.SmallTypes.ownedTupleIsFree (.ref z) >>= _) _ _ _
  refine wpAny_bind (wpAny_tupleHeld_zip hz hT fun g0 hz0 hs0 => ?_)
  replace hs0 : Heap.SameBut z hp g0 := hs0
  simp only [Bool.false_eq_true, if_false]
  refine wpAny_bind ?_
  rw [← Array.forIn_toList]
  simp only [List.forIn_cons, List.forIn_nil]
  refine wpAny_bind (wpAny_bind (wpAny_holding ?_))
  show wpAny _ _ (Builtin.SmallTypes.nextOf (.ref i1) >>= _) _ _ ⟨g0, g, d, tk0, os⟩
  refine wpAny_bind (D1.done ⟨g0, g, d, tk0, os⟩ _ _ (D1.over st1 hs0 S.zf1) fun q e hq he => ?_)
  replace hq : Heap.ExtBut i1 g0 q := hq
  exact hE q e (fun c o c1 c2 _ x => hq _ _ c2 (hs0.extBut _ _ c1 x)) he
theorem pyNext_zipH2_item {Q : Option Value → Shared → Prop} (S : ZipSep2 z TI TO i1 i2 fp1 fp2) (D1 : Draws prog w A.in1 i1 fp1 n1 P1 St1) (D2 : Draws prog w A.in1 i2 fp2 n2 P2 St2)
    (hz : IsZipHeld s.heap z TI TO T f) (hT : s.heap.get? T = some oT) (hTI : IsTupOf2 s.heap TI (.ref i1) (.ref i2)) (st1 : St1 i s.heap) (st2 : St2 i s.heap) (hlt1 : i < n1) (hlt2 : i < n2)
    (hQ : ∀ x1 x2 h' tk, P1 i x1 → P2 i x2 → IsZipHeld h' z TI TO T true → St1 (i + 1) h' → St2 (i + 1) h' → IsTupOf2 h' s.heap.objs.size x1 x2 → h'.objs.size = s.heap.objs.size + 1 →
      (∀ c o, c ≠ z → c ≠ i1 → c ≠ i2 → s.heap.get? c = some o → h'.get? c = some o) → Q (some (.ref s.heap.objs.size)) { s with heap := h', toks := tk }) :
    wpAny (model prog w) A (pyNext (.ref z)) Q E s := by
  have hTy : s.TypeIs (.ref z) "zip" := ⟨_, hz, rfl⟩
  unfold pyNext
  exact wpAny_bind (wpAny_attempt (wpAny_callSpecial?_slot (name := Str.ofString "__next__") hTy F.slot_zip_next
    (wpAny_call_entry F.slot_zip_next hTy F.entry_zip_next
      (zipH2_next_item S D1 D2 hz hT hTI st1 st2 hlt1 hlt2 fun x1 x2 h' tk y1 y2 b1 d1 d2 b5 b6 b7 => wpAny_pure (hQ x1 x2 h' tk y1 y2 b1 d1 d2 b5 b6 b7)) (F.args_zip_next_1 _))))
theorem pyNext_zipH2_end {Q : Option Value → Shared → Prop} (S : ZipSep2 z TI TO i1 i2 fp1 fp2) (D1 : Draws prog w A.in1 i1 fp1 n1 P1 St1)
    (hz : IsZipHeld s.heap z TI TO T f) (hT : s.heap.get? T = some oT) (hTI : IsTupOf2 s.heap TI (.ref i1) (.ref i2)) (st1 : St1 n1 s.heap)
    (hQ : ∀ h', (∀ c o, c ≠ z → c ≠ i1 → c ≠ i2 → s.heap.get? c = some o → h'.get? c = some o) → Q none { s with heap := h' }) : wpAny (model prog w) A (pyNext (.ref z)) Q E s := by
  have hTy : s.TypeIs (.ref z) "zip" := ⟨_, hz, rfl⟩
  unfold pyNext
  refine wpAny_bind (wpAny_attempt (wpAny_callSpecial?_slot (name := Str.ofString "__next__") hTy F.slot_zip_next
    (wpAny_call_entry F.slot_zip_next hTy F.entry_zip_next (zipH2_next_end S D1 hz hT hTI st1 fun h' e hk he => ?_) (F.args_zip_next_1 _))))
  obtain ⟨o, ho, hc⟩ := he
  refine wpAny_bind (wpAny_isInstance (T := "StopIteration") (b := true) ⟨o, ho, hc⟩ isSubtype_stop ?_)
  exact wpAny_pure (hQ _ hk)
end
abbrev IsLs (h : Heap) (S : Addr) (acc : Array Value) (c : Nat) : Prop := h.get? S = some { cls := .type "list", dict := none, data := .seq acc c, slots := #[] }
section
variable {prog : Program} {w : World} {A : Around} {R : Result → Shared → Prop} {S I : Addr} {res : Value} {s : Shared} {acc : Array Value} {c : Nat}
theorem ext_item (hn : acc.size < sizeLine) (h : wpAny (model prog w) A.in1 (pyNext (.ref I)) (fun r s' => ∃ v, r = some v ∧ IsLs s'.heap S acc c ∧ ∀ h' c', IsLs h' S (acc.push v) c' → Heap.SameBut S s'.heap h' →
      codeAny (model prog w) A (.builtin "list.extend.loop" ⟨[.ref S, .ref I, res], []⟩) R { s' with heap := h' }) (fun e s' => R (.error e) s') s) :
    codeAny (model prog w) A (.builtin "list.extend.loop" ⟨[.ref S, .ref I, res], []⟩) R s := by
  refine codeAny_builtin F.entry_extend_loop ?_
  rw [Around.under_plainId F.plain_extend_loop _]
  show wpAny _ A.in1 (pyNext (.ref I) >>= _) _ _ s
  refine wpAny_bind (wpAny_mono h (fun r s' ⟨v, hr, hS', k⟩ => ?_) fun _ _ x => x)
  subst hr
  show wpAny _ A.in1 (updateSeq S (·.push v) >>= _) _ _ _
  refine wpAny_bind ?_
  exact wpAny_updateSeq hS' rfl (wpAny_pure ⟨plainId_quiet F.plain_extend_loop _, k _ _ (Heap.get?_update_self _ hS' rfl) (Heap.SameBut.update ..)⟩) (by omega) (by show (acc.push v).size ≤ sizeLine + 1; rw [Array.size_push]; omega)
theorem ext_end (h : wpAny (model prog w) A.in1 (pyNext (.ref I)) (fun r s' => r = none ∧ R (.ok (.ret res)) s') (fun e s' => R (.error e) s') s) :
    codeAny (model prog w) A (.builtin "list.extend.loop" ⟨[.ref S, .ref I, res], []⟩) R s := by
  refine codeAny_builtin F.entry_extend_loop ?_
  rw [Around.under_plainId F.plain_extend_loop _]
  show wpAny _ A.in1 (pyNext (.ref I) >>= _) _ _ s
  refine wpAny_bind (wpAny_mono h (fun r s' ⟨hr, k⟩ => ?_) fun _ _ x => x)
  subst hr
  exact wpAny_pure k
end
namespace F
theorem zip_no_len : typeLookup (.type "zip") "__len__" = pure none := by rw [typeLookup_type, builtinLookup_eq_fast]; kernel_rfl
theorem zip_no_hint : typeLookup (.type "zip") "__length_hint__" = pure none := by rw [typeLookup_type, builtinLookup_eq_fast]; kernel_rfl
end F
section
variable {prog : Program} {w : World} {A : Around} {E : Value → Shared → Prop} {s : Shared} {z TI TO : Addr} {f0 : Value}
/-- list(z), up to its loop -/
theorem call_list_zip {Q : Value → Shared → Prop} (hz : IsZip s.heap z TI TO f0)
    (h : ∀ h' c', IsLs h' s.heap.objs.size #[] c' → (∀ b o, s.heap.get? b = some o → h'.get? b = some o) → h'.objs.size = s.heap.objs.size + 1 →
      codeAny (model prog w) A.in1 (.builtin "list.extend.loop" ⟨[.ref s.heap.objs.size, .ref z, .none], []⟩) (wants (fun r s' => r = Value.none ∧ Q (.ref s.heap.objs.size) s') E) { s with heap := h' }) :
    wpAny (model prog w) A (call (.type "list") [.ref z]) Q E s := by
  have hSz : s.heap.objs.size ≠ z := Nat.ne_of_gt (Heap.lt_size hz)
  refine callType_codes (Q₁ := fun obj s₁ => obj = .ref s.heap.objs.size ∧ s₁ = { s with heap := s.heap.push { cls := .type "list", data := .seq #[] } }) F.called_list (F.typeCall_list_1 _) F.entry_list_init
    (code_list_new _ ⟨rfl, rfl⟩) fun obj s₁ h₁ => ?_
  obtain ⟨rfl, rfl⟩ := h₁
  have hS : (s.heap.push { cls := .type "list", data := .seq #[] }).get? s.heap.objs.size = some { cls := .type "list", data := .seq #[] } := Heap.get?_push_size _ rfl
  refine ⟨⟨_, hS, rfl⟩, F.args_list_init_2 _ _, ?_⟩
  show wpAny _ A.in1.in1 (do let old ← Builtin.List.listItems (.ref s.heap.objs.size); Builtin.List.listUpdate (.ref s.heap.objs.size) (fun _ => #[]); letGo old.toList.reverse; Builtin.List.listExtendWith (.ref s.heap.objs.size) (.ref z) .none) _ _ _
  refine wpAny_bind ?_
  unfold Builtin.List.listItems
  refine wpAny_bind (wpAny_seqItems hS rfl (wpAny_pure ?_))
  show wpAny _ A.in1.in1 (updateSeq s.heap.objs.size (fun _ => #[]) >>= fun _ => letGo (#[] : Array Value).toList.reverse >>= fun _ => Builtin.List.listExtendWith (.ref s.heap.objs.size) (.ref z) .none) _ _ _
  refine wpAny_bind (wpAny_updateSeq hS rfl ?_)
  have hS2 := Heap.get?_update_self (Obj.mapSeq (fun _ => (#[] : Array Value))) hS rfl
  refine wpAny_bind (wpAny_letGo ?_)
  unfold Builtin.List.listExtendWith
  have up : ∀ (h : Heap) (f : Obj → Obj), (∀ b o, s.heap.get? b = some o → h.get? b = some o) → ∀ b o, s.heap.get? b = some o → (h.update s.heap.objs.size f).get? b = some o := fun h f q b o e =>
    (Heap.get?_update_other _ _ (Ne.symm (Nat.ne_of_lt (Heap.lt_size e)))).trans (q b o e)
  have k1 : ∀ b o, s.heap.get? b = some o → (s.heap.push { cls := .type "list", data := .seq #[] }).get? b = some o := fun b o e => Heap.get?_push_of_some _ e
  have k2 := up _ (Obj.mapSeq (fun _ => (#[] : Array Value))) k1
  have gty : ∀ {h : Heap}, (∀ b o, s.heap.get? b = some o → h.get? b = some o) → IsZip h z TI TO f0 := fun {h} q => q _ _ hz
  refine wpAny_bind (wpAny_typeOf (T := "zip") (s := { s with heap := _ }) ⟨_, gty k2, rfl⟩ ?_)
  have h1 : Builtin.List.listSameRef (.ref s.heap.objs.size) (.ref z) = false := by simp [Builtin.List.listSameRef, hSz]
  have h2 : (Value.type "zip" == Value.type "list") = false := by decide
  have h3 : (Value.type "zip" == Value.type "tuple") = false := by decide
  simp only [h1, h2, h3, Bool.or_false, Bool.false_eq_true, if_false]
  refine wpAny_bind (wpAny_pyIter_zip (s := { s with heap := _ }) (gty k2) ?_)
  refine wpAny_bind (wpAny_holding ?_)
  unfold Builtin.List.listLengthHint
  refine wpAny_bind (wpAny_specialOf (T := "zip") (s := { s with heap := _ }) ⟨_, gty k2, rfl⟩ F.zip_no_len ?_)
  show wpAny _ A.in1.in1 (specialOf (Value.ref z) (Str.ofString "__length_hint__") >>= _) _ _ _
  refine wpAny_bind (wpAny_specialOf (T := "zip") (s := { s with heap := _ }) ⟨_, gty k2, rfl⟩ F.zip_no_hint ?_)
  refine wpAny_pure ?_
  show wpAny _ A.in1.in1 (rule "list.extend.makes-room" >>= fun _ => Builtin.List.listTouch (.ref s.heap.objs.size) >>= fun _ =>
    again (.builtin "list.extend.loop" ⟨[.ref s.heap.objs.size, .ref z, .none], []⟩)) _ _ _
  refine wpAny_bind (wpAny_rule ?_)
  refine wpAny_bind ?_
  show wpAny _ A.in1.in1 (updateSeq s.heap.objs.size (·.push .none) >>= fun _ => updateSeq s.heap.objs.size (·.pop)) _ _ _
  refine wpAny_bind (wpAny_updateSeq hS2 rfl ?_)
  have hS3 := Heap.get?_update_self (Obj.mapSeq (·.push Value.none)) hS2 rfl
  refine wpAny_updateSeq (hz := by seq_fits) hS3 rfl ?_
  have hS4 := Heap.get?_update_self (Obj.mapSeq (·.pop)) hS3 rfl
  have k4 := up _ (Obj.mapSeq (·.pop)) (up _ (Obj.mapSeq (·.push Value.none)) k2)
  refine wpAny_pure ⟨plainId_quiet F.plain_extend_loop _, ?_⟩
  refine h _ _ hS4 k4 ?_
  rw [Heap.size_update, Heap.size_update, Heap.size_update, Heap.size_push]
end
end PySem
namespace Rd
open PySem PySem.Spec PyProof.Rows L2
def putP : Hp → List Addr → List (V × V) → Hp
  | H, a :: as, p :: ps => putP (L2.upd H a (.tup [p.1, p.2])) as ps
  | H, _, _ => H
theorem putP_off {b : Addr} : ∀ (as : List Addr) (ps : List (V × V)) (H : Hp), b ∉ as → putP H as ps b = H b
  | [], _, _, _ => rfl
  | _ :: _, [], _, _ => rfl
  | a :: as, p :: ps, H, h => by
    show putP (L2.upd H a (.tup [p.1, p.2])) as ps b = H b
    rw [putP_off as ps _ (fun z => h (List.mem_cons_of_mem _ z)), upd_ne (fun z => h (by rw [z]; exact List.mem_cons_self))]
theorem putP_at : ∀ (as : List Addr) (ps : List (V × V)) (H : Hp), as.length = ps.length → as.Nodup → Paired (fun (t : Addr) (p : V × V) => putP H as ps t = some (.tup [p.1, p.2])) as ps
  | [], [], _, _, _ => .nil
  | [], _ :: _, _, h, _ => by cases h
  | _ :: _, [], _, h, _ => by cases h
  | a :: as, p :: ps, H, h, hn => by
    have hn' := List.nodup_cons.mp hn
    have ih := putP_at as ps (L2.upd H a (.tup [p.1, p.2])) (Nat.succ.inj h) hn'.2
    refine .cons ?_ ih
    show putP (L2.upd H a (.tup [p.1, p.2])) as ps a = some (.tup [p.1, p.2])
    rw [putP_off as ps _ hn'.1, upd_same]
theorem pairs_laid {X : Cx} {pins : List (Addr × Obj)} {σ : L2.St} {H : Hp} {s : Shared} {h' : Heap} {tk : Nat} {ps : List (V × V)} {acc : Array Value} {c S : Addr} {as : List Addr} (I : Inv X pins σ H s) (hz : as.length ≤ sizeLine) (hl : as.length = ps.length)
    (hk : ∀ b o, s.heap.get? b = some o → h'.get? b = some o) (hS : IsLs h' S acc c) (hSn : s.heap.objs.size ≤ S) (hab : ∀ t ∈ as, s.heap.objs.size ≤ t) (nd : as.Nodup) (hSa : S ∉ as)
    (hp : Paired (fun (t : Addr) (p : V × V) => ∃ u1 u2, RelV p.1 u1 ∧ RelV p.2 u2 ∧ IsTupOf2 h' t u1 u2) as ps) (hacc : acc.toList = as.map Value.ref) :
    ∃ H' : Hp, Same H H' ∧ H S = none ∧ H' S = some (.lst (as.map V.ref)) ∧ Paired (fun (t : Addr) (p : V × V) => H' t = some (.tup [p.1, p.2])) as ps ∧ Inv X pins σ H' { s with heap := h', toks := tk } := by
  have new : ∀ t ∈ as, H t = none := fun t ht => I.hok.fresh (hab t ht)
  have newS : H S = none := I.hok.fresh hSn
  have atP := putP_at as ps (L2.upd H S (.lst (as.map V.ref))) hl nd
  have off : ∀ b, b ∉ as → b ≠ S → putP (L2.upd H S (.lst (as.map V.ref))) as ps b = H b := fun b h1 h2 => by rw [putP_off as ps _ h1, upd_ne h2]
  have low : ∀ b o, s.heap.get? b = some o → b ∉ as ∧ b ≠ S := fun b o e => ⟨fun z => absurd (Heap.lt_size e) (Nat.not_lt.mpr (hab b z)), Nat.ne_of_lt (Nat.lt_of_lt_of_le (Heap.lt_size e) hSn)⟩
  have kp : ∀ b u, H b = some u → (putP (L2.upd H S (.lst (as.map V.ref))) as ps) b = some u := fun b u e => by
    rw [off b (fun z => by rw [new b z] at e; cases e) (fun z => by rw [z, newS] at e; cases e)]
    exact e
  have eS : putP (L2.upd H S (.lst (as.map V.ref))) as ps S = some (.lst (as.map V.ref)) := by rw [putP_off as ps _ hSa, upd_same]
  refine ⟨putP (L2.upd H S (.lst (as.map V.ref))) as ps, kp, newS, eS, atP, ?_⟩
  refine I.call' (ch := []) rfl ⟨fun b o q _ _ _ => hk b o q, fun b o q _ _ _ => ⟨o.slots, hk b o q⟩, fun b o q n _ => ?_, fun b o q _ => ⟨o, hk b o q⟩, fun b xs q => kp b _ q, fun b o u q => kp b _ q, fun b ps q => ⟨#[], by rw [kp b _ q]; simp⟩⟩ (fun b u q => ?_) I.bare fun b z => by simp at z
  · obtain ⟨z1, z2⟩ := low b o q
    rw [off b z1 z2]
    exact n
  · by_cases hb : b ∈ as
    · obtain ⟨j, pk, e1, e2, e3⟩ := LiI.paired_ix atP hb
      rw [e3] at q
      cases q
      obtain ⟨y, g1, u1, u2, g2, g3, g4⟩ := LiI.paired_get hp e1
      rw [e2] at g1
      cases g1
      exact ⟨by show 2 ≤ sizeLine; decide, [u1, u2], .cons g2 (.cons g3 .nil), ⟨_, g4, rfl, _, rfl⟩⟩
    · by_cases hb2 : b = S
      · rw [hb2] at q ⊢
        rw [eS] at q
        cases q
        refine ⟨by rw [List.length_map]; exact hz, acc.toList, c, by rw [hacc]; exact LiI.vals_refs as, ?_⟩
        rw [Array.toArray_toList]
        exact hS
      · rw [off b hb hb2] at q
        exact (I.hok b u q).stay (fun d v _ y => hk d v y) (fun d y => kp d _ y) fun d xs y => kp d _ y
def rZipL (K : PySem.W.Frag) : List V → Hp → VK → Prop := fun vs H Q => ∃ (a b : Addr) (xs ys : List V), vs = [.ref a, .ref b] ∧ SqT K H a xs ∧ SqT K H b ys ∧ xs.length = ys.length ∧ 1 ≤ xs.length ∧ xs.length ≤ 2 ∧
  ∀ (H' : Hp) (p : Addr) (ts : List Addr), Same H H' → H p = none → H' p = some (.lst (ts.map V.ref)) → Paired (fun (t : Addr) (q : V × V) => H' t = some (.tup [q.1, q.2])) ts (xs.zip ys) → Q (.ref p) H'
def tZipL (K : PySem.W.Frag) (ta : TA) : TE := fun σ H Q => ta σ H fun vs H1 => rZipL K vs H1 Q
section
variable {X : Cx} {e e2 : Expr} {ta : TA} {p p2 pos pos2 : Pos}
theorem pe_listZip (hc : X.calm = true) (hg : Gl X "list") (hm : X.mg "list" = none) (hg2 : Gl X "zip") (hm2 : X.mg "zip" = none) (ha : PA X [e, e2] ta)
    (hs : starEach [e, e2] X.env = (false, eval e X.env) :: starEach [e2] X.env := by rfl) (hpl : (backTo pos2 (starEach [e2] X.env)).any (·.1) = false := by rfl)
    (na : starEach [.Call (.Name "zip" p2) [e, e2] [] pos2] X.env = (false, eval (.Call (.Name "zip" p2) [e, e2] [] pos2) X.env) :: starEach [] X.env := by rfl) :
    PE X (.Call (.Name "list" p) [.Call (.Name "zip" p2) [e, e2] [] pos2] [] pos) (tZipL X.K ta) := by
  refine ⟨fun pins s σ H Q I h => ?_⟩
  refine Call_ (ld_blt I hg hm boot_list (PyProof.Rows.callWith_type1 (args_cons ?_ na) na))
  refine Call_ (ld_blt I hg2 hm2 PyProof.Rows.boot_zip (PyProof.Rows.callWith_type1 (thn (ha.run pos2 pins s σ H _ I h) fun us s1 ⟨vs, H1, I1, r1, q1⟩ => ?_) hs hpl))
  obtain ⟨a, b, xs, ys, ex, hqx, hqy, hlen, h1n, h2n, q⟩ := q1
  subst ex
  cases r1 with
  | cons r rr =>
    cases rr with
    | cons r' rr =>
      cases rr
      cases r
      cases r'
      obtain ⟨its, rv, p1, _⟩ := I1.tuple hqx
      obtain ⟨its2, rv2, p2', _⟩ := I1.tuple hqy
      have la : a < s1.heap.objs.size := by obtain ⟨_, e1, _⟩ := p1; exact Heap.lt_size e1
      have lb : b < s1.heap.objs.size := by obtain ⟨_, e1, _⟩ := p2'; exact Heap.lt_size e1
      have l1 := rv.length
      have l2 := rv2.length
      have hh := I1.ok.hd hc
      refine zip_begins2 (begins_tuple a its.toArray) (begins_tuple b its2.toArray) p1 p2' fun h0 hz hTI hTO hi1 hi2 hsz hk0 => ?_
      refine args_nil ?_
      refine call_list_zip (s := { s1 with heap := h0 }) hz fun h1 c1 hS1 hk1 hsz1 => ?_
      replace hS1 : IsLs h1 h0.objs.size #[] c1 := hS1
      replace hk1 : ∀ b o, h0.get? b = some o → h1.get? b = some o := hk1
      replace hsz1 : h1.objs.size = h0.objs.size + 1 := hsz1
      have SP := zip_sep2 (fp1 := [a]) (fp2 := [b]) (N := s1.heap.objs.size) (by simpa using la) (by simpa using lb)
      have D1 := Draws.tuple (prog := X.prog) (w := X.w) (A := X.A.in1.in1.in1) hh s1.heap.objs.size a (Nat.ne_of_lt la) its.toArray
      have D2 := Draws.tuple (prog := X.prog) (w := X.w) (A := X.A.in1.in1.in1) hh (s1.heap.objs.size + 1) b (Nat.ne_of_lt (Nat.lt_succ_of_lt lb)) its2.toArray
      obtain ⟨x, xs', rfl⟩ : ∃ x xs', xs = x :: xs' := by
        cases xs with
        | nil => exact absurd h1n (by decide)
        | cons x xs' => exact ⟨x, xs', rfl⟩
      obtain ⟨y, ys', rfl⟩ : ∃ y ys', ys = y :: ys' := by
        cases ys with
        | nil => rw [hlen] at h1n; exact absurd h1n (by decide)
        | cons y ys' => exact ⟨y, ys', rfl⟩
      cases rv with
      | @cons _ u _ ut ru rt =>
      cases rv2 with
      | @cons _ u' _ ut' ru' rt' =>
      have nl : ∀ {c : Addr} {o : Obj} (k : Nat), s1.heap.get? c = some o → c ≠ s1.heap.objs.size + k := fun k e => Nat.ne_of_lt (Nat.lt_of_lt_of_le (Heap.lt_size e) (Nat.le_add_right _ k))
      have nm1 : s1.heap.objs.size + 5 ∉ [s1.heap.objs.size, a] := fun z => by
        rcases List.mem_cons.mp z with e | z
        · exact absurd e (Nat.ne_of_gt (Nat.lt_add_of_pos_right (by decide)))
        · rw [← List.mem_singleton.mp z] at la
          exact absurd la (Nat.not_lt.mpr (Nat.le_add_right _ _))
      have nm2 : s1.heap.objs.size + 5 ∉ [s1.heap.objs.size + 1, b] := fun z => by
        rcases List.mem_cons.mp z with e | z
        · exact absurd e (Nat.ne_of_gt (Nat.add_lt_add_left (by decide) _))
        · rw [← List.mem_singleton.mp z] at lb
          exact absurd lb (Nat.not_lt.mpr (Nat.le_add_right _ _))
      have hS5 : h0.objs.size = s1.heap.objs.size + 5 := hsz
      rw [hS5] at hS1 hsz1 ⊢
      have st1 : h1.IsTupleIter s1.heap.objs.size a 0 ∧ h1.IsTuple a (u :: ut).toArray := ⟨⟨_, hk1 _ _ hi1, rfl, rfl⟩, by obtain ⟨o, e, c, d⟩ := p1; exact ⟨o, hk1 _ _ (hk0 _ _ e), c, d⟩⟩
      have st2 : h1.IsTupleIter (s1.heap.objs.size + 1) b 0 ∧ h1.IsTuple b (u' :: ut').toArray := ⟨⟨_, hk1 _ _ hi2, rfl, rfl⟩, by obtain ⟨o, e, c, d⟩ := p2'; exact ⟨o, hk1 _ _ (hk0 _ _ e), c, d⟩⟩
      refine ext_item (A := X.A.in1) (acc := #[]) (c := c1) (by decide) ?_
      refine wpAny_pyNext_zipD2_item (i := 0) SP D1 D2 (hk1 _ _ hz) (hk1 _ _ hTI) (hk1 _ _ hTO) st1 st2 (by simp) (by simp) fun v1 v1' h2 tk2 px py hz2 hTO2 st12 st22 hT2 hsz2 hk2 => ?_
      replace hk2 : ∀ c o, c ≠ s1.heap.objs.size + 4 → c ≠ s1.heap.objs.size + 3 → c ≠ s1.heap.objs.size → c ≠ s1.heap.objs.size + 1 → h1.get? c = some o → h2.get? c = some o := hk2
      replace hz2 : IsZip h2 (s1.heap.objs.size + 4) (s1.heap.objs.size + 2) (s1.heap.objs.size + 3) (rawInt h1.objs.size) := hz2
      replace hT2 : IsTupOf2 h2 h1.objs.size v1 v1' := hT2
      replace hsz2 : h2.objs.size = h1.objs.size + 1 := hsz2
      have ev : v1 = u := by
        have z : ((u :: ut).toArray)[0]? = some v1 := px
        simpa using z.symm
      have ev' : v1' = u' := by
        have z : ((u' :: ut').toArray)[0]? = some v1' := py
        simpa using z.symm
      subst ev ev'
      rw [hsz1] at hz2 hT2 hsz2
      have hSS : IsLs h2 (s1.heap.objs.size + 5) #[] c1 := hk2 _ _ (by omega) (by omega) (by omega) (by omega) hS1
      refine ⟨_, rfl, hSS, fun h3 c3 hS3 hs3 => ?_⟩
      replace hS3 : IsLs h3 (s1.heap.objs.size + 5) (#[].push (.ref h1.objs.size)) c3 := hS3
      rw [hsz1] at hS3
      have hs3' : Heap.SameBut (s1.heap.objs.size + 5) h2 h3 := hs3
      have e3 : ∀ c o, c ≠ s1.heap.objs.size + 5 → h2.get? c = some o → h3.get? c = some o := fun c o hne e => hs3'.extBut _ _ hne e
      have hz3 : IsZipHeld h3 (s1.heap.objs.size + 4) (s1.heap.objs.size + 2) (s1.heap.objs.size + 3) (s1.heap.objs.size + 5 + 1) false := e3 _ _ (by omega) hz2
      have hT3 : IsTupOf2 h3 (s1.heap.objs.size + 5 + 1) v1 v1' := e3 _ _ (by omega) hT2
      have hTI3 : IsTupOf2 h3 (s1.heap.objs.size + 2) (.ref s1.heap.objs.size) (.ref (s1.heap.objs.size + 1)) := e3 _ _ (by omega) (hk2 _ _ (by omega) (by omega) (by omega) (by omega) (hk1 _ _ hTI))
      have st13 := D1.over st12 hs3' nm1
      have st23 := D2.over st22 hs3' nm2
      have old3 : ∀ c o, s1.heap.get? c = some o → h3.get? c = some o := fun c o e => by
        exact e3 _ _ (nl 5 e) (hk2 _ _ (nl 4 e) (nl 3 e) (nl 0 e) (nl 1 e) (hk1 _ _ (hk0 _ _ e)))
      have hsz3 : h3.objs.size = s1.heap.objs.size + 7 := by rw [hs3'.1, hsz2]
      cases xs' with
      | nil =>
        obtain rfl : ys' = [] := by
          cases ys' with
          | nil => rfl
          | cons _ _ => simp at hlen
        cases rt
        cases rt'
        refine ext_end (A := X.A.in1) ?_
        refine pyNext_zipH2_end SP D1 hz3 hT3 hTI3 st13 fun h4 hk4 => ⟨rfl, rfl, ?_⟩
        replace hk4 : ∀ c o, c ≠ s1.heap.objs.size + 4 → c ≠ s1.heap.objs.size → c ≠ s1.heap.objs.size + 1 → h3.get? c = some o → h4.get? c = some o := hk4
        obtain ⟨H', k1, k2, k3, k4, J⟩ := pairs_laid (tk := tk2) (as := [s1.heap.objs.size + 5 + 1]) (ps := [(x, y)]) (S := s1.heap.objs.size + 5) I1 (by show 1 ≤ sizeLine; decide) rfl (fun c o e => hk4 _ _ (nl 4 e) (nl 0 e) (nl 1 e) (old3 c o e)) (hk4 _ _ (by omega) (by omega) (by omega) hS3) (by omega) (by simp; omega) (by simp) (by simp)
          (.cons ⟨_, _, ru, ru', hk4 _ _ (by omega) (by omega) (by omega) hT3⟩ .nil) rfl
        exact ⟨.ref (s1.heap.objs.size + 5), H', J, rfl, q H' _ _ k1 k2 k3 k4⟩
      | cons x2 xs2 =>
        obtain rfl : xs2 = [] := by
          cases xs2 with
          | nil => rfl
          | cons _ _ => simp at h2n
        obtain ⟨y2, rfl⟩ : ∃ y2, ys' = [y2] := by
          match ys', hlen with
          | [y2], _ => exact ⟨y2, rfl⟩
        cases rt with
        | @cons _ w2 _ _ rw2 rt =>
        cases rt
        cases rt' with
        | @cons _ w2' _ _ rw2' rt' =>
        cases rt'
        refine ext_item (A := X.A.in1) (acc := #[].push (.ref (s1.heap.objs.size + 5 + 1))) (c := c3) (by show 1 < sizeLine; decide) ?_
        refine pyNext_zipH2_item (i := 1) SP D1 D2 hz3 hT3 hTI3 st13 st23 (by simp) (by simp) fun v2 v2' h4 tk4 px2 py2 hz4 st14 st24 hT4 hsz4 hk4 => ?_
        replace hk4 : ∀ c o, c ≠ s1.heap.objs.size + 4 → c ≠ s1.heap.objs.size → c ≠ s1.heap.objs.size + 1 → h3.get? c = some o → h4.get? c = some o := hk4
        replace hz4 : IsZipHeld h4 (s1.heap.objs.size + 4) (s1.heap.objs.size + 2) (s1.heap.objs.size + 3) (s1.heap.objs.size + 5 + 1) true := hz4
        replace hT4 : IsTupOf2 h4 h3.objs.size v2 v2' := hT4
        have ev : v2 = w2 := by
          have z : ([v1, w2].toArray)[1]? = some v2 := px2
          simpa using z.symm
        have ev' : v2' = w2' := by
          have z : ([v1', w2'].toArray)[1]? = some v2' := py2
          simpa using z.symm
        subst ev ev'
        rw [hsz3] at hT4
        refine ⟨_, rfl, hk4 _ _ (by omega) (by omega) (by omega) hS3, fun h5 c5 hS5' hs5 => ?_⟩
        have hs5' : Heap.SameBut (s1.heap.objs.size + 5) h4 h5 := hs5
        have e5 : ∀ c o, c ≠ s1.heap.objs.size + 5 → h4.get? c = some o → h5.get? c = some o := fun c o hne e => hs5'.extBut _ _ hne e
        replace hS5' : IsLs h5 (s1.heap.objs.size + 5) ((#[].push (.ref (s1.heap.objs.size + 5 + 1))).push (.ref h3.objs.size)) c5 := hS5'
        rw [hsz3] at hS5'
        refine ext_end (A := X.A.in1) ?_
        refine pyNext_zipH2_end SP D1 (e5 _ _ (by omega) hz4) (e5 _ _ (by omega) (hk4 _ _ (by omega) (by omega) (by omega) hT3)) (e5 _ _ (by omega) (hk4 _ _ (by omega) (by omega) (by omega) hTI3)) (D1.over st14 hs5' nm1) fun h6 hk6 => ⟨rfl, rfl, ?_⟩
        replace hk6 : ∀ c o, c ≠ s1.heap.objs.size + 4 → c ≠ s1.heap.objs.size → c ≠ s1.heap.objs.size + 1 → h5.get? c = some o → h6.get? c = some o := hk6
        obtain ⟨H', k1, k2, k3, k4, J⟩ := pairs_laid (tk := tk4) (as := [s1.heap.objs.size + 5 + 1, s1.heap.objs.size + 7]) (ps := [(x, y), (x2, y2)]) (S := s1.heap.objs.size + 5) I1 (by show 2 ≤ sizeLine; decide) rfl
          (fun c o e => by
            exact hk6 _ _ (nl 4 e) (nl 0 e) (nl 1 e) (e5 _ _ (nl 5 e) (hk4 _ _ (nl 4 e) (nl 0 e) (nl 1 e) (old3 c o e)))) (hk6 _ _ (by omega) (by omega) (by omega) hS5') (by omega) (by simp; omega) (by simp) (by simp)
          (.cons ⟨_, _, ru, ru', hk6 _ _ (by omega) (by omega) (by omega) (e5 _ _ (by omega) (hk4 _ _ (by omega) (by omega) (by omega) hT3))⟩ (.cons ⟨_, _, rw2, rw2', hk6 _ _ (by omega) (by omega) (by omega) (e5 _ _ (by omega) hT4)⟩ .nil)) rfl
        exact ⟨.ref (s1.heap.objs.size + 5), H', J, rfl, q H' _ _ k1 k2 k3 k4⟩
end
end Rd
namespace Rz2
open PySem PySem.Spec PyProof.Rows PySem.W
/-- the zip at z: no tuple is out, or one was given out whose fate is open -/
def ZS (h : Heap) (z TI TO : Addr) : Prop := IsZip h z TI TO .none ∨ ∃ (T : Addr) (f : Bool), IsZipHeld h z TI TO T f
section
variable {prog : Program} {w : World} {A : Around} {E : Value → Shared → Prop} {s : Shared}
theorem dead {a : Addr} {Q : Option Obj → Shared → Prop} (ho : s.heap.get? a = none) (h : Q none s) : wpAny (model prog w) A (loadIfAlive a) Q E s := by
  have h' : Q (s.heap.get? a) s := by rw [ho]; exact h
  exact fun _ _ _ => h'
abbrev ZEl (h : Heap) (z TI TO : Addr) (f : Bool) : Prop := h.get? z = some { cls := .type "zip", dict := none, data := .fields #[.ellipsis, .bool f, .bool false, .ref TI, .ref TO], slots := #[] }
end
end Rz2
namespace Rz3
open PySem PySem.Spec PyProof.Rows PySem.W Rz2
/-- the zip at its i-th turn -/
structure ZT (h : Heap) (z TI TO i1 i2 l1 l2 : Addr) (xs ys : Array Value) (i : Nat) : Prop where
  z : ZS h z TI TO
  TI : IsPair h TI (.ref i1) (.ref i2)
  TO : ∃ a b, IsPair h TO a b
  i1 : h.IsListIter i1 l1 i
  i2 : h.IsListIter i2 l2 i
  l1 : h.IsList l1 xs
  l2 : h.IsList l2 ys
theorem ZT.keep {h h' : Heap} {z TI TO i1 i2 l1 l2 S : Addr} {xs ys : Array Value} {i : Nat} (x : ZT h z TI TO i1 i2 l1 l2 xs ys i) (hk : ∀ b o, b ≠ S → h.get? b = some o → h'.get? b = some o) (nz : z ≠ S) (nTI : TI ≠ S) (nTO : TO ≠ S) (n1 : i1 ≠ S) (n2 : i2 ≠ S) (m1 : l1 ≠ S) (m2 : l2 ≠ S) : ZT h' z TI TO i1 i2 l1 l2 xs ys i where
  z := x.z.elim (fun q => .inl (hk _ _ nz q)) fun ⟨T, f, q⟩ => .inr ⟨T, f, hk _ _ nz q⟩
  TI := hk _ _ nTI x.TI
  TO := let ⟨a, b, q⟩ := x.TO; ⟨a, b, hk _ _ nTO q⟩
  i1 := x.i1.at fun o e => hk _ o n1 e
  i2 := x.i2.at fun o e => hk _ o n2 e
  l1 := let ⟨o, e, q⟩ := x.l1; ⟨o, hk _ _ m1 e, q⟩
  l2 := let ⟨o, e, q⟩ := x.l2; ⟨o, hk _ _ m2 e, q⟩
end Rz3
namespace Rz4
open PySem PySem.Spec PyProof.Rows PySem.W Rz2
section
variable {prog : Program} {w : World} {A : Around} {E : Value → Shared → Prop} {s : Shared}
theorem zipT_next_item_held {z TI TO T i1 i2 l1 l2 : Addr} {f : Bool} {oT : Obj} {k1 k2 : Nat} {xs ys : Array Value} {x y : Value} {Q : Value → Shared → Prop} (D : ZipApart z TI TO i1 i2 l1 l2)
    (hz : IsZipHeld s.heap z TI TO T f) (hT : s.heap.get? T = some oT) (hTI : IsPair s.heap TI (.ref i1) (.ref i2))
    (h1 : s.heap.IsTupleIter i1 l1 k1) (h2 : s.heap.IsTupleIter i2 l2 k2) (hl1 : s.heap.IsTuple l1 xs) (hl2 : s.heap.IsTuple l2 ys) (hx : xs[k1]? = some x) (hy : ys[k2]? = some y)
    (hQ : ∀ h', IsZipHeld h' z TI TO T true → h'.IsTupleIter i1 l1 (k1 + 1) → h'.IsTupleIter i2 l2 (k2 + 1) → IsPair h' s.heap.objs.size x y → h'.objs.size = s.heap.objs.size + 1 →
      (∀ c o, c ≠ z → c ≠ i1 → c ≠ i2 → s.heap.get? c = some o → h'.get? c = some o) → Q (.ref s.heap.objs.size) { s with heap := h' }) :
    wpAny (model prog w) A (Builtin.«zip.__next__» ⟨[.ref z], []⟩) (fun fin s' => ∃ v, fin = .done (.ret v) ∧ Q v s') E s := by
  show wpAny _ _ (field (.ref z) 2 >>= _) _ _ _
  refine wpAny_bind (wpAny_field hz rfl (x := .bool false) rfl ?_)
  show wpAny _ _ (field (.ref z) 3 >>= _) _ _ _
  refine wpAny_bind (wpAny_field hz rfl (x := .ref TI) rfl ?_)
  refine wpAny_bind (wpAny_seqItems hTI rfl ?_)
  show wpAny _ _ (Builtin.SmallTypes.ownedTupleIsFree (.ref z) >>= _) _ _ _
  refine wpAny_bind (wpAny_tupleHeld_zip hz hT fun h₁ hz₁ hs₁ => ?_)
  simp only [Bool.false_eq_true, if_false]
  refine wpAny_bind ?_
  rw [← Array.forIn_toList]
  simp only [List.forIn_cons, List.forIn_nil]
  refine wpAny_bind (wpAny_bind (wpAny_holding ?_))
  show wpAny _ _ (Builtin.SmallTypes.nextOf (.ref i1) >>= _) _ _ _
  refine wpAny_bind (RZ.nextOf_tuple_item (s := { s with heap := h₁ }) (h1.extBut hs₁.extBut D.i1z) (hl1.extBut hs₁.extBut D.l1z) hx fun h₂ h1₂ hs₂ => wpAny_pure ?_)
  refine wpAny_pure ?_
  refine wpAny_bind (wpAny_bind (wpAny_holding ?_))
  show wpAny _ _ (Builtin.SmallTypes.nextOf (.ref i2) >>= _) _ _ _
  refine wpAny_bind (RZ.nextOf_tuple_item (s := { s with heap := h₂ }) ((h2.extBut hs₁.extBut D.i2z).extBut hs₂.extBut D.i12.symm) ((hl2.extBut hs₁.extBut D.l2z).extBut hs₂.extBut D.l2i1) hy fun h₃ h2₃ hs₃ => wpAny_pure ?_)
  refine wpAny_pure (wpAny_pure ?_)
  show wpAny _ _ (newTuple [x, y] >>= _) _ _ _
  refine wpAny_bind (wpAny_newTuple ?_)
  have hsz : h₃.objs.size = s.heap.objs.size := by rw [hs₃.1, hs₂.1, hs₁.1]
  have hz₃ : IsZipHeld h₃ z TI TO T true := hs₃.extBut _ _ D.i2z.symm (hs₂.extBut _ _ D.i1z.symm hz₁)
  have hk : ∀ c o, c ≠ z → c ≠ i1 → c ≠ i2 → s.heap.get? c = some o → h₃.get? c = some o := fun c o c1 c2 c3 e => hs₃.extBut _ _ c3 (hs₂.extBut _ _ c2 (hs₁.extBut _ _ c1 e))
  have h1₃ : h₃.IsTupleIter i1 l1 (k1 + 1) := h1₂.extBut hs₃.extBut D.i12
  refine wpAny_pure ⟨_, rfl, ?_⟩
  show Q (.ref h₃.objs.size) _
  have hp : IsPair (h₃.push { cls := .type "tuple", data := .seq #[x, y] }) h₃.objs.size x y := Heap.get?_push_size _ rfl
  have hz4 : (h₃.push { cls := .type "tuple", data := .seq #[x, y] }).objs.size = h₃.objs.size + 1 := Heap.size_push ..
  rw [hsz] at hp hz4 ⊢
  exact hQ _ (Heap.get?_push_of_some _ hz₃) (h1₃.at fun o e => Heap.get?_push_of_some _ e) (h2₃.at fun o e => Heap.get?_push_of_some _ e) hp hz4 fun c o c1 c2 c3 e => Heap.get?_push_of_some _ (hk c o c1 c2 c3 e)
theorem zipT_next_end_held {z TI TO T i1 i2 l1 l2 : Addr} {f : Bool} {oT : Obj} {k1 k2 : Nat} {xs ys : Array Value} {Q : Fin → Shared → Prop} (hh : A.handled = none) (D : ZipApart z TI TO i1 i2 l1 l2)
    (hz : IsZipHeld s.heap z TI TO T f) (hT : s.heap.get? T = some oT) (hTI : IsPair s.heap TI (.ref i1) (.ref i2))
    (h1 : s.heap.IsTupleIter i1 l1 k1) (h2 : s.heap.IsTupleIter i2 l2 k2) (hl1 : s.heap.IsTuple l1 xs) (hl2 : s.heap.IsTuple l2 ys) (hend : xs[k1]? = none ∨ ys[k2]? = none)
    (hE : ∀ h' e, (∀ c o, c ≠ z → c ≠ i1 → c ≠ i2 → s.heap.get? c = some o → h'.get? c = some o) → (∃ o, h'.get? e = some o ∧ o.cls = .type "StopIteration") → E (.ref e) { s with heap := h' }) :
    wpAny (model prog w) A (Builtin.«zip.__next__» ⟨[.ref z], []⟩) Q E s := by
  show wpAny _ _ (field (.ref z) 2 >>= _) _ _ _
  refine wpAny_bind (wpAny_field hz rfl (x := .bool false) rfl ?_)
  show wpAny _ _ (field (.ref z) 3 >>= _) _ _ _
  refine wpAny_bind (wpAny_field hz rfl (x := .ref TI) rfl ?_)
  refine wpAny_bind (wpAny_seqItems hTI rfl ?_)
  show wpAny _ _ (Builtin.SmallTypes.ownedTupleIsFree (.ref z) >>= _) _ _ _
  refine wpAny_bind (wpAny_tupleHeld_zip hz hT fun h₁ hz₁ hs₁ => ?_)
  simp only [Bool.false_eq_true, if_false]
  refine wpAny_bind ?_
  rw [← Array.forIn_toList]
  simp only [List.forIn_cons, List.forIn_nil]
  refine wpAny_bind (wpAny_bind (wpAny_holding ?_))
  show wpAny _ _ (Builtin.SmallTypes.nextOf (.ref i1) >>= _) _ _ _
  cases hx : xs[k1]? with
  | none =>
    refine wpAny_bind (RZ.nextOf_tuple_end (s := { s with heap := h₁ }) hh (h1.extBut hs₁.extBut D.i1z) (hl1.extBut hs₁.extBut D.l1z) hx fun h₂ e hs₂ he => ?_)
    exact hE h₂ e (fun c o c1 c2 _ x => hs₂ _ _ c2 (hs₁.extBut _ _ c1 x)) he
  | some x =>
    have hy : ys[k2]? = none := by rcases hend with h | h; rw [hx] at h; cases h; exact h
    refine wpAny_bind (RZ.nextOf_tuple_item (s := { s with heap := h₁ }) (h1.extBut hs₁.extBut D.i1z) (hl1.extBut hs₁.extBut D.l1z) hx fun h₂ h1₂ hs₂ => wpAny_pure ?_)
    refine wpAny_pure ?_
    refine wpAny_bind (wpAny_bind (wpAny_holding ?_))
    show wpAny _ _ (Builtin.SmallTypes.nextOf (.ref i2) >>= _) _ _ _
    refine wpAny_bind (RZ.nextOf_tuple_end (s := { s with heap := h₂ }) hh ((h2.extBut hs₁.extBut D.i2z).extBut hs₂.extBut D.i12.symm) ((hl2.extBut hs₁.extBut D.l2z).extBut hs₂.extBut D.l2i1) hy fun h₃ e hs₃ he => ?_)
    exact hE h₃ e (fun c o c1 c2 c3 x => hs₃ _ _ c3 (hs₂.extBut _ _ c2 (hs₁.extBut _ _ c1 x))) he
theorem zipT_next_item_dead {z TI TO i1 i2 l1 l2 T : Addr} {f : Bool} {k1 k2 : Nat} {xs ys : Array Value} {x y a b : Value} {Q : Value → Shared → Prop} (D : ZipApart z TI TO i1 i2 l1 l2)
    (hz : IsZipHeld s.heap z TI TO T f) (hT : s.heap.get? T = none) (hTI : IsPair s.heap TI (.ref i1) (.ref i2)) (hTO : IsPair s.heap TO a b)
    (h1 : s.heap.IsTupleIter i1 l1 k1) (h2 : s.heap.IsTupleIter i2 l2 k2) (hl1 : s.heap.IsTuple l1 xs) (hl2 : s.heap.IsTuple l2 ys) (hx : xs[k1]? = some x) (hy : ys[k2]? = some y)
    (hQ : ∀ h', IsZip h' z TI TO (rawInt s.heap.objs.size) → IsPair h' TO x y → h'.IsTupleIter i1 l1 (k1 + 1) → h'.IsTupleIter i2 l2 (k2 + 1) → IsPair h' s.heap.objs.size x y → h'.objs.size = s.heap.objs.size + 1 →
      (∀ c o, c ≠ z → c ≠ TO → c ≠ i1 → c ≠ i2 → s.heap.get? c = some o → h'.get? c = some o) → Q (.ref s.heap.objs.size) { s with heap := h' }) :
    wpAny (model prog w) A (Builtin.«zip.__next__» ⟨[.ref z], []⟩) (fun fin s' => ∃ v, fin = .done (.ret v) ∧ Q v s') E s := by
  show wpAny _ _ (field (.ref z) 2 >>= _) _ _ _
  refine wpAny_bind (wpAny_field hz rfl (x := .bool false) rfl ?_)
  show wpAny _ _ (field (.ref z) 3 >>= _) _ _ _
  refine wpAny_bind (wpAny_field hz rfl (x := .ref TI) rfl ?_)
  refine wpAny_bind (wpAny_seqItems hTI rfl ?_)
  show wpAny _ _ (Builtin.SmallTypes.ownedTupleIsFree (.ref z) >>= _) _ _ _
  refine wpAny_bind ?_
  unfold Builtin.SmallTypes.ownedTupleIsFree
  refine wpAny_bind (wpAny_field hz rfl (x := rawInt T) rfl ?_)
  show wpAny _ _ (loadIfAlive ((T : Int).toNat) >>= _) _ _ _
  rw [Int.toNat_natCast]
  refine wpAny_bind (dead hT ?_)
  simp only [Option.isNone_none, if_true]
  refine wpAny_pure ?_
  simp only [if_true]
  refine wpAny_bind (wpAny_rule ?_)
  refine wpAny_bind (wpAny_field hz rfl (x := .ref TO) rfl ?_)
  refine wpAny_bind (wpAny_setField_rec hz (by simp) fun h₁ hz₁ hs₁ => ?_)
  replace hz₁ : ZEl h₁ z TI TO f := hz₁
  refine wpAny_bind ?_
  simp only [List.zipIdx_cons, List.zipIdx_nil, List.forIn_cons, List.forIn_nil]
  refine wpAny_bind (wpAny_bind (wpAny_onRaise ?_))
  show wpAny _ _ (Builtin.SmallTypes.nextOf (.ref i1) >>= _) _ _ _
  refine wpAny_bind (RZ.nextOf_tuple_item (h1.extBut hs₁.extBut D.i1z) (hl1.extBut hs₁.extBut D.l1z) hx fun h₂ h1₂ hs₂ => wpAny_pure ?_)
  have hTO₂ : IsPair h₂ TO a b := hs₂.extBut _ _ D.TOi1 (hs₁.extBut _ _ D.TOz hTO)
  refine wpAny_bind (wpAny_seqItems hTO₂ rfl ?_)
  refine wpAny_bind (wpAny_updateSeq_pair hTO₂ fun h₃ hTO₃ hs₃ => ?_)
  replace hTO₃ : IsPair h₃ TO x b := hTO₃
  refine wpAny_bind (wpAny_letGo (wpAny_pure ?_))
  refine wpAny_bind (wpAny_bind (wpAny_onRaise ?_))
  show wpAny _ _ (Builtin.SmallTypes.nextOf (.ref i2) >>= _) _ _ _
  refine wpAny_bind (RZ.nextOf_tuple_item (((h2.extBut hs₁.extBut D.i2z).extBut hs₂.extBut D.i12.symm).extBut hs₃.extBut D.TOi2.symm)
    (((hl2.extBut hs₁.extBut D.l2z).extBut hs₂.extBut D.l2i1).extBut hs₃.extBut D.l2TO) hy fun h₄ h2₄ hs₄ => wpAny_pure ?_)
  have hTO₄ : IsPair h₄ TO x b := hs₄.extBut _ _ D.TOi2 hTO₃
  refine wpAny_bind (wpAny_seqItems hTO₄ rfl ?_)
  refine wpAny_bind (wpAny_updateSeq_pair hTO₄ fun h₅ hTO₅ hs₅ => ?_)
  replace hTO₅ : IsPair h₅ TO x y := hTO₅
  refine wpAny_bind (wpAny_letGo (wpAny_pure (wpAny_pure ?_)))
  refine wpAny_bind (wpAny_seqItems hTO₅ rfl ?_)
  refine wpAny_bind (wpAny_newTuple ?_)
  have hsz : h₅.objs.size = s.heap.objs.size := by rw [hs₅.1, hs₄.1, hs₃.1, hs₂.1, hs₁.1]
  have hz₅ : ZEl h₅ z TI TO f := hs₅.extBut _ _ D.TOz.symm (hs₄.extBut _ _ D.i2z.symm (hs₃.extBut _ _ D.TOz.symm (hs₂.extBut _ _ D.i1z.symm hz₁)))
  have hk₅ : ∀ c o, c ≠ z → c ≠ TO → c ≠ i1 → c ≠ i2 → s.heap.get? c = some o → h₅.get? c = some o := fun c o c1 c2 c3 c4 e =>
    hs₅.extBut _ _ c2 (hs₄.extBut _ _ c4 (hs₃.extBut _ _ c2 (hs₂.extBut _ _ c3 (hs₁.extBut _ _ c1 e))))
  have h1₅ : h₅.IsTupleIter i1 l1 (k1 + 1) := ((h1₂.extBut hs₃.extBut D.TOi1.symm).extBut hs₄.extBut D.i12).extBut hs₅.extBut D.TOi1.symm
  have h2₅ : h₅.IsTupleIter i2 l2 (k2 + 1) := h2₄.extBut hs₅.extBut D.TOi2.symm
  have hzlt : z < h₅.objs.size := Heap.lt_size hz₅
  have hTOlt : TO < h₅.objs.size := Heap.lt_size hTO₅
  have hi1lt : i1 < h₅.objs.size := by obtain ⟨_, e, _⟩ := h1₅; exact Heap.lt_size e
  have hi2lt : i2 < h₅.objs.size := by obtain ⟨_, e, _⟩ := h2₅; exact Heap.lt_size e
  show wpAny _ _ (Builtin.SmallTypes.ownedTupleHandOut (.ref z) (.ref h₅.objs.size) >>= _) _ _ _
  refine wpAny_bind ?_
  unfold Builtin.SmallTypes.ownedTupleHandOut
  have hz₆ : ZEl (h₅.push { cls := .type "tuple", data := .seq #[x, y] }) z TI TO f := Heap.get?_push_of_some _ hz₅
  refine wpAny_bind (wpAny_setField_rec hz₆ (by simp) fun h₇ hz₇ hs₇ => ?_)
  replace hz₇ : IsZipHeld h₇ z TI TO h₅.objs.size f := hz₇
  refine wpAny_setField_rec hz₇ (by simp) fun h₈ hz₈ hs₈ => ?_
  replace hz₈ : IsZip h₈ z TI TO (rawInt h₅.objs.size) := hz₈
  have up : ∀ c o, c ≠ z → h₅.get? c = some o → h₈.get? c = some o := fun c o c1 e => hs₈.extBut _ _ c1 (hs₇.extBut _ _ c1 (Heap.get?_push_of_some _ e))
  have hT₈ : IsPair h₈ h₅.objs.size x y := hs₈.extBut _ _ (Nat.ne_of_gt hzlt) (hs₇.extBut _ _ (Nat.ne_of_gt hzlt) (Heap.get?_push_size _ rfl))
  have hz8 : h₈.objs.size = h₅.objs.size + 1 := by rw [hs₈.1, hs₇.1, Heap.size_push]
  rw [hsz] at hz₈ hT₈ hz8
  refine wpAny_pure ⟨_, rfl, ?_⟩
  show Q (.ref h₅.objs.size) _
  rw [hsz]
  exact hQ h₈ hz₈ (up _ _ D.TOz hTO₅) (h1₅.at fun o e => up _ o D.i1z e) (h2₅.at fun o e => up _ o D.i2z e) hT₈ hz8 fun c o c1 c2 c3 c4 e => up c o c1 (hk₅ c o c1 c2 c3 c4 e)
theorem zipT_next_end_dead {z TI TO i1 i2 l1 l2 T : Addr} {f : Bool} {k1 k2 : Nat} {xs ys : Array Value} {a b : Value} {Q : Fin → Shared → Prop} (hh : A.handled = none) (D : ZipApart z TI TO i1 i2 l1 l2)
    (hz : IsZipHeld s.heap z TI TO T f) (hT : s.heap.get? T = none) (hTI : IsPair s.heap TI (.ref i1) (.ref i2)) (hTO : IsPair s.heap TO a b)
    (h1 : s.heap.IsTupleIter i1 l1 k1) (h2 : s.heap.IsTupleIter i2 l2 k2) (hl1 : s.heap.IsTuple l1 xs) (hl2 : s.heap.IsTuple l2 ys) (hend : xs[k1]? = none ∨ ys[k2]? = none)
    (hE : ∀ h' e, (∀ c o, c ≠ z → c ≠ TO → c ≠ i1 → c ≠ i2 → s.heap.get? c = some o → h'.get? c = some o) → (∃ o, h'.get? e = some o ∧ o.cls = .type "StopIteration") → E (.ref e) { s with heap := h' }) :
    wpAny (model prog w) A (Builtin.«zip.__next__» ⟨[.ref z], []⟩) Q E s := by
  show wpAny _ _ (field (.ref z) 2 >>= _) _ _ _
  refine wpAny_bind (wpAny_field hz rfl (x := .bool false) rfl ?_)
  show wpAny _ _ (field (.ref z) 3 >>= _) _ _ _
  refine wpAny_bind (wpAny_field hz rfl (x := .ref TI) rfl ?_)
  refine wpAny_bind (wpAny_seqItems hTI rfl ?_)
  show wpAny _ _ (Builtin.SmallTypes.ownedTupleIsFree (.ref z) >>= _) _ _ _
  refine wpAny_bind ?_
  unfold Builtin.SmallTypes.ownedTupleIsFree
  refine wpAny_bind (wpAny_field hz rfl (x := rawInt T) rfl ?_)
  show wpAny _ _ (loadIfAlive ((T : Int).toNat) >>= _) _ _ _
  rw [Int.toNat_natCast]
  refine wpAny_bind (dead hT ?_)
  simp only [Option.isNone_none, if_true]
  refine wpAny_pure ?_
  simp only [if_true]
  refine wpAny_bind (wpAny_rule ?_)
  refine wpAny_bind (wpAny_field hz rfl (x := .ref TO) rfl ?_)
  refine wpAny_bind (wpAny_setField_rec hz (by simp) fun h₁ hz₁ hs₁ => ?_)
  replace hz₁ : ZEl h₁ z TI TO f := hz₁
  refine wpAny_bind ?_
  simp only [List.zipIdx_cons, List.zipIdx_nil, List.forIn_cons, List.forIn_nil]
  refine wpAny_bind (wpAny_bind (wpAny_onRaise ?_))
  show wpAny _ _ (Builtin.SmallTypes.nextOf (.ref i1) >>= _) _ _ _
  cases hx : xs[k1]? with
  | none =>
    refine wpAny_bind (RZ.nextOf_tuple_end hh (h1.extBut hs₁.extBut D.i1z) (hl1.extBut hs₁.extBut D.l1z) hx fun h₂ e hs₂ he => ?_)
    obtain ⟨oe, hoe, hce⟩ := he
    have hz₂ : ZEl h₂ z TI TO f := hs₂ _ _ D.i1z.symm hz₁
    have hez : e ≠ z := fun x => by subst x; rw [hz₂] at hoe; cases hoe; simp at hce
    refine wpAny_setField_rec hz₂ (by simp) fun h₃ _ hs₃ => hE h₃ e (fun c o c1 _ c3 _ x => hs₃.extBut _ _ c1 (hs₂ _ _ c3 (hs₁.extBut _ _ c1 x))) ⟨oe, hs₃.extBut _ _ hez hoe, hce⟩
  | some x =>
    have hy : ys[k2]? = none := by rcases hend with h | h; rw [hx] at h; cases h; exact h
    refine wpAny_bind (RZ.nextOf_tuple_item (h1.extBut hs₁.extBut D.i1z) (hl1.extBut hs₁.extBut D.l1z) hx fun h₂ h1₂ hs₂ => wpAny_pure ?_)
    have hTO₂ : IsPair h₂ TO a b := hs₂.extBut _ _ D.TOi1 (hs₁.extBut _ _ D.TOz hTO)
    refine wpAny_bind (wpAny_seqItems hTO₂ rfl ?_)
    refine wpAny_bind (wpAny_updateSeq_pair hTO₂ fun h₃ hTO₃ hs₃ => ?_)
    refine wpAny_bind (wpAny_letGo (wpAny_pure ?_))
    refine wpAny_bind (wpAny_bind (wpAny_onRaise ?_))
    show wpAny _ _ (Builtin.SmallTypes.nextOf (.ref i2) >>= _) _ _ _
    refine wpAny_bind (RZ.nextOf_tuple_end hh (((h2.extBut hs₁.extBut D.i2z).extBut hs₂.extBut D.i12.symm).extBut hs₃.extBut D.TOi2.symm)
      (((hl2.extBut hs₁.extBut D.l2z).extBut hs₂.extBut D.l2i1).extBut hs₃.extBut D.l2TO) hy fun h₄ e hs₄ he => ?_)
    obtain ⟨oe, hoe, hce⟩ := he
    have hz₄ : ZEl h₄ z TI TO f := hs₄ _ _ D.i2z.symm (hs₃.extBut _ _ D.TOz.symm (hs₂.extBut _ _ D.i1z.symm hz₁))
    have hez : e ≠ z := fun x => by subst x; rw [hz₄] at hoe; cases hoe; simp at hce
    refine wpAny_setField_rec hz₄ (by simp) fun h₅ _ hs₅ => hE h₅ e (fun c o c1 c2 c3 c4 x => hs₅.extBut _ _ c1 (hs₄ _ _ c4 (hs₃.extBut _ _ c2 (hs₂.extBut _ _ c3 (hs₁.extBut _ _ c1 x))))) ⟨oe, hs₅.extBut _ _ hez hoe, hce⟩
end
/-- the zip at its i-th turn -/
structure ZTT (h : Heap) (z TI TO i1 i2 l1 l2 : Addr) (xs ys : Array Value) (i : Nat) : Prop where
  z : ZS h z TI TO
  TI : IsPair h TI (.ref i1) (.ref i2)
  TO : ∃ a b, IsPair h TO a b
  i1 : h.IsTupleIter i1 l1 i
  i2 : h.IsTupleIter i2 l2 i
  l1 : h.IsTuple l1 xs
  l2 : h.IsTuple l2 ys
theorem ZTT.keep {h h' : Heap} {z TI TO i1 i2 l1 l2 S : Addr} {xs ys : Array Value} {i : Nat} (x : ZTT h z TI TO i1 i2 l1 l2 xs ys i) (hk : ∀ b o, b ≠ S → h.get? b = some o → h'.get? b = some o) (nz : z ≠ S) (nTI : TI ≠ S) (nTO : TO ≠ S) (n1 : i1 ≠ S) (n2 : i2 ≠ S) (m1 : l1 ≠ S) (m2 : l2 ≠ S) : ZTT h' z TI TO i1 i2 l1 l2 xs ys i where
  z := x.z.elim (fun q => .inl (hk _ _ nz q)) fun ⟨T, f, q⟩ => .inr ⟨T, f, hk _ _ nz q⟩
  TI := hk _ _ nTI x.TI
  TO := let ⟨a, b, q⟩ := x.TO; ⟨a, b, hk _ _ nTO q⟩
  i1 := x.i1.at fun o e => hk _ o n1 e
  i2 := x.i2.at fun o e => hk _ o n2 e
  l1 := let ⟨o, e, q⟩ := x.l1; ⟨o, hk _ _ m1 e, q⟩
  l2 := let ⟨o, e, q⟩ := x.l2; ⟨o, hk _ _ m2 e, q⟩
section
variable {prog : Program} {w : World} {A : Around} {E : Value → Shared → Prop} {s : Shared} {z TI TO i1 i2 l1 l2 : Addr} {xs ys : Array Value}
theorem pzT_item {i : Nat} {x y : Value} {Q : Option Value → Shared → Prop} (D : ZipApart z TI TO i1 i2 l1 l2) (hz : ZTT s.heap z TI TO i1 i2 l1 l2 xs ys i) (hx : xs[i]? = some x) (hy : ys[i]? = some y)
    (hQ : ∀ h', ZTT h' z TI TO i1 i2 l1 l2 xs ys (i + 1) → IsPair h' s.heap.objs.size x y → h'.objs.size = s.heap.objs.size + 1 → (∀ c o, c ≠ z → c ≠ TO → c ≠ i1 → c ≠ i2 → s.heap.get? c = some o → h'.get? c = some o) → Q (some (.ref s.heap.objs.size)) { s with heap := h' }) :
    wpAny (model prog w) A (pyNext (.ref z)) Q E s := by
  have hTy : s.TypeIs (.ref z) "zip" := by
    rcases hz.z with h | ⟨T, f, h⟩
    · exact ⟨_, h, rfl⟩
    · exact ⟨_, h, rfl⟩
  obtain ⟨a, b, hTO⟩ := hz.TO
  have fin : ∀ h', ZS h' z TI TO → (∃ a b, IsPair h' TO a b) → h'.IsTupleIter i1 l1 (i + 1) → h'.IsTupleIter i2 l2 (i + 1) → IsPair h' s.heap.objs.size x y → h'.objs.size = s.heap.objs.size + 1 →
      (∀ c o, c ≠ z → c ≠ TO → c ≠ i1 → c ≠ i2 → s.heap.get? c = some o → h'.get? c = some o) → Q (some (.ref s.heap.objs.size)) { s with heap := h' } := fun h' a1 a2 a3 a4 a5 a6 a7 =>
    hQ h' ⟨a1, a7 _ _ D.TIz D.TITO D.TIi1 D.TIi2 hz.TI, a2, a3, a4, let ⟨o, e, q⟩ := hz.l1; ⟨o, a7 _ _ D.l1z D.l1TO D.l1i1 D.l1i2 e, q⟩, let ⟨o, e, q⟩ := hz.l2; ⟨o, a7 _ _ D.l2z D.l2TO D.l2i1 D.l2i2 e, q⟩⟩ a5 a6 a7
  unfold pyNext
  refine wpAny_bind (wpAny_attempt (wpAny_callSpecial?_slot (name := Str.ofString "__next__") hTy F.slot_zip_next (wpAny_call_entry F.slot_zip_next hTy F.entry_zip_next ?_ (F.args_zip_next_1 _))))
  rcases hz.z with h | ⟨T, f, h⟩
  · exact RZ.zipT_next_item D h hz.TI hTO hz.i1 hz.i2 hz.l1 hz.l2 hx hy fun h' a1 a2 a3 a4 a5 a6 a7 => wpAny_pure (fin h' (.inr ⟨_, _, a1⟩) ⟨_, _, a2⟩ a3 a4 a5 a6 a7)
  · cases hT : s.heap.get? T with
    | none => exact zipT_next_item_dead D h hT hz.TI hTO hz.i1 hz.i2 hz.l1 hz.l2 hx hy fun h' a1 a2 a3 a4 a5 a6 a7 => wpAny_pure (fin h' (.inr ⟨_, _, a1⟩) ⟨_, _, a2⟩ a3 a4 a5 a6 a7)
    | some oT => exact zipT_next_item_held D h hT hz.TI hz.i1 hz.i2 hz.l1 hz.l2 hx hy fun h' a1 a3 a4 a5 a6 a7 => wpAny_pure (fin h' (.inr ⟨_, _, a1⟩) ⟨_, _, a7 _ _ D.TOz D.TOi1 D.TOi2 hTO⟩ a3 a4 a5 a6 fun c o c1 c2 c3 c4 e => a7 c o c1 c3 c4 e)
theorem pzT_end {i : Nat} {Q : Option Value → Shared → Prop} (hh : A.handled = none) (D : ZipApart z TI TO i1 i2 l1 l2) (hz : ZTT s.heap z TI TO i1 i2 l1 l2 xs ys i) (hend : xs[i]? = none ∨ ys[i]? = none)
    (hQ : ∀ h', (∀ c o, c ≠ z → c ≠ TO → c ≠ i1 → c ≠ i2 → s.heap.get? c = some o → h'.get? c = some o) → Q none { s with heap := h' }) :
    wpAny (model prog w) A (pyNext (.ref z)) Q E s := by
  have hTy : s.TypeIs (.ref z) "zip" := by
    rcases hz.z with h | ⟨T, f, h⟩
    · exact ⟨_, h, rfl⟩
    · exact ⟨_, h, rfl⟩
  obtain ⟨a, b, hTO⟩ := hz.TO
  have fin : ∀ (h' : Heap) (x : Addr), (∀ c o, c ≠ z → c ≠ TO → c ≠ i1 → c ≠ i2 → s.heap.get? c = some o → h'.get? c = some o) → (∃ o, h'.get? x = some o ∧ o.cls = .type "StopIteration") →
      wpAny (model prog w) A (isInstance (.ref x) (.type "StopIteration") >>= fun b => if b = true then pure none else throw (.ref x)) Q E { s with heap := h' } := fun h' x he hx => by
    obtain ⟨o, ho, hc⟩ := hx
    refine wpAny_bind (wpAny_isInstance (T := "StopIteration") (b := true) ⟨o, ho, hc⟩ isSubtype_stop ?_)
    exact wpAny_pure (hQ _ he)
  unfold pyNext
  refine wpAny_bind (wpAny_attempt (wpAny_callSpecial?_slot (name := Str.ofString "__next__") hTy F.slot_zip_next (wpAny_call_entry F.slot_zip_next hTy F.entry_zip_next ?_ (F.args_zip_next_1 _))))
  rcases hz.z with h | ⟨T, f, h⟩
  · exact RZ.zipT_next_end hh D h hz.TI hTO hz.i1 hz.i2 hz.l1 hz.l2 hend fun h' x he hx => fin h' x he hx
  · cases hT : s.heap.get? T with
    | none => exact zipT_next_end_dead hh D h hT hz.TI hTO hz.i1 hz.i2 hz.l1 hz.l2 hend fun h' x he hx => fin h' x he hx
    | some oT => exact zipT_next_end_held hh D h hT hz.TI hz.i1 hz.i2 hz.l1 hz.l2 hend fun h' x hk hx => fin h' x (fun c o c1 _ c3 c4 e => hk c o c1 c3 c4 e) hx
end
end Rz4
namespace Rd
open PySem PySem.Spec PyProof.Rows PySem.W L2 Rz2 Rz4
theorem turn_zipTN {P : Program} {w : World} {K : PySem.W.Frag} {n : Str} {tpos : Pos} {a b z TI TO i1 i2 : Addr} (D : ZipApart z TI TO i1 i2 a b) :
    Turn P w K (.Name n tpos) (RZ.ItzT K a b) [z, TI, TO, i1, i2] z (fun i h => ZS h z TI TO ∧ IsPair h TI (.ref i1) (.ref i2) ∧ (∃ x y, IsPair h TO x y) ∧ h.IsTupleIter i1 a i ∧ h.IsTupleIter i2 b i) where
  mem := by simp
  obj := fun i h st c hc => by
    obtain ⟨hz, hTI, ⟨x, y, hTO⟩, ⟨o1, e1, _, d1⟩, ⟨o2, e2, _, d2⟩⟩ := st
    have e' : c = z ∨ c = TI ∨ c = TO ∨ c = i1 ∨ c = i2 := by simpa using hc
    rcases e' with q | q | q | q | q
    · rw [q]
      rcases hz with hz | ⟨T, f, hz⟩
      · exact ⟨_, hz, fun v q => nomatch q⟩
      · exact ⟨_, hz, fun v q => nomatch q⟩
    · rw [q]; exact ⟨_, hTI, fun v q => nomatch q⟩
    · rw [q]; exact ⟨_, hTO, fun v q => nomatch q⟩
    · rw [q]; exact ⟨o1, e1, fun v q => by rw [d1] at q; cases q⟩
    · rw [q]; exact ⟨o2, e2, fun v q => by rw [d2] at q; cases q⟩
  keep := fun i h h' st k => by
    obtain ⟨hz, hTI, ⟨x, y, hTO⟩, h1, h2⟩ := st
    refine ⟨?_, k TI (by simp) _ hTI, ⟨x, y, k TO (by simp) _ hTO⟩, h1.at fun o q => k i1 (by simp) o q, h2.at fun o q => k i2 (by simp) o q⟩
    rcases hz with hz | ⟨T, f, hz⟩
    · exact .inl (k z (by simp) _ hz)
    · exact .inr ⟨T, f, k z (by simp) _ hz⟩
  item := by
    intro X hP hw hK hc i pins s σ H E I hf st hg
    subst hP hw hK
    obtain ⟨hz, hTI, hTO, h1, h2⟩ := st
    obtain ⟨xs, ys, x, y, hqx, hqy, hx, hy⟩ := hg
    obtain ⟨its, rv, p, _⟩ := I.tuple hqx
    obtain ⟨its2, rv2, p2, _⟩ := I.tuple hqy
    obtain ⟨u, hu, ru⟩ := rv.get hx
    obtain ⟨u2, hu2, ru2⟩ := rv2.get hy
    have hTIl : TI < s.heap.objs.size := Heap.lt_size hTI
    have hTOl : TO < s.heap.objs.size := by obtain ⟨_, _, q⟩ := hTO; exact Heap.lt_size q
    have hi1 : i1 < s.heap.objs.size := by obtain ⟨_, e1, _⟩ := h1; exact Heap.lt_size e1
    have hi2 : i2 < s.heap.objs.size := by obtain ⟨_, e1, _⟩ := h2; exact Heap.lt_size e1
    have hzl : z < s.heap.objs.size := by
      rcases hz with hz | ⟨T, f, hz⟩
      · exact Heap.lt_size hz
      · exact Heap.lt_size hz
    refine pzT_item (x := u) (y := u2) D ⟨hz, hTI, hTO, h1, h2, show s.heap.IsTuple a its.toArray from p, show s.heap.IsTuple b its2.toArray from p2⟩ (by simpa using hu) (by simpa using hu2) fun h' st' hT hsz hk => ?_
    refine ⟨_, rfl, ?_⟩
    show wpAny _ _ (pure ()) _ _ _
    refine wpAny_pure ?_
    have new : ObjOk X.prog X.w (upd H s.heap.objs.size (.tup [x, y])) h' s.heap.objs.size (.tup [x, y]) :=
      ⟨by show 2 ≤ sizeLine; decide, [u, u2], .cons ru (.cons ru2 .nil), ⟨_, hT, rfl, _, rfl⟩⟩
    have I1 : Inv X pins σ (upd H s.heap.objs.size (.tup [x, y])) { s with heap := h' } :=
      I.turnedNew (t' := s.toks) (ch := [z, TI, TO, i1, i2]) (fun c o hb q => hk c o (fun q' => hb (by simp [q'])) (fun q' => hb (by simp [q'])) (fun q' => hb (by simp [q'])) (fun q' => hb (by simp [q'])) q) hf (Nat.le_refl _) new
    refine ⟨.ref s.heap.objs.size, _, I1, rfl, ⟨_, x, y, rfl, I.hok.fresh (Nat.le_refl _), rfl, fun l hl => by rw [I.tuple_inj hl hqx]; exact hx, fun l hl => by rw [I.tuple_inj hl hqy]; exact hy⟩, ⟨st'.z, st'.TI, st'.TO, st'.i1, st'.i2⟩, fun c hcm => ?_⟩
    have hlt : c < s.heap.objs.size := by
      have e' : c = z ∨ c = TI ∨ c = TO ∨ c = i1 ∨ c = i2 := by simpa using hcm
      rcases e' with q | q | q | q | q
      · rw [q]; exact hzl
      · rw [q]; exact hTIl
      · rw [q]; exact hTOl
      · rw [q]; exact hi1
      · rw [q]; exact hi2
    rw [upd_ne (Nat.ne_of_lt hlt)]
    exact (hf c hcm).1
  done := by
    intro X hP hw hK hc i pins s σ H E I hf st hg
    subst hP hw hK
    obtain ⟨hz, hTI, hTO, h1, h2⟩ := st
    obtain ⟨xs, ys, hqx, hqy, hend⟩ := hg
    obtain ⟨its, rv, p, _⟩ := I.tuple hqx
    obtain ⟨its2, rv2, p2, _⟩ := I.tuple hqy
    have l1 := rv.length
    have l2 := rv2.length
    have he : its.toArray[i]? = none ∨ its2.toArray[i]? = none := by
      rcases hend with q | q
      · exact .inl (by simp; omega)
      · exact .inr (by simp; omega)
    exact pzT_end (I.ok.hd hc) D ⟨hz, hTI, hTO, h1, h2, show s.heap.IsTuple a its.toArray from p, show s.heap.IsTuple b its2.toArray from p2⟩ he fun h' hk => ⟨rfl, I.turnedL (t' := s.toks) (ch := [z, TI, TO, i1, i2]) (fun c o hb q =>
      hk c o (fun q' => hb (by simp [q'])) (fun q' => hb (by simp [q'])) (fun q' => hb (by simp [q'])) (fun q' => hb (by simp [q'])) q) hf⟩
  self := fun A i s Q E st h => by
    obtain ⟨hz, _⟩ := st
    rcases hz with hz | ⟨T, f, hz⟩
    · exact wpAny_pyIter_zip hz h
    · have hT : s.TypeIs (.ref z) "zip" := ⟨_, hz, rfl⟩
      refine wpAny_pyIter_slot hT F.slot_zip_iter (wpAny_call_entry F.slot_zip_iter hT F.entry_zip_iter ?_ (F.args_zip_iter_1 _))
      show wpAny _ _ (ret (.ref z)) _ _ s
      exact wpAny_pure ⟨_, rfl, "zip", _, hT, F.slot_zip_next.lookup, h⟩
def iZipTN (K : PySem.W.Frag) (ta : TA) : TI := fun σ H R => ta σ H fun vs H1 => ∃ a b xs ys, vs = [.ref a, .ref b] ∧ SqT K H1 a xs ∧ SqT K H1 b ys ∧ R (RZ.ItzT K a b) H1
theorem pi_zipTN {X : Cx} {K : PySem.W.Frag} {e e2 : Expr} {ta : TA} {p pos tpos : Pos} {n : Str} (hK : X.K = K) (hg : Gl X "zip") (hm : X.mg "zip" = none) (ha : PA X [e, e2] ta)
    (hs : starEach [e, e2] X.env = (false, eval e X.env) :: starEach [e2] X.env := by rfl) (hpl : (backTo pos (starEach [e2] X.env)).any (·.1) = false := by rfl) :
    PI X (.Name n tpos) (.Call (.Name "zip" p) [e, e2] [] pos) (iZipTN K ta) := by
  subst hK
  refine ⟨fun pins s σ H R I h => ?_⟩
  refine Call_ (ld_blt I hg hm PyProof.Rows.boot_zip (PyProof.Rows.callWith_type1 (thn (ha.run pos pins s σ H _ I h) fun us s1 ⟨vs, H1, I1, r1, q1⟩ => ?_) hs hpl))
  obtain ⟨a, b, xs, ys, ex, hqx, hqy, q⟩ := q1
  subst ex
  cases r1 with
  | cons r rr =>
    cases rr with
    | cons r' rr =>
      cases rr
      cases r
      cases r'
      have fresh5 : ∀ c, c ∈ [s1.heap.objs.size + 4, s1.heap.objs.size + 2, s1.heap.objs.size + 3, s1.heap.objs.size, s1.heap.objs.size + 1] → FpOk X pins H1 c := fun c hcm => by
        have e' : c = s1.heap.objs.size + 4 ∨ c = s1.heap.objs.size + 2 ∨ c = s1.heap.objs.size + 3 ∨ c = s1.heap.objs.size ∨ c = s1.heap.objs.size + 1 := by simpa using hcm
        have hle : s1.heap.objs.size ≤ c := by
          rcases e' with z | z | z | z | z
          · rw [z]; exact Nat.le_add_right _ _
          · rw [z]; exact Nat.le_add_right _ _
          · rw [z]; exact Nat.le_add_right _ _
          · rw [z]; exact Nat.le_refl _
          · rw [z]; exact Nat.le_add_right _ _
        exact I1.fpOk hle (I1.hok.fresh hle)
      obtain ⟨its, rv, p1, _⟩ := I1.tuple hqx
      obtain ⟨its2, rv2, p2, _⟩ := I1.tuple hqy
      obtain ⟨o1, ho1, _⟩ := id p1
      obtain ⟨o2, ho2, _⟩ := id p2
      refine RZ.call_zipT (show s1.heap.IsTuple a its.toArray from p1) (show s1.heap.IsTuple b its2.toArray from p2) fun h' hz hTI hTO h1 h2 hsz hk => wpAny_pyIter_zip hz ?_
      have I2 : Inv X pins σ H1 { s1 with heap := h' } := I1.kept (t' := s1.toks) hk
      exact ⟨s1.heap.objs.size + 4, [s1.heap.objs.size + 4, s1.heap.objs.size + 2, s1.heap.objs.size + 3, s1.heap.objs.size, s1.heap.objs.size + 1], _, _, H1, rfl, I2, turn_zipTN (PySem.W.ktu_apart s1.heap.objs.size a b (Heap.lt_size ho1) (Heap.lt_size ho2)), ⟨.inl hz, hTI, ⟨_, _, hTO⟩, h1, h2⟩, fresh5, q⟩
/-- a list comprehension over zip of two tuples of one length, by a name -/
theorem lc_zipT {K : PySem.W.Frag} {a b D : Addr} {xs ys : List V} {tc : TT} {te : TE} {i0 : Nat} {σ : L2.St} {H1 : Hp} {Qd : Hp → Prop} (hl : xs.length = ys.length) (Pv : Nat → Hp → Prop) (h0 : Pv 0 (upd H1 D (.lst [])))
    (hq : ∀ i H, Pv i H → SqT K H a xs ∧ SqT K H b ys)
    (hs : ∀ (i : Nat) (x y : V) (T : Addr) (H : Hp), xs[i]? = some x → ys[i]? = some y → Pv i H → H T = none → gName i0 (.ref T) (wipe σ [i0]) (upd H T (.tup [x, y])) fun σ2 H2 => wipe σ2 [i0] = wipe σ [i0] ∧ tc σ2 H2 fun b H3 =>
      if b = true then te σ2 H3 fun y H4 => ∃ acc, H4 D = some (.lst acc) ∧ acc.length < sizeLine ∧ Pv (i + 1) (upd H4 D (.lst (acc ++ [y]))) else Pv (i + 1) H3)
    (hd : ∀ H, Pv xs.length H → Qd H) :
    ∃ W : Nat → Nat → Hp → Prop, (∃ m, W 0 m (upd H1 D (.lst []))) ∧ ∀ i m H, W i m H →
      ((RZ.ItzT K a b).stop i H ∧ Qd H) ∨ ((RZ.ItzT K a b).go i H ∧ ∃ Nx : Hp → Prop, (∀ H', Nx H' → ∃ m', m' < m ∧ W (i + 1) m' H') ∧ ∀ x H', (RZ.ItzT K a b).yld i H x H' → gName i0 x (wipe σ [i0]) H' fun σ2 H2 => wipe σ2 [i0] = wipe σ [i0] ∧ tc σ2 H2 fun b H3 =>
        if b = true then te σ2 H3 fun y H4 => ∃ acc, H4 D = some (.lst acc) ∧ acc.length < sizeLine ∧ Nx (upd H4 D (.lst (acc ++ [y]))) else Nx H3) := by
  refine ⟨fun i m H => m = xs.length - i ∧ i ≤ xs.length ∧ Pv i H, ⟨xs.length, rfl, Nat.zero_le _, h0⟩, ?_⟩
  rintro i m H ⟨rfl, hi, p⟩
  obtain ⟨qx, qy⟩ := hq i H p
  by_cases hlt : i < xs.length
  · have hx : xs[i]? = some xs[i] := List.getElem?_eq_getElem hlt
    have hlt2 : i < ys.length := by omega
    have hy : ys[i]? = some ys[i] := List.getElem?_eq_getElem hlt2
    refine .inr ⟨⟨xs, ys, _, _, qx, qy, hx, hy⟩, Pv (i + 1), fun H' p' => ⟨xs.length - (i + 1), by omega, rfl, hlt, p'⟩, fun v H' y => ?_⟩
    obtain ⟨T, x', y', rfl, h2, rfl, f1, f2⟩ := y
    exact hs i x' y' T H (f1 xs qx) (f2 ys qy) p h2
  · have e : i = xs.length := by omega
    subst e
    exact .inl ⟨⟨xs, ys, qx, qy, Or.inl (Nat.le_refl _)⟩, hd H p⟩
end Rd
namespace Rd
open PySem PySem.Spec L2
section
variable {X : Cx}
def rNeE : R2 := fun x y H Q => ∃ a b xs, x = .ref a ∧ y = .ref b ∧ H a = some (.lst xs) ∧ H b = some (.lst []) ∧ Q (.bl (!xs.isEmpty)) H
theorem op_neE (hu0 : X.A.units + 64 < cLine) : OpR X (compareOp .NotEq) rNeE := by
  have hu : X.A.units < cLine := by omega
  intro pins s σ H x y v u Q I rx ry h
  obtain ⟨l, b, xs, rfl, rfl, hH, hB, q⟩ := h
  cases rx
  cases ry
  obtain ⟨z, its, n, r, hl, e⟩ := I.lstM hH
  obtain ⟨z2, its2, n2, r2, hl2, e2⟩ := I.lstM hB
  have h1 : s.heap.IsList l its.toArray := ⟨_, e, rfl, _, rfl⟩
  have h2 : s.heap.IsList b its2.toArray := ⟨_, e2, rfl, _, rfl⟩
  have z2 : its2 = [] := List.eq_nil_of_length_eq_zero (by simpa using hl2.symm)
  subst z2
  cases xs with
  | nil =>
    have z1 : its = [] := List.eq_nil_of_length_eq_zero (by simpa using hl.symm)
    subst z1
    exact PySem.SeqAt.RcNeAt.lists (e := fun _ => true) h1 h2 rfl hu (fun j j1 _ => absurd j1 (by simp)) _ _ _ _ ⟨.bl false, H, I, rfl, q⟩
  | cons y ys =>
    have z1 : 0 < its.length := by rw [← hl]; exact Nat.succ_pos _
    refine PySem.SeqAt.RcNeAt.lists_lengths h1 h2 ?_ hu _ _ _ _ ⟨.bl true, H, I, rfl, q⟩
    simp only [List.size_toArray, bne_iff_ne, List.length_nil]
    omega
def rEqE : R2 := fun x y H Q => ∃ a b ks, x = .ref a ∧ y = .ref b ∧ H a = some (.dK ks) ∧ H b = some (.dK []) ∧ Q (.bl ks.isEmpty) H
def rNeDE : R2 := fun x y H Q => ∃ a b ks, x = .ref a ∧ y = .ref b ∧ H a = some (.dK ks) ∧ H b = some (.dK []) ∧ Q (.bl (!ks.isEmpty)) H
theorem op_eqE (hu : X.A.units + 65 < cLine) : OpR X (compareOp .Eq) rEqE := by
  intro pins s σ H x y v u Q I rx ry h
  obtain ⟨a, b, ks, rfl, rfl, ea, eb, q⟩ := h
  obtain rfl : v = Value.ref a := rx
  obtain rfl : u = Value.ref b := ry
  obtain ⟨_, ya, va, ra, da⟩ := (show ObjOk X.prog X.w H s.heap a (.dK ks) from I.hok a _ ea)
  obtain ⟨_, yb, vb, rb, db⟩ := (show ObjOk X.prog X.w H s.heap b (.dK []) from I.hok b _ eb)
  have hl : va.length = ks.length := ra.length.symm
  have hb0 : vb = [] := List.eq_nil_of_length_eq_zero rb.length.symm
  subst hb0
  refine PySem.W.keq_eq (knd := mixKind X.prog X.w) (r := true) ya yb da db (by omega) (fun e => ?_) (fin_bl I q ?_)
  · have : va = [] := List.eq_nil_of_length_eq_zero e
    subst this
    exact .nil
  · cases va with
    | nil => cases ks with
      | nil => rfl
      | cons _ _ => simp at hl
    | cons _ _ => cases ks with
      | nil => simp at hl
      | cons _ _ => rfl
theorem op_neDE (hu : X.A.units + 65 < cLine) : OpR X (compareOp .NotEq) rNeDE := by
  intro pins s σ H x y v u Q I rx ry h
  obtain ⟨a, b, ks, rfl, rfl, ea, eb, q⟩ := h
  obtain rfl : v = Value.ref a := rx
  obtain rfl : u = Value.ref b := ry
  obtain ⟨_, ya, va, ra, da⟩ := (show ObjOk X.prog X.w H s.heap a (.dK ks) from I.hok a _ ea)
  obtain ⟨_, yb, vb, rb, db⟩ := (show ObjOk X.prog X.w H s.heap b (.dK []) from I.hok b _ eb)
  have hl : va.length = ks.length := ra.length.symm
  have hb0 : vb = [] := List.eq_nil_of_length_eq_zero rb.length.symm
  subst hb0
  refine PySem.W.keq_ne (knd := mixKind X.prog X.w) (r := true) ya yb da db (by omega) (fun e => ?_) (fin_bl I q ?_)
  · have : va = [] := List.eq_nil_of_length_eq_zero e
    subst this
    exact .nil
  · cases va with
    | nil => cases ks with
      | nil => rfl
      | cons _ _ => simp at hl
    | cons _ _ => cases ks with
      | nil => simp at hl
      | cons _ _ => rfl
end
end Rd
namespace Rd
open PySem L2
def lstN (g : Addr → Option Obj) (n : Nat) (rs : List Addr) : List Addr := goB g n (mainGlobals :: rs) rs (rs.foldl (fun m a => Nat.lor m (Nat.shiftLeft 1 a)) (Nat.shiftLeft 1 mainGlobals))
def rootsN (g : Addr → Option Obj) (nms : List Str) : List Addr := nms.map fun x => He.ga (He.frG g [mainGlobals]) x
def frN (nms : List Str) (n : Nat) (g : Addr → Option Obj) : PySem.W.Frag := He.frG g (cStatics :: lstN g n (rootsN g nms))
def obsN (nms : List Str) (n : Nat) (fa : List He.Fa) (fn : List He.DefD) (ts : List He.Tab) (ex : PySem.W.Frag → Bool) (fs : List He5.DefA) (g : Addr → Option Obj) : AlZ := ((He.obsT fa fn ts (frN nms n g), ex (frN nms n g)), He5.obsA [] fs (frN nms n g))
def hookN (nms : List Str) (n : Nat) (fa : List He.Fa) (fn : List He.DefD) (ts : List He.Tab) (ex : PySem.W.Frag → Bool) (fs : List He5.DefA) : PySem.W.Hook where
  α := AlZ
  obs := fun s => obsN nms n fa fn ts ex fs s.heap.get?
  val := fun w => valZ fn ts fs w
  says := fun w h => ∃ K : PySem.W.Frag, K.In h ∧ SaysZ fa fn ts ex fs w K
  of := fun _ _ e => ⟨_, He.frG_in, ⟨⟨congrArg (fun z : AlZ => z.1.1) e, congrArg (fun z : AlZ => z.1.2) e⟩, congrArg (fun z : AlZ => z.2) e⟩⟩
  keeps := fun _ _ _ ⟨K, hK, c⟩ k => ⟨K, PySem.W.Frag.In.keeps hK k, c⟩
theorem obsN_eq {nms : List Str} {n : Nat} {fa : List He.Fa} {fn : List He.DefD} {ts : List He.Tab} {ex : PySem.W.Frag → Bool} {fs : List He5.DefA} {g : Addr → Option Obj} {s : Shared} (h : ∀ a, g a = s.heap.get? a) : obsN nms n fa fn ts ex fs g = (hookN nms n fa fn ts ex fs).obs s := by
  have e : g = s.heap.get? := funext h
  rw [e] <;> rfl
end Rd
namespace Rd
open PySem L2
def top (i : Nat) : Stmt := PySem.Challenge.pw_openroads_k11_narrowest_fillings.main.body.getD i (.Pass ⟨0, 0, 0, 0⟩)
structure Tx (w : World) (K : PySem.W.Frag) (mg : Str → Option Value) : Prop where
  z_len : mg "len" = none
  z_all : mg "all" = none
  z_any : mg "any" = none
  z_abs : mg "abs" = none
  z_int : mg "int" = none
  z_list : mg "list" = none
  z_tuple : mg "tuple" = none
  z_range : mg "range" = none
  z_max : mg "max" = none
  z_sorted : mg "sorted" = none
  z_set : mg "set" = none
  z_dict : mg "dict" = none
  z_zip : mg "zip" = none
  c_SMALL : ∃ t, mg "SMALL" = some (.str "abcdefghijklmnopqrstuvwxyz" t)
  c_GREAT : ∃ t, mg "GREAT" = some (.str "ABCDEFGHIJKLMNOPQRSTUVWXYZ" t)
  c_DIGITS : ∃ t, mg "DIGITS" = some (.str "0123456789" t)
  D_SIGNS : Kd w K mg "SIGNS" [("pair", 2), ("seal", 2), ("lock", 2), ("mark", 1), ("open", 1), ("own", 1)]
  F_is_word : Fh K mg "is_word" (top 12)
  F_is_unknown : Fh K mg "is_unknown" (top 13)
  F_is_name : Fh K mg "is_name" (top 14)
  F_atom_tree : Fh K mg "atom_tree" (top 15)
  F_parts_of : Fh K mg "parts_of" (top 18)
  F_atoms_of : Fh K mg "atoms_of" (top 19)
  F_filled_tree : Fh K mg "filled_tree" (top 20)
  F_resolved : Fh K mg "resolved" (top 26)
  F_narrowest_trees : Fh K mg "narrowest_trees" (top 27)
  F_narrowest : Fh K mg "narrowest" (top 28)
  F__law_stream : Fh K mg "_law_stream" (top 30)
  F__law_draw : Fh K mg "_law_draw" (top 31)
  F__law_pick : Fh K mg "_law_pick" (top 32)
  F__law_word : Fh K mg "_law_word" (top 33)
  F__law_name : Fh K mg "_law_name" (top 34)
  F__law_atom : Fh K mg "_law_atom" (top 35)
  F__law_form : Fh K mg "_law_form" (top 36)
  F__law_letter : Fh K mg "_law_letter" (top 37)
  F__law_parts : Fh K mg "_law_parts" (top 38)
  F__law_atoms : Fh K mg "_law_atoms" (top 39)
  F__law_filled : Fh K mg "_law_filled" (top 40)
  F__law_matched : Fh K mg "_law_matched" (top 41)
  F__law_at_rest : Fh K mg "_law_at_rest" (top 42)
  F__law_unified : Fh K mg "_law_unified" (top 43)
  F__law_plain_forms : Fh K mg "_law_plain_forms" (top 44)
  F__law_opened_up : Fh K mg "_law_opened_up" (top 45)
  F__law_pairs : Fh K mg "_law_pairs" (top 46)
  F__law_is_narrow : Fh K mg "_law_is_narrow" (top 47)
  g_RoadError : mg "RoadError" = some (.ref (He.ga K "RoadError"))
  r_RoadError : REx K (He.ga K "RoadError")
  X_BadAtom : Xh K mg "BadAtom" "text" "BadAtom.__init__" (inClass (top 3) 0)
  X_BadKey : Xh K mg "BadKey" "key" "BadKey.__init__" (inClass (top 5) 0)
  f_Letter : PySem.W.selfFirst K (He.ga K "Letter") = true
  k_Letter : Cls K (He.ga K "Letter")
  n_Letter_tree : NoAttr K (He.ga K "Letter") "tree"
  I_Letter : Ih K mg "Letter" "Letter.__init__" (inClass (top 24) 0) [.non]
  M_Letter_form : Mh K "Letter" "form" "Letter.form" (inClass (top 24) 3)
  M_Letter_add : Mh K "Letter" "__add__" "Letter.__add__" (inClass (top 24) 8)
  M_Letter_mul : Mh K "Letter" "__mul__" "Letter.__mul__" (inClass (top 24) 9)
  M_Letter_xor : Mh K "Letter" "__xor__" "Letter.__xor__" (inClass (top 24) 10)
  M_Letter_invert : Mh K "Letter" "__invert__" "Letter.__invert__" (inClass (top 24) 11)
  M_Letter_pos : Mh K "Letter" "__pos__" "Letter.__pos__" (inClass (top 24) 12)
  M_Letter_neg : Mh K "Letter" "__neg__" "Letter.__neg__" (inClass (top 24) 13)
section
set_option maxHeartbeats 0
def nms0 : List PySem.Str := ["SMALL", "GREAT", "DIGITS", "SIGNS", "is_word", "is_unknown", "is_name", "atom_tree", "parts_of", "atoms_of", "filled_tree", "resolved", "narrowest_trees", "narrowest", "_law_stream", "_law_draw", "_law_pick", "_law_word", "_law_name", "_law_atom", "_law_form", "_law_letter", "_law_parts", "_law_atoms", "_law_filled", "_law_matched", "_law_at_rest", "_law_unified", "_law_plain_forms", "_law_opened_up"]
def nms1 : List PySem.Str := ["_law_pairs", "_law_is_narrow", "law", "RoadError", "BadAtom", "BadKey", "Letter"]
def nms : List PySem.Str := nms0 ++ nms1
def d0 : He.DefD := ⟨("is_word", none), "is_word", "is_word", defArgs (top 12), defBody (top 12), defScope (top 12), [], []⟩
def d1 : He.DefD := ⟨("is_unknown", none), "is_unknown", "is_unknown", defArgs (top 13), defBody (top 13), defScope (top 13), [], []⟩
def d2 : He.DefD := ⟨("is_name", none), "is_name", "is_name", defArgs (top 14), defBody (top 14), defScope (top 14), [], []⟩
def d3 : He.DefD := ⟨("atom_tree", none), "atom_tree", "atom_tree", defArgs (top 15), defBody (top 15), defScope (top 15), [], []⟩
def d4 : He.DefD := ⟨("parts_of", none), "parts_of", "parts_of", defArgs (top 18), defBody (top 18), defScope (top 18), [], []⟩
def d5 : He.DefD := ⟨("atoms_of", none), "atoms_of", "atoms_of", defArgs (top 19), defBody (top 19), defScope (top 19), [], []⟩
def d6 : He.DefD := ⟨("filled_tree", none), "filled_tree", "filled_tree", defArgs (top 20), defBody (top 20), defScope (top 20), [], []⟩
def d7 : He.DefD := ⟨("resolved", none), "resolved", "resolved", defArgs (top 26), defBody (top 26), defScope (top 26), [], []⟩
def d8 : He.DefD := ⟨("narrowest_trees", none), "narrowest_trees", "narrowest_trees", defArgs (top 27), defBody (top 27), defScope (top 27), [], []⟩
def d9 : He.DefD := ⟨("narrowest", none), "narrowest", "narrowest", defArgs (top 28), defBody (top 28), defScope (top 28), [], []⟩
def d10 : He.DefD := ⟨("_law_stream", none), "_law_stream", "_law_stream", defArgs (top 30), defBody (top 30), defScope (top 30), [], []⟩
def d11 : He.DefD := ⟨("_law_draw", none), "_law_draw", "_law_draw", defArgs (top 31), defBody (top 31), defScope (top 31), [], []⟩
def d12 : He.DefD := ⟨("_law_pick", none), "_law_pick", "_law_pick", defArgs (top 32), defBody (top 32), defScope (top 32), [], []⟩
def d13 : He.DefD := ⟨("_law_word", none), "_law_word", "_law_word", defArgs (top 33), defBody (top 33), defScope (top 33), [], []⟩
def d14 : He.DefD := ⟨("_law_name", none), "_law_name", "_law_name", defArgs (top 34), defBody (top 34), defScope (top 34), [], []⟩
def d15 : He.DefD := ⟨("_law_atom", none), "_law_atom", "_law_atom", defArgs (top 35), defBody (top 35), defScope (top 35), [], []⟩
def d16 : He.DefD := ⟨("_law_form", none), "_law_form", "_law_form", defArgs (top 36), defBody (top 36), defScope (top 36), [], []⟩
def d17 : He.DefD := ⟨("_law_letter", none), "_law_letter", "_law_letter", defArgs (top 37), defBody (top 37), defScope (top 37), [], []⟩
def d18 : He.DefD := ⟨("_law_parts", none), "_law_parts", "_law_parts", defArgs (top 38), defBody (top 38), defScope (top 38), [], []⟩
def d19 : He.DefD := ⟨("_law_atoms", none), "_law_atoms", "_law_atoms", defArgs (top 39), defBody (top 39), defScope (top 39), [], []⟩
def d20 : He.DefD := ⟨("_law_filled", none), "_law_filled", "_law_filled", defArgs (top 40), defBody (top 40), defScope (top 40), [], []⟩
def d21 : He.DefD := ⟨("_law_matched", none), "_law_matched", "_law_matched", defArgs (top 41), defBody (top 41), defScope (top 41), [], []⟩
def d22 : He.DefD := ⟨("_law_at_rest", none), "_law_at_rest", "_law_at_rest", defArgs (top 42), defBody (top 42), defScope (top 42), [], []⟩
def d23 : He.DefD := ⟨("_law_unified", none), "_law_unified", "_law_unified", defArgs (top 43), defBody (top 43), defScope (top 43), [], []⟩
def d24 : He.DefD := ⟨("_law_plain_forms", none), "_law_plain_forms", "_law_plain_forms", defArgs (top 44), defBody (top 44), defScope (top 44), [], []⟩
def d25 : He.DefD := ⟨("_law_opened_up", none), "_law_opened_up", "_law_opened_up", defArgs (top 45), defBody (top 45), defScope (top 45), [], []⟩
def d26 : He.DefD := ⟨("_law_pairs", none), "_law_pairs", "_law_pairs", defArgs (top 46), defBody (top 46), defScope (top 46), [], []⟩
def d27 : He.DefD := ⟨("_law_is_narrow", none), "_law_is_narrow", "_law_is_narrow", defArgs (top 47), defBody (top 47), defScope (top 47), [], []⟩
def d28 : He.DefD := ⟨("law", none), "law", "law", defArgs (top 48), defBody (top 48), defScope (top 48), [], []⟩
def d29 : He.DefD := ⟨("BadAtom", some "__init__"), "__init__", "BadAtom.__init__", defArgs (inClass (top 3) 0), defBody (inClass (top 3) 0), defScope (inClass (top 3) 0), [], []⟩
def d30 : He.DefD := ⟨("BadKey", some "__init__"), "__init__", "BadKey.__init__", defArgs (inClass (top 5) 0), defBody (inClass (top 5) 0), defScope (inClass (top 5) 0), [], []⟩
def d31 : He.DefD := ⟨("Letter", some "__init__"), "__init__", "Letter.__init__", defArgs (inClass (top 24) 0), defBody (inClass (top 24) 0), defScope (inClass (top 24) 0), [.non], []⟩
def d32 : He.DefD := ⟨("Letter", some "form"), "form", "Letter.form", defArgs (inClass (top 24) 3), defBody (inClass (top 24) 3), defScope (inClass (top 24) 3), [], []⟩
def d33 : He.DefD := ⟨("Letter", some "__add__"), "__add__", "Letter.__add__", defArgs (inClass (top 24) 8), defBody (inClass (top 24) 8), defScope (inClass (top 24) 8), [], []⟩
def d34 : He.DefD := ⟨("Letter", some "__mul__"), "__mul__", "Letter.__mul__", defArgs (inClass (top 24) 9), defBody (inClass (top 24) 9), defScope (inClass (top 24) 9), [], []⟩
def d35 : He.DefD := ⟨("Letter", some "__xor__"), "__xor__", "Letter.__xor__", defArgs (inClass (top 24) 10), defBody (inClass (top 24) 10), defScope (inClass (top 24) 10), [], []⟩
def d36 : He.DefD := ⟨("Letter", some "__invert__"), "__invert__", "Letter.__invert__", defArgs (inClass (top 24) 11), defBody (inClass (top 24) 11), defScope (inClass (top 24) 11), [], []⟩
def d37 : He.DefD := ⟨("Letter", some "__pos__"), "__pos__", "Letter.__pos__", defArgs (inClass (top 24) 12), defBody (inClass (top 24) 12), defScope (inClass (top 24) 12), [], []⟩
def d38 : He.DefD := ⟨("Letter", some "__neg__"), "__neg__", "Letter.__neg__", defArgs (inClass (top 24) 13), defBody (inClass (top 24) 13), defScope (inClass (top 24) 13), [], []⟩
def fa0 : List He.Fa := [.free "len", .free "all", .free "any", .free "abs", .free "int", .free "list", .free "tuple", .free "range", .free "max", .free "sorted", .free "set", .free "dict", .free "zip", .str "SMALL" "abcdefghijklmnopqrstuvwxyz", .str "GREAT" "ABCDEFGHIJKLMNOPQRSTUVWXYZ", .str "DIGITS" "0123456789", .glo "SIGNS", .glo "is_word", .glo "is_unknown", .glo "is_name", .glo "atom_tree", .glo "parts_of", .glo "atoms_of", .glo "filled_tree", .glo "resolved", .glo "narrowest_trees", .glo "narrowest", .glo "_law_stream", .glo "_law_draw", .glo "_law_pick"]
def fa1 : List He.Fa := [.glo "_law_word", .glo "_law_name", .glo "_law_atom", .glo "_law_form", .glo "_law_letter", .glo "_law_parts", .glo "_law_atoms", .glo "_law_filled", .glo "_law_matched", .glo "_law_at_rest", .glo "_law_unified", .glo "_law_plain_forms", .glo "_law_opened_up", .glo "_law_pairs", .glo "_law_is_narrow", .glo "law", .glo "RoadError", .glo "BadAtom", .exm "BadAtom" "BadAtom" true, .meth "BadAtom" "__init__", .noat "BadAtom" "text", .glo "BadKey", .exm "BadKey" "BadKey" true, .meth "BadKey" "__init__", .noat "BadKey" "key", .glo "Letter", .cls "Letter", .noat "Letter" "tree", .mkr "Letter", .meth "Letter" "form"]
def fa2 : List He.Fa := [.meth "Letter" "__add__", .meth "Letter" "__mul__", .meth "Letter" "__xor__", .meth "Letter" "__invert__", .meth "Letter" "__pos__", .meth "Letter" "__neg__"]
def fa : List He.Fa := fa0 ++ fa1 ++ fa2
def fn0 : List He.DefD := [d0, d1, d2, d3, d4, d5, d6, d7, d8, d9, d10, d11, d12, d13, d14, d15, d16, d17, d18, d19, d20, d21, d22, d23, d24, d25, d26, d27, d28, d29]
def fn1 : List He.DefD := [d30, d31, d32, d33, d34, d35, d36, d37, d38]
def fn : List He.DefD := fn0 ++ fn1
def loo0 : List PySem.Str := ["_wall", "RoadError", "BadAtom", "BadForm", "BadKey", "BadText", "SMALL", "GREAT", "DIGITS", "SIGNS", "is_word", "is_unknown", "is_name", "atom_tree", "is_atom_form", "check_form", "parts_of", "atoms_of", "filled_tree", "tree_text", "made_tree", "Reader", "Letter", "resolved", "narrowest_trees", "narrowest", "_law_stream", "_law_draw", "_law_pick", "_law_word"]
def loo1 : List PySem.Str := ["_law_name", "_law_atom", "_law_form", "_law_letter", "_law_parts", "_law_atoms", "_law_filled", "_law_matched", "_law_at_rest", "_law_unified", "_law_plain_forms", "_law_opened_up", "_law_pairs", "_law_is_narrow"]
def loo : List PySem.Str := loo0 ++ loo1
def fs : List He5.DefA := []
def ts : List He.Tab := [(fun K => He.ga K "SIGNS", ["pair", "seal", "lock", "mark", "open", "own"])]
def exl (K : PySem.W.Frag) : List Bool := [kdB K (He.ga K "SIGNS") [("pair", 2), ("seal", 2), ("lock", 2), ("mark", 1), ("open", 1), ("own", 1)], rexB K "RoadError", oexB K "BadAtom", xfB K (He.ga K "BadAtom"), oexB K "BadKey", xfB K (He.ga K "BadKey"), PySem.W.selfFirst K (He.ga K "Letter")]
def exq : PySem.W.Frag → Bool := fun K => (exl K).all id
theorem exl_ok {K : PySem.W.Frag} (h : exq K = true) (i : Nat) {b : Bool} (e : (exl K)[i]? = some b) : b = true := List.all_eq_true.mp h b (List.mem_of_getElem? e)
abbrev R : PySem.W.OpenRow := PySem.W.OpenLaw.row PySem.Challenge.rw_openroads_k11_narrowest_fillings
abbrev hk : PySem.W.Hook := hookN nms 5 fa fn ts exq fs
def ob (s : PySem.W.SharedT) : AlZ := obsN nms 5 fa fn ts exq fs (HandSHeadRun.getT s)
theorem ob_eq (s : PySem.W.SharedT) : ob s = hk.obs s.abs := obsN_eq (HandSHeadRun.getT_eq s)
abbrev qv : Program := PySem.W.view R.prog [48]
theorem join3 {α β γ δ : Type _} {o : Option α} {f : α → β} {g : α → γ} {h : α → δ} {a : β} {b : γ} {c : δ} (e1 : o.map f = some a) (e2 : o.map g = some b) (e3 : o.map h = some c) : o.map (fun s => (f s, g s, h s)) = some (a, b, c) := by
  cases o with
  | none => cases e1
  | some s =>
    cases e1
    cases e2
    cases e3
    rfl
open PySem PySem.W PySem.Calls PyProof.Rows HandSHeadRun in
theorem run0a (w : World) (os : OsState) : (HandSHeadRun.endF (HandSHeadRun.stepQ (HandSHeadRun.denQ HandSHeadRun.tabQ) R.prog (w.withFollow "special-get-raises" false)) 8000 R.prog (w.withFollow "special-get-raises" false) os).map (fun s => looksF R.prog (boot_heap (w.withFollow "special-get-raises" false).params) s.abs) = some true := by
  kernel_rfl
open PySem PySem.W PySem.Calls PyProof.Rows HandSHeadRun in
theorem run0b (w : World) (os : OsState) : (HandSHeadRun.endF (HandSHeadRun.stepQ (HandSHeadRun.denQ HandSHeadRun.tabQ) R.prog (w.withFollow "special-get-raises" false)) 8000 R.prog (w.withFollow "special-get-raises" false) os).map (fun s => seenQ qv loo (importedModules R.prog.main.body) (fun s => xlAt qv [] s && recOk R.toRowW.records s) s.abs) = some (openGood qv loo) := by
  kernel_rfl
open PySem PySem.W PySem.Calls PyProof.Rows HandSHeadRun in
theorem run0c (w : World) (os : OsState) : (HandSHeadRun.endF (HandSHeadRun.stepQ (HandSHeadRun.denQ HandSHeadRun.tabQ) R.prog (w.withFollow "special-get-raises" false)) 8000 R.prog (w.withFollow "special-get-raises" false) os).map ob = some (hk.val (w.withFollow "special-get-raises" false)) := by
  kernel_rfl
theorem run0 (w : World) : HandSHeadRun.RunEq R qv hk ob 8000 loo (w.withFollow "special-get-raises" false) := fun os => join3 (run0a w os) (run0b w os) (run0c w os)
open PySem PySem.W PySem.Calls PyProof.Rows HandSHeadRun in
theorem run1a (w : World) (os : OsState) : (HandSHeadRun.endF (HandSHeadRun.stepQ (HandSHeadRun.denQ HandSHeadRun.tabQ) R.prog (w.withFollow "special-get-raises" true)) 8000 R.prog (w.withFollow "special-get-raises" true) os).map (fun s => looksF R.prog (boot_heap (w.withFollow "special-get-raises" true).params) s.abs) = some true := by
  kernel_rfl
open PySem PySem.W PySem.Calls PyProof.Rows HandSHeadRun in
theorem run1b (w : World) (os : OsState) : (HandSHeadRun.endF (HandSHeadRun.stepQ (HandSHeadRun.denQ HandSHeadRun.tabQ) R.prog (w.withFollow "special-get-raises" true)) 8000 R.prog (w.withFollow "special-get-raises" true) os).map (fun s => seenQ qv loo (importedModules R.prog.main.body) (fun s => xlAt qv [] s && recOk R.toRowW.records s) s.abs) = some (openGood qv loo) := by
  kernel_rfl
open PySem PySem.W PySem.Calls PyProof.Rows HandSHeadRun in
theorem run1c (w : World) (os : OsState) : (HandSHeadRun.endF (HandSHeadRun.stepQ (HandSHeadRun.denQ HandSHeadRun.tabQ) R.prog (w.withFollow "special-get-raises" true)) 8000 R.prog (w.withFollow "special-get-raises" true) os).map ob = some (hk.val (w.withFollow "special-get-raises" true)) := by
  kernel_rfl
theorem run1 (w : World) : HandSHeadRun.RunEq R qv hk ob 8000 loo (w.withFollow "special-get-raises" true) := fun os => join3 (run1a w os) (run1b w os) (run1c w os)
theorem run (w : World) : HandSHeadRun.RunEq R qv hk ob 8000 loo w := PySem.W.byRow2 "special-get-raises" (P := fun w => HandSHeadRun.RunEq R qv hk ob 8000 loo w) run0 run1 w
end
end Rd
namespace Rd
open PySem L2
def SMALL : Str := "abcdefghijklmnopqrstuvwxyz"
def GREAT : Str := "ABCDEFGHIJKLMNOPQRSTUVWXYZ"
def DIGITS : Str := "0123456789"
def inS (s : Str) (c : Nat) : Bool := decide (c ∈ s.cps.toList)
def isWord (z : Str) : Bool := decide (1 ≤ z.length) && (decide (z.length ≤ 8) && z.cps.toList.all (inS SMALL))
def isUnk (z : Str) : Bool := isWord z && decide (z.length ≤ 7)
def isName (z : Str) : Bool := decide (1 ≤ (Txt.rstripChars z DIGITS).length) && (decide (z.length ≤ 8) && (Txt.rstripChars z DIGITS).cps.toList.all (inS GREAT))
theorem lineBig : 200000 ≤ sizeLine := by decide
theorem allId (l : List Nat) (p : Nat → Bool) : (l.map p).all id = l.all p := by simp [List.all_map]
theorem decNat {a b : Nat} : decide ((a : Int) ≤ (b : Int)) = decide (a ≤ b) := by
  by_cases h : a ≤ b
  · rw [decide_eq_true h, decide_eq_true (by omega)]
  · rw [decide_eq_false h, decide_eq_false (by omega)]
def spTB (f : Str → Bool) : Sp := fun vs H Q _ => ∃ z : Str, vs = [.str z] ∧ z.length ≤ 200000 ∧ ∀ H', Same H H' → Q (.bl (f z)) H'
section
variable {P : Program} {w : World} {K : PySem.W.Frag} {mg : Str → Option Value} {base : Heap}
abbrev s_is_word : Stmt := top 12
theorem sc_is_word : FnScope ["text", "sign"] ["text"] (defScope s_is_word) := ⟨rfl, rfl, rfl, by decide +kernel, rfl, by decide +kernel, by decide +kernel⟩
theorem ok_is_word (T : Tx w K mg) : Fk P w K mg base CX0 1 "is_word" ["text"] (spTB isWord) := by
  refine T.F_is_word.ok0 sc_is_word (fun _ _ _ _ _ _ us hl => match us, hl with | [_], _ => rfl)
    (fun vs H Q E h => ?_) (fun cdv A outer s H vs Q E hr h => ?_)
  · obtain ⟨z, rfl, _⟩ := h
    rfl
  · obtain ⟨z, rfl, hz, k⟩ := h
    have hl : z.length ≤ sizeLine := Nat.le_trans hz lineBig
    refine ⟨_, (pss_one (ps_ret (pe_and (pe_chain op_le op_le pe_int (pe_callB call_len_str (by rfl) T.z_len (by decide +kernel) (pa_cons (pv 0) pa_nil)) pe_int) (pe_one (pe_callB (cr_all rfl) (by rfl) T.z_all (by decide +kernel) (pa_cons (pe_lc (own := [("sign", 1)]) (g := gName 1) (tt := tYes) (by rfl) sc_is_word.nd (pi_str (pv 0)) (blkOk_by (own := [("sign", 1)]) (N := ["text", "sign"]) (sc := defScope s_is_word) (by decide +kernel)) (fun _ _ _ _ _ => (pg_name (i := 1) sc_is_word.nd rfl (Or.inl rfl))) (fun _ _ _ _ _ => pts_nil) (fun _ _ _ _ _ => (pe_cmpR op_in_sign (pv 1) (pe_gstr T.c_SMALL) (by rfl)))) pa_nil)))))), ?_⟩
    refine ⟨_, rfl, z, rfl, hl, _, _, rfl, rfl, _, rfl, ?_⟩
    refine ite2 (fun h1 => ?_) (fun h1 => ⟨false, rfl, ?_⟩)
    · refine ⟨_, _, rfl, rfl, _, rfl, ?_⟩
      refine ite2 (fun h2 => ?_) (fun h2 => ?_)
      · refine ⟨_, rfl, z, rfl, fun D hD => lcs (f := fun c => V.bl (inS SMALL c)) hl (fun c H Q hc q => ⟨_, rfl, _, _, rfl, rfl, q⟩) ?_⟩
        refine ⟨D, z.cps.toList.map (inS SMALL), rfl, SqL.of (by rw [upd_same, List.map_map]; rfl), ?_⟩
        have e : isWord z = (z.cps.toList.map (inS SMALL)).all id := by
          have a1 : decide (1 ≤ z.length) = true := decide_eq_true (by have := of_decide_eq_true h1; omega)
          have a2 : decide (z.length ≤ 8) = true := decide_eq_true (by have := of_decide_eq_true h2; omega)
          rw [isWord, a1, a2, allId] <;> rfl
        show Q (V.bl ((z.cps.toList.map (inS SMALL)).all id)) _
        rw [← e]
        exact k _ (Rd.Same.upd hD)
      · have e : isWord z = false := by
          have a2 : decide (z.length ≤ 8) = false := decide_eq_false (fun q => h2 (decide_eq_true (by omega)))
          rw [isWord, a2] <;> simp
        show Q (V.bl false) _
        rw [← e]
        exact k _ (Same.refl _)
    · have e : isWord z = false := by
        have a1 : decide (1 ≤ z.length) = false := decide_eq_false (fun q => h1 (decide_eq_true (by omega)))
        rw [isWord, a1] <;> rfl
      show Q (V.bl false) _
      rw [← e]
      exact k _ (Same.refl _)
abbrev s_is_unknown : Stmt := top 13
theorem sc_is_unknown : FnScope ["text"] ["text"] (defScope s_is_unknown) := ⟨rfl, rfl, rfl, by decide +kernel, rfl, by decide +kernel, by decide +kernel⟩
theorem ok_is_unknown (T : Tx w K mg) : Fk P w K mg base CX0 2 "is_unknown" ["text"] (spTB isUnk) := by
  refine T.F_is_unknown.ok0 sc_is_unknown (fun _ _ _ _ _ _ us hl => match us, hl with | [_], _ => rfl)
    (fun vs H Q E h => ?_) (fun cdv A outer s H vs Q E hr h => ?_)
  · obtain ⟨z, rfl, _⟩ := h
    rfl
  · obtain ⟨z, rfl, hz, k⟩ := h
    have hl : z.length ≤ sizeLine := Nat.le_trans hz lineBig
    refine ⟨_, (pss_one (ps_ret (pe_and (pe_fk (ok_is_word T) (hr.mono (by omega)) rfl pass0 (pa_cons (pv 0) pa_nil)) (pe_one (pe_cmpR op_le (pe_callB call_len_str (by rfl) T.z_len (by decide +kernel) (pa_cons (pv 0) pa_nil)) pe_int (nomark _)))))), ?_⟩
    refine ⟨_, rfl, z, rfl, hz, fun H1 s1 => ⟨_, rfl, ?_⟩⟩
    refine ite2 (fun h1 => ?_) (fun h1 => ?_)
    · refine ⟨_, rfl, z, rfl, hl, _, _, rfl, rfl, ?_⟩
      have e : isUnk z = decide ((z.length : Int) ≤ 7) := by
        rw [isUnk, h1]
        exact (decNat (b := 7)).symm
      show Q (V.bl (decide ((z.length : Int) ≤ 7))) _
      rw [← e]
      exact k _ s1
    · have e : isUnk z = false := by
        rw [isUnk, Bool.eq_false_iff.mpr h1] <;> rfl
      show Q (V.bl false) _
      rw [← e]
      exact k _ s1
abbrev s_is_name : Stmt := top 14
theorem sc_is_name : FnScope ["text", "letters", "sign"] ["text"] (defScope s_is_name) := ⟨rfl, rfl, rfl, by decide +kernel, rfl, by decide +kernel, by decide +kernel⟩
theorem ok_is_name (T : Tx w K mg) : Fk P w K mg base CX0 1 "is_name" ["text"] (spTB isName) := by
  refine T.F_is_name.ok0 sc_is_name (fun _ _ _ _ _ _ us hl => match us, hl with | [_], _ => rfl)
    (fun vs H Q E h => ?_) (fun cdv A outer s H vs Q E hr h => ?_)
  · obtain ⟨z, rfl, _⟩ := h
    rfl
  · obtain ⟨z, rfl, hz, k⟩ := h
    have hl : z.length ≤ sizeLine := Nat.le_trans hz lineBig
    refine ⟨_, (pss_cons (ps_set (i := 1) sc_is_name.nd rfl (Or.inl rfl) (pe_bm PySem.F.plainAttrs_str PySem.F.slot_str_rstrip PySem.F.type_str_rstrip mt_rstripChars (pv 0) (pa_cons (pe_gstr T.c_DIGITS) pa_nil)))
  (pss_one (ps_ret (pe_and (pe_cmpR op_le pe_int (pe_callB call_len_str (by rfl) T.z_len (by decide +kernel) (pa_cons (pv 1) pa_nil)) (nomark _)) (pe_and (pe_cmpR op_le (pe_callB call_len_str (by rfl) T.z_len (by decide +kernel) (pa_cons (pv 0) pa_nil)) pe_int (nomark _)) (pe_one (pe_callB (cr_all rfl) (by rfl) T.z_all (by decide +kernel) (pa_cons (pe_lc (own := [("sign", 2)]) (g := gName 2) (tt := tYes) (by rfl) sc_is_name.nd (pi_str (pv 1)) (blkOk_by (own := [("sign", 2)]) (N := ["text", "letters", "sign"]) (sc := defScope s_is_name) (by decide +kernel)) (fun _ _ _ _ _ => (pg_name (i := 2) sc_is_name.nd rfl (Or.inl rfl))) (fun _ _ _ _ _ => pts_nil) (fun _ _ _ _ _ => (pe_cmpR op_in_sign (pv 2) (pe_gstr T.c_GREAT) (by rfl)))) pa_nil)))))))), ?_⟩
    have hl2 : (Txt.rstripChars z DIGITS).length ≤ sizeLine := Nat.le_trans (PyProof.Rows.len_rstripChars z DIGITS) hl
    refine ⟨_, rfl, rfl, z, DIGITS, rfl, rfl, hl, ?_⟩
    refine ⟨_, rfl, _, rfl, hl2, _, _, rfl, rfl, _, rfl, ?_⟩
    refine ite2 (fun h1 => ?_) (fun h1 => ?_)
    · refine ⟨_, rfl, z, rfl, hl, _, _, rfl, rfl, _, rfl, ?_⟩
      refine ite2 (fun h2 => ?_) (fun h2 => ?_)
      · refine ⟨_, rfl, _, rfl, fun D hD => lcs (f := fun c => V.bl (inS GREAT c)) hl2 (fun c H Q hc q => ⟨_, rfl, _, _, rfl, rfl, q⟩) ?_⟩
        refine ⟨D, (Txt.rstripChars z DIGITS).cps.toList.map (inS GREAT), rfl, SqL.of (by rw [upd_same, List.map_map]; rfl), ?_⟩
        have e : isName z = ((Txt.rstripChars z DIGITS).cps.toList.map (inS GREAT)).all id := by
          have a1 : decide (1 ≤ (Txt.rstripChars z DIGITS).length) = true := decide_eq_true (by have := of_decide_eq_true h1; omega)
          have a2 : decide (z.length ≤ 8) = true := decide_eq_true (by have := of_decide_eq_true h2; omega)
          rw [isName, a1, a2, allId] <;> rfl
        show Q (V.bl (((Txt.rstripChars z DIGITS).cps.toList.map (inS GREAT)).all id)) _
        rw [← e]
        exact k _ (Rd.Same.upd hD)
      · have e : isName z = false := by
          have a2 : decide (z.length ≤ 8) = false := decide_eq_false (fun q => h2 (decide_eq_true (by omega)))
          rw [isName, a2] <;> simp
        show Q (V.bl false) _
        rw [← e]
        exact k _ (Same.refl _)
    · have e : isName z = false := by
        have a1 : decide (1 ≤ (Txt.rstripChars z DIGITS).length) = false := decide_eq_false (fun q => h1 (decide_eq_true (by omega)))
        rw [isName, a1] <;> rfl
      show Q (V.bl false) _
      rw [← e]
      exact k _ (Same.refl _)
/-- text[1:] -/
def tailS (z : Str) : Str := cutS z (some 1) none
theorem cutS_from (z : Str) (a : Nat) : (cutS z (some (a : Int)) none).cps.toList = z.cps.toList.drop a := by
  show ((z.cps.toList.drop (HT.sIx z.length 0 (some (a : Int)))).take (z.length - HT.sIx z.length 0 (some (a : Int)))) = _
  have hs : z.cps.toList.length = z.length := by rw [Array.length_toList]; rfl
  rw [HT.sIx_nat, List.take_of_length_le (by rw [List.length_drop, hs]; exact Nat.le_refl _)]
  rcases Nat.le_total a z.length with h | h
  · rw [Nat.min_eq_left h]
  · rw [Nat.min_eq_right h, List.drop_of_length_le (by omega), List.drop_of_length_le (by omega)]
theorem len_list (z : Str) : z.length = z.cps.toList.length := by rw [Array.length_toList]; rfl
theorem tailS_list (z : Str) : (tailS z).cps.toList = z.cps.toList.drop 1 := cutS_from z 1
theorem tailS_len (z : Str) : (tailS z).length ≤ z.length := by
  rw [len_list, len_list, tailS_list, List.length_drop]
  omega
def atomOf (z : Str) : Option (Str × Str) := if isWord z = true then some ("word", z) else if isName z = true then some ("name", z) else if (Txt.startswith z "?" && isUnk (tailS z)) = true then some ("unknown", tailS z) else none
def sp_atom_tree : Sp := fun vs H Q _ => ∃ z : Str, vs = [.str z] ∧ z.length ≤ 200000 ∧ (∀ H', Same H H' → atomOf z = none → Q .non H') ∧ ∀ k x p H', Same H H' → atomOf z = some (k, x) → H p = none → H' p = some (.tup [.str k, .str x]) → Q (.ref p) H'
abbrev s_atom_tree : Stmt := top 15
theorem sc_atom_tree : FnScope ["text"] ["text"] (defScope s_atom_tree) := ⟨rfl, rfl, rfl, by decide +kernel, rfl, by decide +kernel, by decide +kernel⟩
theorem ok_atom_tree (T : Tx w K mg) : Fk P w K mg base CX0 3 "atom_tree" ["text"] sp_atom_tree := by
  refine T.F_atom_tree.ok0 sc_atom_tree (fun _ _ _ _ _ _ us hl => match us, hl with | [_], _ => rfl)
    (fun vs H Q E h => ?_) (fun cdv A outer s H vs Q E hr h => ?_)
  · obtain ⟨z, rfl, _⟩ := h
    rfl
  · obtain ⟨z, rfl, hz, k0, k1⟩ := h
    have hl : z.length ≤ sizeLine := Nat.le_trans hz lineBig
    have hz2 : (tailS z).length ≤ 200000 := Nat.le_trans (tailS_len z) hz
    refine ⟨_, (pss_cons (ps_if (pt_val (pe_fk (ok_is_word T) (hr.mono (by omega)) rfl pass0 (pa_cons (pv 0) pa_nil)))
  (pss_one (ps_ret (pe_tup (pa_cons pe_str (pa_cons (pv 0) pa_nil)))))
  pss_nil)
  (pss_cons (ps_if (pt_val (pe_fk (ok_is_name T) (hr.mono (by omega)) rfl pass0 (pa_cons (pv 0) pa_nil)))
  (pss_one (ps_ret (pe_tup (pa_cons pe_str (pa_cons (pv 0) pa_nil)))))
  pss_nil)
  (pss_cons (ps_if (PW.pt (pw_and (pt_val (pe_bm PySem.F.plainAttrs_str PySem.F.slot_str_startswith PySem.F.type_str_startswith mt_startswith (pv 0) (pa_cons pe_str pa_nil))) (pw_and1 (pt_val (pe_fk (ok_is_unknown T) (hr.mono (by omega)) rfl pass0 (pa_cons (pe_slice sl_str (pv 0) (po_some pe_int) po_none) pa_nil))))))
  (pss_one (ps_ret (pe_tup (pa_cons pe_str (pa_cons (pe_slice sl_str (pv 0) (po_some pe_int) po_none) pa_nil)))))
  pss_nil)
  (pss_one (ps_ret pe_non))))), ?_⟩
    refine ⟨_, rfl, z, rfl, hz, fun H1 s1 => ⟨_, rfl, ite2 (fun h1 => ?_) (fun h1 => ?_)⟩⟩
    · refine ⟨_, rfl, (by show 2 ≤ sizeLine; decide), fun p hp => ?_⟩
      exact k1 _ _ p _ (Rd.Same.upd' s1 hp) (by rw [atomOf, if_pos h1]) (s1.free hp) upd_same
    · refine ⟨_, rfl, z, rfl, hz, fun H2 s2 => ⟨_, rfl, ite2 (fun h2 => ?_) (fun h2 => ?_)⟩⟩
      · refine ⟨_, rfl, (by show 2 ≤ sizeLine; decide), fun p hp => ?_⟩
        exact k1 _ _ p _ (Rd.Same.upd' (s1.trans s2) hp) (by rw [atomOf, if_neg h1, if_pos h2]) ((s1.trans s2).free hp) upd_same
      · refine ⟨_, rfl, rfl, z, "?", rfl, rfl, _, rfl, ite2 (fun h3 => ?_) (fun h3 => ?_)⟩
        · refine ⟨_, rfl, _, rfl, z, rfl, hl, tailS z, rfl, hz2, fun H3 s3 => ⟨_, rfl, ite2 (fun h4 => ?_) (fun h4 => ?_)⟩⟩
          · refine ⟨_, rfl, _, rfl, z, rfl, hl, (by show 2 ≤ sizeLine; decide), fun p hp => ?_⟩
            exact k1 _ _ p _ (Rd.Same.upd' ((s1.trans s2).trans s3) hp) (by rw [atomOf, if_neg h1, if_neg h2, if_pos (by rw [h3, h4]; rfl)]; rfl) (((s1.trans s2).trans s3).free hp) upd_same
          · exact k0 _ ((s1.trans s2).trans s3) (by rw [atomOf, if_neg h1, if_neg h2, if_neg (by rw [Bool.eq_false_iff.mpr h4]; simp)])
        · exact k0 _ (s1.trans s2) (by rw [atomOf, if_neg h1, if_neg h2, if_neg (by rw [Bool.eq_false_iff.mpr h3]; simp)])
end
end Rd
namespace Rd
open PySem L2
theorem str_ext {a b : Str} (h : a.cps.toList = b.cps.toList) : a = b := by
  obtain ⟨⟨a⟩⟩ := a
  obtain ⟨⟨b⟩⟩ := b
  have e : a = b := h
  rw [e]
theorem app_list (a b : Str) : (a ++ b).cps.toList = a.cps.toList ++ b.cps.toList := by
  show (a.cps ++ b.cps).toList = _
  rw [Array.toList_append]
theorem contains_in (s : Str) (c : Nat) : s.cps.contains c = inS s c := by
  unfold inS
  rw [Bool.eq_iff_iff, decide_eq_true_iff, Array.contains_iff_mem]
  exact Array.mem_def
theorem rstrip_list (z s : Str) : (Txt.rstripChars z s).cps.toList = (z.cps.toList.reverse.dropWhile (inS s)).reverse := by
  have e0 : s.cps.contains = inS s := funext (contains_in s)
  show (Txt.stripBy s.cps.contains false true z).cps.toList = _
  rw [PyProof.Rows.stripBy_eq, e0]
  show (z.cps.extract 0 (z.length - ((z.cps.toList.drop 0).reverse.takeWhile (inS s)).length)).toList = _
  rw [List.drop_zero, len_list]
  generalize z.cps = a
  obtain ⟨l⟩ := a
  rw [List.extract_toArray]
  show (l.extract 0 (l.length - (l.reverse.takeWhile (inS s)).length)) = (l.reverse.dropWhile (inS s)).reverse
  rw [List.extract_eq_drop_take, List.drop_zero, Nat.sub_zero]
  have e1 : l.reverse = l.reverse.takeWhile (inS s) ++ l.reverse.dropWhile (inS s) := (List.takeWhile_append_dropWhile).symm
  have e2 : l = (l.reverse.dropWhile (inS s)).reverse ++ (l.reverse.takeWhile (inS s)).reverse := by
    have := congrArg List.reverse e1
    rw [List.reverse_reverse, List.reverse_append] at this
    exact this
  have e3 : l.length = (l.reverse.dropWhile (inS s)).length + (l.reverse.takeWhile (inS s)).length := by
    have := congrArg List.length e2
    rw [List.length_append, List.length_reverse, List.length_reverse] at this
    exact this
  rw [e3, Nat.add_sub_cancel]
  have key : ∀ (A B : List Nat), l = A.reverse ++ B.reverse → l.take A.length = A.reverse := fun A B q => by
    rw [q, List.take_append_of_le_length (by rw [List.length_reverse]; exact Nat.le_refl _), List.take_of_length_le (by rw [List.length_reverse]; exact Nat.le_refl _)]
  exact key _ _ e2
theorem starts_q (z : Str) : Txt.startswith z "?" = true ↔ ∃ r, z.cps.toList = 63 :: r := by
  show (decide (0 + ("?" : Str).length ≤ z.length) && (z.cps.extract 0 (0 + ("?" : Str).length) == ("?" : Str).cps)) = true ↔ _
  have e1 : ("?" : Str).length = 1 := by decide
  have e2 : ("?" : Str).cps = #[63] := by decide +kernel
  rw [e1, e2, len_list]
  generalize z.cps = a
  obtain ⟨l⟩ := a
  cases l with
  | nil => simp
  | cons c r =>
    constructor
    · intro h
      obtain ⟨_, h2⟩ := He.ba h
      have h3 : (⟨c :: r⟩ : Array Nat).extract 0 1 = #[63] := eq_of_beq h2
      have h4 := congrArg Array.toList h3
      simp at h4
      exact ⟨r, by rw [h4]⟩
    · rintro ⟨r', e⟩
      have e' : c :: r = 63 :: r' := e
      injection e' with e3 e4
      subst e3
      simp
theorem disj {c : Nat} (h : inS GREAT c = true) : inS DIGITS c = false := by
  have h1 : c ∈ GREAT.cps.toList := of_decide_eq_true h
  have h2 : GREAT.cps.toList.all (fun c => !inS DIGITS c) = true := by decide +kernel
  have h3 := List.all_eq_true.mp h2 c h1
  simpa using h3
theorem disj2 {c : Nat} (h : inS DIGITS c = true) : inS GREAT c = false := by
  cases e : inS GREAT c with
  | false => rfl
  | true => rw [disj e] at h; cases h
theorem dropAll {p : Nat → Bool} : ∀ (l : List Nat), (∀ c ∈ l, p c = true) → l.dropWhile p = []
  | [], _ => rfl
  | a :: r, h => by
    rw [List.dropWhile_cons, if_pos (h a List.mem_cons_self)]
    exact dropAll r fun c hc => h c (List.mem_cons_of_mem _ hc)
theorem name_iff (l : List Nat) : (1 ≤ ((l.reverse.dropWhile (inS DIGITS)).reverse).length ∧ ((l.reverse.dropWhile (inS DIGITS)).reverse).all (inS GREAT) = true) ↔
    ((0 < (l.filter (inS GREAT)).length ∧ (l.take (l.filter (inS GREAT)).length).all (inS GREAT) = true) ∧ (l.drop (l.filter (inS GREAT)).length).all (inS DIGITS) = true) := by
  have e1 : l.reverse = l.reverse.takeWhile (inS DIGITS) ++ l.reverse.dropWhile (inS DIGITS) := (List.takeWhile_append_dropWhile).symm
  have e2 : l = (l.reverse.dropWhile (inS DIGITS)).reverse ++ (l.reverse.takeWhile (inS DIGITS)).reverse := by
    have := congrArg List.reverse e1
    rw [List.reverse_reverse, List.reverse_append] at this
    exact this
  have hD : ∀ c ∈ (l.reverse.takeWhile (inS DIGITS)).reverse, inS DIGITS c = true := fun c hc => by
    rw [List.mem_reverse] at hc
    have := List.all_takeWhile (p := inS DIGITS) (l := l.reverse)
    exact List.all_eq_true.mp this c hc
  constructor
  · rintro ⟨h1, h2⟩
    generalize (l.reverse.dropWhile (inS DIGITS)).reverse = A at e2 h1 h2
    generalize (l.reverse.takeWhile (inS DIGITS)).reverse = B at e2 hD
    subst e2
    have fA : A.filter (inS GREAT) = A := List.filter_eq_self.mpr fun c hc => List.all_eq_true.mp h2 c hc
    have fB : B.filter (inS GREAT) = [] := List.filter_eq_nil_iff.mpr fun c hc q => by rw [disj2 (hD c hc)] at q; cases q
    rw [List.filter_append, fA, fB, List.append_nil]
    refine ⟨⟨h1, ?_⟩, ?_⟩
    · rw [List.take_append_of_le_length (Nat.le_refl _), List.take_length]
      exact h2
    · rw [List.drop_append_of_le_length (Nat.le_refl _), List.drop_length, List.nil_append]
      exact List.all_eq_true.mpr hD
  · rintro ⟨⟨h1, h2⟩, h3⟩
    have hle := List.length_filter_le (inS GREAT) l
    generalize (l.filter (inS GREAT)).length = n at h1 h2 h3 hle
    have el : l = l.take n ++ l.drop n := (List.take_append_drop n l).symm
    have key : l.reverse.dropWhile (inS DIGITS) = (l.take n).reverse := by
      conv => lhs; rw [el]
      rw [List.reverse_append, List.dropWhile_append]
      have z1 : (l.drop n).reverse.dropWhile (inS DIGITS) = [] := by
        exact dropAll _ fun c hc => by
          rw [List.mem_reverse] at hc
          exact List.all_eq_true.mp h3 c hc
      rw [z1]
      simp only [List.isEmpty_nil, if_true]
      cases hr : (l.take n).reverse with
      | nil => rfl
      | cons c r =>
        have hc : c ∈ l.take n := by
          rw [← List.mem_reverse, hr]
          exact List.mem_cons_self
        rw [List.dropWhile_cons, if_neg]
        rw [disj (List.all_eq_true.mp h2 c hc)]
        decide
    rw [key, List.reverse_reverse, List.length_take]
    exact ⟨by omega, h2⟩
theorem isName_first {z : Str} (h : isName z = true) (q : Txt.startswith z "?" = true) : False := by
  obtain ⟨h1, h2⟩ := He.ba h
  obtain ⟨h3, h4⟩ := He.ba h2
  obtain ⟨r, e⟩ := (starts_q z).mp q
  have h1' := of_decide_eq_true h1
  rw [len_list, rstrip_list] at h1'
  rw [rstrip_list] at h4
  obtain ⟨⟨a1, a2⟩, a3⟩ := (name_iff z.cps.toList).mp ⟨h1', h4⟩
  rw [e] at a1 a2
  have hg : inS GREAT 63 = false := by decide +kernel
  generalize ((63 :: r).filter (inS GREAT)).length = n at a1 a2
  cases n with
  | zero => cases a1
  | succ n =>
    have := List.all_eq_true.mp a2 63 (by rw [List.take_succ_cons]; exact List.mem_cons_self)
    rw [hg] at this
    cases this
end Rd
namespace Rd
open PySem L2
/-- a stream's list, with n draws still in the bound -/
def StL (n : Nat) (xs : List V) : Prop := ∃ a b c : Int, xs = [.int a, .int b, .int c] ∧ 0 ≤ a ∧ 0 ≤ b ∧ b ≤ 1099511627776 ∧ 0 ≤ c ∧ c + n ≤ 1099511627776
theorem StL.mono {n m : Nat} {xs : List V} (h : StL n xs) (hm : m ≤ n) : StL m xs := by
  obtain ⟨a, b, c, e, h1, h2, h3, h4, h5⟩ := h
  exact ⟨a, b, c, e, h1, h2, h3, h4, by omega⟩
def sp_stream (K : PySem.W.Frag) : Sp := fun vs H Q _ => ∃ (a : Addr) (ns : List Int) (k : Int), vs = [.ref a, .int k] ∧ SqL K H a (ns.map V.int) ∧ ns.length ≤ 63 ∧ 0 ≤ k ∧ k ≤ 100 ∧
  ∀ p xs H', Same H H' → H p = none → H' p = some (.lst xs) → StL 1000000000 xs → Q (.ref p) H'
def sp_draw : Sp := fun vs H Q _ => ∃ (p : Addr) (xs : List V) (n : Nat) (m : Int), vs = [.ref p, .int m] ∧ H p = some (.lst xs) ∧ StL (n + 1) xs ∧ 0 < m ∧ m < 1073741824 ∧
  ∀ d ys, 0 ≤ d → d < m → StL n ys → Q (.int d) (upd H p (.lst ys))
def sp_pick (K : PySem.W.Frag) : Sp := fun vs H Q _ => ∃ (p a : Addr) (xs us : List V) (n : Nat), vs = [.ref p, .ref a] ∧ H p = some (.lst xs) ∧ StL (n + 1) xs ∧ SqL K H a us ∧ SqL K (upd H p (.lst [])) a us ∧ 0 < us.length ∧ us.length < 1073741824 ∧
  ∀ (j : Nat) v ys, us[j]? = some v → StL n ys → Q v (upd H p (.lst ys))
section
variable {P : Program} {w : World} {K : PySem.W.Frag} {mg : Str → Option Value} {base : Heap}
abbrev s__law_stream : Stmt := top 30
theorem sc__law_stream : FnScope ["_law_script", "_law_k", "_law_cell"] ["_law_script", "_law_k"] (defScope s__law_stream) := ⟨rfl, rfl, rfl, by decide +kernel, rfl, by decide +kernel, by decide +kernel⟩
theorem ok__law_stream (T : Tx w K mg) : Fk P w K mg base CX0 1 "_law_stream" ["_law_script", "_law_k"] (sp_stream K) := by
  refine T.F__law_stream.ok0 sc__law_stream (fun _ _ _ _ _ _ us hl => match us, hl with | [_, _], _ => rfl)
    (fun vs H Q E h => ?_) (fun cdv A outer s H vs Q E hr h => ?_)
  · obtain ⟨a, ns, k, rfl, _⟩ := h
    rfl
  · obtain ⟨a, ns, k, rfl, hS, hn, hk0, hk1, kk⟩ := h
    have fin : ∀ a0 cell : Int, 0 ≤ a0 → ∀ p, H p = none → Q (.ref p) (upd H p (.lst [.int a0, .int (cell % 2147483647 + 31 * k), .int 0])) := fun a0 cell hc p hp => by
      refine kk p _ _ (Rd.Same.upd hp) hp upd_same ⟨_, _, _, rfl, hc, ?_, ?_, by omega, by omega⟩
      · have := Int.emod_nonneg cell (show (2147483647 : Int) ≠ 0 by decide)
        omega
      · have := Int.emod_lt_of_pos cell (show (0 : Int) < 2147483647 by decide)
        omega
    refine ⟨_, (pss_cons (ps_set (i := 2) sc__law_stream.nd rfl (Or.inl rfl) (pe_ifExp (pt_cmpR op_lt (pv 1) (pe_callB call_len_seq (by rfl) T.z_len (by decide +kernel) (pa_cons (pv 0) pa_nil)) (nomark _)) (pe_callB call_abs (by rfl) T.z_abs (by decide +kernel) (pa_cons (pe_ix ix_list (pv 0) (pv 1) (fun _ _ => rfl)) pa_nil)) pe_int))
  (pss_one (ps_ret (pe_lst (pa_cons (pe_ifExp (pt_cmpR op_ge (pv 2) (pe_op op_pow pe_int pe_int) (nomark _)) (pv 2) pe_int) (pa_cons (pe_op op_add (pe_op op_mod (pe_callTy call_int1 (by rfl) T.z_int (by decide +kernel) (pa_cons (pv 2) pa_nil)) pe_int) (pe_op op_mul pe_int (pv 1))) (pa_cons pe_int pa_nil))))))), ?_⟩
    refine ⟨_, rfl, _, rfl, a, _, rfl, .inl hS, _, _, rfl, rfl, _, rfl, ite2 (fun h1 => ?_) (fun h1 => ?_)⟩
    · have hk : k.toNat < ns.length := by
        have := of_decide_eq_true h1
        rw [List.length_map] at this
        omega
      have ea : atI (ns.map V.int) k = some (V.int (ns[k.toNat]'hk)) := at_of (j := k.toNat) (by omega) (by rw [List.getElem?_map, List.getElem?_eq_getElem hk]; rfl)
      refine ⟨_, rfl, _, rfl, a, _, _, _, rfl, rfl, hS, ea, _, rfl, ?_⟩
      refine ⟨_, rfl, _, _, rfl, rfl, ⟨by decide, by decide, by decide⟩, _, _, rfl, rfl, _, rfl, ?_⟩
      refine ite2 (fun h2 => ?_) (fun h2 => ?_)
      · refine ⟨_, rfl, _, rfl, .inl ⟨_, rfl, _, _, rfl, rfl, (by show (0 : Int) < 2147483647; decide), _, rfl, _, _, rfl, rfl, .inl ⟨by decide, by decide⟩, _, _, rfl, rfl, (by show 3 ≤ sizeLine; decide), fun p hp => ?_⟩⟩
        exact fin _ _ (by split <;> omega) p hp
      · refine ⟨_, rfl, .inl ⟨_, rfl, _, _, rfl, rfl, (by show (0 : Int) < 2147483647; decide), _, rfl, _, _, rfl, rfl, .inl ⟨by decide, by decide⟩, _, _, rfl, rfl, (by show 3 ≤ sizeLine; decide), fun p hp => ?_⟩⟩
        exact fin _ _ (Int.le_refl 0) p hp
    · refine ⟨_, rfl, _, _, rfl, rfl, ⟨by decide, by decide, by decide⟩, _, _, rfl, rfl, _, rfl, ?_⟩
      refine ite2 (fun h2 => ?_) (fun h2 => ?_)
      · refine ⟨_, rfl, _, rfl, .inl ⟨_, rfl, _, _, rfl, rfl, (by show (0 : Int) < 2147483647; decide), _, rfl, _, _, rfl, rfl, .inl ⟨by decide, by decide⟩, _, _, rfl, rfl, (by show 3 ≤ sizeLine; decide), fun p hp => ?_⟩⟩
        exact fin _ _ (Int.le_refl 0) p hp
      · refine ⟨_, rfl, .inl ⟨_, rfl, _, _, rfl, rfl, (by show (0 : Int) < 2147483647; decide), _, rfl, _, _, rfl, rfl, .inl ⟨by decide, by decide⟩, _, _, rfl, rfl, (by show 3 ≤ sizeLine; decide), fun p hp => ?_⟩⟩
        exact fin _ _ (Int.le_refl 0) p hp
abbrev s__law_draw : Stmt := top 31
theorem sc__law_draw : FnScope ["_law_stream_here", "_law_many", "_law_digit", "_law_spread"] ["_law_stream_here", "_law_many"] (defScope s__law_draw) := ⟨rfl, rfl, rfl, by decide +kernel, rfl, by decide +kernel, by decide +kernel⟩
theorem ok__law_draw (T : Tx w K mg) : Fk P w K mg base CX0 1 "_law_draw" ["_law_stream_here", "_law_many"] sp_draw := by
  refine T.F__law_draw.ok0 sc__law_draw (fun _ _ _ _ _ _ us hl => match us, hl with | [_, _], _ => rfl)
    (fun vs H Q E h => ?_) (fun cdv A outer s H vs Q E hr h => ?_)
  · obtain ⟨p, xs, n, m, rfl, _⟩ := h
    rfl
  · obtain ⟨p, xs, n, m, rfl, hp, ⟨a, b, c, rfl, ha, hb0, hb1, hc0, hc1⟩, hm0, hm1, k⟩ := h
    refine ⟨_, (pss_cons (ps_if (pt_cmpR op_gt (pe_ix ix_list (pv 0) pe_int (fun _ _ => rfl)) pe_int (nomark _))
  (pss_cons (ps_set (i := 2) sc__law_draw.nd rfl (Or.inl rfl) (pe_op op_mod (pe_callTy call_int1 (by rfl) T.z_int (by decide +kernel) (pa_cons (pe_ix ix_list (pv 0) pe_int (fun _ _ => rfl)) pa_nil)) (pv 1)))
  (pss_cons (ps_asg (pe_op op_fdiv (pe_ix ix_list (pv 0) pe_int (fun _ _ => rfl)) (pv 1)) (pg_sub (pv 0) pe_int set_list))
  (pss_one (ps_ret (pv 2)))))
  pss_nil)
  (pss_cons (ps_asg (pe_op op_add (pe_ix ix_list (pv 0) pe_int (fun _ _ => rfl)) pe_int) (pg_sub (pv 0) pe_int set_list))
  (pss_cons (ps_set (i := 3) sc__law_draw.nd rfl (Or.inl rfl) (pe_op op_mod (pe_op op_pow (pe_callTy call_int1 (by rfl) T.z_int (by decide +kernel) (pa_cons (pe_op op_add (pe_op op_add (pe_ix ix_list (pv 0) pe_int (fun _ _ => rfl)) (pe_op op_mul pe_int (pe_ix ix_list (pv 0) pe_int (fun _ _ => rfl)))) pe_int) pa_nil)) pe_int) pe_int))
  (pss_one (ps_ret (pe_op op_mod (pe_op op_fdiv (pe_op op_mod (pe_callTy call_int1 (by rfl) T.z_int (by decide +kernel) (pa_cons (pe_op op_mul (pe_op op_add (pv 3) (pe_ix ix_list (pv 0) pe_int (fun _ _ => rfl))) pe_int) pa_nil)) pe_int) pe_int) (pv 1))))))), ?_⟩
    refine ⟨_, rfl, p, _, _, _, rfl, rfl, SqL.of hp, at_of (j := 0) rfl rfl, _, _, rfl, rfl, _, rfl, ?_⟩
    refine ite2 (fun h1 => ?_) (fun h1 => ?_)
    · refine ⟨_, rfl, p, _, _, _, rfl, rfl, SqL.of hp, at_of (j := 0) rfl rfl, .inl ⟨_, rfl, _, rfl, _, _, rfl, rfl, hm0, ?_⟩⟩
      refine ⟨_, rfl, p, _, _, _, rfl, rfl, SqL.of hp, at_of (j := 0) rfl rfl, _, rfl, _, _, rfl, rfl, ⟨hm0, hm1⟩, ?_⟩
      refine ⟨_, rfl, p, _, _, 0, rfl, rfl, hp, rfl, _, rfl, ?_⟩
      refine k _ _ (Int.emod_nonneg _ (by omega)) (Int.emod_lt_of_pos _ hm0) ⟨_, _, _, rfl, ?_, hb0, hb1, hc0, by omega⟩
      exact Int.ediv_nonneg ha (by omega)
    · refine ⟨_, rfl, p, _, _, _, rfl, rfl, SqL.of hp, at_of (j := 2) rfl rfl, _, _, rfl, rfl, _, rfl, p, _, _, 2, rfl, rfl, hp, rfl, ?_⟩
      have hp2 : upd H p (.lst [.int a, .int b, .int (c + 1)]) p = some (.lst [.int a, .int b, .int (c + 1)]) := upd_same
      refine ⟨_, rfl, p, _, _, _, rfl, rfl, SqL.of hp2, at_of (j := 1) rfl rfl, _, rfl, p, _, _, _, rfl, rfl, SqL.of hp2, at_of (j := 2) rfl rfl, _, _, rfl, rfl, .inl ⟨by decide, by decide⟩, _, _, rfl, rfl, _, _, rfl, rfl, .inl ⟨_, rfl, _, _, rfl, rfl, ⟨by decide, by decide, ?_⟩, _, _, rfl, rfl, (by show (0 : Int) < 2147483647; decide), ?_⟩⟩
      · show (b + 7919 * (c + 1) + 104729).natAbs < 18446744073709551616
        omega
      · have s0 : 0 ≤ (b + 7919 * (c + 1) + 104729) ^ Int.toNat 5 % 2147483647 := Int.emod_nonneg _ (by decide)
        have s1 : (b + 7919 * (c + 1) + 104729) ^ Int.toNat 5 % 2147483647 < 2147483647 := Int.emod_lt_of_pos _ (by decide)
        refine ⟨_, rfl, _, rfl, p, _, _, _, rfl, rfl, SqL.of hp2, at_of (j := 2) rfl rfl, _, _, rfl, rfl, _, _, rfl, rfl, .inl ⟨?_, ?_⟩, .inl ⟨_, rfl, _, _, rfl, rfl, (by show (0 : Int) < 2147483629; decide), _, _, rfl, rfl, ⟨by decide, by decide⟩, _, rfl, _, _, rfl, rfl, hm0, ?_⟩⟩
        · show -(18446744073709551616 : Int) < (b + 7919 * (c + 1) + 104729) ^ Int.toNat 5 % 2147483647 + (c + 1)
          generalize (b + 7919 * (c + 1) + 104729) ^ Int.toNat 5 % 2147483647 = sp at s0 s1 ⊢
          omega
        · show (b + 7919 * (c + 1) + 104729) ^ Int.toNat 5 % 2147483647 + (c + 1) < (18446744073709551616 : Int)
          generalize (b + 7919 * (c + 1) + 104729) ^ Int.toNat 5 % 2147483647 = sp at s0 s1 ⊢
          omega
        · exact k _ _ (Int.emod_nonneg _ (by omega)) (Int.emod_lt_of_pos _ hm0) ⟨_, _, _, rfl, ha, hb0, hb1, by omega, by omega⟩
abbrev s__law_pick : Stmt := top 32
theorem sc__law_pick : FnScope ["_law_stream_here", "_law_things"] ["_law_stream_here", "_law_things"] (defScope s__law_pick) := ⟨rfl, rfl, rfl, by decide +kernel, rfl, by decide +kernel, by decide +kernel⟩
theorem ok__law_pick (T : Tx w K mg) : Fk P w K mg base CX0 2 "_law_pick" ["_law_stream_here", "_law_things"] (sp_pick K) := by
  refine T.F__law_pick.ok0 sc__law_pick (fun _ _ _ _ _ _ us hl => match us, hl with | [_, _], _ => rfl)
    (fun vs H Q E h => ?_) (fun cdv A outer s H vs Q E hr h => ?_)
  · obtain ⟨p, a, xs, us, n, rfl, _⟩ := h
    rfl
  · obtain ⟨p, a, xs, us, n, rfl, hp, hx, hS, hS2, hu0, hu1, k⟩ := h
    refine ⟨_, (pss_one (ps_ret (pe_ix ix_list (pv 1) (pe_fk (ok__law_draw T) (hr.mono (by omega)) rfl pass0 (pa_cons (pv 0) (pa_cons (pe_callB call_len_seq (by rfl) T.z_len (by decide +kernel) (pa_cons (pv 1) pa_nil)) pa_nil))) (fun _ _ => rfl)))), ?_⟩
    refine ⟨_, rfl, _, rfl, _, rfl, a, us, rfl, .inl hS, p, xs, n, _, rfl, hp, hx, by omega, by omega, fun d ys hd0 hd1 hy => ?_⟩
    have hj : d.toNat < us.length := by omega
    have hS3 : SqL K (upd H p (.lst ys)) a us := by
      by_cases e : a = p
      · subst e
        rcases hS2 with (h | ⟨o, h⟩) | h
        · rw [upd_same] at h
          cases h
          exact absurd hu0 (by decide)
        · rw [upd_same] at h
          cases h
        · exact .inr h
      · rcases hS2 with (h | ⟨o, h⟩) | h
        · rw [upd_ne e] at h
          exact .inl (.inl (by rw [upd_ne e]; exact h))
        · rw [upd_ne e] at h
          exact .inl (.inr ⟨o, by rw [upd_ne e]; exact h⟩)
        · exact .inr h
    exact ⟨a, us, _, _, rfl, rfl, hS3, at_of (j := d.toNat) (by omega) (List.getElem?_eq_getElem hj), k _ _ ys (List.getElem?_eq_getElem hj) hy⟩
end
end Rd
namespace Rd
open PySem L2
/-- all but p stays -/
def But (p : Addr) (H H' : Hp) : Prop := ∀ b o, b ≠ p → H b = some o → H' b = some o
theorem But.refl {p : Addr} {H : Hp} : But p H H := fun _ _ _ e => e
theorem But.trans {p : Addr} {H H1 H2 : Hp} (a : But p H H1) (b : But p H1 H2) : But p H H2 := fun c o hc h => b c o hc (a c o hc h)
theorem But.of_same {p : Addr} {H H' : Hp} (s : Same H H') : But p H H' := fun b o _ e => s b o e
theorem But.upd {p : Addr} {H : Hp} {o : HO} : But p H (L2.upd H p o) := fun b u hb e => by rw [upd_ne hb]; exact e
theorem But.new {p q : Addr} {H : Hp} {o : HO} (h : H q = none) : But p H (L2.upd H q o) := fun b u hb e => by rw [upd_ne (ne_of_none e h)]; exact e
theorem But.free {p q : Addr} {H H' : Hp} {xs : List V} (s : But p H H') (hp : H' p = some (.lst xs)) (h : H' q = none) : H q = none := by
  cases e : H q with
  | none => rfl
  | some o =>
    have hq : q ≠ p := fun z => by rw [z, hp] at h; cases h
    rw [s q o hq e] at h
    cases h
def imm (C : Addr) : HO → Bool
  | .tup _ => true
  | .ins C' _ _ => C' == C
  | _ => false
/-- tuples and instances of C stay -/
def Kp (C : Addr) (H H' : Hp) : Prop := ∀ b o, imm C o = true → H b = some o → H' b = some o
theorem Kp.refl {C : Addr} {H : Hp} : Kp C H H := fun _ _ _ e => e
theorem Kp.trans {C : Addr} {H H1 H2 : Hp} (a : Kp C H H1) (b : Kp C H1 H2) : Kp C H H2 := fun c o hc h => b c o hc (a c o hc h)
theorem Kp.of_same {C : Addr} {H H' : Hp} (s : Same H H') : Kp C H H' := fun b o _ e => s b o e
theorem But.kp {C p : Addr} {H H' : Hp} {xs : List V} (s : But p H H') (hp : H p = some (.lst xs)) : Kp C H H' := fun b o hi e => s b o (fun z => by
  rw [z, hp] at e
  cases e
  cases hi) e
theorem Kp.upd_lst {C D : Addr} {H : Hp} {xs ys : List V} (h : H D = some (.lst xs)) : Kp C H (L2.upd H D (.lst ys)) := fun b o hi e => by
  have hb : b ≠ D := fun z => by
    rw [z, h] at e
    cases e
    cases hi
  rw [upd_ne hb]
  exact e
/-- [.. for _ in range(..)] with draws -/
theorem lcr_draw {C p D : Addr} {σ : St} {i0 m r n : Nat} {lo : Int} {te : TE} {H1 : Hp} {xs0 : List V} {Qd : Hp → Prop} (good : Hp → V → Prop) (gm : ∀ H H' v, Kp C H H' → good H v → good H' v)
    (hp : H1 p = some (.lst xs0)) (hx : StL (n + r * m) xs0) (hD : H1 D = none) (hm : m ≤ 8000000)
    (hte : ∀ (i : Nat) (H : Hp) (xs : List V) (n' : Nat) (Q : VK), i < m → But p H1 H → H p = some (.lst xs) → StL (n' + r) xs → (∀ v H' ys, But p H H' → H' p = some (.lst ys) → StL n' ys → good H' v → Q v H') → te ((wipe σ [i0]).set i0 (some (.int (lo + i)))) H Q)
    (hq : ∀ vs H' ys, But p H1 H' → H' p = some (.lst ys) → StL n ys → H' D = some (.lst vs) → vs.length = m → (∀ v ∈ vs, good H' v) → Qd H') :
    ∃ W : Nat → Nat → Hp → Prop, (∃ k, W 0 k (L2.upd H1 D (.lst []))) ∧ ∀ i k H, W i k H →
      ((Itr lo m).stop i H ∧ Qd H) ∨ ((Itr lo m).go i H ∧ ∃ Nx : Hp → Prop, (∀ H', Nx H' → ∃ k', k' < k ∧ W (i + 1) k' H') ∧ ∀ x H', (Itr lo m).yld i H x H' → gName i0 x (wipe σ [i0]) H' fun σ2 H2 => wipe σ2 [i0] = wipe σ [i0] ∧ tYes σ2 H2 fun b H3 =>
        if b = true then te σ2 H3 fun y H4 => ∃ acc, H4 D = some (.lst acc) ∧ acc.length < sizeLine ∧ Nx (L2.upd H4 D (.lst (acc ++ [y]))) else Nx H3) := by
  have nDp : D ≠ p := fun z => by rw [z, hp] at hD; cases hD
  refine lc_range (fun i H => ∃ vs ys, But p H1 H ∧ H p = some (.lst ys) ∧ StL (n + r * (m - i)) ys ∧ H D = some (.lst vs) ∧ vs.length = i ∧ (∀ v ∈ vs, good H v)) ?_ ?_ ?_
  · refine ⟨[], xs0, But.new hD, by rw [upd_ne (Ne.symm nDp)]; exact hp, hx, upd_same, rfl, fun v hv => by cases hv⟩
  · rintro i H hi ⟨vs, ys, b, hpy, hy, hDv, hl, hg⟩
    have hr : n + r * (m - i) = (n + r * (m - (i + 1))) + r := by
      rw [show m - i = (m - (i + 1)) + 1 by omega, Nat.mul_succ, Nat.add_assoc]
    rw [hr] at hy
    refine ⟨by simp [wipe], hte i H ys _ _ hi b hpy hy fun v H' zs b' hpz hz hv => ⟨vs, b' D _ nDp hDv, ?_, ?_⟩⟩
    · have : 8000000 < sizeLine := by decide
      omega
    · have hDv' := b' D _ nDp hDv
      refine ⟨vs ++ [v], zs, fun c o hc e => ?_, by rw [upd_ne (Ne.symm nDp)]; exact hpz, hz, upd_same, by rw [List.length_append, hl]; rfl, fun v' hv' => ?_⟩
      · rw [upd_ne (ne_of_none e hD)]
        exact b' c o hc (b c o hc e)
      · rcases List.mem_append.mp hv' with q | q
        · exact gm _ _ _ ((b'.kp hpy).trans (Kp.upd_lst hDv')) (hg v' q)
        · rw [List.mem_singleton.mp q]
          exact gm _ _ _ (Kp.upd_lst hDv') hv
  · rintro H ⟨vs, ys, b, hpy, hy, hDv, hl, hg⟩
    exact hq vs H ys b hpy (by simpa using hy) hDv hl hg
/-- a table of ints at a drawn place -/
theorem atI_of {us : List V} {d : Int} {m : Nat} (h0 : 0 ≤ d) (h1 : d < m) (hm : m = us.length) : ∃ (j : Nat) (v : V), us[j]? = some v ∧ atI us d = some v := by
  have hj : d.toNat < us.length := by omega
  exact ⟨d.toNat, us[d.toNat], List.getElem?_eq_getElem hj, at_of (j := d.toNat) (by omega) (List.getElem?_eq_getElem hj)⟩
theorem atT_of {z : Str} {d : Int} {m : Nat} (h0 : 0 ≤ d) (h1 : d < m) (hm : m = z.cps.toList.length) : ∃ (c : Nat), c ∈ z.cps.toList ∧ atI z.cps.toList d = some c := by
  have hj : d.toNat < z.cps.toList.length := by omega
  refine ⟨z.cps.toList[d.toNat], List.getElem_mem hj, ?_⟩
  have e : d = ((d.toNat : Nat) : Int) := by omega
  have e2 := atI_nat (xs := z.cps.toList) (j := d.toNat) (List.getElem?_eq_getElem hj)
  rw [← e] at e2
  exact e2
/-- signs as Python has them -/
def okS (z : Str) : Prop := ∀ c ∈ z.cps.toList, c < 1114112
theorem okS_by {z : Str} (h : z.cps.toList.all (fun c => decide (c < 1114112)) = true) : okS z := fun c hc => of_decide_eq_true (List.all_eq_true.mp h c hc)
theorem strOk_of {z : Str} (h : okS z) : PySem.PyData.strOk z = true := by
  show z.cps.all (fun c => decide (c < 0x110000)) = true
  rw [Array.all_eq_true']
  intro c hc
  exact decide_eq_true (h c (Array.mem_toList_iff.mpr hc))
/-- a text of these codes -/
def ofC (cs : List Nat) : Str := ⟨cs.toArray⟩
theorem ofC_list (cs : List Nat) : (ofC cs).cps.toList = cs := by show cs.toArray.toList = cs; rw [List.toList_toArray]
def sg1 (c : Nat) : V := .str ⟨#[c]⟩
theorem join_signs : ∀ (cs : List Nat), (Str.join "" (cs.map fun c => (⟨#[c]⟩ : Str))).cps.toList = cs
  | [] => by decide +kernel
  | [a] => rfl
  | a :: b :: r => by
    have e := join_signs (b :: r)
    have e0 : ("" : Str).cps.toList = [] := by decide +kernel
    show (((⟨#[a]⟩ : Str) ++ ("" : Str)) ++ Str.join "" ((b :: r).map fun c => (⟨#[c]⟩ : Str))).cps.toList = _
    rw [app_list, app_list, e, e0]
    rfl
theorem glue_signs (cs : List Nat) : Txt.join "" (cs.map fun c => (⟨#[c]⟩ : Str)) = ofC cs := by
  show Builtin.Str.glued "" _ = _
  rw [PySem.StrLaws.glued_eq_join]
  exact str_ext (by rw [join_signs, ofC_list])
/-- a text drawn: at most r draws, of which Pz holds -/
def sp_tx (r : Nat) (Pz : Str → Prop) : Sp := fun vs H Q _ => ∃ (p : Addr) (xs : List V) (n : Nat), vs = [.ref p] ∧ H p = some (.lst xs) ∧ StL (n + r) xs ∧
  ∀ z ys H', But p H H' → H' p = some (.lst ys) → StL n ys → Pz z → Q (.str z) H'
theorem cods_of {z : Str} : ∀ (vs : List V), (∀ v ∈ vs, ∃ c ∈ z.cps.toList, v = sg1 c) → ∃ cs : List Nat, vs = cs.map sg1 ∧ ∀ c ∈ cs, c ∈ z.cps.toList
  | [], _ => ⟨[], rfl, fun c hc => nomatch hc⟩
  | v :: r, h => by
    obtain ⟨c, hc, rfl⟩ := h v List.mem_cons_self
    obtain ⟨cs, rfl, h2⟩ := cods_of r fun v hv => h v (List.mem_cons_of_mem _ hv)
    exact ⟨c :: cs, rfl, fun c' hc' => (List.mem_cons.mp hc').elim (fun e => e ▸ hc) (h2 c')⟩
theorem sum_signs (cs : List Nat) : ((cs.map fun c => (⟨#[c]⟩ : Str)).map (·.length)).sum = cs.length := by
  induction cs with
  | nil => rfl
  | cons a r ih =>
    rw [List.map_cons, List.map_cons, List.sum_cons, ih, List.length_cons]
    show 1 + r.length = _
    omega
def smallV (lo l : Nat) : V → Bool
  | .int i => decide ((lo : Int) ≤ i) && decide (i ≤ l)
  | _ => false
theorem small_of {us : List V} {v : V} {lo l : Nat} (h : v ∈ us) (ha : us.all (smallV lo l) = true) : ∃ m : Nat, v = V.int m ∧ lo ≤ m ∧ m ≤ l := by
  have h1 := List.all_eq_true.mp ha v h
  cases v with
  | int i =>
    obtain ⟨h2, h3⟩ := He.ba (show (decide ((lo : Int) ≤ i) && decide (i ≤ l)) = true from h1)
    have h4 := of_decide_eq_true h2
    have h5 := of_decide_eq_true h3
    exact ⟨i.toNat, by rw [Int.toNat_of_nonneg (by omega)], by omega, by omega⟩
  | _ => cases h1
/-- [..][draw] : an item of a written list at a drawn place -/
theorem rd_tab {K : PySem.W.Frag} {us : List V} {t : TA} {σ : St} {i m n : Nat} {p : Addr} {xs : List V} {H : Hp} {Q : VK} (ht : ∀ (H : Hp) (Q' : List V → Hp → Prop), Q' us H → t σ H Q') (hi : σ[i]? = some (some (.ref p))) (hp : H p = some (.lst xs)) (hx : StL (n + 1) xs)
    (hm : us.length = m) (h0 : 0 < m) (hb : m ≤ 1000) (k : ∀ v H' ys, v ∈ us → But p H H' → H' p = some (.lst ys) → StL n ys → Q v H') : tOp (rIxL K) (tLst t) (tCall sp_draw [] E0 (tCons (tVar i) (tCons (tC (V.int m)) tNil))) σ H Q := by
  have hl : 1000 ≤ sizeLine := by decide
  refine ht _ _ ⟨by omega, fun q hq => ⟨_, hi, p, xs, n, (m : Int), rfl, ?_, hx, by omega, by omega, fun d ys hd0 hd1 hy => ?_⟩⟩
  · rw [upd_ne (ne_of_none hp hq)]
    exact hp
  · obtain ⟨j, v, hv, ha⟩ := atI_of (us := us) (m := m) hd0 hd1 hm.symm
    refine ⟨q, us, d, v, rfl, rfl, SqL.of ?_, ha, k v _ ys (List.mem_of_getElem? hv) ((But.new hq).trans But.upd) upd_same hy⟩
    rw [upd_ne (Ne.symm (ne_of_none hp hq)), upd_same]
/-- draw(many) -/
theorem rd_draw {σ : St} {i m n : Nat} {p : Addr} {xs : List V} {H : Hp} {Q : VK} (hi : σ[i]? = some (some (.ref p))) (hp : H p = some (.lst xs)) (hx : StL (n + 1) xs) (h0 : 0 < m) (hb : m ≤ 1000)
    (k : ∀ (d : Nat) H' ys, d < m → But p H H' → H' p = some (.lst ys) → StL n ys → Q (.int d) H') : tCall sp_draw [] E0 (tCons (tVar i) (tCons (tC (V.int m)) tNil)) σ H Q := by
  refine ⟨_, hi, p, xs, n, (m : Int), rfl, hp, hx, by omega, by omega, fun d ys hd0 hd1 hy => ?_⟩
  obtain ⟨e, rfl⟩ := Int.eq_ofNat_of_zero_le hd0
  exact k e _ ys (by omega) But.upd upd_same hy
theorem rd_sign {σ : St} {i m n : Nat} {z : Str} {p : Addr} {xs : List V} {H : Hp} {Q : VK} (hi : σ[i]? = some (some (.ref p))) (hp : H p = some (.lst xs)) (hx : StL (n + 1) xs) (hm : z.cps.toList.length = m) (h0 : 0 < m) (hb : m ≤ 1000)
    (k : ∀ (c : Nat) H' ys, c ∈ z.cps.toList → But p H H' → H' p = some (.lst ys) → StL n ys → Q (.str ⟨#[c]⟩) H') : tOp rIxS (tC (.str z)) (tCall sp_draw [] E0 (tCons (tVar i) (tCons (tC (V.int m)) tNil))) σ H Q := by
  refine rd_draw hi hp hx h0 hb fun d H' ys hd b hp' hy => ?_
  obtain ⟨c, hc, ha⟩ := atT_of (z := z) (d := (d : Int)) (m := m) (by omega) (by omega) hm.symm
  have hl : 1000 ≤ sizeLine := by decide
  have hz : z.length = m := by rw [← hm, Array.length_toList]; rfl
  exact ⟨z, _, c, rfl, rfl, by omega, ha, k c H' ys hc b hp' hy⟩
/-- ['..'[draw(M)] for _ in range(m)] -/
theorem rd_signs {σ : St} {i i0 m M n : Nat} {lo : Int} {z : Str} {p D : Addr} {xs : List V} {H1 : Hp} {Qd : Hp → Prop} (hi : ∀ x, ((wipe σ [i0]).set i0 (some x))[i]? = some (some (.ref p))) (hp : H1 p = some (.lst xs)) (hx : StL (n + m) xs) (hD : H1 D = none) (hm : m ≤ 1000)
    (hM : z.cps.toList.length = M) (h0 : 0 < M) (hb : M ≤ 1000)
    (k : ∀ (cs : List Nat) H' ys, But p H1 H' → H' p = some (.lst ys) → StL n ys → H' D = some (.lst (cs.map sg1)) → cs.length = m → (∀ c ∈ cs, c ∈ z.cps.toList) → Qd H') :
    ∃ W : Nat → Nat → Hp → Prop, (∃ k, W 0 k (L2.upd H1 D (.lst []))) ∧ ∀ j k H, W j k H →
      ((Itr lo m).stop j H ∧ Qd H) ∨ ((Itr lo m).go j H ∧ ∃ Nx : Hp → Prop, (∀ H', Nx H' → ∃ k', k' < k ∧ W (j + 1) k' H') ∧ ∀ x H', (Itr lo m).yld j H x H' → gName i0 x (wipe σ [i0]) H' fun σ2 H2 => wipe σ2 [i0] = wipe σ [i0] ∧ tYes σ2 H2 fun b H3 =>
        if b = true then (tOp rIxS (tC (.str z)) (tCall sp_draw [] E0 (tCons (tVar i) (tCons (tC (V.int M)) tNil)))) σ2 H3 fun y H4 => ∃ acc, H4 D = some (.lst acc) ∧ acc.length < sizeLine ∧ Nx (L2.upd H4 D (.lst (acc ++ [y]))) else Nx H3) := by
  refine lcr_draw (C := 0) (r := 1) (n := n) (fun _ v => ∃ c ∈ z.cps.toList, v = sg1 c) (fun _ _ _ _ h => h) hp (by rw [Nat.one_mul]; exact hx) hD (by omega) (fun j H2 zs n' Q2 hj b hz hsz kq => ?_) (fun vs H2 zs b hz hsz hDv hl hg => ?_)
  · exact rd_sign (hi _) hz hsz hM h0 hb fun c H' ys hc b' hp' hy => kq _ _ ys b' hp' hy ⟨c, hc, rfl⟩
  · obtain ⟨cs, rfl, ho⟩ := cods_of vs hg
    rw [List.length_map] at hl
    exact k cs H2 zs b hz hsz hDv hl ho
theorem allIn {s : Str} {cs : List Nat} (h : ∀ c ∈ cs, c ∈ s.cps.toList) : cs.all (inS s) = true := List.all_eq_true.mpr fun c hc => decide_eq_true (h c hc)
theorem word_of {cs : List Nat} (h1 : 1 ≤ cs.length) (h8 : cs.length ≤ 8) (h : ∀ c ∈ cs, c ∈ SMALL.cps.toList) : isWord (ofC cs) = true := by
  have e : (ofC cs).length = cs.length := by rw [len_list, ofC_list]
  rw [isWord, e, ofC_list, allIn h, decide_eq_true h1, decide_eq_true h8]
  rfl
theorem name_of {as ds : List Nat} (h1 : 1 ≤ as.length) (h8 : as.length + ds.length ≤ 8) (ha : ∀ c ∈ as, c ∈ GREAT.cps.toList) (hd : ∀ c ∈ ds, c ∈ DIGITS.cps.toList) : isName (ofC (as ++ ds)) = true := by
  have e : (ofC (as ++ ds)).length = as.length + ds.length := by rw [len_list, ofC_list, List.length_append]
  have fA : as.filter (inS GREAT) = as := List.filter_eq_self.mpr fun c hc => decide_eq_true (ha c hc)
  have fB : ds.filter (inS GREAT) = [] := List.filter_eq_nil_iff.mpr fun c hc q => by rw [disj2 (decide_eq_true (hd c hc))] at q; cases q
  have key := (name_iff (as ++ ds)).mpr (by
    rw [List.filter_append, fA, fB, List.append_nil, List.take_append_of_le_length (Nat.le_refl _), List.take_length, List.drop_append_of_le_length (Nat.le_refl _), List.drop_length, List.nil_append]
    exact ⟨⟨h1, allIn ha⟩, allIn hd⟩)
  rw [isName, e, decide_eq_true h8, len_list, rstrip_list, ofC_list, key.2, decide_eq_true key.1]
  rfl
theorem word_noname {z : Str} (h : isName z = true) : isWord z = false := by
  cases e : isWord z with
  | false => rfl
  | true =>
    obtain ⟨h1, h2⟩ := He.ba h
    obtain ⟨h3, h4⟩ := He.ba h2
    have h1' := of_decide_eq_true h1
    rw [len_list, rstrip_list] at h1'
    rw [rstrip_list] at h4
    obtain ⟨⟨a1, a2⟩, a3⟩ := (name_iff z.cps.toList).mp ⟨h1', h4⟩
    obtain ⟨w1, w2⟩ := He.ba e
    obtain ⟨w3, w4⟩ := He.ba w2
    obtain ⟨c, hc⟩ := List.exists_mem_of_length_pos a1
    rw [List.mem_filter] at hc
    have s1 := List.all_eq_true.mp w4 c hc.1
    have dj : GREAT.cps.toList.all (fun c => !inS SMALL c) = true := by decide +kernel
    have s2 := List.all_eq_true.mp dj c (of_decide_eq_true hc.2)
    rw [s1] at s2
    cases s2
theorem word_len {z : Str} (h : isWord z = true) : 1 ≤ z.length ∧ z.length ≤ 8 ∧ okS z := by
  obtain ⟨h1, h2⟩ := He.ba h
  obtain ⟨h3, h4⟩ := He.ba h2
  have dj : SMALL.cps.toList.all (fun c => decide (c < 1114112)) = true := by decide +kernel
  exact ⟨of_decide_eq_true h1, of_decide_eq_true h3, fun c hc => of_decide_eq_true (List.all_eq_true.mp dj c (of_decide_eq_true (List.all_eq_true.mp h4 c hc)))⟩
theorem name_len {z : Str} (h : isName z = true) : z.length ≤ 8 ∧ okS z := by
  obtain ⟨h1, h2⟩ := He.ba h
  obtain ⟨h3, h4⟩ := He.ba h2
  have h1' := of_decide_eq_true h1
  rw [len_list, rstrip_list] at h1'
  rw [rstrip_list] at h4
  obtain ⟨⟨a1, a2⟩, a3⟩ := (name_iff z.cps.toList).mp ⟨h1', h4⟩
  have dj : GREAT.cps.toList.all (fun c => decide (c < 1114112)) = true := by decide +kernel
  have dk : DIGITS.cps.toList.all (fun c => decide (c < 1114112)) = true := by decide +kernel
  refine ⟨of_decide_eq_true h3, fun c hc => ?_⟩
  rw [← List.take_append_drop (z.cps.toList.filter (inS GREAT)).length z.cps.toList] at hc
  rcases List.mem_append.mp hc with q | q
  · exact of_decide_eq_true (List.all_eq_true.mp dj c (of_decide_eq_true (List.all_eq_true.mp a2 c q)))
  · exact of_decide_eq_true (List.all_eq_true.mp dk c (of_decide_eq_true (List.all_eq_true.mp a3 c q)))
section
variable {P : Program} {w : World} {K : PySem.W.Frag} {mg : Str → Option Value} {base : Heap}
abbrev s__law_word : Stmt := top 33
theorem sc__law_word : FnScope ["_law_stream_here", "_law_size", "_law_k"] ["_law_stream_here"] (defScope s__law_word) := ⟨rfl, rfl, rfl, by decide +kernel, rfl, by decide +kernel, by decide +kernel⟩
theorem ok__law_word (T : Tx w K mg) : Fk P w K mg base CX0 2 "_law_word" ["_law_stream_here"] (sp_tx 9 fun z => isWord z = true) := by
  refine T.F__law_word.ok0 sc__law_word (fun _ _ _ _ _ _ us hl => match us, hl with | [_], _ => rfl)
    (fun vs H Q E h => ?_) (fun cdv A outer s H vs Q E hr h => ?_)
  · obtain ⟨p, xs, n, rfl, _⟩ := h
    rfl
  · obtain ⟨p, xs, n, rfl, hp, hx, k⟩ := h
    refine ⟨_, (pss_cons (ps_set (i := 1) sc__law_word.nd rfl (Or.inl rfl) (pe_ix ix_list (pe_lst (pa_cons pe_int (pa_cons pe_int (pa_cons pe_int (pa_cons pe_int (pa_cons pe_int (pa_cons pe_int pa_nil))))))) (pe_fk (ok__law_draw T) (hr.mono (by omega)) rfl pass0 (pa_cons (pv 0) (pa_cons pe_int pa_nil))) (fun _ _ => rfl)))
  (pss_one (ps_ret (pe_join pe_str (pe_lc (own := [("_law_k", 2)]) (g := gName 2) (tt := tYes) (by rfl) sc__law_word.nd (pi_range1 rfl T.z_range (pa_cons (pv 1) pa_nil)) (blkOk_by (own := [("_law_k", 2)]) (N := ["_law_stream_here", "_law_size", "_law_k"]) (sc := defScope s__law_word) (by decide +kernel)) (fun _ _ _ _ _ => (pg_name (i := 2) sc__law_word.nd rfl (Or.inl rfl))) (fun _ _ _ _ _ => pts_nil) (fun _ _ _ _ _ => (pe_ix ix_str pe_str (pe_fk (ok__law_draw T) (hr.mono (by omega)) rfl pass0 (pa_cons (pv 0) (pa_cons pe_int pa_nil))) (fun _ _ => rfl)))))))), ?_⟩
    refine rd_tab (us := [.int 1, .int 1, .int 2, .int 3, .int 5, .int 8]) (m := 6) (n := n + 8) (by intro _ _ q; exact q) (by rfl) hp hx rfl (by decide) (by decide) fun v H1 ys hv b1 hp1 hy => ?_
    obtain ⟨m, rfl, hm1, hm⟩ : ∃ m : Nat, v = V.int m ∧ 1 ≤ m ∧ m ≤ 8 := small_of hv (by decide)
    refine ⟨⟨_, rfl⟩, _, rfl, (m : Int), rfl, by omega, by omega, fun D hD => ?_⟩
    refine rd_signs (n := n) (M := 26) (fun _ => by rfl) hp1 (hy.mono (by omega)) hD (by omega) rfl (by decide) (by decide) fun cs H2 zs b2 hp2 hz hDv hl hs => ?_
    refine ⟨_, D, cs.map fun c => (⟨#[c]⟩ : Str), rfl, rfl, .inl (SqL.of (by rw [hDv, List.map_map]; rfl)), ?_, k _ zs H2 (b1.trans b2) hp2 hz ?_⟩
    · rw [sum_signs, List.length_map]
      show cs.length + cs.length * 0 ≤ _
      omega
    · show isWord (Txt.join "" (cs.map fun c => (⟨#[c]⟩ : Str))) = true
      rw [glue_signs]
      exact word_of (by omega) (by omega) hs
abbrev s__law_name : Stmt := top 34
theorem sc__law_name : FnScope ["_law_stream_here", "_law_size", "_law_many", "_law_letters", "_law_k"] ["_law_stream_here"] (defScope s__law_name) := ⟨rfl, rfl, rfl, by decide +kernel, rfl, by decide +kernel, by decide +kernel⟩
theorem ok__law_name (T : Tx w K mg) : Fk P w K mg base CX0 2 "_law_name" ["_law_stream_here"] (sp_tx 20 fun z => isName z = true) := by
  refine T.F__law_name.ok0 sc__law_name (fun _ _ _ _ _ _ us hl => match us, hl with | [_], _ => rfl)
    (fun vs H Q E h => ?_) (fun cdv A outer s H vs Q E hr h => ?_)
  · obtain ⟨p, xs, n, rfl, _⟩ := h
    rfl
  · obtain ⟨p, xs, n, rfl, hp, hx, k⟩ := h
    refine ⟨_, (pss_cons (ps_set (i := 1) sc__law_name.nd rfl (Or.inl rfl) (pe_ix ix_list (pe_lst (pa_cons pe_int (pa_cons pe_int (pa_cons pe_int (pa_cons pe_int (pa_cons pe_int (pa_cons pe_int pa_nil))))))) (pe_fk (ok__law_draw T) (hr.mono (by omega)) rfl pass0 (pa_cons (pv 0) (pa_cons pe_int pa_nil))) (fun _ _ => rfl)))
  (pss_cons (ps_set (i := 2) sc__law_name.nd rfl (Or.inl rfl) (pe_ix ix_list (pe_lst (pa_cons pe_int (pa_cons pe_int (pa_cons pe_int (pa_cons pe_int (pa_cons pe_int pa_nil)))))) (pe_fk (ok__law_draw T) (hr.mono (by omega)) rfl pass0 (pa_cons (pv 0) (pa_cons pe_int pa_nil))) (fun _ _ => rfl)))
  (pss_cons (ps_setLc (i := 3) (own := [("_law_k", 4)]) (g := gName 4) (tt := tYes) (by rfl) sc__law_name.nd rfl rfl (sw_true rfl rfl rfl (by decide +kernel)) (pi_range1 rfl T.z_range (pa_cons (pe_callB (cr_max rfl) (by rfl) T.z_max (by decide +kernel) (pa_cons (pe_lst (pa_cons pe_int (pa_cons (pe_op op_sub (pv 1) (pv 2)) pa_nil))) pa_nil)) pa_nil)) (blkOk_by (own := [("_law_k", 4)]) (N := ["_law_stream_here", "_law_size", "_law_many", "_law_letters", "_law_k"]) (sc := defScope s__law_name) (by decide +kernel)) (fun _ _ _ _ _ => (pg_name (i := 4) sc__law_name.nd rfl (Or.inl rfl))) (fun _ _ _ _ _ => pts_nil) (fun _ _ _ _ _ => (pe_ix ix_str pe_str (pe_fk (ok__law_draw T) (hr.mono (by omega)) rfl pass0 (pa_cons (pv 0) (pa_cons pe_int pa_nil))) (fun _ _ => rfl))))
  (pss_one (ps_ret (pe_join pe_str (pe_op op_cat (pv 3) (pe_lc (own := [("_law_k", 4)]) (g := gName 4) (tt := tYes) (by rfl) sc__law_name.nd (pi_range1 rfl T.z_range (pa_cons (pe_op op_sub (pv 1) (pe_callB call_len_seq (by rfl) T.z_len (by decide +kernel) (pa_cons (pv 3) pa_nil))) pa_nil)) (blkOk_by (own := [("_law_k", 4)]) (N := ["_law_stream_here", "_law_size", "_law_many", "_law_letters", "_law_k"]) (sc := defScope s__law_name) (by decide +kernel)) (fun _ _ _ _ _ => (pg_name (i := 4) sc__law_name.nd rfl (Or.inl rfl))) (fun _ _ _ _ _ => pts_nil) (fun _ _ _ _ _ => (pe_ix ix_str pe_str (pe_fk (ok__law_draw T) (hr.mono (by omega)) rfl pass0 (pa_cons (pv 0) (pa_cons pe_int pa_nil))) (fun _ _ => rfl))))))))))), ?_⟩
    refine rd_tab (us := [.int 1, .int 1, .int 2, .int 3, .int 6, .int 8]) (m := 6) (n := n + 19) (by intro _ _ q; exact q) (by rfl) hp hx rfl (by decide) (by decide) fun v H1 ys hv b1 hp1 hy => ?_
    obtain ⟨m, rfl, hm1, hm⟩ : ∃ m : Nat, v = V.int m ∧ 1 ≤ m ∧ m ≤ 8 := small_of hv (by decide)
    refine gName_k ?_
    dsimp only
    refine seqAsg ?_
    refine rd_tab (us := [.int 0, .int 0, .int 0, .int 1, .int 2]) (m := 5) (n := n + 18) (by intro _ _ q; exact q) (by rfl) hp1 hy rfl (by decide) (by decide) fun v H2 zs hv b2 hp2 hz => ?_
    obtain ⟨l, rfl, _, hl⟩ : ∃ m : Nat, v = V.int m ∧ 0 ≤ m ∧ m ≤ 2 := small_of hv (by decide)
    refine ⟨_, rfl, _, rfl, _, _, rfl, rfl, (by show 2 ≤ sizeLine; decide), fun q hq => ?_⟩
    have nqp : p ≠ q := ne_of_none hp2 hq
    refine ⟨q, [1, (m : Int) - l], rfl, SqL.of upd_same, (by show 0 < 2; decide), fun u hu hle => ?_⟩
    obtain ⟨e, rfl, he1, he⟩ : ∃ e : Nat, u = (e : Int) ∧ 1 ≤ e ∧ e ≤ m := by
      have h1 := hle 1 List.mem_cons_self
      rcases List.mem_cons.mp hu with rfl | hu
      · exact ⟨1, rfl, by omega, by omega⟩
      · have h2 := List.mem_singleton.mp hu
        exact ⟨u.toNat, by omega, by omega, by omega⟩
    refine ⟨(e : Int), rfl, by omega, by omega, fun D hD => ?_⟩
    have hp3 : upd H2 q (.lst [.int 1, .int ((m : Int) - l)]) p = some (.lst zs) := by rw [upd_ne nqp]; exact hp2
    refine rd_signs (n := n + 8) (M := 26) (fun _ => by rfl) hp3 (hz.mono (by omega)) hD (by omega) rfl (by decide) (by decide) fun cs H4 ws b4 hp4 hw hDv hl4 hs => ?_
    have hlm : (cs.map sg1).length = e := by rw [List.length_map, hl4]; omega
    refine ⟨⟨_, rfl⟩, _, rfl, _, rfl, _, rfl, D, _, rfl, .inl (SqL.of hDv), _, _, rfl, rfl, _, rfl, by omega, by omega, fun D2 hD2 => ?_⟩
    refine rd_signs (n := n) (M := 10) (fun _ => by rfl) hp4 (hw.mono (by omega)) hD2 (by omega) rfl (by decide) (by decide) fun cs2 H5 vs5 b5 hp5 hv5 hDv2 hl5 hs2 => ?_
    have nDp : D ≠ p := fun z => by rw [z, hp3] at hD; cases hD
    have hDv5 : H5 D = some (.lst (cs.map sg1)) := b5 D _ nDp hDv
    have hl2 : (cs2.map sg1).length ≤ 8 := by rw [List.length_map, hl5]; omega
    refine ⟨D, D2, _, _, rfl, rfl, hDv5, hDv2, ?_, fun r hr5 => ?_⟩
    · have : 100 ≤ sizeLine := by decide
      omega
    · have hl6 : cs2.length = m - e := by rw [hl5]; omega
      rw [List.length_map] at hlm hl2
      refine ⟨_, r, (cs ++ cs2).map fun c => (⟨#[c]⟩ : Str), rfl, rfl, .inl (SqL.of (by rw [upd_same, List.map_map, List.map_append]; rfl)), ?_, k _ vs5 _ ?_ ?_ hv5 ?_⟩
      · rw [sum_signs, List.length_map, List.length_append]
        show cs.length + cs2.length + (cs.length + cs2.length) * 0 ≤ _
        omega
      · exact ((((b1.trans b2).trans (But.new hq)).trans b4).trans b5).trans (But.new hr5)
      · rw [upd_ne (ne_of_none hp5 hr5)]
        exact hp5
      · show isName (Txt.join "" ((cs ++ cs2).map fun c => (⟨#[c]⟩ : Str))) = true
        rw [glue_signs]
        exact name_of (by omega) (by omega) hs hs2
end
end Rd
namespace Rd
open PySem L2
inductive Tr where
  | am (k x : Str)
  | un (s : Str) (a : Tr)
  | bi (s : Str) (a b : Tr)
  deriving DecidableEq
def Tr.dep : Tr → Nat
  | .am _ _ => 0
  | .un _ a => a.dep + 1
  | .bi _ a b => max a.dep b.dep + 1
def Tr.nod : Tr → Nat
  | .am _ _ => 0
  | .un _ a => a.nod + 1
  | .bi _ a b => a.nod + b.nod + 1
def Tr.lf : Tr → Nat
  | .am _ _ => 1
  | .un _ a => a.lf
  | .bi _ a b => a.lf + b.lf
/-- how large a drawn form is -/
def Tr.unkIn (us : List V) : Tr → Prop
  | .am k x => k = "unknown" → V.str x ∈ us
  | .un _ a => a.unkIn us
  | .bi _ a b => a.unkIn us ∧ b.unkIn us
def dpN (d : Nat) (us : List V) (t : Tr) : Prop := t.dep ≤ 2 * d ∧ (t.nod + 2 ≤ 2 ^ (d + 1) ∧ t.lf ≤ 2 ^ d) ∧ t.unkIn us
theorem dpN.am {d : Nat} {us : List V} {k x : Str} (h : k = "unknown" → V.str x ∈ us) : dpN d us (.am k x) := by
  have := Nat.pow_pos (n := d) (show 0 < 2 by decide)
  refine ⟨Nat.zero_le _, ⟨?_, this⟩, h⟩
  show 0 + 2 ≤ 2 ^ (d + 1)
  rw [Nat.pow_succ]
  omega
theorem dpN.un {d : Nat} {us : List V} {s : Str} {a : Tr} (h : dpN d us a) : dpN (d + 1) us (.un s a) := by
  obtain ⟨h1, ⟨h2, h4⟩, h3⟩ := h
  have e : 2 ^ (d + 1 + 1) = 2 * 2 ^ (d + 1) := by rw [Nat.pow_succ]; omega
  have e' : 2 ^ (d + 1) = 2 * 2 ^ d := by rw [Nat.pow_succ]; omega
  refine ⟨?_, ⟨?_, (by show a.lf ≤ _; omega)⟩, h3⟩
  · show a.dep + 1 ≤ 2 * (d + 1)
    omega
  · show a.nod + 1 + 2 ≤ 2 ^ (d + 1 + 1)
    omega
theorem dpN.bi {d : Nat} {us : List V} {s : Str} {a b : Tr} (h : dpN d us a) (g : dpN d us b) : dpN (d + 1) us (.bi s a b) := by
  obtain ⟨h1, ⟨h2, h4⟩, h3⟩ := h
  obtain ⟨g1, ⟨g2, g4⟩, g3⟩ := g
  have e : 2 ^ (d + 1 + 1) = 2 * 2 ^ (d + 1) := by rw [Nat.pow_succ]; omega
  have e' : 2 ^ (d + 1) = 2 * 2 ^ d := by rw [Nat.pow_succ]; omega
  refine ⟨?_, ⟨?_, (by show a.lf + b.lf ≤ _; omega)⟩, h3, g3⟩
  · show max a.dep b.dep + 1 ≤ 2 * (d + 1)
    omega
  · show a.nod + b.nod + 1 + 2 ≤ 2 ^ (d + 1 + 1)
    omega
theorem dpN.lk {d : Nat} {us : List V} {s s' : Str} {a b : Tr} (h : dpN d us a) (g : dpN d us b) : dpN (d + 1) us (.bi s a (.un s' b)) := by
  obtain ⟨h1, ⟨h2, h4⟩, h3⟩ := h
  obtain ⟨g1, ⟨g2, g4⟩, g3⟩ := g
  have e : 2 ^ (d + 1 + 1) = 2 * 2 ^ (d + 1) := by rw [Nat.pow_succ]; omega
  have e' : 2 ^ (d + 1) = 2 * 2 ^ d := by rw [Nat.pow_succ]; omega
  refine ⟨?_, ⟨?_, (by show a.lf + b.lf ≤ _; omega)⟩, h3, g3⟩
  · show max a.dep (b.dep + 1) + 1 ≤ 2 * (d + 1)
    omega
  · show a.nod + (b.nod + 1) + 1 + 2 ≤ 2 ^ (d + 1 + 1)
    omega
def kindOk (k x : Str) : Prop := (k = "word" ∧ isWord x = true) ∨ (k = "name" ∧ isName x = true) ∨ (k = "unknown" ∧ isUnk x = true)
inductive Wf : Tr → Prop
  | am {k x : Str} : kindOk k x → Wf (.am k x)
  | un {s : Str} {a : Tr} : s ∈ (["mark", "open", "own"] : List Str) → Wf a → Wf (.un s a)
  | bi {s : Str} {a b : Tr} : s ∈ (["pair", "seal"] : List Str) → Wf a → Wf b → Wf (.bi s a b)
  | lk {s : Str} {a b : Tr} : s ∈ (["open", "own"] : List Str) → Wf a → Wf b → Wf (.bi "lock" a (.un s b))
def IsT (H : Hp) : Tr → V → Prop
  | .am k x, v => ∃ p, v = .ref p ∧ H p = some (.tup [.str k, .str x])
  | .un s a, v => ∃ p u, v = .ref p ∧ H p = some (.tup [.str s, u]) ∧ IsT H a u
  | .bi s a b, v => ∃ p u1 u2, v = .ref p ∧ H p = some (.tup [.str s, u1, u2]) ∧ IsT H a u1 ∧ IsT H b u2
theorem IsT.mono {C : Addr} {H H' : Hp} (k : Kp C H H') : ∀ {t : Tr} {v : V}, IsT H t v → IsT H' t v
  | .am _ _, _, ⟨p, e, h⟩ => ⟨p, e, k p _ rfl h⟩
  | .un _ _, _, ⟨p, u, e, h, h1⟩ => ⟨p, u, e, k p _ rfl h, IsT.mono k h1⟩
  | .bi _ _ _, _, ⟨p, u1, u2, e, h, h1, h2⟩ => ⟨p, u1, u2, e, k p _ rfl h, IsT.mono k h1, IsT.mono k h2⟩
theorem IsT.same {H H' : Hp} {t : Tr} {v : V} (s : Same H H') (h : IsT H t v) : IsT H' t v := h.mono (C := 0) (Kp.of_same s)
theorem IsT.but {p : Addr} {H H' : Hp} {xs : List V} {t : Tr} {v : V} (s : But p H H') (hp : H p = some (.lst xs)) (h : IsT H t v) : IsT H' t v := h.mono (C := 0) (s.kp hp)
theorem IsT.ref {H : Hp} {t : Tr} {v : V} (h : IsT H t v) : ∃ p, v = .ref p := by
  cases t with
  | am k x => obtain ⟨p, e, _⟩ := h; exact ⟨p, e⟩
  | un s a => obtain ⟨p, u, e, _⟩ := h; exact ⟨p, e⟩
  | bi s a b => obtain ⟨p, u, u2, e, _⟩ := h; exact ⟨p, e⟩
/-- a form drawn -/
def unkL (us : List V) : Prop := us.length ≤ 100 ∧ ∀ v ∈ us, ∃ z : Str, v = .str z ∧ isUnk z = true
theorem unk_len {z : Str} (h : isUnk z = true) : z.length ≤ 7 ∧ 1 ≤ z.length ∧ okS z := by
  obtain ⟨h1, h2⟩ := He.ba h
  obtain ⟨a, b, c⟩ := word_len h1
  exact ⟨of_decide_eq_true h2, a, c⟩
theorem dpL {K : PySem.W.Frag} {H : Hp} : ∀ (us : List V), (∀ v ∈ us, ∃ z : Str, v = .str z ∧ isUnk z = true) → ∃ ds : List PyData, DpAll K H us ds ∧ ds.length = us.length ∧ PySem.PyData.canLayAll0 ds = true ∧ PySem.PyData.depthAll ds = 0
  | [], _ => ⟨[], .nil, rfl, rfl, rfl⟩
  | v :: r, h => by
    obtain ⟨z, rfl, hz⟩ := h v List.mem_cons_self
    obtain ⟨ds, h1, h2, h3, h4⟩ := dpL (K := K) (H := H) r fun v hv => h v (List.mem_cons_of_mem _ hv)
    refine ⟨.str z :: ds, .cons (.str z) h1, by rw [List.length_cons, h2]; rfl, ?_, ?_⟩
    · show (PySem.PyData.strOk z && PySem.PyData.canLayAll0 ds) = true
      rw [strOk_of (unk_len hz).2.2, h3]
      rfl
    · show max 0 (PySem.PyData.depthAll ds) = 0
      rw [h4]
      rfl
def sp_atom : Sp := fun vs H Q _ => ∃ (p u : Addr) (xs us : List V) (n : Nat), vs = [.ref p, .ref u] ∧ H p = some (.lst xs) ∧ StL (n + 30) xs ∧ u ≠ p ∧ H u = some (.lst us) ∧ unkL us ∧
  ∀ k x v ys H', But p H H' → H' p = some (.lst ys) → StL n ys → kindOk k x → (k = "unknown" → V.str x ∈ us) → IsT H' (.am k x) v → Q v H'
def dr (d : Nat) : Nat := 40 * 3 ^ d
def sp_drawnForm (d : Nat) : Sp := fun vs H Q _ => ∃ (p u : Addr) (xs us : List V) (n : Nat), vs = [.ref p, .ref u, .int d] ∧ H p = some (.lst xs) ∧ StL (n + dr d) xs ∧ u ≠ p ∧ H u = some (.lst us) ∧ unkL us ∧
  ∀ t v ys H', But p H H' → H' p = some (.lst ys) → StL n ys → Wf t → dpN d us t → IsT H' t v → Q v H'
/-- the promise at recursive calls of a form at most d deep -/
def spR : Nat → Sp
  | 0 => fun _ _ _ _ => False
  | d + 1 => sp_drawnForm d
/-- pick(stream, [..]) -/
theorem rd_pick {K : PySem.W.Frag} {p a : Addr} {xs us : List V} {n : Nat} {H : Hp} {Q : VK} (hp : H p = some (.lst xs)) (hx : StL (n + 1) xs) (ha : H a = some (.lst us)) (ne : a ≠ p) (h0 : 0 < us.length) (h1 : us.length ≤ 1000)
    (k : ∀ v H' ys, v ∈ us → But p H H' → H' p = some (.lst ys) → StL n ys → Q v H') : sp_pick K [.ref p, .ref a] H Q E0 :=
  ⟨p, a, xs, us, n, rfl, hp, hx, SqL.of ha, SqL.of (by rw [upd_ne ne]; exact ha), h0, by omega, fun j v ys hv hy => k v _ ys (List.mem_of_getElem? hv) But.upd upd_same hy⟩
def strIn (l : List Str) : V → Bool
  | .str z => decide (z ∈ l)
  | _ => false
theorem str_of {us : List V} {v : V} {l : List Str} (h : v ∈ us) (ha : us.all (strIn l) = true) : ∃ z : Str, v = V.str z ∧ z ∈ l := by
  have h1 := List.all_eq_true.mp ha v h
  cases v with
  | str z => exact ⟨z, rfl, of_decide_eq_true h1⟩
  | _ => cases h1
theorem eqv_nil (ds : List PyData) : PyData.eqv (.list ds) (.list []) = ds.isEmpty := by cases ds <;> rfl
section
variable {P : Program} {w : World} {K : PySem.W.Frag} {mg : Str → Option Value} {base : Heap}
abbrev s__law_atom : Stmt := top 35
theorem sc__law_atom : FnScope ["_law_stream_here", "_law_unknowns", "_law_way"] ["_law_stream_here", "_law_unknowns"] (defScope s__law_atom) := ⟨rfl, rfl, rfl, by decide +kernel, rfl, by decide +kernel, by decide +kernel⟩
theorem ok__law_atom (T : Tx w K mg) : Fk P w K mg base CX0 3 "_law_atom" ["_law_stream_here", "_law_unknowns"] sp_atom := by
  refine T.F__law_atom.ok0 sc__law_atom (fun _ _ _ _ _ _ us hl => match us, hl with | [_, _], _ => rfl)
    (fun vs H Q E h => ?_) (fun cdv A outer s H vs Q E hr h => ?_)
  · obtain ⟨p, u, xs, us, n, rfl, _⟩ := h
    rfl
  · obtain ⟨p, u, xs, us, n, rfl, hp, hx, nup, hu, hU, k⟩ := h
    refine ⟨_, (pss_cons (ps_set (i := 2) sc__law_atom.nd rfl (Or.inl rfl) (pe_fk (ok__law_draw T) (hr.mono (by omega)) rfl pass0 (pa_cons (pv 0) (pa_cons pe_int pa_nil))))
  (pss_cons (ps_if (PW.pt (pw_and (pt_cmpR op_lt (pv 2) pe_int (nomark _)) (pw_and1 (pt_cmpR (op_neD hr.units) (pv 1) (pe_lst pa_nil) (nomark _)))))
  (pss_one (ps_ret (pe_tup (pa_cons pe_str (pa_cons (pe_fk (ok__law_pick T) (hr.mono (by omega)) rfl pass0 (pa_cons (pv 0) (pa_cons (pv 1) pa_nil))) pa_nil)))))
  pss_nil)
  (pss_cons (ps_if (pt_cmpR op_lt (pv 2) pe_int (nomark _))
  (pss_one (ps_ret (pe_tup (pa_cons pe_str (pa_cons (pe_fk (ok__law_pick T) (hr.mono (by omega)) rfl pass0 (pa_cons (pv 0) (pa_cons (pe_lst (pa_cons pe_str (pa_cons pe_str (pa_cons pe_str (pa_cons pe_str (pa_cons (pe_fk (ok__law_name T) (hr.mono (by omega)) rfl pass0 (pa_cons (pv 0) pa_nil)) pa_nil)))))) pa_nil))) pa_nil)))))
  pss_nil)
  (pss_one (ps_ret (pe_tup (pa_cons pe_str (pa_cons (pe_fk (ok__law_pick T) (hr.mono (by omega)) rfl pass0 (pa_cons (pv 0) (pa_cons (pe_lst (pa_cons pe_str (pa_cons pe_str (pa_cons pe_str (pa_cons pe_str (pa_cons (pe_fk (ok__law_word T) (hr.mono (by omega)) rfl pass0 (pa_cons (pv 0) pa_nil)) pa_nil)))))) pa_nil))) pa_nil)))))))), ?_⟩
    refine seqAsg (rd_draw (m := 6) (n := n + 29) (by rfl) hp hx (by decide) (by decide) fun d H1 y1 hd b1 hp1 hy1 => ?_)
    refine gName_k ?_
    try dsimp only
    have hu1 := b1 u _ nup hu
    obtain ⟨ds, hds, hdl, hdc, hdd⟩ := dpL (K := K) (H := H1) us hU.2
    have mono : ∀ {H' : Hp}, Same H1 H' → DpAll K H' us ds := fun {H'} s' => by
      obtain ⟨es, h1, _, _, _⟩ := dpL (K := K) (H := H') us hU.2
      have key : ∀ {l : List V} {a b : List PyData}, (∀ v ∈ l, ∃ z : Str, v = .str z ∧ isUnk z = true) → DpAll K H1 l a → DpAll K H' l b → DpAll K H' l a := by
        intro l
        induction l with
        | nil => intro a b _ ha _; cases ha; exact .nil
        | cons v r ih =>
          intro a b hv ha hb
          obtain ⟨z, rfl, hz⟩ := hv v List.mem_cons_self
          cases ha with
          | cons a1 a2 =>
            cases hb with
            | cons b1 b2 =>
              cases a1
              exact .cons (.str z) (ih (fun v hv' => hv v (List.mem_cons_of_mem _ hv')) a2 b2)
      exact key hU.2 hds h1
    have sd : SeqAt.shaped (.list ds) = true := by
      show (PySem.PyData.canLayAll0 ds && decide (PySem.PyData.depthAll ds + 1 ≤ 64)) = true
      rw [hdc, hdd]
      rfl
    refine seqIf (tb_and (fun R r => ⟨_, rfl, _, _, rfl, rfl, _, rfl, r _ (Same.refl _)⟩) fun H2 s2 _ R r => ⟨_, rfl, Nat.zero_le _, fun q hq => ⟨.list ds, .list [], .lst (SqL.of ((s2.trans (Rd.Same.upd hq)) _ _ hu1)) (mono (s2.trans (Rd.Same.upd hq))), .lst (SqL.of upd_same) .nil, sd, rfl, _, rfl, r _ (Rd.Same.upd hq)⟩⟩) fun H2 s2 => ?_
    rw [eqv_nil]
    have B2 : But p H H2 := b1.trans (But.of_same s2)
    have hp2 := s2 _ _ hp1
    have hu2 := s2 _ _ hu1
    refine ite2 (fun h1 => ?_) (fun h1 => ?_)
    · have h0 : 0 < us.length := by
        obtain ⟨_, h3⟩ := He.ba h1
        rw [← hdl]
        cases ds with
        | nil => cases h3
        | cons a b => exact Nat.succ_pos _
      refine ⟨_, rfl, _, rfl, rd_pick (n := n + 28) hp2 hy1 hu2 nup h0 (by have := hU.1; omega) fun v H3 y3 hv b3 hp3 hy3 => ⟨(by show 2 ≤ sizeLine; decide), fun q hq => ?_⟩⟩
      obtain ⟨z, rfl, hz⟩ := hU.2 v hv
      exact k "unknown" z _ y3 _ ((B2.trans b3).trans (But.new hq)) (by rw [upd_ne (ne_of_none hp3 hq)]; exact hp3) (hy3.mono (by omega)) (.inr (.inr ⟨rfl, hz⟩)) (fun _ => hv) ⟨q, rfl, upd_same⟩
    refine nxt ?_
    try dsimp only
    refine seqIf (fun R r => ⟨_, rfl, _, _, rfl, rfl, _, rfl, r _ (Same.refl _)⟩) fun H3 s3 => ?_
    have B3 : But p H H3 := B2.trans (But.of_same s3)
    have hp3 := s3 _ _ hp2
    refine ite2 (fun h2 => ?_) (fun h2 => ?_)
    · refine ⟨_, rfl, _, rfl, p, y1, n + 9, rfl, hp3, hy1, fun z1 y4 H4 b4 hp4 hy4 hz1 => ⟨(by show 5 ≤ sizeLine; decide), fun q hq => ?_⟩⟩
      have nqp : q ≠ p := fun z => by rw [z, hp4] at hq; cases hq
      refine rd_pick (n := n + 8) (by rw [upd_ne (Ne.symm nqp)]; exact hp4) hy4 upd_same nqp (by show 0 < 5; decide) (by show 5 ≤ 1000; decide) fun v H5 y5 hv b5 hp5 hy5 => ⟨(by show 2 ≤ sizeLine; decide), fun q2 hq2 => ?_⟩
      obtain ⟨z, rfl, hz⟩ : ∃ z : Str, v = .str z ∧ isName z = true := by
        rcases List.mem_cons.mp hv with rfl | hv
        · exact ⟨_, rfl, by decide +kernel⟩
        rcases List.mem_cons.mp hv with rfl | hv
        · exact ⟨_, rfl, by decide +kernel⟩
        rcases List.mem_cons.mp hv with rfl | hv
        · exact ⟨_, rfl, by decide +kernel⟩
        rcases List.mem_cons.mp hv with rfl | hv
        · exact ⟨_, rfl, by decide +kernel⟩
        exact ⟨z1, List.mem_singleton.mp hv, hz1⟩
      exact k "name" z _ y5 _ ((((B3.trans b4).trans (But.new hq)).trans b5).trans (But.new hq2)) (by rw [upd_ne (ne_of_none hp5 hq2)]; exact hp5) (hy5.mono (by omega)) (.inr (.inl ⟨rfl, hz⟩)) (fun e => absurd e (by decide +kernel)) ⟨q2, rfl, upd_same⟩
    · refine ⟨_, rfl, _, rfl, p, y1, n + 20, rfl, hp3, hy1, fun z1 y4 H4 b4 hp4 hy4 hz1 => ⟨(by show 5 ≤ sizeLine; decide), fun q hq => ?_⟩⟩
      have nqp : q ≠ p := fun z => by rw [z, hp4] at hq; cases hq
      refine rd_pick (n := n + 19) (by rw [upd_ne (Ne.symm nqp)]; exact hp4) hy4 upd_same nqp (by show 0 < 5; decide) (by show 5 ≤ 1000; decide) fun v H5 y5 hv b5 hp5 hy5 => ⟨(by show 2 ≤ sizeLine; decide), fun q2 hq2 => ?_⟩
      obtain ⟨z, rfl, hz⟩ : ∃ z : Str, v = .str z ∧ isWord z = true := by
        rcases List.mem_cons.mp hv with rfl | hv
        · exact ⟨_, rfl, by decide +kernel⟩
        rcases List.mem_cons.mp hv with rfl | hv
        · exact ⟨_, rfl, by decide +kernel⟩
        rcases List.mem_cons.mp hv with rfl | hv
        · exact ⟨_, rfl, by decide +kernel⟩
        rcases List.mem_cons.mp hv with rfl | hv
        · exact ⟨_, rfl, by decide +kernel⟩
        exact ⟨z1, List.mem_singleton.mp hv, hz1⟩
      exact k "word" z _ y5 _ ((((B3.trans b4).trans (But.new hq)).trans b5).trans (But.new hq2)) (by rw [upd_ne (ne_of_none hp5 hq2)]; exact hp5) (hy5.mono (by omega)) (.inl ⟨rfl, hz⟩) (fun e => absurd e (by decide +kernel)) ⟨q2, rfl, upd_same⟩
abbrev s__law_form : Stmt := top 36
theorem sc__law_form : FnScope ["_law_stream_here", "_law_unknowns", "_law_deep", "_law_way", "_law_one", "_law_other"] ["_law_stream_here", "_law_unknowns", "_law_deep"] (defScope s__law_form) := ⟨rfl, rfl, rfl, by decide +kernel, rfl, by decide +kernel, by decide +kernel⟩
theorem form_step (T : Tx w K mg) (d : Nat) (ih : Fk P w K mg base CX0 (d + 4) "_law_form" ["_law_stream_here", "_law_unknowns", "_law_deep"] (spR d)) : Fk P w K mg base CX0 (d + 5) "_law_form" ["_law_stream_here", "_law_unknowns", "_law_deep"] (sp_drawnForm d) := by
  refine T.F__law_form.ok0 sc__law_form (fun _ _ _ _ _ _ us hl => match us, hl with | [_, _, _], _ => rfl)
    (fun vs H Q E h => ?_) (fun cdv A outer s H vs Q E hr h => ?_)
  · obtain ⟨p, u, xs, us, n, rfl, _⟩ := h
    rfl
  · obtain ⟨p, u, xs, us, n, rfl, hp, hx, nup, hu, hU, k⟩ := h
    refine ⟨_, (pss_cons (ps_set (i := 3) sc__law_form.nd rfl (Or.inl rfl) (pe_ifExp (pt_cmpR op_gt (pv 2) pe_int (nomark _)) (pe_fk (ok__law_draw T) (hr.mono (by omega)) rfl pass0 (pa_cons (pv 0) (pa_cons pe_int pa_nil))) pe_int))
  (pss_cons (ps_if (pt_cmpR op_lt (pv 3) pe_int (nomark _))
  (pss_one (ps_ret (pe_fk (ok__law_atom T) (hr.mono (by omega)) rfl pass0 (pa_cons (pv 0) (pa_cons (pv 1) pa_nil)))))
  pss_nil)
  (pss_cons (ps_set (i := 4) sc__law_form.nd rfl (Or.inl rfl) (pe_fk ih (hr.mono (by omega)) rfl pass0 (pa_cons (pv 0) (pa_cons (pv 1) (pa_cons (pe_op op_sub (pv 2) pe_int) pa_nil)))))
  (pss_cons (ps_if (pt_cmpR op_gt (pv 3) pe_int (nomark _))
  (pss_one (ps_ret (pe_tup (pa_cons (pe_ix ix_list (pe_lst (pa_cons pe_str (pa_cons pe_str (pa_cons pe_str pa_nil)))) (pe_fk (ok__law_draw T) (hr.mono (by omega)) rfl pass0 (pa_cons (pv 0) (pa_cons pe_int pa_nil))) (fun _ _ => rfl)) (pa_cons (pv 4) pa_nil)))))
  pss_nil)
  (pss_cons (ps_set (i := 5) sc__law_form.nd rfl (Or.inl rfl) (pe_fk ih (hr.mono (by omega)) rfl pass0 (pa_cons (pv 0) (pa_cons (pv 1) (pa_cons (pe_op op_sub (pv 2) pe_int) pa_nil)))))
  (pss_cons (ps_if (pt_cmpR op_gt (pv 3) pe_int (nomark _))
  (pss_one (ps_ret (pe_tup (pa_cons pe_str (pa_cons (pv 4) (pa_cons (pe_tup (pa_cons (pe_ix ix_list (pe_lst (pa_cons pe_str (pa_cons pe_str pa_nil))) (pe_fk (ok__law_draw T) (hr.mono (by omega)) rfl pass0 (pa_cons (pv 0) (pa_cons pe_int pa_nil))) (fun _ _ => rfl)) (pa_cons (pv 5) pa_nil))) pa_nil))))))
  pss_nil)
  (pss_one (ps_ret (pe_tup (pa_cons (pe_ix ix_list (pe_lst (pa_cons pe_str (pa_cons pe_str pa_nil))) (pe_op op_mod (pe_callTy call_int1 (by rfl) T.z_int (by decide +kernel) (pa_cons (pv 3) pa_nil)) pe_int) (fun _ _ => rfl)) (pa_cons (pv 4) (pa_cons (pv 5) pa_nil)))))))))))), ?_⟩
    have d40 : 40 ≤ dr d := by
      have := Nat.pow_pos (n := d) (show 0 < 3 by decide)
      unfold dr
      omega
    have atomc : ∀ {H1 : Hp} {y1 : List V}, But p H H1 → H1 p = some (.lst y1) → StL (n + 30) y1 → sp_atom [.ref p, .ref u] H1 Q E0 := fun {H1 y1} b hp1 hy =>
      ⟨p, u, y1, us, n, rfl, hp1, hy, nup, b u _ nup hu, hU, fun k' x v ys H' b' hp' hy' ko un it => k (.am k' x) v ys H' (b.trans b') hp' hy' (.am ko) (dpN.am un) it⟩
    refine ⟨_, rfl, _, _, rfl, rfl, _, rfl, ite2 (fun h1 => ?_) (fun h1 => ?_)⟩
    · cases d with
      | zero => exact absurd (of_decide_eq_true h1) (by decide)
      | succ d =>
        have hD : dr (d + 1) = 3 * dr d := by
          unfold dr
          rw [Nat.pow_succ]
          omega
        have dd40 : 40 ≤ dr d := by
          have := Nat.pow_pos (n := d) (show 0 < 3 by decide)
          unfold dr
          omega
        have ed : (((d + 1 : Nat) : Int) - 1) = (d : Int) := by omega
        refine rd_draw (m := 11) (n := n + 3 * dr d - 1) (by rfl) hp (hx.mono (by omega)) (by decide) (by decide) fun way H1 y1 hw b1 hp1 hy1 => ?_
        have hu1 := b1 u _ nup hu
        refine gName_k ?_
        try dsimp only
        refine ⟨_, rfl, _, _, rfl, rfl, _, rfl, ite2 (fun h2 => ?_) (fun h2 => ?_)⟩
        · exact ⟨_, rfl, _, rfl, atomc b1 hp1 (hy1.mono (by omega))⟩
        refine ⟨_, rfl, _, rfl, _, rfl, _, _, rfl, rfl, p, u, y1, us, n + 2 * dr d - 1, ?_, hp1, hy1.mono (by omega), nup, hu1, hU, fun t1 v1 y2 H2 b2 hp2 hy2 wf1 dp1 it1 => ?_⟩
        · show [V.ref p, V.ref u, V.int (((d + 1 : Nat) : Int) - 1)] = _
          rw [ed]
        have hu2 := b2 u _ nup hu1
        have B2 := b1.trans b2
        refine ⟨_, rfl, _, _, rfl, rfl, _, rfl, ite2 (fun h3 => ?_) (fun h3 => ?_)⟩
        · refine rd_tab (us := [.str "mark", .str "open", .str "own"]) (m := 3) (n := n) (by intro _ _ q; exact q) (by rfl) hp2 (hy2.mono (by omega)) rfl (by decide) (by decide) fun v H3 y3 hv b3 hp3 hy3 => ?_
          obtain ⟨s3, rfl, hs3⟩ : ∃ s3 : Str, v = .str s3 ∧ s3 ∈ (["mark", "open", "own"] : List Str) := str_of hv (by decide +kernel)
          refine ⟨_, rfl, (by show 2 ≤ sizeLine; decide), fun q hq => ?_⟩
          exact k (.un s3 t1) _ y3 _ ((B2.trans b3).trans (But.new hq)) (by rw [upd_ne (ne_of_none hp3 hq)]; exact hp3) hy3 (.un hs3 wf1) dp1.un ⟨q, v1, rfl, upd_same, (it1.but b3 hp2).same (Rd.Same.upd hq)⟩
        refine ⟨_, rfl, _, rfl, _, rfl, _, _, rfl, rfl, p, u, y2, us, n + dr d - 1, ?_, hp2, hy2.mono (by omega), nup, hu2, hU, fun t2 v2 y3 H3 b3 hp3 hy3 wf2 dp2 it2 => ?_⟩
        · show [V.ref p, V.ref u, V.int (((d + 1 : Nat) : Int) - 1)] = _
          rw [ed]
        have B3 := B2.trans b3
        have it1' := it1.but b3 hp2
        refine ⟨_, rfl, _, _, rfl, rfl, _, rfl, ite2 (fun h4 => ?_) (fun h4 => ?_)⟩
        · refine ⟨_, rfl, rd_tab (us := [.str "open", .str "own"]) (m := 2) (n := n) (by intro _ _ q; exact q) (by rfl) hp3 (hy3.mono (by omega)) rfl (by decide) (by decide) fun v H4 y4 hv b4 hp4 hy4 => ?_⟩
          obtain ⟨s4, rfl, hs4⟩ : ∃ s4 : Str, v = .str s4 ∧ s4 ∈ (["open", "own"] : List Str) := str_of hv (by decide +kernel)
          refine ⟨_, rfl, (by show 2 ≤ sizeLine; decide), fun q hq => ⟨(by show 3 ≤ sizeLine; decide), fun q2 hq2 => ?_⟩⟩
          have sq := Rd.Same.upd (o := .tup [.str s4, v2]) hq
          have sq2 := sq.trans (Rd.Same.upd (o := .tup [.str "lock", v1, .ref q]) hq2)
          refine k (.bi "lock" t1 (.un s4 t2)) _ y4 _ ((B3.trans b4).trans (But.of_same sq2)) (sq2 _ _ hp4) hy4 (.lk hs4 wf1 wf2) (dp1.lk dp2) ⟨q2, v1, _, rfl, upd_same, (it1'.but b4 hp3).same sq2, q, v2, rfl, ?_, (it2.but b4 hp3).same sq2⟩
          rw [upd_ne (fun z => by rw [← z, upd_same] at hq2; cases hq2), upd_same]
        · refine ⟨(by show 2 ≤ sizeLine; decide), fun q hq => ?_⟩
          have sq := Rd.Same.upd (o := .lst [.str "pair", .str "seal"]) hq
          have hj : ((way : Int) % 2).toNat < 2 := by omega
          obtain ⟨v, hv⟩ : ∃ v, ([.str "pair", .str "seal"] : List V)[((way : Int) % 2).toNat]? = some v := ⟨_, List.getElem?_eq_getElem (by show _ < 2; exact hj)⟩
          obtain ⟨s4, rfl, hs4⟩ : ∃ s4 : Str, v = .str s4 ∧ s4 ∈ (["pair", "seal"] : List Str) := str_of (List.mem_of_getElem? hv) (by decide +kernel)
          refine ⟨_, rfl, .inl ⟨_, rfl, _, _, rfl, rfl, (by show (0 : Int) < 2; decide), q, _, _, .str s4, rfl, rfl, SqL.of upd_same, at_of (j := ((way : Int) % 2).toNat) (by omega) hv, _, rfl, _, rfl, (by show 3 ≤ sizeLine; decide), fun q2 hq2 => ?_⟩⟩
          have sq2 := sq.trans (Rd.Same.upd (o := .tup [.str s4, v1, v2]) hq2)
          exact k (.bi s4 t1 t2) _ y3 _ (B3.trans (But.of_same sq2)) (sq2 _ _ hp3) (hy3.mono (by omega)) (.bi hs4 wf1 wf2) (dp1.bi dp2) ⟨q2, v1, v2, rfl, upd_same, it1'.same sq2, it2.same sq2⟩
    · refine gName_k ?_
      try dsimp only
      refine ⟨_, rfl, _, _, rfl, rfl, _, rfl, ite2 (fun h2 => ?_) (fun h2 => absurd (by decide) h2)⟩
      exact ⟨_, rfl, _, rfl, atomc But.refl hp (hx.mono (by omega))⟩
theorem form_none (T : Tx w K mg) : Fk P w K mg base CX0 1 "_law_form" ["_law_stream_here", "_law_unknowns", "_law_deep"] (spR 0) := by
  refine T.F__law_form.ok0 sc__law_form (fun _ _ _ _ _ _ us hl => match us, hl with | [_, _, _], _ => rfl) (fun vs H Q E h => h.elim) (fun cdv A outer s H vs Q E hr h => h.elim)
theorem ok__law_form (T : Tx w K mg) : ∀ d : Nat, Fk P w K mg base CX0 (d + 5) "_law_form" ["_law_stream_here", "_law_unknowns", "_law_deep"] (sp_drawnForm d)
  | 0 => form_step T 0 ((form_none T).mono (by decide))
  | d + 1 => form_step T (d + 1) (ok__law_form T d)
end
end Rd
namespace Rd
open PySem L2
section
variable {P : Program} {w : World} {K : PySem.W.Frag} {mg : Str → Option Value} {base : Heap}
abbrev s_BadAtom_init : Stmt := inClass (top 3) 0
theorem sc_BadAtom_init : FnScope ["self", "text"] ["self", "text"] (defScope s_BadAtom_init) := ⟨rfl, rfl, rfl, by decide +kernel, rfl, by decide +kernel, by decide +kernel⟩
theorem ok_BadAtom (T : Tx w K mg) : Fm P w K mg base CX0 1 "BadAtom" "__init__" ["self", "text"] (spX1 K "text") := by
  refine T.X_BadAtom.init.ok0 sc_BadAtom_init (fun _ _ _ _ _ _ us hl => match us, hl with | [_, _], _ => rfl)
    (fun vs H Q E h => ?_) (fun cdv A outer s H vs Q E hr h => ?_)
  · obtain ⟨a, C, v, rfl, _⟩ := h
    rfl
  · obtain ⟨a, C, v, rfl, TC, no, ha, k⟩ := h
    refine ⟨_, (pss_cons (ps_expr (pe_reinit rfl T.g_RoadError T.r_RoadError (pa_cons (pv 0) (pa_cons pe_str pa_nil))))
  (pss_one (ps_ost (pv 0) (pv 1)))), ?_⟩
    refine ⟨_, rfl, a, C, [.str "no atom"], rfl, (by show 1 ≤ 1000; decide), TC, ha, _, rfl, _, rfl, a, C, rfl, TC, no, .inl ⟨ha, fun dx hdx ne => k dx hdx ne⟩⟩
/-- Letter(text), Letter("", tree) -/
def sp_Linit (K : PySem.W.Frag) : Sp := fun vs H Q E => ∃ (x dx : Addr) (z : Str) (v : V), vs = [.ref x, .str z, v] ∧ H x = some (.ins (He.ga K "Letter") dx []) ∧
  ((v ≠ .non ∧ Q .non (upd H x (.ins (He.ga K "Letter") dx [("tree", v)]))) ∨
   (v = .non ∧ z.length ≤ 200000 ∧ (∀ k y p H', But x H H' → atomOf z = some (k, y) → H p = none → H' p = some (.tup [.str k, .str y]) → H' x = some (.ins (He.ga K "Letter") dx [("tree", .ref p)]) → Q .non H') ∧
     ∀ d H', But x H H' → atomOf z = none → H d = none → H' d = some (.xd [("text", .str z)]) → E (.ref (He.ga K "BadAtom")) (some d) H'))
theorem look1 (v : V) : ([("tree", v)] : List (Str × V)).lookup ("tree" : Str) = some v := by simp [List.lookup]
theorem putTree (v u : V) : putF "tree" u ([("tree", v)] : List (Str × V)) = ([("tree", u)] : List (Str × V)) := by
  show (if ("tree" : Str) = "tree" then ([(("tree" : Str), u)] : List (Str × V)) else _) = _
  rw [if_pos rfl]
abbrev s_Letter_init : Stmt := inClass (top 24) 0
theorem sc_Letter_init : FnScope ["self", "atom", "tree"] ["self", "atom", "tree"] (defScope s_Letter_init) := ⟨rfl, rfl, rfl, by decide +kernel, rfl, by decide +kernel, by decide +kernel⟩
theorem ok_Letter (T : Tx w K mg) : Fi P w K mg base (L2N.CX P w) 4 "Letter" ["self", "atom", "tree"] (sp_Linit K) .non := by
  refine T.I_Letter.ok (n := 2) sc_Letter_init rfl (fun _ _ _ _ _ _ _ us its hu hi => match us, its, hu, hi with | [_, _], [_], _, _ => ⟨_, rfl, rfl⟩) (fun _ _ _ _ _ _ _ us its hu hi => match us, its, hu, hi with | [_, _, _], [_], _, _ => ⟨_, rfl, rfl⟩)
    (fun vs H Q E h => ?_) (fun cdv A outer s H vs Q E hr h => ?_)
  · obtain ⟨x, dx, z, v, rfl, _⟩ := h
    rfl
  · obtain ⟨x, dx, z, v, rfl, hx, hv⟩ := h
    refine ⟨_, (pss_cons (ps_fld (pv 0) (pv 2) rfl)
  (pss_one (ps_if (pt_cmpR op_isN (pv 2) pe_non (nomark _))
  (pss_cons (ps_fld (pv 0) (pe_fk (ok_atom_tree T) (hr.mono (by omega)) rfl pass0 (pa_cons (pv 1) pa_nil)) rfl)
  (pss_one (ps_if (pt_cmpR op_isN (pe_fld (pv 0) rfl) pe_non (nomark _))
  (pss_one (L2N.ps_raise rfl (L2N.takes_of rfl rfl rfl rfl) (pmk_xN T.X_BadAtom (ok_BadAtom T) (hr.mono (by omega)) rfl (pa_cons (pv 1) pa_nil))))
  pss_nil)))
  pss_nil))), ?_⟩
    refine ⟨_, rfl, _, rfl, x, _, dx, [], rfl, hx, T.k_Letter, T.n_Letter_tree, (by show 0 < 1000; decide), ?_⟩
    refine ⟨_, rfl, rfl, _, rfl, ?_⟩
    rcases hv with ⟨hne, q⟩ | ⟨rfl, hz, k1, k0⟩
    · exact ite2 (fun h => absurd (of_decide_eq_true h) hne) (fun _ => q)
    refine ite2 (fun _ => ?_) (fun h => absurd (decide_eq_true rfl) h)
    have b0 : But x H (upd H x (.ins (He.ga K "Letter") dx [("tree", .non)])) := But.upd
    refine ⟨_, rfl, z, rfl, hz, fun H1 s1 en => ?_, fun k y p H1 s1 es hp hp1 => ?_⟩
    · have hx1 : H1 x = some (.ins (He.ga K "Letter") dx [("tree", .non)]) := s1 x _ upd_same
      refine ⟨_, rfl, x, _, dx, _, rfl, hx1, T.k_Letter, T.n_Letter_tree, (by show 1 < 1000; decide), ?_⟩
      refine ⟨_, rfl, x, _, dx, _, .non, rfl, upd_same, T.k_Letter, T.n_Letter_tree, (by rw [putTree]; exact look1 _), rfl, _, rfl, ite2 (fun _ => ?_) (fun h => absurd (decide_eq_true rfl) h)⟩
      refine ⟨_, rfl, rd_raise1 T.X_BadAtom.oex T.X_BadAtom.no fun d H' s' nd hd => k0 d H' ?_ en ?_ hd⟩
      · exact ((b0.trans (But.of_same s1)).trans But.upd).trans (But.of_same s')
      · have nx : d ≠ x := fun e => by rw [e, upd_same] at nd; cases nd
        rw [upd_ne nx] at nd
        have n2 := s1.free nd
        rw [upd_ne nx] at n2
        exact n2
    · have hx1 : H1 x = some (.ins (He.ga K "Letter") dx [("tree", .non)]) := s1 x _ upd_same
      have npx : p ≠ x := fun e => by rw [e, hx1] at hp1; cases hp1
      refine ⟨_, rfl, x, _, dx, _, rfl, hx1, T.k_Letter, T.n_Letter_tree, (by show 1 < 1000; decide), ?_⟩
      refine ⟨_, rfl, x, _, dx, _, .ref p, rfl, upd_same, T.k_Letter, T.n_Letter_tree, (by rw [putTree]; exact look1 _), rfl, _, rfl, ite2 (fun h => absurd (of_decide_eq_true h) (fun e => by cases e)) (fun _ => ?_)⟩
      refine k1 k y p _ ((b0.trans (But.of_same s1)).trans But.upd) es ?_ (by rw [upd_ne npx]; exact hp1) (by rw [upd_same, putTree])
      rw [upd_ne npx] at hp
      exact hp
abbrev s_Letter_form : Stmt := inClass (top 24) 3
theorem sc_Letter_form : FnScope ["self"] ["self"] (defScope s_Letter_form) := ⟨rfl, rfl, rfl, by decide +kernel, rfl, by decide +kernel, by decide +kernel⟩
/-- a letter at a: its field -/
def IsL (K : PySem.W.Frag) (H : Hp) (a : Addr) (v : V) : Prop := ∃ dx, H a = some (.ins (He.ga K "Letter") dx [("tree", v)])
def sp_form (K : PySem.W.Frag) : Sp := fun vs H Q _ => ∃ (a : Addr) (v : V), vs = [.ref a] ∧ IsL K H a v ∧ Q v H
theorem ok_form (T : Tx w K mg) : Fm P w K mg base CX0 1 "Letter" "form" ["self"] (sp_form K) := by
  refine T.M_Letter_form.ok0 sc_Letter_form (fun _ _ _ _ _ _ us hl => match us, hl with | [_], _ => rfl)
    (fun vs H Q E h => ?_) (fun cdv A outer s H vs Q E hr h => ?_)
  · obtain ⟨a, v, rfl, _⟩ := h
    rfl
  · obtain ⟨a, v, rfl, ⟨dx, ha⟩, k⟩ := h
    refine ⟨_, (pss_one (ps_ret (pe_fld (pv 0) rfl))), ?_⟩
    exact ⟨_, rfl, a, _, dx, _, v, rfl, ha, T.k_Letter, T.n_Letter_tree, look1 _, k⟩
end
end Rd
namespace Rd
open PySem L2
theorem lookT {m : Str} {v : V} (h : (m == ("tree" : Str)) = false) : ([("tree", v)] : List (Str × V)).lookup m = none := by simp [List.lookup, h]
theorem IsL.mono {K : PySem.W.Frag} {H H' : Hp} {a : Addr} {v : V} (k : Kp (He.ga K "Letter") H H') (h : IsL K H a v) : IsL K H' a v := by
  obtain ⟨dx, e⟩ := h
  exact ⟨dx, k a _ (by show ((He.ga K "Letter") == (He.ga K "Letter")) = true; exact beq_self_eq_true _) e⟩
theorem IsL.same {K : PySem.W.Frag} {H H' : Hp} {a : Addr} {v : V} (k : Same H H') (h : IsL K H a v) : IsL K H' a v := h.mono (Kp.of_same k)
/-- a letter with a form -/
def IsLet (K : PySem.W.Frag) (H : Hp) (t : Tr) (v : V) : Prop := ∃ a u, v = .ref a ∧ IsL K H a u ∧ IsT H t u
theorem IsLet.mono {K : PySem.W.Frag} {H H' : Hp} {t : Tr} {v : V} (k : Kp (He.ga K "Letter") H H') (h : IsLet K H t v) : IsLet K H' t v := by
  obtain ⟨a, u, e, h1, h2⟩ := h
  exact ⟨a, u, e, h1.mono k, h2.mono k⟩
theorem IsLet.same {K : PySem.W.Frag} {H H' : Hp} {t : Tr} {v : V} (k : Same H H') (h : IsLet K H t v) : IsLet K H' t v := h.mono (Kp.of_same k)
def Tr.head : Tr → Str
  | .am k _ => k
  | .un s _ => s
  | .bi s _ _ => s
def isKey (t : Tr) : Bool := decide (t.head ∈ (["open", "own"] : List Str))
theorem IsT.hd {H : Hp} {t : Tr} {v : V} (h : IsT H t v) : ∃ p us, v = .ref p ∧ H p = some (.tup (.str t.head :: us)) := by
  cases t with
  | am k x => obtain ⟨p, e, h⟩ := h; exact ⟨p, _, e, h⟩
  | un s a => obtain ⟨p, u, e, h, _⟩ := h; exact ⟨p, _, e, h⟩
  | bi s a b => obtain ⟨p, u, u2, e, h, _⟩ := h; exact ⟨p, _, e, h⟩
/-- a sign of two letters, of one -/
def sp_bin (K : PySem.W.Frag) (s : Str) : Sp := fun vs H Q _ => ∃ (a b : Addr) (u1 u2 : V), vs = [.ref a, .ref b] ∧ IsL K H a u1 ∧ IsL K H b u2 ∧
  ∀ x q H', Same H H' → IsL K H' x (.ref q) → H' q = some (.tup [.str s, u1, u2]) → Q (.ref x) H'
def sp_one (K : PySem.W.Frag) (s : Str) : Sp := fun vs H Q _ => ∃ (a : Addr) (u1 : V), vs = [.ref a] ∧ IsL K H a u1 ∧
  ∀ x q H', Same H H' → IsL K H' x (.ref q) → H' q = some (.tup [.str s, u1]) → Q (.ref x) H'
def sp_xor (K : PySem.W.Frag) : Sp := fun vs H Q E => ∃ (a b : Addr) (u1 u2 : V) (t2 : Tr), vs = [.ref a, .ref b] ∧ IsL K H a u1 ∧ IsL K H b u2 ∧ IsT H t2 u2 ∧
  (isKey t2 = true → ∀ x q H', Same H H' → IsL K H' x (.ref q) → H' q = some (.tup [.str "lock", u1, u2]) → Q (.ref x) H') ∧
  (isKey t2 = false → ∀ d H', Same H H' → H' d = some (.xd [("key", .ref b)]) → E (.ref (He.ga K "BadKey")) (some d) H')
/-- Letter("", tree) behind its arguments -/
theorem rd_mkL {K : PySem.W.Frag} {H1 : Hp} {q : Addr} {Q : VK} {E : XK} {xs : List V} (hq : H1 q = some (.tup xs))
    (k : ∀ x H', Same H1 H' → IsL K H' x (.ref q) → Q (.ref x) H') :
    ∀ x dx, H1 x = none → H1 dx = none → dx ≠ x → sp_Linit K (.ref x :: ([.str "", .ref q] ++ [])) (upd (upd H1 dx (.own x)) x (.ins (He.ga K "Letter") dx [])) (fun v H2 => v = .non ∧ Q (.ref x) H2) E := fun x dx nx ndx ne => by
  refine ⟨x, dx, "", .ref q, rfl, upd_same, .inl ⟨(fun e => by cases e), rfl, k x _ (fun b o e => ?_) ⟨dx, upd_same⟩⟩⟩
  rw [upd_ne (ne_of_none e nx), upd_ne (ne_of_none e nx), upd_ne (ne_of_none e ndx)]
  exact e
section
variable {P : Program} {w : World} {K : PySem.W.Frag} {mg : Str → Option Value} {base : Heap}
abbrev s_Letter_add : Stmt := inClass (top 24) 8
theorem sc_Letter_add : FnScope ["self", "other"] ["self", "other"] (defScope s_Letter_add) := ⟨rfl, rfl, rfl, by decide +kernel, rfl, by decide +kernel, by decide +kernel⟩
theorem ok_Ladd (T : Tx w K mg) : Fm P w K mg base CX0 6 "Letter" "__add__" ["self", "other"] (sp_bin K "pair") := by
  refine T.M_Letter_add.ok0 sc_Letter_add (fun _ _ _ _ _ _ us hl => match us, hl with | [_, _], _ => rfl)
    (fun vs H Q E h => ?_) (fun cdv A outer s H vs Q E hr h => ?_)
  · obtain ⟨a, b, u1, u2, rfl, _⟩ := h
    rfl
  · obtain ⟨a, b, u1, u2, rfl, ⟨dx, ha⟩, ⟨dy, hb⟩, k⟩ := h
    refine ⟨_, (pss_one (ps_ret (pe_mk2 (ok_Letter T) (hr.mono (by omega)) (by rfl) passN (pa_cons pe_str (pa_cons (pe_tup (pa_cons pe_str (pa_cons (pe_fld (pv 0) rfl) (pa_cons (pe_fld (pv 1) rfl) pa_nil)))) pa_nil))))), ?_⟩
    refine ⟨_, rfl, a, _, dx, _, _, rfl, ha, T.k_Letter, T.n_Letter_tree, look1 _, _, rfl, b, _, dy, _, _, rfl, hb, T.k_Letter, T.n_Letter_tree, look1 _, (by show 3 ≤ sizeLine; decide), fun q hq => ?_⟩
    exact rd_mkL upd_same fun x H' s' hx => k x q H' ((Rd.Same.upd hq).trans s') hx (s' _ _ upd_same)
abbrev s_Letter_mul : Stmt := inClass (top 24) 9
theorem sc_Letter_mul : FnScope ["self", "key"] ["self", "key"] (defScope s_Letter_mul) := ⟨rfl, rfl, rfl, by decide +kernel, rfl, by decide +kernel, by decide +kernel⟩
theorem ok_Lmul (T : Tx w K mg) : Fm P w K mg base CX0 6 "Letter" "__mul__" ["self", "key"] (sp_bin K "seal") := by
  refine T.M_Letter_mul.ok0 sc_Letter_mul (fun _ _ _ _ _ _ us hl => match us, hl with | [_, _], _ => rfl)
    (fun vs H Q E h => ?_) (fun cdv A outer s H vs Q E hr h => ?_)
  · obtain ⟨a, b, u1, u2, rfl, _⟩ := h
    rfl
  · obtain ⟨a, b, u1, u2, rfl, ⟨dx, ha⟩, ⟨dy, hb⟩, k⟩ := h
    refine ⟨_, (pss_one (ps_ret (pe_mk2 (ok_Letter T) (hr.mono (by omega)) (by rfl) passN (pa_cons pe_str (pa_cons (pe_tup (pa_cons pe_str (pa_cons (pe_fld (pv 0) rfl) (pa_cons (pe_fld (pv 1) rfl) pa_nil)))) pa_nil))))), ?_⟩
    refine ⟨_, rfl, a, _, dx, _, _, rfl, ha, T.k_Letter, T.n_Letter_tree, look1 _, _, rfl, b, _, dy, _, _, rfl, hb, T.k_Letter, T.n_Letter_tree, look1 _, (by show 3 ≤ sizeLine; decide), fun q hq => ?_⟩
    exact rd_mkL upd_same fun x H' s' hx => k x q H' ((Rd.Same.upd hq).trans s') hx (s' _ _ upd_same)
abbrev s_Letter_invert : Stmt := inClass (top 24) 11
theorem sc_Letter_invert : FnScope ["self"] ["self"] (defScope s_Letter_invert) := ⟨rfl, rfl, rfl, by decide +kernel, rfl, by decide +kernel, by decide +kernel⟩
theorem ok_Linvert (T : Tx w K mg) : Fm P w K mg base CX0 6 "Letter" "__invert__" ["self"] (sp_one K "mark") := by
  refine T.M_Letter_invert.ok0 sc_Letter_invert (fun _ _ _ _ _ _ us hl => match us, hl with | [_], _ => rfl)
    (fun vs H Q E h => ?_) (fun cdv A outer s H vs Q E hr h => ?_)
  · obtain ⟨a, u1, rfl, _⟩ := h
    rfl
  · obtain ⟨a, u1, rfl, ⟨dx, ha⟩, k⟩ := h
    refine ⟨_, (pss_one (ps_ret (pe_mk2 (ok_Letter T) (hr.mono (by omega)) (by rfl) passN (pa_cons pe_str (pa_cons (pe_tup (pa_cons pe_str (pa_cons (pe_fld (pv 0) rfl) pa_nil))) pa_nil))))), ?_⟩
    refine ⟨_, rfl, a, _, dx, _, _, rfl, ha, T.k_Letter, T.n_Letter_tree, look1 _, (by show 2 ≤ sizeLine; decide), fun q hq => ?_⟩
    exact rd_mkL upd_same fun x H' s' hx => k x q H' ((Rd.Same.upd hq).trans s') hx (s' _ _ upd_same)
abbrev s_Letter_pos : Stmt := inClass (top 24) 12
theorem sc_Letter_pos : FnScope ["self"] ["self"] (defScope s_Letter_pos) := ⟨rfl, rfl, rfl, by decide +kernel, rfl, by decide +kernel, by decide +kernel⟩
theorem ok_Lpos (T : Tx w K mg) : Fm P w K mg base CX0 6 "Letter" "__pos__" ["self"] (sp_one K "open") := by
  refine T.M_Letter_pos.ok0 sc_Letter_pos (fun _ _ _ _ _ _ us hl => match us, hl with | [_], _ => rfl)
    (fun vs H Q E h => ?_) (fun cdv A outer s H vs Q E hr h => ?_)
  · obtain ⟨a, u1, rfl, _⟩ := h
    rfl
  · obtain ⟨a, u1, rfl, ⟨dx, ha⟩, k⟩ := h
    refine ⟨_, (pss_one (ps_ret (pe_mk2 (ok_Letter T) (hr.mono (by omega)) (by rfl) passN (pa_cons pe_str (pa_cons (pe_tup (pa_cons pe_str (pa_cons (pe_fld (pv 0) rfl) pa_nil))) pa_nil))))), ?_⟩
    refine ⟨_, rfl, a, _, dx, _, _, rfl, ha, T.k_Letter, T.n_Letter_tree, look1 _, (by show 2 ≤ sizeLine; decide), fun q hq => ?_⟩
    exact rd_mkL upd_same fun x H' s' hx => k x q H' ((Rd.Same.upd hq).trans s') hx (s' _ _ upd_same)
abbrev s_Letter_neg : Stmt := inClass (top 24) 13
theorem sc_Letter_neg : FnScope ["self"] ["self"] (defScope s_Letter_neg) := ⟨rfl, rfl, rfl, by decide +kernel, rfl, by decide +kernel, by decide +kernel⟩
theorem ok_Lneg (T : Tx w K mg) : Fm P w K mg base CX0 6 "Letter" "__neg__" ["self"] (sp_one K "own") := by
  refine T.M_Letter_neg.ok0 sc_Letter_neg (fun _ _ _ _ _ _ us hl => match us, hl with | [_], _ => rfl)
    (fun vs H Q E h => ?_) (fun cdv A outer s H vs Q E hr h => ?_)
  · obtain ⟨a, u1, rfl, _⟩ := h
    rfl
  · obtain ⟨a, u1, rfl, ⟨dx, ha⟩, k⟩ := h
    refine ⟨_, (pss_one (ps_ret (pe_mk2 (ok_Letter T) (hr.mono (by omega)) (by rfl) passN (pa_cons pe_str (pa_cons (pe_tup (pa_cons pe_str (pa_cons (pe_fld (pv 0) rfl) pa_nil))) pa_nil))))), ?_⟩
    refine ⟨_, rfl, a, _, dx, _, _, rfl, ha, T.k_Letter, T.n_Letter_tree, look1 _, (by show 2 ≤ sizeLine; decide), fun q hq => ?_⟩
    exact rd_mkL upd_same fun x H' s' hx => k x q H' ((Rd.Same.upd hq).trans s') hx (s' _ _ upd_same)
abbrev s_BadKey_init : Stmt := inClass (top 5) 0
theorem sc_BadKey_init : FnScope ["self", "key"] ["self", "key"] (defScope s_BadKey_init) := ⟨rfl, rfl, rfl, by decide +kernel, rfl, by decide +kernel, by decide +kernel⟩
theorem ok_BadKey (T : Tx w K mg) : Fm P w K mg base CX0 1 "BadKey" "__init__" ["self", "key"] (spX1 K "key") := by
  refine T.X_BadKey.init.ok0 sc_BadKey_init (fun _ _ _ _ _ _ us hl => match us, hl with | [_, _], _ => rfl)
    (fun vs H Q E h => ?_) (fun cdv A outer s H vs Q E hr h => ?_)
  · obtain ⟨a, C, v, rfl, _⟩ := h
    rfl
  · obtain ⟨a, C, v, rfl, TC, no, ha, k⟩ := h
    refine ⟨_, (pss_cons (ps_expr (pe_reinit rfl T.g_RoadError T.r_RoadError (pa_cons (pv 0) (pa_cons pe_str pa_nil))))
  (pss_one (ps_ost (pv 0) (pv 1)))), ?_⟩
    refine ⟨_, rfl, a, C, [.str "no key of a pair"], rfl, (by show 1 ≤ 1000; decide), TC, ha, _, rfl, _, rfl, a, C, rfl, TC, no, .inl ⟨ha, fun dx hdx ne => k dx hdx ne⟩⟩
abbrev s_Letter_xor : Stmt := inClass (top 24) 10
theorem sc_Letter_xor : FnScope ["self", "key"] ["self", "key"] (defScope s_Letter_xor) := ⟨rfl, rfl, rfl, by decide +kernel, rfl, by decide +kernel, by decide +kernel⟩
theorem ok_Lxor (T : Tx w K mg) : Fm P w K mg base (L2N.CX P w) 6 "Letter" "__xor__" ["self", "key"] (sp_xor K) := by
  refine T.M_Letter_xor.ok sc_Letter_xor (fun _ _ _ _ _ _ us hl => match us, hl with | [_, _], _ => rfl)
    (fun vs H Q E h => ?_) (fun cdv A outer s H vs Q E hr h => ?_)
  · obtain ⟨a, b, u1, u2, t2, rfl, _⟩ := h
    rfl
  · obtain ⟨a, b, u1, u2, t2, rfl, ⟨dx, ha⟩, ⟨dy, hb⟩, it, k1, k0⟩ := h
    obtain ⟨p2, us, rfl, hp2⟩ := it.hd
    refine ⟨_, (pss_cons (ps_if (pt_cmpR op_notInT (pe_ix ix_tup (pe_fld (pv 1) rfl) pe_int (fun _ _ => rfl)) (pe_tup (pa_cons pe_str (pa_cons pe_str pa_nil))) (by rfl))
  (pss_one (L2N.ps_raise rfl (L2N.takes_of rfl rfl rfl rfl) (pmk_xN T.X_BadKey (ok_BadKey T) (hr.mono (by omega)) rfl (pa_cons (pv 1) pa_nil))))
  pss_nil)
  (pss_one (ps_ret (pe_mk2 (ok_Letter T) (hr.mono (by omega)) (by rfl) passN (pa_cons pe_str (pa_cons (pe_tup (pa_cons pe_str (pa_cons (pe_fld (pv 0) rfl) (pa_cons (pe_fld (pv 1) rfl) pa_nil)))) pa_nil)))))), ?_⟩
    refine ⟨_, rfl, b, _, dy, _, _, rfl, hb, T.k_Letter, T.n_Letter_tree, look1 _, p2, _, _, _, rfl, rfl, SqT.of hp2, at_of (j := 0) rfl rfl, (by show 2 ≤ sizeLine; decide), fun q hq => ?_⟩
    have sq := Rd.Same.upd (o := .tup [.str "open", .str "own"]) hq
    refine ⟨_, q, ["open", "own"], rfl, rfl, SqT.of upd_same, _, rfl, ?_⟩
    show if (!isKey t2) = true then _ else _
    cases hk : isKey t2 with
    | false =>
      refine iteT ?_
      exact ⟨_, rfl, rd_raise1 T.X_BadKey.oex T.X_BadKey.no fun d H' s' nd hd => k0 hk d H' (sq.trans s') hd⟩
    | true =>
      refine iteF ?_
      refine ⟨_, rfl, a, _, dx, _, _, rfl, sq _ _ ha, T.k_Letter, T.n_Letter_tree, look1 _, _, rfl, b, _, dy, _, _, rfl, sq _ _ hb, T.k_Letter, T.n_Letter_tree, look1 _, (by show 3 ≤ sizeLine; decide), fun q2 hq2 => ?_⟩
      exact rd_mkL upd_same fun x H' s' hx => k1 hk x q2 H' ((sq.trans (Rd.Same.upd hq2)).trans s') hx (s' _ _ upd_same)
end
end Rd
namespace Rd
open PySem L2
theorem SqT.kept {K : PySem.W.Frag} {H H' : Hp} {a : Addr} {xs : List V} (h : SqT K H a xs) (s : Same H H') : SqT K H' a xs := by
  rcases h with (h | ⟨n, h⟩) | h
  · exact .inl (.inl (s _ _ h))
  · exact .inl (.inr ⟨n, s _ _ h⟩)
  · exact .inr h
theorem iteN {c A B : Prop} [Decidable c] (h : ¬ c) (b : B) : if c then A else B := ite2 (fun q => absurd q h) fun _ => b
theorem iteP {c A B : Prop} [Decidable c] (h : c) (a : A) : if c then A else B := ite2 (fun _ => a) fun q => absurd h q
def Tr.parts : Tr → List Tr
  | .am _ _ => []
  | .un _ a => [a]
  | .bi _ a b => [a, b]
theorem mem_to {l m : List Str} {z : Str} (h : l.all (fun y => decide (y ∈ m)) = true) (hz : z ∈ l) : z ∈ m := of_decide_eq_true (List.all_eq_true.mp h z hz)
theorem Wf.sign {t : Tr} (h : Wf t) (hn : t.parts ≠ []) : t.head ∈ (["mark", "open", "own", "pair", "seal", "lock"] : List Str) ∧ (∀ u ∈ t.parts, Wf u ∧ u.dep + 1 ≤ t.dep) := by
  cases h with
  | am => exact absurd rfl hn
  | @un s a hs w =>
    refine ⟨mem_to (by decide +kernel) hs, fun u hu => ?_⟩
    rw [List.mem_singleton.mp hu]
    exact ⟨w, Nat.le_refl _⟩
  | @bi s a b hs wa wb =>
    refine ⟨mem_to (by decide +kernel) hs, fun u hu => ?_⟩
    have e : (Tr.bi s a b).dep = max a.dep b.dep + 1 := rfl
    rcases List.mem_cons.mp hu with rfl | hu
    · exact ⟨wa, by omega⟩
    · rw [List.mem_singleton.mp hu]
      exact ⟨wb, by omega⟩
  | @lk s a b hs wa wb =>
    have hs' : s ∈ (["mark", "open", "own"] : List Str) := List.mem_cons_of_mem _ hs
    refine ⟨mem_to (l := ["lock"]) (by decide +kernel) List.mem_cons_self, fun u hu => ?_⟩
    have e : (Tr.bi "lock" a (.un s b)).dep = max a.dep (Tr.un s b).dep + 1 := rfl
    rcases List.mem_cons.mp hu with rfl | hu
    · exact ⟨wa, by omega⟩
    · rw [List.mem_singleton.mp hu]
      exact ⟨.un hs' wb, by omega⟩
theorem IsT.parts {H : Hp} {t : Tr} {v : V} (h : IsT H t v) (hn : t.parts ≠ []) : ∃ p us, v = .ref p ∧ H p = some (.tup (.str t.head :: us)) ∧ us.length = t.parts.length ∧ us.length ≤ 2 ∧ us ≠ [] ∧ ∀ (i : Nat) u, us[i]? = some u → ∃ r, t.parts[i]? = some r ∧ IsT H r u := by
  cases t with
  | am k x => exact absurd rfl hn
  | un s a =>
    obtain ⟨p, u, e, h, h1⟩ := h
    refine ⟨p, [u], e, h, rfl, (by show 1 ≤ 2; decide), (fun e => by cases e), fun i v hv => ?_⟩
    cases i with
    | zero => cases hv; exact ⟨a, rfl, h1⟩
    | succ i => cases i <;> cases hv
  | bi s a b =>
    obtain ⟨p, u, u2, e, h, h1, h2⟩ := h
    refine ⟨p, [u, u2], e, h, rfl, Nat.le_refl _, (fun e => by cases e), fun i v hv => ?_⟩
    cases i with
    | zero => cases hv; exact ⟨a, rfl, h1⟩
    | succ i =>
      cases i with
      | zero => cases hv; exact ⟨b, rfl, h2⟩
      | succ i => cases i <;> cases hv
theorem cut1 {x : V} {us : List V} : cutV (x :: us) (some 1) none = us := by
  unfold cutV
  have e : HT.sIx (x :: us).length 0 (some 1) = 1 := by
    rw [show (1 : Int) = ((1 : Nat) : Int) from rfl, HT.sIx_nat, List.length_cons]
    omega
  have e2 : HT.sIx (x :: us).length (x :: us).length none = us.length + 1 := rfl
  rw [e, e2]
  show us.take (us.length + 1 - 1) = us
  rw [Nat.add_sub_cancel, List.take_length]
/-- [e for x in a tuple], each item's value by R -/
theorem lct {K : PySem.W.Frag} {C a D : Addr} {xs : List V} {te : TE} {i0 : Nat} {σ : St} {H1 : Hp} {Qd : Hp → Prop} (R : Nat → Hp → V → Prop) (rm : ∀ i H H' v, Kp C H H' → R i H v → R i H' v) (hS : SqT K H1 a xs) (hl : xs.length ≤ 8000000) (hD : H1 D = none)
    (hte : ∀ (i : Nat) (x : V) (H : Hp) (Q : VK), xs[i]? = some x → Same H1 H → (∀ v H', Same H H' → R i H' v → Q v H') → te ((wipe σ [i0]).set i0 (some x)) H Q)
    (hq : ∀ vs H', Same H1 H' → H' D = some (.lst vs) → vs.length = xs.length → (∀ (i : Nat) v, vs[i]? = some v → R i H' v) → Qd H') :
    ∃ W : Nat → Nat → Hp → Prop, (∃ m, W 0 m (L2.upd H1 D (.lst []))) ∧ ∀ i m H, W i m H →
      ((Itt K a).stop i H ∧ Qd H) ∨ ((Itt K a).go i H ∧ ∃ Nx : Hp → Prop, (∀ H', Nx H' → ∃ m', m' < m ∧ W (i + 1) m' H') ∧ ∀ x H', (Itt K a).yld i H x H' → gName i0 x (wipe σ [i0]) H' fun σ2 H2 => wipe σ2 [i0] = wipe σ [i0] ∧ tYes σ2 H2 fun b H3 =>
        if b = true then te σ2 H3 fun y H4 => ∃ acc, H4 D = some (.lst acc) ∧ acc.length < sizeLine ∧ Nx (L2.upd H4 D (.lst (acc ++ [y]))) else Nx H3) := by
  refine lc_tup (K := K) (a := a) (xs := xs) (fun i H => ∃ vs, Same H1 H ∧ H D = some (.lst vs) ∧ vs.length = i ∧ (∀ (j : Nat) v, vs[j]? = some v → R j H v)) ?_ ?_ ?_ ?_
  · exact ⟨[], Rd.Same.upd hD, upd_same, rfl, fun j v h => by simp at h⟩
  · rintro i H hi ⟨vs, s, _⟩
    exact SqT.kept hS s
  · rintro i x H hx ⟨vs, s, hDv, hlv, hg⟩
    refine ⟨by simp [wipe], hte i x H _ hx s fun v H' s' hv => ⟨vs, s' _ _ hDv, ?_, ?_⟩⟩
    · have : 8000000 < sizeLine := by decide
      have := (List.getElem?_eq_some_iff.mp hx).1
      omega
    · have hDv' := s' _ _ hDv
      refine ⟨vs ++ [v], fun c o e => ?_, upd_same, by rw [List.length_append, hlv]; rfl, fun j v' hv' => ?_⟩
      · rw [upd_ne (ne_of_none e hD)]
        exact s' c o (s c o e)
      · have kp := Kp.upd_lst (C := C) (ys := vs ++ [v]) hDv'
        by_cases hj : j < vs.length
        · rw [List.getElem?_append_left hj] at hv'
          exact rm _ _ _ _ kp (rm _ _ _ _ (Kp.of_same s') (hg j v' hv'))
        · have e : j = vs.length := by
            have := (List.getElem?_eq_some_iff.mp hv').1
            rw [List.length_append, List.length_singleton] at this
            omega
          subst e
          rw [List.getElem?_append_right (Nat.le_refl _), Nat.sub_self] at hv'
          have e2 : v = v' := Option.some.inj hv'
          rw [← e2, hlv]
          exact rm _ _ _ _ kp hv
  · rintro H ⟨vs, s, hDv, hlv, hg⟩
    exact hq vs H s hDv hlv hg
theorem q_starts (x : Str) : Txt.startswith ("?" ++ x) "?" = true := by
  rw [starts_q, app_list]
  have e2 : ("?" : Str).cps.toList = [63] := by decide +kernel
  exact ⟨_, by rw [e2]; rfl⟩
theorem q_tail2 (x : Str) : tailS ("?" ++ x) = x := by
  refine str_ext ?_
  rw [tailS_list, app_list]
  have e2 : ("?" : Str).cps.toList = [63] := by decide +kernel
  rw [e2]
  rfl
theorem atomOf_word {x : Str} (h : isWord x = true) : atomOf x = some (("word" : Str), x) := by rw [atomOf, if_pos h]
theorem atomOf_name {x : Str} (h : isName x = true) : atomOf x = some (("name" : Str), x) := by rw [atomOf, if_neg (by rw [word_noname h]; decide), if_pos h]
theorem atomOf_unk {x : Str} (h : isUnk x = true) : atomOf ("?" ++ x) = some (("unknown" : Str), x) := by
  have hw : ¬ isWord ("?" ++ x) = true := fun q => by
    obtain ⟨_, h2⟩ := He.ba q
    obtain ⟨_, h4⟩ := He.ba h2
    have e2 : ("?" : Str).cps.toList = [63] := by decide +kernel
    have := List.all_eq_true.mp h4 63 (by rw [app_list, e2]; exact List.mem_cons_self)
    have e3 : inS SMALL 63 = false := by decide +kernel
    rw [e3] at this
    cases this
  rw [atomOf, if_neg hw, if_neg (fun q => isName_first q (q_starts x)), q_starts, q_tail2, h]
  rfl
/-- Letter(text) of an atom's text -/
theorem rd_mkA {K : PySem.W.Frag} {H1 : Hp} {z k y : Str} {Q : VK} {E : XK} (hz : z.length ≤ 200000) (ha : atomOf z = some (k, y)) (kk : ∀ x H', Same H1 H' → IsLet K H' (.am k y) (.ref x) → Q (.ref x) H') :
    ∀ x dx, H1 x = none → H1 dx = none → dx ≠ x → sp_Linit K (.ref x :: ([.str z] ++ [.non])) (upd (upd H1 dx (.own x)) x (.ins (He.ga K "Letter") dx [])) (fun v H2 => v = .non ∧ Q (.ref x) H2) E := fun x dx nx ndx ne => by
  refine ⟨x, dx, z, .non, rfl, upd_same, .inr ⟨rfl, hz, fun k' y' p H' b' es np hp hx => ⟨rfl, ?_⟩, fun d H' b' en _ _ => ?_⟩⟩
  · rw [ha] at es
    cases es
    refine kk x H' (fun b o e => b' b o (ne_of_none e nx) ?_) ⟨x, .ref p, rfl, ⟨dx, hx⟩, p, rfl, hp⟩
    rw [upd_ne (ne_of_none e nx), upd_ne (ne_of_none e ndx)]
    exact e
  · rw [ha] at en
    cases en
def sp_letter (K : PySem.W.Frag) (d : Nat) : Sp := fun vs H Q _ => ∃ (v : V) (t : Tr), vs = [v] ∧ IsT H t v ∧ Wf t ∧ t.dep ≤ d ∧ ∀ v' H', Same H H' → IsLet K H' t v' → Q v' H'
def spLR (K : PySem.W.Frag) : Nat → Sp
  | 0 => fun _ _ _ _ => False
  | d + 1 => sp_letter K d
section
variable {P : Program} {w : World} {K : PySem.W.Frag} {mg : Str → Option Value} {base : Heap}
abbrev s__law_letter : Stmt := top 37
theorem sc__law_letter : FnScope ["_law_form_here", "_law_inner", "_law_part"] ["_law_form_here"] (defScope s__law_letter) := ⟨rfl, rfl, rfl, by decide +kernel, rfl, by decide +kernel, by decide +kernel⟩
theorem letter_step (T : Tx w K mg) (d : Nat) (ih : Fk P w K mg base CX0 (d + 7) "_law_letter" ["_law_form_here"] (spLR K d)) : Fk P w K mg base CX0 (d + 8) "_law_letter" ["_law_form_here"] (sp_letter K d) := by
  refine T.F__law_letter.ok0 sc__law_letter (fun _ _ _ _ _ _ us hl => match us, hl with | [_], _ => rfl)
    (fun vs H Q E h => ?_) (fun cdv A outer s H vs Q E hr h => ?_)
  · obtain ⟨v, t, rfl, _⟩ := h
    rfl
  · obtain ⟨v, t, rfl, it, wf, dp, k⟩ := h
    skip
    refine ⟨_, (pss_cons (ps_if (pt_cmpR op_eq (pe_ix ix_tup (pv 0) pe_int (fun _ _ => rfl)) pe_str (nomark _))
  (pss_one (ps_ret (pe_mk1 (ok_Letter T) (hr.mono (by omega)) (by rfl) passN (pa_cons (pe_op op_add_str pe_str (pe_ix ix_tup (pv 0) pe_int (fun _ _ => rfl))) pa_nil))))
  pss_nil)
  (pss_cons (ps_if (pt_cmpR op_inT (pe_ix ix_tup (pv 0) pe_int (fun _ _ => rfl)) (pe_tup (pa_cons pe_str (pa_cons pe_str pa_nil))) (by rfl))
  (pss_one (ps_ret (pe_mk1 (ok_Letter T) (hr.mono (by omega)) (by rfl) passN (pa_cons (pe_ix ix_tup (pv 0) pe_int (fun _ _ => rfl)) pa_nil))))
  pss_nil)
  (pss_cons (ps_setLc (i := 1) (own := [("_law_part", 2)]) (g := gName 2) (tt := tYes) (by rfl) sc__law_letter.nd rfl rfl (sw_true rfl rfl rfl (by decide +kernel)) (pi_tup (pe_slice sl_tup (pv 0) (po_some pe_int) po_none)) (blkOk_by (own := [("_law_part", 2)]) (N := ["_law_form_here", "_law_inner", "_law_part"]) (sc := defScope s__law_letter) (by decide +kernel)) (fun _ _ _ _ _ => (pg_name (i := 2) sc__law_letter.nd rfl (Or.inl rfl))) (fun _ _ _ _ _ => pts_nil) (fun _ _ _ _ _ => (pe_fk ih (hr.mono (by omega)) rfl pass0 (pa_cons (pv 2) pa_nil))))
  (pss_cons (ps_if (pt_cmpR op_eq (pe_ix ix_tup (pv 0) pe_int (fun _ _ => rfl)) pe_str (nomark _))
  (pss_one (ps_ret (pe_bo (pe_ix ix_list (pv 1) pe_int (fun _ _ => rfl)) (pe_ix ix_list (pv 1) pe_int (fun _ _ => rfl)) T.f_Letter (ok_Ladd T) (hr.mono (by omega)) (fun _ => at0))))
  pss_nil)
  (pss_cons (ps_if (pt_cmpR op_eq (pe_ix ix_tup (pv 0) pe_int (fun _ _ => rfl)) pe_str (nomark _))
  (pss_one (ps_ret (pe_bo (pe_ix ix_list (pv 1) pe_int (fun _ _ => rfl)) (pe_ix ix_list (pv 1) pe_int (fun _ _ => rfl)) T.f_Letter (ok_Lmul T) (hr.mono (by omega)) (fun _ => at0))))
  pss_nil)
  (pss_cons (ps_if (pt_cmpR op_eq (pe_ix ix_tup (pv 0) pe_int (fun _ _ => rfl)) pe_str (nomark _))
  (pss_one (ps_ret (pe_bo (pe_ix ix_list (pv 1) pe_int (fun _ _ => rfl)) (pe_ix ix_list (pv 1) pe_int (fun _ _ => rfl)) T.f_Letter (ok_Lxor T) (hr.mono (by omega)) (fun _ => atN))))
  pss_nil)
  (pss_cons (ps_if (pt_cmpR op_eq (pe_ix ix_tup (pv 0) pe_int (fun _ _ => rfl)) pe_str (nomark _))
  (pss_one (ps_ret (pe_uo (pe_ix ix_list (pv 1) pe_int (fun _ _ => rfl)) (ok_Linvert T) (hr.mono (by omega)) (fun _ => at0) (.inl ⟨rfl, rfl⟩))))
  pss_nil)
  (pss_one (ps_ret (pe_ifExp (pt_cmpR op_eq (pe_ix ix_tup (pv 0) pe_int (fun _ _ => rfl)) pe_str (nomark _)) (pe_uo (pe_ix ix_list (pv 1) pe_int (fun _ _ => rfl)) (ok_Lpos T) (hr.mono (by omega)) (fun _ => at0) (.inr (.inl ⟨rfl, rfl⟩))) (pe_uo (pe_ix ix_list (pv 1) pe_int (fun _ _ => rfl)) (ok_Lneg T) (hr.mono (by omega)) (fun _ => at0) (.inr (.inr ⟨rfl, rfl⟩))))))))))))), ?_⟩
    by_cases hpt : t.parts ≠ []
    · obtain ⟨hsg, hws⟩ := wf.sign hpt
      obtain ⟨p, us, rfl, hp, hlu, hl2, hne, hus⟩ := it.parts hpt
      have h3 : ¬ decide (t.head ∈ (["word", "name"] : List Str)) = true := by
        have : ∀ z ∈ (["mark", "open", "own", "pair", "seal", "lock"] : List Str), ¬ decide (z ∈ (["word", "name"] : List Str)) = true := by decide +kernel
        exact this _ hsg
      have h4 : ¬ decide (V.str t.head = V.str "unknown") = true := by
        have : ∀ z ∈ (["mark", "open", "own", "pair", "seal", "lock"] : List Str), ¬ decide (V.str z = V.str "unknown") = true := by decide +kernel
        exact this _ hsg
      refine ⟨_, rfl, p, _, _, _, rfl, rfl, SqT.of hp, at_of (j := 0) rfl rfl, rfl, _, rfl, iteN h4 ?_⟩
      refine ⟨_, rfl, p, _, _, _, rfl, rfl, SqT.of hp, at_of (j := 0) rfl rfl, (by show 2 ≤ sizeLine; decide), fun q hq => ?_⟩
      have sq := Rd.Same.upd (o := .tup [.str "word", .str "name"]) hq
      refine ⟨_, q, ["word", "name"], rfl, rfl, SqT.of upd_same, _, rfl, iteN h3 ?_⟩
      refine ⟨_, rfl, _, rfl, p, _, rfl, SqT.of (sq _ _ hp), ?_, fun p2 hp2 => ?_⟩
      · rintro ⟨z, _⟩
        rw [show (1 : Int) = ((1 : Nat) : Int) from rfl, HT.sIx_nat, List.length_cons] at z
        omega
      rw [cut1]
      have sq2 := sq.trans (Rd.Same.upd (o := .tup us) hp2)
      refine ⟨p2, rfl, ⟨_, SqT.of upd_same⟩, fun D hD => ?_⟩
      refine lct (C := He.ga K "Letter") (fun i H v => ∃ r, t.parts[i]? = some r ∧ IsLet K H r v) (fun i H H' v kp ⟨r, h1, h2⟩ => ⟨r, h1, h2.mono kp⟩) (SqT.of upd_same) (by omega) hD (fun i x H1 Q1 hx s1 k1 => ?_) fun vs H1 s1 hD1 hlv hvs => ?_
      · obtain ⟨r, hr1, hr2⟩ := hus i x hx
        obtain ⟨w1, w2⟩ := hws r (List.mem_of_getElem? hr1)
        cases d with
        | zero => exact absurd dp (by omega)
        | succ d =>
          exact ⟨_, rfl, x, r, rfl, hr2.same (sq2.trans s1), w1, (by omega), fun v' H' s' h' => k1 v' H' s' ⟨r, hr1, h'⟩⟩
      · have s2 := sq2.trans s1
        have hp1 := s2 _ _ hp
        refine gName_k ?_
        try dsimp only
        cases wf with
        | am => exact absurd rfl hpt
        | @un s0 a0 hs wf0 =>
          obtain ⟨v1, rfl⟩ : ∃ v1, vs = [v1] := by
            match vs, hlv.trans hlu with
            | [v1], _ => exact ⟨v1, rfl⟩
          obtain ⟨r, hr1, x1, u1, rfl, ⟨dx1, hx1⟩, hT1⟩ := hvs 0 v1 rfl
          cases hr1
          rcases List.mem_cons.mp hs with rfl | hs
          · have hp1 : H1 p = some (.tup (.str "mark" :: us)) := hp1
            refine ⟨_, rfl, p, _, _, _, rfl, rfl, SqT.of hp1, at_of (j := 0) rfl rfl, rfl, _, rfl, iteN (by decide +kernel) ?_⟩
            refine ⟨_, rfl, p, _, _, _, rfl, rfl, SqT.of hp1, at_of (j := 0) rfl rfl, rfl, _, rfl, iteN (by decide +kernel) ?_⟩
            refine ⟨_, rfl, p, _, _, _, rfl, rfl, SqT.of hp1, at_of (j := 0) rfl rfl, rfl, _, rfl, iteN (by decide +kernel) ?_⟩
            refine ⟨_, rfl, p, _, _, _, rfl, rfl, SqT.of hp1, at_of (j := 0) rfl rfl, rfl, _, rfl, iteP (by decide +kernel) ?_⟩
            refine ⟨_, rfl, D, _, _, _, rfl, rfl, SqL.of hD1, at_of (j := 0) rfl rfl, x1, dx1, _, rfl, hx1, x1, u1, rfl, ⟨dx1, hx1⟩, fun x q H' s' hl hq' => ?_⟩
            exact k _ H' (s2.trans s') ⟨x, _, rfl, hl, q, u1, rfl, hq', hT1.same s'⟩
          rcases List.mem_cons.mp hs with rfl | hs
          · have hp1 : H1 p = some (.tup (.str "open" :: us)) := hp1
            refine ⟨_, rfl, p, _, _, _, rfl, rfl, SqT.of hp1, at_of (j := 0) rfl rfl, rfl, _, rfl, iteN (by decide +kernel) ?_⟩
            refine ⟨_, rfl, p, _, _, _, rfl, rfl, SqT.of hp1, at_of (j := 0) rfl rfl, rfl, _, rfl, iteN (by decide +kernel) ?_⟩
            refine ⟨_, rfl, p, _, _, _, rfl, rfl, SqT.of hp1, at_of (j := 0) rfl rfl, rfl, _, rfl, iteN (by decide +kernel) ?_⟩
            refine ⟨_, rfl, p, _, _, _, rfl, rfl, SqT.of hp1, at_of (j := 0) rfl rfl, rfl, _, rfl, iteN (by decide +kernel) ?_⟩
            refine ⟨_, rfl, p, _, _, _, rfl, rfl, SqT.of hp1, at_of (j := 0) rfl rfl, rfl, _, rfl, iteP (by decide +kernel) ?_⟩
            refine ⟨_, rfl, D, _, _, _, rfl, rfl, SqL.of hD1, at_of (j := 0) rfl rfl, x1, dx1, _, rfl, hx1, x1, u1, rfl, ⟨dx1, hx1⟩, fun x q H' s' hl hq' => ?_⟩
            exact k _ H' (s2.trans s') ⟨x, _, rfl, hl, q, u1, rfl, hq', hT1.same s'⟩
          cases List.mem_singleton.mp hs
          have hp1 : H1 p = some (.tup (.str "own" :: us)) := hp1
          refine ⟨_, rfl, p, _, _, _, rfl, rfl, SqT.of hp1, at_of (j := 0) rfl rfl, rfl, _, rfl, iteN (by decide +kernel) ?_⟩
          refine ⟨_, rfl, p, _, _, _, rfl, rfl, SqT.of hp1, at_of (j := 0) rfl rfl, rfl, _, rfl, iteN (by decide +kernel) ?_⟩
          refine ⟨_, rfl, p, _, _, _, rfl, rfl, SqT.of hp1, at_of (j := 0) rfl rfl, rfl, _, rfl, iteN (by decide +kernel) ?_⟩
          refine ⟨_, rfl, p, _, _, _, rfl, rfl, SqT.of hp1, at_of (j := 0) rfl rfl, rfl, _, rfl, iteN (by decide +kernel) ?_⟩
          refine ⟨_, rfl, p, _, _, _, rfl, rfl, SqT.of hp1, at_of (j := 0) rfl rfl, rfl, _, rfl, iteN (by decide +kernel) ?_⟩
          refine ⟨_, rfl, D, _, _, _, rfl, rfl, SqL.of hD1, at_of (j := 0) rfl rfl, x1, dx1, _, rfl, hx1, x1, u1, rfl, ⟨dx1, hx1⟩, fun x q H' s' hl hq' => ?_⟩
          exact k _ H' (s2.trans s') ⟨x, _, rfl, hl, q, u1, rfl, hq', hT1.same s'⟩
        | @bi s0 a0 b0 hs wfa wfb =>
          obtain ⟨v1, v2, rfl⟩ : ∃ v1 v2, vs = [v1, v2] := by
            match vs, hlv.trans hlu with
            | [v1, v2], _ => exact ⟨v1, v2, rfl⟩
          obtain ⟨r, hr1, x1, u1, rfl, ⟨dx1, hx1⟩, hT1⟩ := hvs 0 v1 rfl
          cases hr1
          obtain ⟨r, hr1, x2, u2, rfl, ⟨dx2, hx2⟩, hT2⟩ := hvs 1 v2 rfl
          cases hr1
          rcases List.mem_cons.mp hs with rfl | hs
          · have hp1 : H1 p = some (.tup (.str "pair" :: us)) := hp1
            refine ⟨_, rfl, p, _, _, _, rfl, rfl, SqT.of hp1, at_of (j := 0) rfl rfl, rfl, _, rfl, iteP (by decide +kernel) ?_⟩
            refine ⟨_, rfl, D, _, _, _, rfl, rfl, SqL.of hD1, at_of (j := 0) rfl rfl, _, rfl, D, _, _, _, rfl, rfl, SqL.of hD1, at_of (j := 1) rfl rfl, x1, x2, dx1, dx2, _, _, rfl, rfl, hx1, hx2, x1, x2, u1, u2, rfl, ⟨dx1, hx1⟩, ⟨dx2, hx2⟩, fun x q H' s' hl hq' => ?_⟩
            exact k _ H' (s2.trans s') ⟨x, _, rfl, hl, q, u1, u2, rfl, hq', hT1.same s', hT2.same s'⟩
          cases List.mem_singleton.mp hs
          have hp1 : H1 p = some (.tup (.str "seal" :: us)) := hp1
          refine ⟨_, rfl, p, _, _, _, rfl, rfl, SqT.of hp1, at_of (j := 0) rfl rfl, rfl, _, rfl, iteN (by decide +kernel) ?_⟩
          refine ⟨_, rfl, p, _, _, _, rfl, rfl, SqT.of hp1, at_of (j := 0) rfl rfl, rfl, _, rfl, iteP (by decide +kernel) ?_⟩
          refine ⟨_, rfl, D, _, _, _, rfl, rfl, SqL.of hD1, at_of (j := 0) rfl rfl, _, rfl, D, _, _, _, rfl, rfl, SqL.of hD1, at_of (j := 1) rfl rfl, x1, x2, dx1, dx2, _, _, rfl, rfl, hx1, hx2, x1, x2, u1, u2, rfl, ⟨dx1, hx1⟩, ⟨dx2, hx2⟩, fun x q H' s' hl hq' => ?_⟩
          exact k _ H' (s2.trans s') ⟨x, _, rfl, hl, q, u1, u2, rfl, hq', hT1.same s', hT2.same s'⟩
        | @lk s0 a0 b0 hs wfa wfb =>
          obtain ⟨v1, v2, rfl⟩ : ∃ v1 v2, vs = [v1, v2] := by
            match vs, hlv.trans hlu with
            | [v1, v2], _ => exact ⟨v1, v2, rfl⟩
          obtain ⟨r, hr1, x1, u1, rfl, ⟨dx1, hx1⟩, hT1⟩ := hvs 0 v1 rfl
          cases hr1
          obtain ⟨r, hr1, x2, u2, rfl, ⟨dx2, hx2⟩, hT2⟩ := hvs 1 v2 rfl
          cases hr1
          have hp1 : H1 p = some (.tup (.str "lock" :: us)) := hp1
          refine ⟨_, rfl, p, _, _, _, rfl, rfl, SqT.of hp1, at_of (j := 0) rfl rfl, rfl, _, rfl, iteN (by decide +kernel) ?_⟩
          refine ⟨_, rfl, p, _, _, _, rfl, rfl, SqT.of hp1, at_of (j := 0) rfl rfl, rfl, _, rfl, iteN (by decide +kernel) ?_⟩
          refine ⟨_, rfl, p, _, _, _, rfl, rfl, SqT.of hp1, at_of (j := 0) rfl rfl, rfl, _, rfl, iteP (by decide +kernel) ?_⟩
          refine ⟨_, rfl, D, _, _, _, rfl, rfl, SqL.of hD1, at_of (j := 0) rfl rfl, _, rfl, D, _, _, _, rfl, rfl, SqL.of hD1, at_of (j := 1) rfl rfl, x1, x2, dx1, dx2, _, _, rfl, rfl, hx1, hx2, x1, x2, u1, u2, _, rfl, ⟨dx1, hx1⟩, ⟨dx2, hx2⟩, hT2, fun _ x q H' s' hl hq' => ?_, fun hk => ?_⟩
          · exact k _ H' (s2.trans s') ⟨x, _, rfl, hl, q, u1, u2, rfl, hq', hT1.same s', hT2.same s'⟩
          · exact absurd (decide_eq_true hs) (by rw [isKey] at hk; rw [show decide (s0 ∈ (["open", "own"] : List Str)) = false from hk]; decide)
    cases wf with
    | @am k0 x0 ko =>
      obtain ⟨p, rfl, hp⟩ := it
      refine ⟨_, rfl, p, _, _, _, rfl, rfl, SqT.of hp, at_of (j := 0) rfl rfl, rfl, _, rfl, ?_⟩
      rcases ko with ⟨rfl, hx⟩ | ⟨rfl, hx⟩ | ⟨rfl, hx⟩
      · refine ite2 (fun h => absurd h (by decide +kernel)) (fun _ => ?_)
        refine ⟨_, rfl, p, _, _, _, rfl, rfl, SqT.of hp, at_of (j := 0) rfl rfl, (by show 2 ≤ sizeLine; decide), fun q hq => ?_⟩
        have sq := Rd.Same.upd (o := .tup [.str "word", .str "name"]) hq
        refine ⟨_, q, ["word", "name"], rfl, rfl, SqT.of upd_same, _, rfl, ite2 (fun _ => ?_) (fun h => absurd (by decide +kernel) h)⟩
        refine ⟨_, rfl, p, _, _, _, rfl, rfl, SqT.of (sq _ _ hp), at_of (j := 1) rfl rfl, ?_⟩
        exact rd_mkA (k := "word") (by have := (word_len hx); omega) (atomOf_word hx) fun x H' s' h' => k _ H' (sq.trans s') h'
      · refine ite2 (fun h => absurd h (by decide +kernel)) (fun _ => ?_)
        refine ⟨_, rfl, p, _, _, _, rfl, rfl, SqT.of hp, at_of (j := 0) rfl rfl, (by show 2 ≤ sizeLine; decide), fun q hq => ?_⟩
        have sq := Rd.Same.upd (o := .tup [.str "word", .str "name"]) hq
        refine ⟨_, q, ["word", "name"], rfl, rfl, SqT.of upd_same, _, rfl, ite2 (fun _ => ?_) (fun h => absurd (by decide +kernel) h)⟩
        refine ⟨_, rfl, p, _, _, _, rfl, rfl, SqT.of (sq _ _ hp), at_of (j := 1) rfl rfl, ?_⟩
        exact rd_mkA (k := "name") (by have := (name_len hx); omega) (atomOf_name hx) fun x H' s' h' => k _ H' (sq.trans s') h'
      · refine ite2 (fun _ => ?_) (fun h => absurd (by decide +kernel) h)
        have hl := unk_len hx
        have h1 : (("?" : Str) ++ x0).length ≤ 200000 := by
          have e : ("?" : Str).cps.toList.length = 1 := by decide +kernel
          have e2 := len_list x0
          rw [len_list, app_list, List.length_append]
          omega
        have h2 : ("?" : Str).length + x0.length ≤ sizeLine := by
          have e : ("?" : Str).length = 1 := by decide +kernel
          have : 200000 ≤ sizeLine := by decide
          omega
        refine ⟨_, rfl, p, _, _, _, rfl, rfl, SqT.of hp, at_of (j := 1) rfl rfl, _, _, rfl, rfl, h2, ?_⟩
        exact rd_mkA (k := "unknown") h1 (atomOf_unk hx) fun x H' s' h' => k _ H' s' h'
    | _ => exact absurd (fun e => by cases e) hpt
theorem letter_none (T : Tx w K mg) : Fk P w K mg base CX0 1 "_law_letter" ["_law_form_here"] (spLR K 0) := by
  refine T.F__law_letter.ok0 sc__law_letter (fun _ _ _ _ _ _ us hl => match us, hl with | [_], _ => rfl) (fun vs H Q E h => h.elim) (fun cdv A outer s H vs Q E hr h => h.elim)
theorem ok__law_letter (T : Tx w K mg) : ∀ d : Nat, Fk P w K mg base CX0 (d + 8) "_law_letter" ["_law_form_here"] (sp_letter K d)
  | 0 => letter_step T 0 ((letter_none T).mono (by decide))
  | d + 1 => letter_step T (d + 1) (ok__law_letter T d)
end
end Rd
namespace Rd
open PySem L2
def dat : Tr → PyData
  | .am k x => .tuple [.str k, .str x]
  | .un s a => .tuple [.str s, dat a]
  | .bi s a b => .tuple [.str s, dat a, dat b]
theorem IsT.dp {K : PySem.W.Frag} {H : Hp} : ∀ {t : Tr} {v : V}, IsT H t v → Dp K H v (dat t)
  | .am _ _, _, ⟨p, e, h⟩ => by subst e; exact .tup (SqT.of h) (.cons (.str _) (.cons (.str _) .nil))
  | .un _ _, _, ⟨p, u, e, h, h1⟩ => by subst e; exact .tup (SqT.of h) (.cons (.str _) (.cons (IsT.dp h1) .nil))
  | .bi _ _ _, _, ⟨p, u1, u2, e, h, h1, h2⟩ => by subst e; exact .tup (SqT.of h) (.cons (.str _) (.cons (IsT.dp h1) (.cons (IsT.dp h2) .nil)))
def Tr.fine : Tr → Prop
  | .am k x => okS k ∧ okS x
  | .un s a => okS s ∧ a.fine
  | .bi s a b => okS s ∧ a.fine ∧ b.fine
theorem okS_of {l : List Str} {z : Str} (h : l.all (fun y => y.cps.toList.all (fun c => decide (c < 1114112))) = true) (hz : z ∈ l) : okS z := by
  exact okS_by (List.all_eq_true.mp h z hz)
theorem dat_lay : ∀ {t : Tr}, t.fine → (dat t).canLay0 = true
  | .am k x, ⟨h1, h2⟩ => by
    show (PySem.PyData.strOk k && (PySem.PyData.strOk x && true)) = true
    rw [strOk_of h1, strOk_of h2]
    rfl
  | .un s a, ⟨h1, h2⟩ => by
    show (PySem.PyData.strOk s && ((dat a).canLay0 && true)) = true
    rw [strOk_of h1, dat_lay h2]
    rfl
  | .bi s a b, ⟨h1, h2, h3⟩ => by
    show (PySem.PyData.strOk s && ((dat a).canLay0 && ((dat b).canLay0 && true))) = true
    rw [strOk_of h1, dat_lay h2, dat_lay h3]
    rfl
theorem dat_dep : ∀ {t : Tr}, (dat t).depth ≤ t.dep + 1
  | .am k x => by show max 0 (max 0 0) + 1 ≤ 0 + 1; decide
  | .un s a => by
    show max 0 (max (dat a).depth 0) + 1 ≤ a.dep + 1 + 1
    have := dat_dep (t := a)
    omega
  | .bi s a b => by
    show max 0 (max (dat a).depth (max (dat b).depth 0)) + 1 ≤ max a.dep b.dep + 1 + 1
    have := dat_dep (t := a)
    have := dat_dep (t := b)
    omega
theorem dat_shaped {t : Tr} (h : t.fine) (hd : t.dep ≤ 60) : SeqAt.shaped (dat t) = true := by
  have := dat_dep (t := t)
  show ((dat t).canLay0 && decide ((dat t).depth ≤ 64)) = true
  rw [dat_lay h, decide_eq_true (by omega)]
  rfl
theorem kindOk.fine {k x : Str} (h : kindOk k x) : okS k ∧ okS x := by
  rcases h with ⟨rfl, h⟩ | ⟨rfl, h⟩ | ⟨rfl, h⟩
  · exact ⟨okS_of (l := ["word"]) (by decide +kernel) List.mem_cons_self, (word_len h).2.2⟩
  · exact ⟨okS_of (l := ["name"]) (by decide +kernel) List.mem_cons_self, (name_len h).2⟩
  · exact ⟨okS_of (l := ["unknown"]) (by decide +kernel) List.mem_cons_self, (unk_len h).2.2⟩
theorem Wf.fine {t : Tr} (h : Wf t) : t.fine := by
  induction h with
  | am h => exact h.fine
  | un hs _ ih => exact ⟨okS_of (by decide +kernel) hs, ih⟩
  | bi hs _ _ ih1 ih2 => exact ⟨okS_of (by decide +kernel) hs, ih1, ih2⟩
  | lk hs _ _ ih1 ih2 => exact ⟨okS_of (l := ["lock"]) (by decide +kernel) List.mem_cons_self, ih1, okS_of (by decide +kernel) hs, ih2⟩
/-- a form drawn over a written list of unknowns -/
theorem rd_form {d n : Nat} {p : Addr} {H : Hp} {xs us : List V} {Q : VK} (hp : H p = some (.lst xs)) (hx : StL (n + dr d) xs) (hU : unkL us)
    (k : ∀ t v ys H', But p H H' → H' p = some (.lst ys) → StL n ys → Wf t → dpN d us t → IsT H' t v → Q v H') : us.length ≤ sizeLine ∧ ∀ q, H q = none → sp_drawnForm d [.ref p, .ref q, .int d] (upd H q (.lst us)) Q E0 := by
  refine ⟨?_, fun q hq => ?_⟩
  · have := hU.1
    have : 100 ≤ sizeLine := by decide
    omega
  · have nqp : q ≠ p := fun z => by rw [z, hp] at hq; cases hq
    exact ⟨p, q, xs, us, n, rfl, by rw [upd_ne (Ne.symm nqp)]; exact hp, hx, nqp, upd_same, hU, fun t v ys H' b h1 h2 h3 h4 h5 => k t v ys H' ((But.new hq).trans b) h1 h2 h3 h4 h5⟩
theorem unkOk {l : List Str} (h : l.all isUnk = true) (hl : l.length ≤ 100) : unkL (l.map V.str) := by
  refine ⟨by rw [List.length_map]; exact hl, fun v hv => ?_⟩
  obtain ⟨z, hz, rfl⟩ := List.mem_map.mp hv
  exact ⟨z, rfl, List.all_eq_true.mp h z hz⟩
theorem seqJoin {s1 rest : TS} {D : Ends} {σ : St} {H : Hp} (R : St → Hp → Prop) (h : ∀ K : St → Hp → Prop, (∀ σ' H', R σ' H' → K σ' H') → s1 { D with nx := K } σ H) (hR : ∀ σ' H', R σ' H' → rest D σ' H') : tSeq s1 rest D σ H := h _ hR
theorem But.fresh {p : Addr} {H0 H H' : Hp} (s : Same H0 H) (n : H0 p = none) (b : But p H H') : Same H0 H' := fun c o e => b c o (ne_of_none e n) (s c o e)
theorem SqL.kept {K : PySem.W.Frag} {H H' : Hp} {a : Addr} {xs : List V} (h : SqL K H a xs) (s : Same H H') : SqL K H' a xs := by
  rcases h with (h | ⟨n, h⟩) | h
  · exact .inl (.inl (s _ _ h))
  · exact .inl (.inr ⟨n, s _ _ h⟩)
  · exact .inr h
end Rd
namespace Rd
open PySem L2
theorem Wf.parts_wf {t : Tr} (h : Wf t) : ∀ u ∈ t.parts, Wf u := by
  by_cases hp : t.parts ≠ []
  · exact fun u hu => ((h.sign hp).2 u hu).1
  · intro u hu
    cases t with
    | am => cases hu
    | un => exact absurd (fun e => by cases e) hp
    | bi => exact absurd (fun e => by cases e) hp
def Tr.all : Tr → List Tr
  | .am k x => [.am k x]
  | .un s a => .un s a :: a.all
  | .bi s a b => .bi s a b :: (a.all ++ b.all)
theorem all_len : ∀ t : Tr, t.all.length + 1 ≤ 2 ^ (t.dep + 1)
  | .am k x => by show 1 + 1 ≤ 2 ^ 1; decide
  | .un s a => by
    have := all_len a
    show a.all.length + 1 + 1 ≤ 2 ^ (a.dep + 1 + 1)
    rw [Nat.pow_succ]
    have : 1 ≤ 2 ^ (a.dep + 1) := Nat.one_le_two_pow
    omega
  | .bi s a b => by
    have h1 := all_len a
    have h2 := all_len b
    show (a.all ++ b.all).length + 1 + 1 ≤ 2 ^ (max a.dep b.dep + 1 + 1)
    rw [List.length_append, Nat.pow_succ]
    have e1 : 2 ^ (a.dep + 1) ≤ 2 ^ (max a.dep b.dep + 1) := Nat.pow_le_pow_right (by decide) (by omega)
    have e2 : 2 ^ (b.dep + 1) ≤ 2 ^ (max a.dep b.dep + 1) := Nat.pow_le_pow_right (by decide) (by omega)
    omega
theorem all_parts (t : Tr) : t.all = t :: t.parts.flatMap Tr.all := by
  cases t with
  | am k x => rfl
  | un s a => show _ :: a.all = _ :: (a.all ++ []); rw [List.append_nil]
  | bi s a b => show _ :: (a.all ++ b.all) = _ :: (a.all ++ (b.all ++ [])); rw [List.append_nil]
theorem all_wf {t : Tr} (h : Wf t) : ∀ u ∈ t.all, Wf u ∧ u.dep ≤ t.dep := by
  induction t with
  | am k x => intro u hu; rw [List.mem_singleton.mp hu]; exact ⟨h, Nat.le_refl _⟩
  | un s a ih =>
    intro u hu
    rcases List.mem_cons.mp hu with rfl | hu
    · exact ⟨h, Nat.le_refl _⟩
    · have := ih (h.parts_wf a List.mem_cons_self) u hu
      exact ⟨this.1, by show _ ≤ a.dep + 1; omega⟩
  | bi s a b iha ihb =>
    intro u hu
    rcases List.mem_cons.mp hu with rfl | hu
    · exact ⟨h, Nat.le_refl _⟩
    · rcases List.mem_append.mp hu with hu | hu
      · have := iha (h.parts_wf a List.mem_cons_self) u hu
        exact ⟨this.1, by show _ ≤ max a.dep b.dep + 1; omega⟩
      · have := ihb (h.parts_wf b (List.mem_cons_of_mem _ List.mem_cons_self)) u hu
        exact ⟨this.1, by show _ ≤ max a.dep b.dep + 1; omega⟩
/-- values that are the forms ts, one behind another -/
structure TsAt (H : Hp) (ts : List Tr) (vs : List V) : Prop where
  len : vs.length = ts.length
  get : ∀ (i : Nat) t v, ts[i]? = some t → vs[i]? = some v → IsT H t v
theorem TsAt.mono {C : Addr} {H H' : Hp} {ts : List Tr} {vs : List V} (k : Kp C H H') (h : TsAt H ts vs) : TsAt H' ts vs := ⟨h.len, fun i t v h1 h2 => (h.get i t v h1 h2).mono k⟩
theorem TsAt.same {H H' : Hp} {ts : List Tr} {vs : List V} (s : Same H H') (h : TsAt H ts vs) : TsAt H' ts vs := h.mono (C := 0) (Kp.of_same s)
theorem TsAt.one {H : Hp} {t : Tr} {v : V} (h : IsT H t v) : TsAt H [t] [v] := ⟨rfl, fun i t' v' h1 h2 => by
  cases i with
  | zero => cases h1; cases h2; exact h
  | succ i => cases i <;> cases h1⟩
theorem TsAt.app {H : Hp} {ts us : List Tr} {vs ws : List V} (h : TsAt H ts vs) (g : TsAt H us ws) : TsAt H (ts ++ us) (vs ++ ws) := ⟨by rw [List.length_append, List.length_append, h.len, g.len], fun i t v h1 h2 => by
  by_cases hi : i < ts.length
  · rw [List.getElem?_append_left hi] at h1
    rw [List.getElem?_append_left (by rw [h.len]; exact hi)] at h2
    exact h.get i t v h1 h2
  · rw [List.getElem?_append_right (by omega)] at h1
    rw [List.getElem?_append_right (by rw [h.len]; omega), h.len] at h2
    exact g.get _ t v h1 h2⟩
theorem TsAt.at_ {H : Hp} {ts : List Tr} {vs : List V} (h : TsAt H ts vs) {i : Nat} {v : V} (hv : vs[i]? = some v) : ∃ t, ts[i]? = some t ∧ IsT H t v := by
  have hl := (List.getElem?_eq_some_iff.mp hv).1
  rw [h.len] at hl
  exact ⟨_, List.getElem?_eq_getElem hl, h.get i _ v (List.getElem?_eq_getElem hl) hv⟩
def sp_parts (d : Nat) : Sp := fun vs H Q _ => ∃ (v : V) (t : Tr), vs = [v] ∧ IsT H t v ∧ Wf t ∧ t.dep ≤ d ∧ d ≤ 60 ∧ t.all.length ≤ 8000000 ∧ ∀ p ws H', Same H H' → H p = none → H' p = some (.lst ws) → TsAt H' t.all ws → Q (.ref p) H'
def spPR : Nat → Sp
  | 0 => fun _ _ _ _ => False
  | d + 1 => sp_parts d
/-- the loop over a form's parts: p holds what is found, p2 the parts -/
structure PInv (H0 : Hp) (p p2 : Addr) (us : List V) (t : Tr) (i : Nat) (H : Hp) : Prop where
  same : Same H0 H
  free : H0 p = none
  tup : H p2 = some (.tup us)
  found : ∃ ws, H p = some (.lst ws) ∧ TsAt H (t :: (t.parts.take i).flatMap Tr.all) ws
theorem take_flat {l : List Tr} {i : Nat} {r : Tr} (h : l[i]? = some r) : (l.take (i + 1)).flatMap Tr.all = (l.take i).flatMap Tr.all ++ r.all := by
  rw [List.take_add_one, h, List.flatMap_append]
  simp
theorem flat_le {t : Tr} (i : Nat) : ((t.parts.take i).flatMap Tr.all).length + 1 ≤ t.all.length := by
  rw [all_parts t, List.length_cons]
  have e : t.parts.flatMap Tr.all = (t.parts.take i).flatMap Tr.all ++ (t.parts.drop i).flatMap Tr.all := by rw [← List.flatMap_append, List.take_append_drop]
  rw [e, List.length_append]
  omega
/-- [e for x in a list], each item's value by R -/
theorem lcl {K : PySem.W.Frag} {C a D : Addr} {xs : List V} {te : TE} {i0 : Nat} {σ : St} {H1 : Hp} {Qd : Hp → Prop} (R : Nat → Hp → V → Prop) (rm : ∀ i H H' v, Kp C H H' → R i H v → R i H' v) (hS : SqL K H1 a xs) (hl : xs.length ≤ 8000000) (hD : H1 D = none)
    (hte : ∀ (i : Nat) (x : V) (H : Hp) (Q : VK), xs[i]? = some x → Same H1 H → (∀ v H', Same H H' → R i H' v → Q v H') → te ((wipe σ [i0]).set i0 (some x)) H Q)
    (hq : ∀ vs H', Same H1 H' → H' D = some (.lst vs) → vs.length = xs.length → (∀ (i : Nat) v, vs[i]? = some v → R i H' v) → Qd H') :
    ∃ W : Nat → Nat → Hp → Prop, (∃ m, W 0 m (L2.upd H1 D (.lst []))) ∧ ∀ i m H, W i m H →
      ((Itl K a).stop i H ∧ Qd H) ∨ ((Itl K a).go i H ∧ ∃ Nx : Hp → Prop, (∀ H', Nx H' → ∃ m', m' < m ∧ W (i + 1) m' H') ∧ ∀ x H', (Itl K a).yld i H x H' → gName i0 x (wipe σ [i0]) H' fun σ2 H2 => wipe σ2 [i0] = wipe σ [i0] ∧ tYes σ2 H2 fun b H3 =>
        if b = true then te σ2 H3 fun y H4 => ∃ acc, H4 D = some (.lst acc) ∧ acc.length < sizeLine ∧ Nx (L2.upd H4 D (.lst (acc ++ [y]))) else Nx H3) := by
  refine lc_list (K := K) (a := a) (xs := xs) (fun i H => ∃ vs, Same H1 H ∧ H D = some (.lst vs) ∧ vs.length = i ∧ (∀ (j : Nat) v, vs[j]? = some v → R j H v)) ?_ ?_ ?_ ?_
  · exact ⟨[], Rd.Same.upd hD, upd_same, rfl, fun j v h => by simp at h⟩
  · rintro i H hi ⟨vs, s, _⟩
    exact SqL.kept hS s
  · rintro i x H hx ⟨vs, s, hDv, hlv, hg⟩
    refine ⟨by simp [wipe], hte i x H _ hx s fun v H' s' hv => ⟨vs, s' _ _ hDv, ?_, ?_⟩⟩
    · have : 8000000 < sizeLine := by decide
      have := (List.getElem?_eq_some_iff.mp hx).1
      omega
    · have hDv' := s' _ _ hDv
      refine ⟨vs ++ [v], fun c o e => ?_, upd_same, by rw [List.length_append, hlv]; rfl, fun j v' hv' => ?_⟩
      · rw [upd_ne (ne_of_none e hD)]
        exact s' c o (s c o e)
      · have kp := Kp.upd_lst (C := C) (ys := vs ++ [v]) hDv'
        by_cases hj : j < vs.length
        · rw [List.getElem?_append_left hj] at hv'
          exact rm _ _ _ _ kp (rm _ _ _ _ (Kp.of_same s') (hg j v' hv'))
        · have e : j = vs.length := by
            have := (List.getElem?_eq_some_iff.mp hv').1
            rw [List.length_append, List.length_singleton] at this
            omega
          subst e
          rw [List.getElem?_append_right (Nat.le_refl _), Nat.sub_self] at hv'
          have e2 : v = v' := Option.some.inj hv'
          rw [← e2, hlv]
          exact rm _ _ _ _ kp hv
  · rintro H ⟨vs, s, hDv, hlv, hg⟩
    exact hq vs H s hDv hlv hg
end Rd
namespace Rd
open PySem L2
theorem eqv_dat : ∀ t u : Tr, PyData.eqv (dat t) (dat u) = decide (t = u)
  | .am k x, .am k' x' => by
    show ((k == k') && ((x == x') && true)) = _
    by_cases h : k = k'
    · subst h
      by_cases h2 : x = x'
      · subst h2
        simp
      · simp [h2]
    · simp [h]
  | .am k x, .un s a => by
    have e : PyData.eqv (.str x) (dat a) = false := by cases a <;> rfl
    show ((k == s) && (PyData.eqv (.str x) (dat a) && true)) = _
    rw [e]
    simp
  | .am k x, .bi s a b => by
    show ((k == s) && (PyData.eqv (.str x) (dat a) && false)) = _
    simp
  | .un s a, .am k x => by
    have e : PyData.eqv (dat a) (.str x) = false := by cases a <;> rfl
    show ((s == k) && (PyData.eqv (dat a) (.str x) && true)) = _
    rw [e]
    simp
  | .un s a, .un s' a' => by
    show ((s == s') && (PyData.eqv (dat a) (dat a') && true)) = _
    rw [eqv_dat a a']
    by_cases h : s = s'
    · subst h
      by_cases h2 : a = a'
      · subst h2
        simp
      · simp [h2]
    · simp [h]
  | .un s a, .bi s' a' b' => by
    show ((s == s') && (PyData.eqv (dat a) (dat a') && false)) = _
    simp
  | .bi s a b, .am k x => by
    show ((s == k) && (PyData.eqv (dat a) (.str x) && false)) = _
    simp
  | .bi s a b, .un s' a' => by
    show ((s == s') && (PyData.eqv (dat a) (dat a') && false)) = _
    simp
  | .bi s a b, .bi s' a' b' => by
    show ((s == s') && (PyData.eqv (dat a) (dat a') && (PyData.eqv (dat b) (dat b') && true))) = _
    rw [eqv_dat a a', eqv_dat b b']
    by_cases h : s = s'
    · subst h
      by_cases h2 : a = a'
      · subst h2
        by_cases h3 : b = b'
        · subst h3
          simp
        · simp [h3]
      · simp [h2]
    · simp [h]
theorem dpAll_ts {K : PySem.W.Frag} {H : Hp} : ∀ {ts : List Tr} {vs : List V}, TsAt H ts vs → DpAll K H vs (ts.map dat)
  | [], [], _ => .nil
  | [], _ :: _, h => by cases h.len
  | _ :: _, [], h => by cases h.len
  | t :: ts, v :: vs, h => .cons (h.get 0 t v rfl rfl).dp (dpAll_ts (ts := ts) ⟨Nat.succ.inj h.len, fun i t' v' h1 h2 => h.get (i + 1) t' v' h1 h2⟩)
theorem layAll_ts : ∀ {ts : List Tr}, (∀ t ∈ ts, t.fine) → PyData.canLayAll0 (ts.map dat) = true
  | [], _ => rfl
  | t :: ts, h => by
    show ((dat t).canLay0 && PyData.canLayAll0 (ts.map dat)) = true
    rw [dat_lay (h t List.mem_cons_self), layAll_ts fun u hu => h u (List.mem_cons_of_mem _ hu)]
    rfl
theorem depAll_ts {n : Nat} : ∀ {ts : List Tr}, (∀ t ∈ ts, t.dep ≤ n) → PyData.depthAll (ts.map dat) ≤ n + 1
  | [], _ => Nat.zero_le _
  | t :: ts, h => by
    show max (dat t).depth (PyData.depthAll (ts.map dat)) ≤ n + 1
    have h1 := dat_dep (t := t)
    have h2 := h t List.mem_cons_self
    have h3 := depAll_ts (n := n) fun u hu => h u (List.mem_cons_of_mem _ hu)
    omega
theorem ts_shaped {ts : List Tr} (h : ∀ t ∈ ts, t.fine ∧ t.dep ≤ 60) : SeqAt.shaped (.list (ts.map dat)) = true := by
  have h1 := layAll_ts fun t ht => (h t ht).1
  have h2 := depAll_ts fun t ht => (h t ht).2
  show (PyData.canLayAll0 (ts.map dat) && decide (PyData.depthAll (ts.map dat) + 1 ≤ 64)) = true
  rw [h1, decide_eq_true (by omega)]
  rfl
end Rd
namespace Rd
open PySem L2
def fill (m : Str → Option Tr) : Tr → Tr
  | .am k x => if k = "unknown" then (m x).getD (.am k x) else .am k x
  | .un s a => .un s (fill m a)
  | .bi s a b => .bi s (fill m a) (fill m b)
/-- the dict at a holds the forms m -/
def DTr (H : Hp) (a : Addr) (m : Str → Option Tr) : Prop := ∃ kvs, L2.Rd H a (.dK kvs) ∧ (∀ x t, m x = some t → ∃ v, valV kvs (.inr x) = some v ∧ IsT H t v) ∧ ∀ x, m x = none → valV kvs (.inr x) = none
theorem DTr.same {H H' : Hp} {a : Addr} {m : Str → Option Tr} (s : Same H H') (h : DTr H a m) : DTr H' a m := by
  obtain ⟨kvs, h1, h2, h3⟩ := h
  refine ⟨kvs, ?_, fun x t e => ?_, h3⟩
  · rcases h1 with h | ⟨o, h⟩
    · exact .inl (s _ _ h)
    · exact .inr ⟨o, s _ _ h⟩
  · obtain ⟨v, e1, e2⟩ := h2 x t e
    exact ⟨v, e1, e2.same s⟩
theorem DTr.get {H : Hp} {a : Addr} {m : Str → Option Tr} {x : Str} (h : DTr H a m) : ∃ o, DGet H a (.str x) o ∧ (∀ t, m x = some t → ∃ v, o = some v ∧ IsT H t v) ∧ (m x = none → o = none) := by
  obtain ⟨kvs, h1, h2, h3⟩ := h
  exact ⟨valV kvs (.inr x), .inl ⟨kvs, .inr x, h1, rfl, rfl⟩, fun t e => h2 x t e, h3 x⟩
theorem DTr.isD {H : Hp} {a : Addr} {m : Str → Option Tr} (h : DTr H a m) : IsD H a := by
  obtain ⟨kvs, h1, _⟩ := h
  exact .inl ⟨kvs, h1⟩
theorem fill_tup {H : Hp} {m : Str → Option Tr} {t : Tr} {q : Addr} {vs : List V} (hpt : t.parts ≠ []) (hq : H q = some (.tup (.str t.head :: vs))) (hl : vs.length = t.parts.length) (hv : ∀ (i : Nat) v, vs[i]? = some v → ∃ r, t.parts[i]? = some r ∧ IsT H (fill m r) v) : IsT H (fill m t) (.ref q) := by
  cases t with
  | am => exact absurd rfl hpt
  | un s a =>
    match vs, hl with
    | [v1], _ =>
      obtain ⟨r, e, h⟩ := hv 0 v1 rfl
      cases (show some a = some r from e)
      exact ⟨q, v1, rfl, hq, h⟩
  | bi s a b =>
    match vs, hl with
    | [v1, v2], _ =>
      obtain ⟨r, e, h⟩ := hv 0 v1 rfl
      cases (show some a = some r from e)
      obtain ⟨r2, e2, h2⟩ := hv 1 v2 rfl
      cases (show some b = some r2 from e2)
      exact ⟨q, v1, v2, rfl, hq, h, h2⟩
def sp_fill (d : Nat) : Sp := fun vs H Q _ => ∃ (v : V) (a : Addr) (t : Tr) (m : Str → Option Tr), vs = [v, .ref a] ∧ IsT H t v ∧ Wf t ∧ t.dep ≤ d ∧ DTr H a m ∧ ∀ u H', Same H H' → IsT H' (fill m t) u → Q u H'
def spFR : Nat → Sp
  | 0 => fun _ _ _ _ => False
  | d + 1 => sp_fill d
def Al (R : Hp → Tr → V → Prop) (H : Hp) : List (Str × Tr) → List (Key × V) → Prop
  | [], [] => True
  | (x, t) :: l, (k, v) :: kvs => k = .inr x ∧ R H t v ∧ Al R H l kvs
  | _, _ => False
def look (l : List (Str × Tr)) (x : Str) : Option Tr := (l.find? fun p => decide (p.1 = x)).map (·.2)
theorem Al.len {R : Hp → Tr → V → Prop} {H : Hp} : ∀ {l : List (Str × Tr)} {kvs : List (Key × V)}, Al R H l kvs → kvs.length = l.length
  | [], [], _ => rfl
  | (x, t) :: l, (k, v) :: kvs, h => congrArg (· + 1) (Al.len h.2.2)
theorem Al.mono {R S : Hp → Tr → V → Prop} {H H' : Hp} (m : ∀ t v, R H t v → S H' t v) : ∀ {l : List (Str × Tr)} {kvs : List (Key × V)}, Al R H l kvs → Al S H' l kvs
  | [], [], _ => trivial
  | (x, t) :: l, (k, v) :: kvs, h => ⟨h.1, m _ _ h.2.1, Al.mono m h.2.2⟩
theorem Al.get {R : Hp → Tr → V → Prop} {H : Hp} : ∀ {l : List (Str × Tr)} {kvs : List (Key × V)} {i : Nat} {k : Key} {v : V}, Al R H l kvs → kvs[i]? = some (k, v) → ∃ x t, l[i]? = some (x, t) ∧ k = .inr x ∧ R H t v
  | (x, t) :: l, (k, v) :: kvs, 0, _, _, h, e => by
    cases e
    exact ⟨x, t, rfl, h.1, h.2.1⟩
  | (x, t) :: l, (k, v) :: kvs, i + 1, _, _, h, e => by
    obtain ⟨y, u, e1, e2, e3⟩ := Al.get (l := l) (kvs := kvs) (i := i) h.2.2 (by simpa using e)
    exact ⟨y, u, by simpa using e1, e2, e3⟩
  | [], [], _, _, _, _, e => by simp at e
theorem Al.snoc {R : Hp → Tr → V → Prop} {H : Hp} {x : Str} {t : Tr} {v : V} (r : R H t v) : ∀ {l : List (Str × Tr)} {kvs : List (Key × V)}, Al R H l kvs → Al R H (l ++ [(x, t)]) (kvs ++ [(.inr x, v)])
  | [], [], _ => ⟨rfl, r, trivial⟩
  | (y, u) :: l, (k, z) :: kvs, h => ⟨h.1, h.2.1, Al.snoc r h.2.2⟩
theorem Al.look {R : Hp → Tr → V → Prop} {H : Hp} {x : Str} : ∀ {l : List (Str × Tr)} {kvs : List (Key × V)}, Al R H l kvs → (∀ t, look l x = some t → ∃ v, valV kvs (.inr x) = some v ∧ R H t v) ∧ (look l x = none → valV kvs (.inr x) = none)
  | [], [], _ => ⟨fun t e => (by cases e), fun _ => rfl⟩
  | (y, u) :: l, (k, z) :: kvs, h => by
    obtain ⟨rfl, h2, h3⟩ := h
    by_cases e : y = x
    · subst e
      refine ⟨fun t e => ?_, fun e => ?_⟩
      · rw [show Rd.look ((y, u) :: l) y = some u by simp [Rd.look]] at e
        cases e
        exact ⟨z, valV_pos rfl, h2⟩
      · rw [show Rd.look ((y, u) :: l) y = some u by simp [Rd.look]] at e
        cases e
    · have e1 : Rd.look ((y, u) :: l) x = Rd.look l x := by simp [Rd.look, e]
      rw [e1, valV_neg (fun q => e (by cases q; rfl))]
      exact Al.look h3
theorem look_none {l : List (Str × Tr)} {x : Str} (h : x ∉ l.map (·.1)) : look l x = none := by
  unfold look
  rw [List.find?_eq_none.mpr fun p hp => by
    intro e
    exact h (List.mem_map.mpr ⟨p, hp, of_decide_eq_true e⟩)]
  rfl
theorem Kp.upd_dK {C D : Addr} {H : Hp} {xs ys : List (Key × V)} (h : H D = some (.dK xs)) : Kp C H (L2.upd H D (.dK ys)) := fun b o hi e => by
  have hb : b ≠ D := fun z => by
    rw [z, h] at e
    cases e
    cases hi
  rw [upd_ne hb]
  exact e
theorem mergeK_app : ∀ (more acc : List (Key × V)), ((acc ++ more).map (·.1)).Nodup → mergeK acc more = acc ++ more
  | [], acc, _ => (List.append_nil acc).symm
  | p :: r, acc, h => by
    show mergeK (putK acc p.1 p.2) r = _
    have e : valV acc p.1 = none := by
      have h2 := h
      rw [List.map_append, List.map_cons] at h2
      have h3 := (List.nodup_append.mp h2).2.2
      unfold valV
      rw [List.find?_eq_none.mpr fun q hq => by
        intro z
        exact h3 p.1 (List.mem_map.mpr ⟨q, hq, of_decide_eq_true z⟩) p.1 List.mem_cons_self rfl]
      rfl
    rw [putK_new p.2 e, mergeK_app r (acc ++ [(p.1, p.2)]) (by rw [List.append_assoc]; exact h), List.append_assoc]
    rfl
theorem Al.keys {R : Hp → Tr → V → Prop} {H : Hp} : ∀ {l : List (Str × Tr)} {kvs : List (Key × V)}, Al R H l kvs → kvs.map (·.1) = l.map fun p => Sum.inr p.1
  | [], [], _ => rfl
  | (x, t) :: l, (k, v) :: kvs, h => by
    rw [List.map_cons, List.map_cons, Al.keys h.2.2, h.1]
theorem Al.merge {R : Hp → Tr → V → Prop} {H : Hp} {l : List (Str × Tr)} {kvs : List (Key × V)} (al : Al R H l kvs) (nd : (l.map (·.1)).Nodup) : mergeK [] kvs = kvs := by
  refine mergeK_app kvs [] ?_
  rw [List.nil_append, al.keys]
  have : (l.map fun p => (Sum.inr p.1 : Key)) = (l.map (·.1)).map Sum.inr := by rw [List.map_map]; rfl
  rw [this]
  exact List.Pairwise.map _ (fun a b h e => h (by cases e; rfl)) nd
def Pq (H : Hp) : List Addr → List (Key × V) → Prop
  | [], [] => True
  | p :: ps, kv :: kq => H p = some (.tup [kV kv.1, kv.2]) ∧ Pq H ps kq
  | _, _ => False
theorem Pq.mono {C : Addr} {H H' : Hp} (k : Kp C H H') : ∀ {ps : List Addr} {kq : List (Key × V)}, Pq H ps kq → Pq H' ps kq
  | [], [], _ => trivial
  | _ :: _, _ :: _, h => ⟨k _ _ rfl h.1, Pq.mono k h.2⟩
theorem Pq.snoc {H : Hp} {p : Addr} {kv : Key × V} (e : H p = some (.tup [kV kv.1, kv.2])) : ∀ {ps : List Addr} {kq : List (Key × V)}, Pq H ps kq → Pq H (ps ++ [p]) (kq ++ [kv])
  | [], [], _ => ⟨e, trivial⟩
  | _ :: _, _ :: _, h => ⟨h.1, Pq.snoc e h.2⟩
theorem Pq.paired {K : PySem.W.Frag} {H : Hp} : ∀ {ps : List Addr} {kq : List (Key × V)}, Pq H ps kq → Paired (fun p kv => SqT K H p [kV kv.1, kv.2]) ps kq
  | [], [], _ => .nil
  | _ :: _, _ :: _, h => .cons (SqT.of h.1) (Pq.paired h.2)
theorem Pq.len {H : Hp} : ∀ {ps : List Addr} {kq : List (Key × V)}, Pq H ps kq → ps.length = kq.length
  | [], [], _ => rfl
  | _ :: _, _ :: _, h => congrArg (· + 1) (Pq.len h.2)
theorem look_get {x : Str} {t : Tr} : ∀ {l : List (Str × Tr)} {i : Nat}, (l.map (·.1)).Nodup → l[i]? = some (x, t) → look l x = some t
  | (y, u) :: l, 0, _, e => by
    cases e
    simp [look]
  | (y, u) :: l, i + 1, h, e => by
    have e : l[i]? = some (x, t) := by simpa using e
    have h : (y :: l.map (·.1)).Nodup := h
    have hne : ¬ y = x := fun z => (List.nodup_cons.mp h).1 (List.mem_map.mpr ⟨_, List.mem_of_getElem? e, z.symm⟩)
    have := look_get (List.nodup_cons.mp h).2 e
    simp only [look, List.find?_cons, hne, decide_false]
    exact this
/-- [(x, f(d[x])) for x in d] -/
theorem lck {C d D : Addr} {o : Obj} {kvs : List (Key × V)} {l : List (Str × Tr)} {R1 R2 : Hp → Tr → V → Prop} (f : Tr → Tr) {tv : TE} {i0 : Nat} {σ : St} {H1 : Hp} {Qd : Hp → Prop}
    (m1 : ∀ H H' t v, Kp C H H' → R1 H t v → R1 H' t v) (m2 : ∀ H H' t v, Kp C H H' → R2 H t v → R2 H' t v) (hd : H1 d = some (.frz o (.dK kvs))) (al : Al R1 H1 l kvs) (nd : (l.map (·.1)).Nodup) (hl : l.length ≤ 1000) (hD : H1 D = none)
    (hsl : ∀ p : V, ((wipe σ [i0]).set i0 (some p))[i0]? = some (some p)) (hw : ∀ p : V, wipe ((wipe σ [i0]).set i0 (some p)) [i0] = wipe σ [i0])
    (hte : ∀ (i : Nat) (x : Str) (t : Tr) (v : V) (σ2 : St) (H : Hp) (Q : VK), l[i]? = some (x, t) → Same H1 H → R1 H t v → DGet H d (.str x) (some v) → σ2 = (wipe σ [i0]).set i0 (some (.str x)) → (∀ z H', Same H H' → R2 H' (f t) z → Q z H') → tv σ2 H Q)
    (hq : ∀ ps kq H', Same H1 H' → H' D = some (.lst (ps.map V.ref)) → Pq H' ps kq → Al R2 H' (l.map fun p => (p.1, f p.2)) kq → Qd H') :
    ∃ W : Nat → Nat → Hp → Prop, (∃ m, W 0 m (L2.upd H1 D (.lst []))) ∧ ∀ i m H, W i m H →
      ((Itk d o kvs).stop i H ∧ Qd H) ∨ ((Itk d o kvs).go i H ∧ ∃ Nx : Hp → Prop, (∀ H', Nx H' → ∃ m', m' < m ∧ W (i + 1) m' H') ∧ ∀ x H', (Itk d o kvs).yld i H x H' → gName i0 x (wipe σ [i0]) H' fun σ2 H2 => wipe σ2 [i0] = wipe σ [i0] ∧ tYes σ2 H2 fun b H3 =>
        if b = true then tTup (tCons (tVar i0) (tCons tv tNil)) σ2 H3 fun y H4 => ∃ acc, H4 D = some (.lst acc) ∧ acc.length < sizeLine ∧ Nx (L2.upd H4 D (.lst (acc ++ [y]))) else Nx H3) := by
  have hlen := al.len
  have big : 8000000 ≤ sizeLine := by decide
  refine ⟨fun i m H => m = kvs.length - i ∧ i ≤ kvs.length ∧ ∃ ps kq, Same H1 H ∧ H D = some (.lst (ps.map V.ref)) ∧ Pq H ps kq ∧ Al R2 H ((l.take i).map fun p => (p.1, f p.2)) kq, ⟨_, rfl, Nat.zero_le _, [], [], Rd.Same.upd hD, upd_same, trivial, trivial⟩, ?_⟩
  rintro i m H ⟨rfl, hi, ps, kq, s, hDa, pq, ala⟩
  by_cases hlt : i < kvs.length
  · refine .inr ⟨⟨s _ _ hd, hlt⟩, fun H' => ∃ ps kq, Same H1 H' ∧ H' D = some (.lst (ps.map V.ref)) ∧ Pq H' ps kq ∧ Al R2 H' ((l.take (i + 1)).map fun p => (p.1, f p.2)) kq, fun H' h => ⟨kvs.length - (i + 1), by omega, rfl, hlt, h⟩, ?_⟩
    rintro _ _ ⟨rfl, k, v0, hk, rfl⟩
    obtain ⟨x, t, hx, rfl, _⟩ := al.get hk
    obtain ⟨v, ev, r1⟩ := (al.look (x := x)).1 t (look_get nd hx)
    have etk : l.take (i + 1) = l.take i ++ [(x, t)] := by rw [List.take_succ, hx]; rfl
    refine ⟨hw _, ?_⟩
    unfold tYes
    have hal := ala.len
    have hpl := pq.len
    rw [List.length_map, List.length_take] at hal
    refine iteT ⟨_, hsl _, hte i x t v _ _ _ hx s (m1 _ _ _ _ (Kp.of_same s) r1) (.inl ⟨kvs, .inr x, .inr ⟨o, s _ _ hd⟩, rfl, ev.symm⟩) rfl fun z H' s' hz => ⟨(by show 2 ≤ sizeLine; decide), fun q hq' => ?_⟩⟩
    have sq := Rd.Same.upd (o := .tup [kV (.inr x), z]) hq'
    have hD' := sq _ _ (s' _ _ hDa)
    refine ⟨_, hD', by rw [List.length_map]; omega, ps ++ [q], kq ++ [(.inr x, z)], fun c o e => ?_, ?_, ?_, ?_⟩
    · rw [upd_ne (ne_of_none e hD)]
      exact sq _ _ (s' _ _ (s _ _ e))
    · rw [upd_same, List.map_append]
      rfl
    · have kp := Kp.upd_lst (C := C) (ys := ps.map V.ref ++ [V.ref q]) hD'
      exact Pq.snoc (kp _ _ rfl upd_same) ((pq.mono (C := C) (Kp.of_same (s'.trans sq))).mono kp)
    · have kp := Kp.upd_lst (C := C) (ys := ps.map V.ref ++ [V.ref q]) hD'
      rw [etk, List.map_append]
      exact Al.snoc (m2 _ _ _ _ kp (m2 _ _ _ _ (Kp.of_same sq) hz)) (ala.mono fun t v h => m2 _ _ _ _ kp (m2 _ _ _ _ (Kp.of_same (s'.trans sq)) h))
  · refine .inl ⟨⟨s _ _ hd, by omega⟩, hq ps kq H s hDa pq ?_⟩
    rw [List.take_of_length_le (by omega)] at ala
    exact ala
section
variable {X : Cx} {CX : CXT} {k : Nat} {c m : Str} {ps : List Str} {sp : Sp} {o : Expr} {ta : TE} {E : XK} {apos pos : Pos} {K : PySem.W.Frag}
theorem pe_fm0k {pl : Sem Bool} (hK : X.K = K) (he : PE X o ta) (cl : Cls X.K (He.ga X.K c)) (F : Fm X.prog X.w X.K X.mg X.base CX k c m ps sp) (hr : Room k X.A) (hx : Passes CX X E)
    (ht : eval (.Call (.Attribute o m apos) [] [] pos) X.env = (do
      let ov ← eval o X.env
      standAt apos.atName
      let (f, first) ← holding [ov] (getMethod ov m pl)
      callWith pos f first (backTo pos (starEach [] X.env)) (backToKw pos (keywordEach [] X.env))) := by rfl) :
    PE X (.Call (.Attribute o m apos) [] [] pos) (tMeth (He.ga K c) m sp [] E ta tNil) := by subst hK; exact pe_fm0 he cl F hr hx ht
end
end Rd
namespace Rd
open PySem L2
def ltS (a b : Str) : Bool := PySem.Spec.ltCps a.cps.toList b.cps.toList
theorem ltC_irr : ∀ a : List Nat, PySem.Spec.ltCps a a = false
  | [] => rfl
  | a :: r => by
    show (decide (a < a) || (a == a && PySem.Spec.ltCps r r)) = false
    rw [ltC_irr r]
    simp
theorem ltC_trans : ∀ {a b c : List Nat}, PySem.Spec.ltCps a b = true → PySem.Spec.ltCps b c = true → PySem.Spec.ltCps a c = true
  | [], [], _, h, _ => by cases h
  | [], _ :: _, [], _, h => by cases h
  | [], _ :: _, _ :: _, _, _ => rfl
  | _ :: _, [], _, h, _ => by cases h
  | _ :: _, _ :: _, [], _, h => by cases h
  | a :: r, b :: s, c :: t, h1, h2 => by
    have g1 : (decide (a < b) || (a == b && PySem.Spec.ltCps r s)) = true := h1
    have g2 : (decide (b < c) || (b == c && PySem.Spec.ltCps s t)) = true := h2
    show (decide (a < c) || (a == c && PySem.Spec.ltCps r t)) = true
    rw [Bool.or_eq_true, Bool.and_eq_true, decide_eq_true_eq, beq_iff_eq] at g1 g2 ⊢
    rcases g1 with g1 | ⟨e1, g1⟩
    · rcases g2 with g2 | ⟨e2, g2⟩
      · exact .inl (Nat.lt_trans g1 g2)
      · exact .inl (by omega)
    · rcases g2 with g2 | ⟨e2, g2⟩
      · exact .inl (by omega)
      · exact .inr ⟨by omega, ltC_trans g1 g2⟩
theorem ltC_tot : ∀ {a b : List Nat}, PySem.Spec.ltCps a b = false → PySem.Spec.ltCps b a = false → a = b
  | [], [], _, _ => rfl
  | [], _ :: _, h, _ => by cases h
  | _ :: _, [], _, h => by cases h
  | a :: r, b :: s, h1, h2 => by
    have h1 : (decide (a < b) || (a == b && PySem.Spec.ltCps r s)) = false := h1
    have h2 : (decide (b < a) || (b == a && PySem.Spec.ltCps s r)) = false := h2
    rw [Bool.or_eq_false_iff, decide_eq_false_iff_not] at h1 h2
    have e : a = b := by omega
    subst e
    rw [beq_self_eq_true, Bool.true_and] at h1 h2
    rw [ltC_tot h1.2 h2.2]
theorem ltS_irr (a : Str) : ltS a a = false := ltC_irr _
theorem ltS_trans {a b c : Str} (h1 : ltS a b = true) (h2 : ltS b c = true) : ltS a c = true := ltC_trans h1 h2
theorem ltS_tot {a b : Str} (h1 : ltS a b = false) (h2 : ltS b a = false) : a = b := by
  have e := ltC_tot h1 h2
  cases a; cases b
  exact congrArg Str.mk (Array.toList_inj.mp e)
def asc (l : List Str) : Prop := l.Pairwise fun a b => ltS a b = true
theorem asc_of : ∀ {l : List Str}, PyProof.Rows.sortedS l = true → l.Nodup → asc l
  | [], _, _ => List.Pairwise.nil
  | [x], _, _ => List.pairwise_singleton _ _
  | x :: y :: r, h, n => by
    have h : (!ltS y x && PyProof.Rows.risingS y r) = true := h
    rw [Bool.and_eq_true, Bool.not_eq_true'] at h
    have ih : asc (y :: r) := asc_of (l := y :: r) h.2 (List.nodup_cons.mp n).2
    have ne : x ≠ y := fun e => (List.nodup_cons.mp n).1 (by rw [e]; exact List.mem_cons_self)
    have xy : ltS x y = true := by
      cases e : ltS x y with
      | true => rfl
      | false => exact absurd (ltS_tot e h.1) ne
    refine List.pairwise_cons.mpr ⟨fun z hz => ?_, ih⟩
    rcases List.mem_cons.mp hz with rfl | hz
    · exact xy
    · exact ltS_trans xy ((List.pairwise_cons.mp ih).1 z hz)
theorem asc_uniq : ∀ {l m : List Str}, asc l → asc m → (∀ x, x ∈ l ↔ x ∈ m) → l = m
  | [], [], _, _, _ => rfl
  | [], y :: m, _, _, h => by cases (h y).2 List.mem_cons_self
  | x :: l, [], _, _, h => by cases (h x).1 List.mem_cons_self
  | x :: l, y :: m, hl, hm, h => by
    obtain ⟨l1, l2⟩ := List.pairwise_cons.mp hl
    obtain ⟨m1, m2⟩ := List.pairwise_cons.mp hm
    have e : x = y := by
      rcases List.mem_cons.mp ((h x).1 List.mem_cons_self) with e | e
      · exact e
      · rcases List.mem_cons.mp ((h y).2 List.mem_cons_self) with e' | e'
        · exact e'.symm
        · have a := ltS_trans (m1 x e) (l1 y e')
          rw [ltS_irr] at a
          cases a
    subst e
    rw [asc_uniq l2 m2 fun z => ?_]
    constructor
    · intro hz
      rcases List.mem_cons.mp ((h z).1 (List.mem_cons_of_mem _ hz)) with e | e
      · have a := l1 z hz
        rw [e, ltS_irr] at a
        cases a
      · exact e
    · intro hz
      rcases List.mem_cons.mp ((h z).2 (List.mem_cons_of_mem _ hz)) with e | e
      · have a := m1 z hz
        rw [e, ltS_irr] at a
        cases a
      · exact e
def insS (x : Str) : List Str → List Str
  | [] => [x]
  | y :: r => if x = y then y :: r else if ltS x y = true then x :: y :: r else y :: insS x r
def uniS : List Str → List Str
  | [] => []
  | x :: r => insS x (uniS r)
theorem insS_mem {x z : Str} : ∀ {l : List Str}, z ∈ insS x l ↔ z = x ∨ z ∈ l
  | [] => by simp [insS]
  | y :: r => by
    unfold insS
    split
    · rename_i e
      subst e
      exact ⟨.inr, fun h => h.elim (fun e => by rw [e]; exact List.mem_cons_self) id⟩
    · split
      · exact List.mem_cons
      · rw [List.mem_cons, insS_mem, List.mem_cons]
        constructor
        · rintro (a | a | a)
          · exact .inr (.inl a)
          · exact .inl a
          · exact .inr (.inr a)
        · rintro (a | a | a)
          · exact .inr (.inl a)
          · exact .inl a
          · exact .inr (.inr a)
theorem insS_asc {x : Str} : ∀ {l : List Str}, asc l → asc (insS x l)
  | [], _ => List.pairwise_singleton _ _
  | y :: r, h => by
    obtain ⟨h1, h2⟩ := List.pairwise_cons.mp h
    unfold insS
    split
    · exact h
    · rename_i ne
      split
      · rename_i lt
        refine List.pairwise_cons.mpr ⟨fun z hz => ?_, h⟩
        rcases List.mem_cons.mp hz with rfl | hz
        · exact lt
        · exact ltS_trans lt (h1 z hz)
      · rename_i lt
        have yx : ltS y x = true := by
          cases e : ltS y x with
          | true => rfl
          | false => exact absurd (ltS_tot (by simpa using lt) e) ne
        refine List.pairwise_cons.mpr ⟨fun z hz => ?_, insS_asc h2⟩
        rcases insS_mem.mp hz with rfl | hz
        · exact yx
        · exact h1 z hz
theorem uniS_mem {z : Str} : ∀ {l : List Str}, z ∈ uniS l ↔ z ∈ l
  | [] => Iff.rfl
  | x :: r => by rw [uniS, insS_mem, uniS_mem, List.mem_cons]
theorem uniS_asc : ∀ {l : List Str}, asc (uniS l)
  | [] => List.Pairwise.nil
  | x :: r => insS_asc uniS_asc
theorem uniS_of {l ys : List Str} (h1 : ys.Nodup) (h2 : PyProof.Rows.sortedS ys = true) (h : ∀ x, x ∈ ys ↔ x ∈ l) : ys = uniS l :=
  asc_uniq (asc_of h2 h1) uniS_asc fun x => (h x).trans uniS_mem.symm
/-- the texts of a form's atoms of one kind, as often as they stand -/
def Tr.txt (k : Str) : Tr → List Str
  | .am k' x => if k' = k then [x] else []
  | .un _ a => a.txt k
  | .bi _ a b => a.txt k ++ b.txt k
def txt1 (k : Str) : Tr → List Str
  | .am k' x => if k' = k then [x] else []
  | _ => []
theorem txt_all (k : Str) : ∀ t : Tr, t.all.flatMap (txt1 k) = t.txt k
  | .am k' x => by
    show txt1 k (.am k' x) ++ [] = _
    rw [List.append_nil]
    rfl
  | .un s a => by
    show txt1 k (.un s a) ++ a.all.flatMap (txt1 k) = a.txt k
    rw [txt_all k a]
    rfl
  | .bi s a b => by
    show txt1 k (.bi s a b) ++ (a.all ++ b.all).flatMap (txt1 k) = a.txt k ++ b.txt k
    rw [List.flatMap_append, txt_all k a, txt_all k b]
    rfl
end Rd
namespace Rd
open PySem L2
theorem take_flat1 {τ α : Type} {f : τ → List α} {l : List τ} {i : Nat} {r : τ} (h : l[i]? = some r) : (l.take (i + 1)).flatMap f = (l.take i).flatMap f ++ f r := by
  rw [List.take_add_one, h, List.flatMap_append]
  simp
theorem flat1_le {τ α : Type} {f : τ → List α} (hf : ∀ t, (f t).length ≤ 1) : ∀ l : List τ, (l.flatMap f).length ≤ l.length
  | [] => Nat.le_refl _
  | t :: l => by
    rw [List.flatMap_cons, List.length_append, List.length_cons]
    have := hf t
    have := flat1_le hf l
    omega
/-- {text for x in a list if ..}: f tells of each item no text or one -/
theorem scl {w : World} {K : PySem.W.Frag} {a D : Addr} {xs : List V} {τ : Type} {ts : List τ} {tt : TT} {te : TE} {i0 : Nat} {σ : St} {H1 : Hp} {Qd : Hp → Prop} (f : τ → List Str) (hf : ∀ t, (f t).length ≤ 1) (hS : SqL K H1 a xs) (he : xs.length = ts.length) (hl : ∀ i : Nat, (putS [] ((ts.take i).flatMap f)).length + 1 < scanBound) (hD : H1 D = none)
    (hte : ∀ (i : Nat) (x : V) (t : τ) (H : Hp) (Q : VK), xs[i]? = some x → ts[i]? = some t → Same H1 H → (f t = [] → tt ((wipe σ [i0]).set i0 (some x)) H fun b H' => b = false ∧ H' = H) ∧ ∀ c, f t = [c] → (tt ((wipe σ [i0]).set i0 (some x)) H fun b H' => b = true ∧ H' = H) ∧ (Q (.str c) H → te ((wipe σ [i0]).set i0 (some x)) H Q))
    (tm : ∀ (σ : St) (H : Hp) (P Q : Bool → Hp → Prop), (∀ b H', P b H' → Q b H') → tt σ H P → tt σ H Q)
    (hq : ∀ H', Same H1 H' → H' D = some (SetSO w D (putS [] (ts.flatMap f))) → Qd H') :
    ∃ W : Nat → Nat → Hp → Prop, (∃ m, W 0 m (L2.upd H1 D (SetSO w D []))) ∧ ∀ i m H, W i m H →
      ((Itl K a).stop i H ∧ Qd H) ∨ ((Itl K a).go i H ∧ ∃ Nx : Hp → Prop, (∀ H', Nx H' → ∃ m', m' < m ∧ W (i + 1) m' H') ∧ ∀ x H', (Itl K a).yld i H x H' → gName i0 x (wipe σ [i0]) H' fun σ2 H2 => wipe σ2 [i0] = wipe σ [i0] ∧ tt σ2 H2 fun b H3 =>
        if b = true then te σ2 H3 fun y H4 => ∃ (c : Str) (l : List Str), y = .str c ∧ H4 D = some (SetSO w D l) ∧ l.length + 1 < scanBound ∧ Nx (L2.upd H4 D (SetSO w D (addS l c))) else Nx H3) := by
  refine ⟨fun i m H => m = xs.length - i ∧ i ≤ xs.length ∧ Same H1 H ∧ H D = some (SetSO w D (putS [] ((ts.take i).flatMap f))), ⟨xs.length, by simp, Nat.zero_le _, Rd.Same.upd hD, upd_same⟩, ?_⟩
  rintro i m H ⟨rfl, hi, sm, hd⟩
  have q := SqL.kept hS sm
  by_cases hlt : i < xs.length
  · refine .inr ⟨⟨xs, xs[i], q, by simp [hlt]⟩, fun H' => Same H1 H' ∧ H' D = some (SetSO w D (putS [] ((ts.take (i + 1)).flatMap f))), fun H' p' => ⟨xs.length - (i + 1), by omega, rfl, hlt, p'⟩, fun x H' y => ?_⟩
    obtain ⟨e, y⟩ := y
    subst e
    have hx := y xs q
    have ht : ts[i]? = some ts[i] := List.getElem?_eq_getElem (by omega)
    refine gName_k ⟨by simp [wipe], ?_⟩
    cases hft : f ts[i] with
    | nil =>
      refine tm _ _ _ _ (fun b H2 z => ?_) ((hte i x ts[i] H' (fun _ _ => True) hx ht sm).1 hft)
      obtain ⟨rfl, rfl⟩ := z
      refine iteF ⟨sm, ?_⟩
      rw [take_flat1 ht, hft, List.append_nil]
      exact hd
    | cons c r =>
      have hr : r = [] := by
        have := hf ts[i]
        rw [hft, List.length_cons] at this
        exact List.eq_nil_of_length_eq_zero (by omega)
      subst hr
      refine tm _ _ _ _ (fun b H2 z => ?_) ((hte i x ts[i] H' (fun _ _ => True) hx ht sm).2 c hft).1
      obtain ⟨rfl, rfl⟩ := z
      refine iteT (((hte i x ts[i] _ _ hx ht sm).2 c hft).2 ⟨c, _, rfl, hd, ?_, fun b o e => ?_, ?_⟩)
      · exact hl i
      · rw [upd_ne (ne_of_none e hD)]
        exact sm _ _ e
      · rw [upd_same, take_flat1 ht, hft, putS_app]
        rfl
  · have e : i = xs.length := by omega
    subst e
    refine .inl ⟨⟨xs, q, Nat.le_refl _⟩, hq H sm ?_⟩
    rw [he, List.take_length] at hd
    exact hd
/-- [text for x in a list if ..] -/
theorem lclF {K : PySem.W.Frag} {a D : Addr} {xs : List V} {τ : Type} {ts : List τ} {tt : TT} {te : TE} {i0 : Nat} {σ : St} {H1 : Hp} {Qd : Hp → Prop} (f : τ → List V) (hf : ∀ t, (f t).length ≤ 1) (hS : SqL K H1 a xs) (he : xs.length = ts.length) (hl : xs.length ≤ 8000000) (hD : H1 D = none)
    (hte : ∀ (i : Nat) (x : V) (t : τ) (H : Hp) (Q : VK), xs[i]? = some x → ts[i]? = some t → Same H1 H → (f t = [] → tt ((wipe σ [i0]).set i0 (some x)) H fun b H' => b = false ∧ H' = H) ∧ ∀ c, f t = [c] → (tt ((wipe σ [i0]).set i0 (some x)) H fun b H' => b = true ∧ H' = H) ∧ (Q c H → te ((wipe σ [i0]).set i0 (some x)) H Q))
    (tm : ∀ (σ : St) (H : Hp) (P Q : Bool → Hp → Prop), (∀ b H', P b H' → Q b H') → tt σ H P → tt σ H Q)
    (hq : ∀ H', Same H1 H' → H' D = some (.lst (ts.flatMap f)) → Qd H') :
    ∃ W : Nat → Nat → Hp → Prop, (∃ m, W 0 m (L2.upd H1 D (.lst []))) ∧ ∀ i m H, W i m H →
      ((Itl K a).stop i H ∧ Qd H) ∨ ((Itl K a).go i H ∧ ∃ Nx : Hp → Prop, (∀ H', Nx H' → ∃ m', m' < m ∧ W (i + 1) m' H') ∧ ∀ x H', (Itl K a).yld i H x H' → gName i0 x (wipe σ [i0]) H' fun σ2 H2 => wipe σ2 [i0] = wipe σ [i0] ∧ tt σ2 H2 fun b H3 =>
        if b = true then te σ2 H3 fun y H4 => ∃ acc, H4 D = some (.lst acc) ∧ acc.length < sizeLine ∧ Nx (L2.upd H4 D (.lst (acc ++ [y]))) else Nx H3) := by
  refine lc_list (K := K) (a := a) (xs := xs) (fun i H => Same H1 H ∧ H D = some (.lst ((ts.take i).flatMap f))) ⟨Rd.Same.upd hD, upd_same⟩ (fun i H _ p => SqL.kept hS p.1) ?_ ?_
  · rintro i x H hx ⟨sm, hd⟩
    have hlt := (List.getElem?_eq_some_iff.mp hx).1
    have ht : ts[i]? = some ts[i] := List.getElem?_eq_getElem (by omega)
    refine gName_k ⟨by simp [wipe], ?_⟩
    cases hft : f ts[i] with
    | nil =>
      refine tm _ _ _ _ (fun b H2 z => ?_) ((hte i x ts[i] H (fun _ _ => True) hx ht sm).1 hft)
      obtain ⟨rfl, rfl⟩ := z
      refine iteF ⟨sm, ?_⟩
      rw [take_flat1 ht, hft, List.append_nil]
      exact hd
    | cons c r =>
      have hr : r = [] := by
        have := hf ts[i]
        rw [hft, List.length_cons] at this
        exact List.eq_nil_of_length_eq_zero (by omega)
      subst hr
      refine tm _ _ _ _ (fun b H2 z => ?_) ((hte i x ts[i] H (fun _ _ => True) hx ht sm).2 c hft).1
      obtain ⟨rfl, rfl⟩ := z
      refine iteT (((hte i x ts[i] _ _ hx ht sm).2 c hft).2 ⟨_, hd, ?_, fun b o e => ?_, ?_⟩)
      · have h2 := flat1_le hf (ts.take i)
        rw [List.length_take] at h2
        have : 8000000 < sizeLine := by decide
        omega
      · rw [upd_ne (ne_of_none e hD)]
        exact sm _ _ e
      · rw [upd_same, take_flat1 ht, hft]
  · rintro H ⟨sm, hd⟩
    rw [he, List.take_length] at hd
    exact hq H sm hd
theorem txt1_le (k : Str) : ∀ t : Tr, (txt1 k t).length ≤ 1
  | .am k' x => by
    show (if k' = k then [x] else []).length ≤ 1
    split
    · exact Nat.le_refl _
    · exact Nat.zero_le _
  | .un _ _ => Nat.zero_le _
  | .bi _ _ _ => Nat.zero_le _
end Rd
namespace Rd
open PySem L2
theorem nodup_subK {α : Type} [DecidableEq α] : ∀ {l m : List α}, l.Nodup → (∀ x ∈ l, x ∈ m) → l.length ≤ m.length
  | [], _, _, _ => Nat.zero_le _
  | a :: l, m, h1, h2 => by
    obtain ⟨n1, n2⟩ := List.nodup_cons.mp h1
    have ha := h2 a List.mem_cons_self
    have ih := nodup_subK (l := l) (m := m.erase a) n2 fun x hx => by
      refine (List.mem_erase_of_ne fun e => n1 (by rw [← e]; exact hx)).mpr (h2 x (List.mem_cons_of_mem _ hx))
    have := List.length_erase_of_mem ha
    have := List.length_pos_of_mem ha
    rw [List.length_cons]
    omega
/-- what a pair asks that a filling makes equal -/
def sgns : List Str := ([("pair", 2), ("seal", 2), ("lock", 2), ("mark", 1), ("open", 1), ("own", 1)] : List (Str × Int)).map (·.1)
theorem sgn_yes {t : Tr} (wf : Wf t) (h : t.parts ≠ []) : decide (t.head ∈ sgns) = true := by
  have : ∀ z ∈ (["mark", "open", "own", "pair", "seal", "lock"] : List Str), decide (z ∈ sgns) = true := by decide +kernel
  exact this _ (wf.sign h).1
theorem sgn_no {k x : Str} (ko : kindOk k x) : decide ((Tr.am k x).head ∈ sgns) = false := by
  rcases ko with ⟨rfl, _⟩ | ⟨rfl, _⟩ | ⟨rfl, _⟩
  · show decide (("word" : Str) ∈ sgns) = false; decide +kernel
  · show decide (("name" : Str) ∈ sgns) = false; decide +kernel
  · show decide (("unknown" : Str) ∈ sgns) = false; decide +kernel
section
variable {P : Program} {w : World} {K : PySem.W.Frag} {mg : Str → Option Value} {base : Heap}
abbrev s_parts_of : Stmt := top 18
theorem sc_parts_of : FnScope ["tree", "found", "part"] ["tree"] (defScope s_parts_of) := ⟨rfl, rfl, rfl, by decide +kernel, rfl, by decide +kernel, by decide +kernel⟩
theorem partsOf_step (T : Tx w K mg) (d : Nat) (ih : Fk P w K mg base CX0 (d + 1) "parts_of" ["tree"] (spPR d)) : Fk P w K mg base CX0 (d + 2) "parts_of" ["tree"] (sp_parts d) := by
  refine T.F_parts_of.ok0 sc_parts_of (fun _ _ _ _ _ _ us hl => match us, hl with | [_], _ => rfl)
    (fun vs H Q E h => ?_) (fun cdv A outer s H vs Q E hr h => ?_)
  · obtain ⟨v, t, rfl, _⟩ := h
    rfl
  · obtain ⟨v, t, rfl, it, wf, dp, d12, sz, k⟩ := h
    obtain ⟨pf, vs0, rfl, hpv⟩ := it.hd
    refine ⟨_, (pss_cons (ps_set (i := 1) sc_parts_of.nd rfl (Or.inl rfl) (pe_lst (pa_cons (pv 0) pa_nil)))
  (pss_cons (ps_if (pt_cmpR (op_inK T.D_SIGNS) (pe_ix ix_tup (pv 0) pe_int (fun _ _ => rfl)) (pe_kd T.D_SIGNS) (by rfl))
  (pss_one (ps_for PassesOwn.never rfl (pi_tup (pe_slice sl_tup (pv 0) (po_some pe_int) po_none)) (pg_name (i := 2) sc_parts_of.nd rfl (Or.inl rfl))
  (pss_one (ps_expr (pe_bm PySem.F.plainAttrs_list PySem.F.slot_list_extend PySem.F.type_list_extend mt_extend (pv 1) (pa_cons (pe_fk ih (hr.mono (by omega)) rfl pass0 (pa_cons (pv 2) pa_nil)) pa_nil))))))
  pss_nil)
  (pss_one (ps_ret (pv 1))))), ?_⟩
    refine ⟨_, rfl, (by show 1 ≤ sizeLine; decide), fun p np => ?_⟩
    refine gName_k ?_
    try dsimp only
    have s1 := Rd.Same.upd (o := .lst [.ref pf]) np
    refine ⟨_, rfl, pf, _, _, _, rfl, rfl, SqT.of (s1 _ _ hpv), at_of (j := 0) rfl rfl, _, rfl, rfl, _, rfl, ?_⟩
    show if decide (t.head ∈ sgns) = true then _ else _
    by_cases hpt : t.parts ≠ []
    · obtain ⟨hsg, hws⟩ := wf.sign hpt
      obtain ⟨p', us, e, hpu, hlu, hl2, hne, hus⟩ := it.parts hpt
      cases e
      refine iteP (sgn_yes wf hpt) ?_
      refine ⟨_, rfl, _, rfl, pf, _, rfl, SqT.of (s1 _ _ hpu), ?_, fun p2 hp2 => ?_⟩
      · rintro ⟨z, _⟩
        rw [show (1 : Int) = ((1 : Nat) : Int) from rfl, HT.sIx_nat, List.length_cons] at z
        omega
      rw [cut1]
      have s2 := Rd.Same.upd (o := .tup us) hp2
      refine ⟨p2, rfl, ⟨_, SqT.of upd_same⟩, ?_⟩
      refine for_tup (xs := us) (fun i σ H' => PInv H p p2 us t i H' ∧ ∃ t2, σ = [some (.ref pf), some (.ref p), t2]) ⟨⟨s1.trans s2, np, upd_same, [.ref pf], s2 _ _ upd_same, TsAt.one (it.same (s1.trans s2))⟩, _, rfl⟩ ?_ ?_ ?_
      · rintro i σ H' hi ⟨hI, _⟩
        exact SqT.of hI.tup
      · rintro i x σ H1 hx ⟨⟨sm, _, htu, ws, hws1, hts⟩, t2, rfl⟩
        refine gName_k ?_
        try dsimp only
        obtain ⟨r, hr1, hr2⟩ := hus i x hx
        obtain ⟨w1, w2⟩ := hws r (List.mem_of_getElem? hr1)
        cases d with
        | zero => exact absurd dp (by omega)
        | succ d =>
          have szr : r.all.length ≤ 8000000 := by
            have hf := flat_le (t := t) (i + 1)
            rw [take_flat hr1, List.length_append] at hf
            omega
          refine ⟨_, rfl, .inl ⟨rfl, _, SqL.of hws1⟩, _, rfl, x, r, rfl, hr2.same sm, w1, (by omega), (by omega), szr, fun b zs H2 sm2 nb hb htz => ?_⟩
          have hl1 := all_len t
          have hf := flat_le (t := t) (i + 1)
          rw [take_flat hr1, List.length_append] at hf
          have h13 : 8000000 ≤ sizeLine := by decide
          have e1 := hts.len
          have e2 := htz.len
          rw [List.length_cons] at e1
          refine ⟨p, b, ws, zs, rfl, rfl, sm2 _ _ hws1, hb, (by omega), ?_⟩
          have kp := Kp.upd_lst (C := 0) (ys := ws ++ zs) (sm2 _ _ hws1)
          have nbp : b ≠ p := fun z => by rw [z, hws1] at nb; cases nb
          refine ⟨⟨fun c o e => ?_, np, ?_, ws ++ zs, upd_same, ?_⟩, _, rfl⟩
          · rw [upd_ne (ne_of_none e np)]
            exact sm2 _ _ (sm _ _ e)
          · rw [upd_ne (fun z => by rw [z, hws1] at htu; cases htu)]
            exact sm2 _ _ htu
          · rw [take_flat hr1, ← List.cons_append]
            exact ((hts.same sm2).mono kp).app (htz.mono kp)
      · rintro σ H1 ⟨⟨sm, _, htu, ws, hws1, hts⟩, t2, rfl⟩
        refine ⟨_, rfl, k p ws H1 sm np hws1 ?_⟩
        rw [all_parts]
        rw [hlu, List.take_length] at hts
        exact hts
    · cases wf with
      | @am k0 x0 ko =>
        rw [sgn_no ko]
        exact iteF ⟨_, rfl, k p _ _ s1 np upd_same (TsAt.one (it.same s1))⟩
      | _ => exact absurd (fun e => by cases e) hpt
theorem partsOf_none (T : Tx w K mg) : Fk P w K mg base CX0 1 "parts_of" ["tree"] (spPR 0) := by
  refine T.F_parts_of.ok0 sc_parts_of (fun _ _ _ _ _ _ us hl => match us, hl with | [_], _ => rfl) (fun vs H Q E h => h.elim) (fun cdv A outer s H vs Q E hr h => h.elim)
theorem ok_parts_of (T : Tx w K mg) : ∀ d : Nat, Fk P w K mg base CX0 (d + 2) "parts_of" ["tree"] (sp_parts d)
  | 0 => partsOf_step T 0 (partsOf_none T)
  | d + 1 => partsOf_step T (d + 1) (ok_parts_of T d)
/-- the texts of the atoms of one kind, ascending, each once, in a new list -/
def sp_atoms (d : Nat) : Sp := fun vs H Q _ => ∃ (v : V) (t : Tr) (kd : Str), vs = [v, .str kd] ∧ IsT H t v ∧ Wf t ∧ t.dep ≤ d ∧ d ≤ 60 ∧ t.all.length ≤ 8000000 ∧ (uniS (t.txt kd)).length ≤ 1000 ∧ ∀ p H', Same H H' → H p = none → H' p = some (.lst ((uniS (t.txt kd)).map V.str)) → Q (.ref p) H'
/-- part[0] == kind, part[1] of a form's part -/
theorem txt_at {H : Hp} {t : Tr} {v : V} {kd : Str} (it : IsT H t v) (wf : Wf t) : ∃ p us, v = .ref p ∧ H p = some (.tup (.str t.head :: us)) ∧ (txt1 kd t = [] → t.head ≠ kd ∨ ∃ u, us[0]? = some u ∧ ¬ ∃ z, u = .str z) ∧ ∀ c, txt1 kd t = [c] → t.head = kd ∧ us = [.str c] := by
  cases t with
  | am k x =>
    obtain ⟨p, rfl, h⟩ := it
    refine ⟨p, [.str x], rfl, h, fun e => .inl fun z => ?_, fun c e => ?_⟩
    · have e : (if k = kd then [x] else []) = [] := e
      rw [if_pos (show k = kd from z)] at e
      cases e
    · have e : (if k = kd then [x] else []) = [c] := e
      by_cases z : k = kd
      · rw [if_pos z] at e
        cases e
        exact ⟨z, rfl⟩
      · rw [if_neg z] at e
        cases e
  | un s a =>
    obtain ⟨p, u, rfl, h, i1⟩ := it
    refine ⟨p, [u], rfl, h, fun _ => .inr ⟨u, rfl, fun ⟨z, e⟩ => ?_⟩, fun c e => by cases e⟩
    obtain ⟨q, e'⟩ := i1.ref
    rw [e'] at e
    cases e
  | bi s a b =>
    obtain ⟨p, u, u2, rfl, h, i1, i2⟩ := it
    refine ⟨p, [u, u2], rfl, h, fun _ => .inr ⟨u, rfl, fun ⟨z, e⟩ => ?_⟩, fun c e => by cases e⟩
    obtain ⟨q, e'⟩ := i1.ref
    rw [e'] at e
    cases e
def kinds : List Str := ["word", "name", "unknown"]
theorem head_kd {t : Tr} {kd : Str} (wf : Wf t) (hk : kd ∈ kinds) (h : txt1 kd t = []) : t.head ≠ kd := fun e => by
  by_cases hp : t.parts ≠ []
  · have a := (wf.sign hp).1
    have : ∀ z ∈ (["mark", "open", "own", "pair", "seal", "lock"] : List Str), z ∉ kinds := by decide +kernel
    exact this _ a (by rw [e]; exact hk)
  · cases t with
    | am k x =>
      have h : (if k = kd then [x] else []) = [] := h
      rw [if_pos (show k = kd from e)] at h
      cases h
    | un s a => exact hp (fun e => by cases e)
    | bi s a b => exact hp (fun e => by cases e)
abbrev s_atoms_of : Stmt := top 19
theorem sc_atoms_of : FnScope ["tree", "kind", "part"] ["tree", "kind"] (defScope s_atoms_of) := ⟨rfl, rfl, rfl, by decide +kernel, rfl, by decide +kernel, by decide +kernel⟩
theorem ok_atoms_of (T : Tx w K mg) (d : Nat) : Fk P w K mg base CX0 (d + 3) "atoms_of" ["tree", "kind"] (fun vs H Q E => sp_atoms d vs H Q E ∧ ∃ kd ∈ kinds, vs[1]? = some (.str kd)) := by
  refine T.F_atoms_of.ok0 sc_atoms_of (fun _ _ _ _ _ _ us hl => match us, hl with | [_, _], _ => rfl)
    (fun vs H Q E h => ?_) (fun cdv A outer s H vs Q E hr h => ?_)
  · obtain ⟨⟨v, t, kd, rfl, _⟩, _⟩ := h
    rfl
  · obtain ⟨⟨v, t, kd, rfl, it, wf, dp, d10, sz, su, k⟩, kd', hk, e⟩ := h
    obtain rfl : kd = kd' := by cases e; rfl
    refine ⟨_, (pss_one (ps_ret (pe_callB (cr_sortedSS rfl) (by rfl) T.z_sorted (by decide +kernel) (pa_cons (pe_scS (own := [("part", 2)]) (g := gName 2)  (by rfl) sc_atoms_of.nd (pi_list (pe_fk (ok_parts_of T d) (hr.mono (by omega)) rfl pass0 (pa_cons (pv 0) pa_nil))) (blkOk_by (own := [("part", 2)]) (N := ["tree", "kind", "part"]) (sc := defScope s_atoms_of) (by decide +kernel)) (fun _ _ _ _ _ => (pg_name (i := 2) sc_atoms_of.nd rfl (Or.inl rfl))) (fun _ _ _ _ _ => (pts_one (pt_cmpR op_eq (pe_ix (kIx (r := rIxT) (K := K) rfl ix_tup) (pv 2) pe_int (fun _ _ => rfl)) (pv 1) (nomark _)))) (fun _ _ _ _ _ => (pe_ix (kIx (r := rIxT) (K := K) rfl ix_tup) (pv 2) pe_int (fun _ _ => rfl)))) pa_nil)))), ?_⟩
    refine ⟨_, rfl, v, t, rfl, it, wf, dp, (by omega), sz, fun p ws H1 s1 np hp htz => ?_⟩
    refine ⟨p, rfl, ⟨_, SqL.of hp⟩, fun D hD => ?_⟩
    have h13 : 1001 < scanBound := by decide
    have hu : ∀ i : Nat, (putS [] ((t.all.take i).flatMap (txt1 kd))).length + 1 < scanBound := fun i => by
      have := nodup_subK (l := putS [] ((t.all.take i).flatMap (txt1 kd))) (m := uniS (t.txt kd)) (putS_nd List.nodup_nil) fun x hx => by
        rw [putS_mem] at hx
        rcases hx with hx | hx
        · cases hx
        · rw [uniS_mem, ← txt_all]
          obtain ⟨u, hu, hx⟩ := List.mem_flatMap.mp hx
          exact List.mem_flatMap.mpr ⟨u, List.mem_of_mem_take hu, hx⟩
      omega
    refine scl (txt1 kd) (txt1_le kd) (SqL.of hp) htz.len hu hD (fun i x t1 H2 Q2 hx ht s2 => ?_) (fun σ H P Q h z => ?_) fun H2 s2 hD2 => ?_
    · have i1 := (htz.get i t1 x ht hx).same s2
      have w1 := (all_wf wf t1 (List.mem_of_getElem? ht)).1
      obtain ⟨q, us, rfl, hq, _, h1⟩ := txt_at (kd := kd) i1 w1
      refine ⟨fun e => ?_, fun c e => ⟨?_, fun z => ?_⟩⟩
      · exact ⟨_, rfl, q, _, _, _, rfl, rfl, SqT.of hq, at_of (j := 0) rfl rfl, _, rfl, rfl, _, rfl, decide_eq_false (fun z => head_kd w1 hk e (by cases z; rfl)), rfl⟩
      · exact ⟨_, rfl, q, _, _, _, rfl, rfl, SqT.of hq, at_of (j := 0) rfl rfl, _, rfl, rfl, _, rfl, decide_eq_true (by rw [(h1 c e).1]), rfl⟩
      · rw [(h1 c e).2] at hq
        exact ⟨_, rfl, q, _, _, _, rfl, rfl, SqT.of hq, at_of (j := 1) rfl rfl, z⟩
    · obtain ⟨_, h1, q, a, b, c, h2, h3, h4, h5, d, h6, h7, e, h8, h9⟩ := z
      exact ⟨_, h1, q, a, b, c, h2, h3, h4, h5, d, h6, h7, e, h8, h _ _ h9⟩
    · refine ⟨D, _, rfl, hD2, fun ys q pm nd so hq => ?_⟩
      have e : ys = uniS (t.txt kd) := uniS_of nd so fun z => by rw [pm.mem_iff, putS_mem, txt_all]; simp
      rw [e]
      exact k q _ ((s1.trans s2).trans (Rd.Same.upd hq)) ((s1.trans s2).free hq) upd_same
end
end Rd
namespace Rd
open PySem L2
section
variable {P : Program} {w : World} {K : PySem.W.Frag} {mg : Str → Option Value} {base : Heap}
abbrev s_filled_tree : Stmt := top 20
theorem sc_filled_tree : FnScope ["tree", "trees", "part"] ["tree", "trees"] (defScope s_filled_tree) := ⟨rfl, rfl, rfl, by decide +kernel, rfl, by decide +kernel, by decide +kernel⟩
theorem ft_step (T : Tx w K mg) (d : Nat) (ih : Fk P w K mg base CX0 (d + 1) "filled_tree" ["tree", "trees"] (spFR d)) : Fk P w K mg base CX0 (d + 2) "filled_tree" ["tree", "trees"] (sp_fill d) := by
  refine T.F_filled_tree.ok0 sc_filled_tree (fun _ _ _ _ _ _ us hl => match us, hl with | [_, _], _ => rfl)
    (fun vs H Q E h => ?_) (fun cdv A outer s H vs Q E hr h => ?_)
  · obtain ⟨v, a, t, m, rfl, _⟩ := h
    rfl
  · obtain ⟨v, a, t, m, rfl, it, wf, dp, hm, k⟩ := h
    refine ⟨_, (pss_cons (ps_if (pt_cmpR op_eq (pe_ix ix_tup (pv 0) pe_int (fun _ _ => rfl)) pe_str (nomark _))
  (pss_one (ps_ret (pe_dget2 (hu_of hr) (pv 1) (pe_ix ix_tup (pv 0) pe_int (fun _ _ => rfl)) (pv 0) ⟨by rfl, by rfl, by rfl, by rfl⟩)))
  pss_nil)
  (pss_cons (ps_if (pt_cmpR (op_inK T.D_SIGNS) (pe_ix ix_tup (pv 0) pe_int (fun _ _ => rfl)) (pe_kd T.D_SIGNS) (by rfl))
  (pss_one (ps_ret (pe_op op_catT (pe_tup (pa_cons (pe_ix ix_tup (pv 0) pe_int (fun _ _ => rfl)) pa_nil)) (pe_callTy call_tuple_of (by rfl) T.z_tuple (by decide +kernel) (pa_cons (pe_lc (own := [("part", 2)]) (g := gName 2) (tt := tYes) (by rfl) sc_filled_tree.nd (pi_tup (pe_slice sl_tup (pv 0) (po_some pe_int) po_none)) (blkOk_by (own := [("part", 2)]) (N := ["tree", "trees", "part"]) (sc := defScope s_filled_tree) (by decide +kernel)) (fun _ _ _ _ _ => (pg_name (i := 2) sc_filled_tree.nd rfl (Or.inl rfl))) (fun _ _ _ _ _ => pts_nil) (fun _ _ _ _ _ => (pe_fk ih (hr.mono (by omega)) rfl pass0 (pa_cons (pv 2) (pa_cons (pv 1) pa_nil))))) pa_nil)))))
  pss_nil)
  (pss_one (ps_ret (pv 0))))), ?_⟩
    have big : 16777216 ≤ sizeLine := by decide
    by_cases hpt : t.parts ≠ []
    · obtain ⟨hsg, hws⟩ := wf.sign hpt
      obtain ⟨pf, us, rfl, hp, hlu, hl2, hne, hus⟩ := it.parts hpt
      have h4 : ¬ decide (V.str t.head = V.str "unknown") = true := by
        have : ∀ z ∈ (["mark", "open", "own", "pair", "seal", "lock"] : List Str), ¬ decide (V.str z = V.str "unknown") = true := by decide +kernel
        exact this _ hsg
      refine ⟨_, rfl, pf, _, _, _, rfl, rfl, SqT.of hp, at_of (j := 0) rfl rfl, rfl, _, rfl, iteN h4 ?_⟩
      refine ⟨_, rfl, pf, _, _, _, rfl, rfl, SqT.of hp, at_of (j := 0) rfl rfl, _, rfl, rfl, _, rfl, iteP (decide_eq_true (mem_to (by decide +kernel) hsg)) ?_⟩
      refine ⟨_, rfl, pf, _, _, _, rfl, rfl, SqT.of hp, at_of (j := 0) rfl rfl, (by show 1 ≤ sizeLine; decide), fun q hq => ?_⟩
      have sq := Rd.Same.upd (o := .tup [.str t.head]) hq
      have hq1 : upd H q (.tup [.str t.head]) q = some (.tup [.str t.head]) := upd_same
      generalize upd H q (.tup [.str t.head]) = Hq at sq hq1
      refine ⟨_, rfl, _, rfl, pf, _, rfl, SqT.of (sq _ _ hp), ?_, fun p2 hp2 => ?_⟩
      · rintro ⟨z, _⟩
        rw [show (1 : Int) = ((1 : Nat) : Int) from rfl, HT.sIx_nat, List.length_cons] at z
        omega
      rw [cut1]
      have s2 := Rd.Same.upd (o := .tup us) hp2
      refine ⟨p2, rfl, ⟨_, SqT.of upd_same⟩, fun D hD => ?_⟩
      refine lct (C := 0) (fun i H v => ∃ r, t.parts[i]? = some r ∧ IsT H (fill m r) v) (fun i H H' v kp h => ?_) (SqT.of upd_same) (by omega) hD (fun i x H1 Q1 hx s1 k1 => ?_) fun vs H1 s1 hD1 hlv hvs => ?_
      · obtain ⟨r, e, h⟩ := h
        exact ⟨r, e, h.mono kp⟩
      · obtain ⟨r, hr1, hr2⟩ := hus i x hx
        obtain ⟨w1, w2⟩ := hws r (List.mem_of_getElem? hr1)
        have s01 := (sq.trans s2).trans s1
        cases d with
        | zero => exact absurd dp (by omega)
        | succ d => exact ⟨_, rfl, _, rfl, x, a, r, m, rfl, hr2.same s01, w1, (by omega), hm.same s01, fun u H' s' hu => k1 _ H' s' ⟨r, hr1, hu⟩⟩
      have hlv2 : vs.length = t.parts.length := hlv.trans hlu
      refine ⟨D, vs, rfl, .inl ⟨SqL.of hD1, fun l' hl' => ?_⟩⟩
      have sl := Rd.Same.upd (o := .tup vs) hl'
      have sb := (s2.trans s1).trans sl
      refine ⟨q, l', [.str t.head], vs, rfl, rfl, SqT.of (sb _ _ hq1), SqT.of upd_same, (fun e => by cases e), (by show 1 + vs.length ≤ sizeLine; omega), fun e => ?_, fun _ p hp3 => ?_⟩
      · subst e
        exact absurd hlv (by intro h; exact hpt (List.length_eq_zero_iff.mp (by rw [← hlv2]; rfl)))
      have sp := Rd.Same.upd (o := .tup ([.str t.head] ++ vs)) hp3
      refine k (.ref p) _ ((sq.trans sb).trans sp) (fill_tup hpt upd_same hlv2 fun i v hv => ?_)
      obtain ⟨r, e, h⟩ := hvs i v hv
      exact ⟨r, e, (h.same sl).same sp⟩
    · cases wf with
      | @am k0 x0 ko =>
        have ikeep := it
        obtain ⟨pf, rfl, hp⟩ := it
        refine ⟨_, rfl, pf, _, _, _, rfl, rfl, SqT.of hp, at_of (j := 0) rfl rfl, rfl, _, rfl, ?_⟩
        rcases ko with ⟨rfl, hx⟩ | ⟨rfl, hx⟩ | ⟨rfl, hx⟩
        · refine iteN (by decide +kernel) ?_
          refine ⟨_, rfl, pf, _, _, _, rfl, rfl, SqT.of hp, at_of (j := 0) rfl rfl, _, rfl, rfl, _, rfl, iteN (by decide +kernel) ?_⟩
          refine ⟨_, rfl, k _ H (Same.refl _) ?_⟩
          rw [fill, if_neg (by decide +kernel)]
          exact ikeep
        · refine iteN (by decide +kernel) ?_
          refine ⟨_, rfl, pf, _, _, _, rfl, rfl, SqT.of hp, at_of (j := 0) rfl rfl, _, rfl, rfl, _, rfl, iteN (by decide +kernel) ?_⟩
          refine ⟨_, rfl, k _ H (Same.refl _) ?_⟩
          rw [fill, if_neg (by decide +kernel)]
          exact ikeep
        · refine iteP (by decide +kernel) ?_
          obtain ⟨o, g1, g2, g3⟩ := hm.get (x := x0)
          refine ⟨_, rfl, a, rfl, hm.isD, _, rfl, pf, _, _, _, rfl, rfl, SqT.of hp, at_of (j := 1) rfl rfl, _, rfl, o, g1, k _ H (Same.refl _) ?_⟩
          rw [fill, if_pos rfl]
          cases e : m x0 with
          | none => rw [g3 e]; exact ikeep
          | some t => obtain ⟨v, e2, iv⟩ := g2 t e; rw [e2]; exact iv
      | _ => exact absurd (fun e => by cases e) hpt
theorem ft_none (T : Tx w K mg) : Fk P w K mg base CX0 1 "filled_tree" ["tree", "trees"] (spFR 0) := by
  refine T.F_filled_tree.ok0 sc_filled_tree (fun _ _ _ _ _ _ us hl => match us, hl with | [_, _], _ => rfl) (fun vs H Q E h => h.elim) (fun cdv A outer s H vs Q E hr h => h.elim)
theorem ok_filled_tree (T : Tx w K mg) : ∀ d : Nat, Fk P w K mg base CX0 (d + 2) "filled_tree" ["tree", "trees"] (sp_fill d)
  | 0 => ft_step T 0 (ft_none T)
  | d + 1 => ft_step T (d + 1) (ok_filled_tree T d)
end
end Rd
namespace Rd
open PySem L2
section
variable {P : Program} {w : World} {K : PySem.W.Frag} {mg : Str → Option Value} {base : Heap}
abbrev s__law_filled : Stmt := top 40
theorem sc__law_filled : FnScope ["_law_form_here", "_law_forms", "_law_part"] ["_law_form_here", "_law_forms"] (defScope s__law_filled) := ⟨rfl, rfl, rfl, by decide +kernel, rfl, by decide +kernel, by decide +kernel⟩
theorem lf_step (T : Tx w K mg) (d : Nat) (ih : Fk P w K mg base CX0 (d + 1) "_law_filled" ["_law_form_here", "_law_forms"] (spFR d)) : Fk P w K mg base CX0 (d + 2) "_law_filled" ["_law_form_here", "_law_forms"] (sp_fill d) := by
  refine T.F__law_filled.ok0 sc__law_filled (fun _ _ _ _ _ _ us hl => match us, hl with | [_, _], _ => rfl)
    (fun vs H Q E h => ?_) (fun cdv A outer s H vs Q E hr h => ?_)
  · obtain ⟨v, a, t, m, rfl, _⟩ := h
    rfl
  · obtain ⟨v, a, t, m, rfl, it, wf, dp, hm, k⟩ := h
    refine ⟨_, (pss_cons (ps_if (pt_cmpR op_eq (pe_ix ix_tup (pv 0) pe_int (fun _ _ => rfl)) pe_str (nomark _))
  (pss_one (ps_ret (pe_dget2 (hu_of hr) (pv 1) (pe_ix ix_tup (pv 0) pe_int (fun _ _ => rfl)) (pv 0) ⟨by rfl, by rfl, by rfl, by rfl⟩)))
  pss_nil)
  (pss_cons (ps_if (pt_cmpR op_inT (pe_ix ix_tup (pv 0) pe_int (fun _ _ => rfl)) (pe_tup (pa_cons pe_str (pa_cons pe_str pa_nil))) (by rfl))
  (pss_one (ps_ret (pv 0)))
  pss_nil)
  (pss_one (ps_ret (pe_op op_catT (pe_tup (pa_cons (pe_ix ix_tup (pv 0) pe_int (fun _ _ => rfl)) pa_nil)) (pe_callTy call_tuple_of (by rfl) T.z_tuple (by decide +kernel) (pa_cons (pe_lc (own := [("_law_part", 2)]) (g := gName 2) (tt := tYes) (by rfl) sc__law_filled.nd (pi_tup (pe_slice sl_tup (pv 0) (po_some pe_int) po_none)) (blkOk_by (own := [("_law_part", 2)]) (N := ["_law_form_here", "_law_forms", "_law_part"]) (sc := defScope s__law_filled) (by decide +kernel)) (fun _ _ _ _ _ => (pg_name (i := 2) sc__law_filled.nd rfl (Or.inl rfl))) (fun _ _ _ _ _ => pts_nil) (fun _ _ _ _ _ => (pe_fk ih (hr.mono (by omega)) rfl pass0 (pa_cons (pv 2) (pa_cons (pv 1) pa_nil))))) pa_nil))))))), ?_⟩
    have big : 16777216 ≤ sizeLine := by decide
    by_cases hpt : t.parts ≠ []
    · obtain ⟨hsg, hws⟩ := wf.sign hpt
      obtain ⟨pf, us, rfl, hp, hlu, hl2, hne, hus⟩ := it.parts hpt
      have h4 : ¬ decide (V.str t.head = V.str "unknown") = true := by
        have : ∀ z ∈ (["mark", "open", "own", "pair", "seal", "lock"] : List Str), ¬ decide (V.str z = V.str "unknown") = true := by decide +kernel
        exact this _ hsg
      have h5 : ¬ decide (t.head ∈ (["word", "name"] : List Str)) = true := by
        have : ∀ z ∈ (["mark", "open", "own", "pair", "seal", "lock"] : List Str), ¬ decide (z ∈ (["word", "name"] : List Str)) = true := by decide +kernel
        exact this _ hsg
      refine ⟨_, rfl, pf, _, _, _, rfl, rfl, SqT.of hp, at_of (j := 0) rfl rfl, rfl, _, rfl, iteN h4 ?_⟩
      refine ⟨_, rfl, pf, _, _, _, rfl, rfl, SqT.of hp, at_of (j := 0) rfl rfl, (by show 2 ≤ sizeLine; decide), fun q0 hq0 => ⟨_, q0, ["word", "name"], rfl, rfl, SqT.of upd_same, _, rfl, iteN h5 ?_⟩⟩
      have s0 := Rd.Same.upd (o := .tup [.str "word", .str "name"]) hq0
      generalize upd H q0 (.tup [.str "word", .str "name"]) = H0 at s0
      refine ⟨_, rfl, pf, _, _, _, rfl, rfl, SqT.of (s0 _ _ hp), at_of (j := 0) rfl rfl, (by show 1 ≤ sizeLine; decide), fun q hq => ?_⟩
      have sq := s0.trans (Rd.Same.upd (o := .tup [.str t.head]) hq)
      have hq1 : upd H0 q (.tup [.str t.head]) q = some (.tup [.str t.head]) := upd_same
      generalize upd H0 q (.tup [.str t.head]) = Hq at sq hq1
      refine ⟨_, rfl, _, rfl, pf, _, rfl, SqT.of (sq _ _ hp), ?_, fun p2 hp2 => ?_⟩
      · rintro ⟨z, _⟩
        rw [show (1 : Int) = ((1 : Nat) : Int) from rfl, HT.sIx_nat, List.length_cons] at z
        omega
      rw [cut1]
      have s2 := Rd.Same.upd (o := .tup us) hp2
      refine ⟨p2, rfl, ⟨_, SqT.of upd_same⟩, fun D hD => ?_⟩
      refine lct (C := 0) (fun i H v => ∃ r, t.parts[i]? = some r ∧ IsT H (fill m r) v) (fun i H H' v kp h => ?_) (SqT.of upd_same) (by omega) hD (fun i x H1 Q1 hx s1 k1 => ?_) fun vs H1 s1 hD1 hlv hvs => ?_
      · obtain ⟨r, e, h⟩ := h
        exact ⟨r, e, h.mono kp⟩
      · obtain ⟨r, hr1, hr2⟩ := hus i x hx
        obtain ⟨w1, w2⟩ := hws r (List.mem_of_getElem? hr1)
        have s01 := (sq.trans s2).trans s1
        cases d with
        | zero => exact absurd dp (by omega)
        | succ d => exact ⟨_, rfl, _, rfl, x, a, r, m, rfl, hr2.same s01, w1, (by omega), hm.same s01, fun u H' s' hu => k1 _ H' s' ⟨r, hr1, hu⟩⟩
      have hlv2 : vs.length = t.parts.length := hlv.trans hlu
      refine ⟨D, vs, rfl, .inl ⟨SqL.of hD1, fun l' hl' => ?_⟩⟩
      have sl := Rd.Same.upd (o := .tup vs) hl'
      have sb := (s2.trans s1).trans sl
      refine ⟨q, l', [.str t.head], vs, rfl, rfl, SqT.of (sb _ _ hq1), SqT.of upd_same, (fun e => by cases e), (by show 1 + vs.length ≤ sizeLine; omega), fun e => ?_, fun _ p hp3 => ?_⟩
      · subst e
        exact absurd hlv (by intro h; exact hpt (List.length_eq_zero_iff.mp (by rw [← hlv2]; rfl)))
      have sp := Rd.Same.upd (o := .tup ([.str t.head] ++ vs)) hp3
      refine k (.ref p) _ ((sq.trans sb).trans sp) (fill_tup hpt upd_same hlv2 fun i v hv => ?_)
      obtain ⟨r, e, h⟩ := hvs i v hv
      exact ⟨r, e, (h.same sl).same sp⟩
    · cases wf with
      | @am k0 x0 ko =>
        have ikeep := it
        obtain ⟨pf, rfl, hp⟩ := it
        refine ⟨_, rfl, pf, _, _, _, rfl, rfl, SqT.of hp, at_of (j := 0) rfl rfl, rfl, _, rfl, ?_⟩
        rcases ko with ⟨rfl, hx⟩ | ⟨rfl, hx⟩ | ⟨rfl, hx⟩
        · refine iteN (by decide +kernel) ?_
          refine ⟨_, rfl, pf, _, _, _, rfl, rfl, SqT.of hp, at_of (j := 0) rfl rfl, (by show 2 ≤ sizeLine; decide), fun q0 hq0 => ⟨_, q0, ["word", "name"], rfl, rfl, SqT.of upd_same, _, rfl, iteP (by decide +kernel) ?_⟩⟩
          refine ⟨_, rfl, k _ _ (Rd.Same.upd hq0) ?_⟩
          rw [fill, if_neg (by decide +kernel)]
          exact ikeep.same (Rd.Same.upd hq0)
        · refine iteN (by decide +kernel) ?_
          refine ⟨_, rfl, pf, _, _, _, rfl, rfl, SqT.of hp, at_of (j := 0) rfl rfl, (by show 2 ≤ sizeLine; decide), fun q0 hq0 => ⟨_, q0, ["word", "name"], rfl, rfl, SqT.of upd_same, _, rfl, iteP (by decide +kernel) ?_⟩⟩
          refine ⟨_, rfl, k _ _ (Rd.Same.upd hq0) ?_⟩
          rw [fill, if_neg (by decide +kernel)]
          exact ikeep.same (Rd.Same.upd hq0)
        · refine iteP (by decide +kernel) ?_
          obtain ⟨o, g1, g2, g3⟩ := hm.get (x := x0)
          refine ⟨_, rfl, a, rfl, hm.isD, _, rfl, pf, _, _, _, rfl, rfl, SqT.of hp, at_of (j := 1) rfl rfl, _, rfl, o, g1, k _ H (Same.refl _) ?_⟩
          rw [fill, if_pos rfl]
          cases e : m x0 with
          | none => rw [g3 e]; exact ikeep
          | some t => obtain ⟨v, e2, iv⟩ := g2 t e; rw [e2]; exact iv
      | _ => exact absurd (fun e => by cases e) hpt
theorem lf_none (T : Tx w K mg) : Fk P w K mg base CX0 1 "_law_filled" ["_law_form_here", "_law_forms"] (spFR 0) := by
  refine T.F__law_filled.ok0 sc__law_filled (fun _ _ _ _ _ _ us hl => match us, hl with | [_, _], _ => rfl) (fun vs H Q E h => h.elim) (fun cdv A outer s H vs Q E hr h => h.elim)
theorem ok__law_filled (T : Tx w K mg) : ∀ d : Nat, Fk P w K mg base CX0 (d + 2) "_law_filled" ["_law_form_here", "_law_forms"] (sp_fill d)
  | 0 => lf_step T 0 (lf_none T)
  | d + 1 => lf_step T (d + 1) (ok__law_filled T d)
end
end Rd
namespace Rd
open PySem L2
def mtl : Tr → Tr → List (Str × Tr) → Bool × List (Str × Tr)
  | .am k x, t, l => if k = "unknown" then (match look l x with
    | some u => (decide (u = t), l)
    | none => (true, l ++ [(x, t)])) else (decide (Tr.am k x = t), l)
  | .un s a, t, l => match t with
    | .un s' b => if s = s' then mtl a b l else (false, l)
    | _ => (false, l)
  | .bi s a b, t, l => match t with
    | .bi s' c d => if s = s' then (if (mtl a c l).1 = true then mtl b d (mtl a c l).2 else (false, (mtl a c l).2)) else (false, l)
    | _ => (false, l)
def mtls : List (Tr × Tr) → List (Str × Tr) → Bool × List (Str × Tr)
  | [], l => (true, l)
  | p :: r, l => if (mtl p.1 p.2 l).1 = true then mtls r (mtl p.1 p.2 l).2 else (false, (mtl p.1 p.2 l).2)
theorem mtls_one {p : Tr × Tr} {l : List (Str × Tr)} : mtls [p] l = mtl p.1 p.2 l := by
  rw [mtls, mtls]
  rcases e : mtl p.1 p.2 l with ⟨b, l'⟩
  cases b <;> rfl
theorem sgNe {s s' : Str} (h1 : s ∈ (["mark", "open", "own"] : List Str)) (h2 : s' ∈ (["pair", "seal", "lock"] : List Str)) : s ≠ s' := by
  have : ∀ a ∈ (["mark", "open", "own"] : List Str), ∀ b ∈ (["pair", "seal", "lock"] : List Str), a ≠ b := by decide +kernel
  exact this _ h1 _ h2
theorem sgNk {s k x : Str} (h1 : s ∈ (["mark", "open", "own", "pair", "seal", "lock"] : List Str)) (h2 : kindOk k x) : s ≠ k := by
  have : ∀ a ∈ (["mark", "open", "own", "pair", "seal", "lock"] : List Str), ∀ b ∈ (["word", "name", "unknown"] : List Str), a ≠ b := by decide +kernel
  refine this _ h1 _ ?_
  rcases h2 with ⟨rfl, _⟩ | ⟨rfl, _⟩ | ⟨rfl, _⟩ <;> decide +kernel
theorem Wf.shape {t : Tr} (h : Wf t) : (∃ k x, t = .am k x ∧ kindOk k x) ∨ (∃ s a, t = .un s a ∧ s ∈ (["mark", "open", "own"] : List Str)) ∨ ∃ s a b, t = .bi s a b ∧ s ∈ (["pair", "seal", "lock"] : List Str) := by
  cases h with
  | am ko => exact .inl ⟨_, _, rfl, ko⟩
  | un hs _ => exact .inr (.inl ⟨_, _, rfl, hs⟩)
  | bi hs _ _ => exact .inr (.inr ⟨_, _, _, rfl, mem_to (by decide +kernel) hs⟩)
  | lk hs _ _ => exact .inr (.inr ⟨_, _, _, rfl, by decide +kernel⟩)
theorem mtl_head {p t : Tr} {l : List (Str × Tr)} (hp : p.parts ≠ []) (hh : p.head ≠ t.head) : mtl p t l = (false, l) := by
  cases p with
  | am k x => exact absurd rfl hp
  | un s a =>
    cases t with
    | un s' b => rw [mtl]; exact if_neg hh
    | _ => rfl
  | bi s a b =>
    cases t with
    | bi s' c d => rw [mtl]; exact if_neg hh
    | _ => rfl
theorem mtl_parts {p t : Tr} {l : List (Str × Tr)} (hp : p.parts ≠ []) (wp : Wf p) (wt : Wf t) (hh : p.head = t.head) : mtl p t l = mtls (p.parts.zip t.parts) l ∧ p.parts.length = t.parts.length := by
  rcases wp.shape with ⟨k, x, rfl, ko⟩ | ⟨s, a, rfl, hs⟩ | ⟨s, a, b, rfl, hs⟩
  · exact absurd rfl hp
  · rcases wt.shape with ⟨k, x, rfl, ko⟩ | ⟨s', a', rfl, hs'⟩ | ⟨s', a', b', rfl, hs'⟩
    · exact absurd hh (sgNk (mem_to (by decide +kernel) hs) ko)
    · have hh : s = s' := hh
      subst hh
      refine ⟨?_, rfl⟩
      show _ = mtls [(a, a')] l
      rw [mtls_one, mtl, if_pos rfl]
    · exact absurd hh (sgNe hs hs')
  · rcases wt.shape with ⟨k, x, rfl, ko⟩ | ⟨s', a', rfl, hs'⟩ | ⟨s', a', b', rfl, hs'⟩
    · exact absurd hh (sgNk (mem_to (by decide +kernel) hs) ko)
    · exact absurd hh.symm (sgNe hs' hs)
    · have hh : s = s' := hh
      subst hh
      refine ⟨?_, rfl⟩
      show _ = mtls [(a, a'), (b, b')] l
      rw [mtls, mtls_one, mtl, if_pos rfl]
def Bn (n : Nat) (l : List (Str × Tr)) : Prop := l.length ≤ n ∧ (l.map (·.1)).Nodup ∧ ∀ p ∈ l, Wf p.2 ∧ p.2.dep ≤ 60
theorem Bn.mono {n m : Nat} {l : List (Str × Tr)} (h : Bn n l) (e : n ≤ m) : Bn m l := ⟨Nat.le_trans h.1 e, h.2⟩
theorem Bn.snoc {n : Nat} {l : List (Str × Tr)} {x : Str} {t : Tr} (h : Bn n l) (e : look l x = none) (w : Wf t) (d : t.dep ≤ 60) : Bn (n + 1) (l ++ [(x, t)]) := by
  obtain ⟨h1, h2, h3⟩ := h
  refine ⟨by rw [List.length_append]; exact Nat.succ_le_succ h1, ?_, fun p hp => ?_⟩
  · rw [List.map_append]
    refine List.nodup_append.mpr ⟨h2, by simp, fun a ha b hb z => ?_⟩
    have hb : b = x := by simpa using hb
    obtain ⟨q, hq, eq⟩ := List.mem_map.mp ha
    obtain ⟨i, hi⟩ := List.getElem?_of_mem hq
    obtain ⟨y, u⟩ := q
    have hy : y = x := by rw [← hb, ← z]; exact eq
    subst hy
    rw [look_get h2 hi] at e
    cases e
  · rcases List.mem_append.mp hp with h | h
    · exact h3 p h
    · have : p = (x, t) := by simpa using h
      subst this
      exact ⟨w, d⟩
def MR (p t : Tr) (l : List (Str × Tr)) (b : Bool) (l' : List (Str × Tr)) : Prop := b = (mtl p t l).1 ∧ (b = true → l' = (mtl p t l).2)
def sp_mt (d : Nat) : Sp := fun vs H Q _ => ∃ (v1 v2 : V) (B : Addr) (p t : Tr) (kvs : List (Key × V)) (l : List (Str × Tr)) (n : Nat), vs = [v1, v2, .ref B] ∧ IsT H p v1 ∧ IsT H t v2 ∧ Wf p ∧ Wf t ∧ p.dep ≤ d ∧ t.dep ≤ 60 ∧ H B = some (.dK kvs) ∧ Al IsT H l kvs ∧ Bn n l ∧ n + p.nod + 1 ≤ 8000000 ∧
  ∀ b l' kvs' H', But B H H' → H' B = some (.dK kvs') → Al IsT H' l' kvs' → Bn (n + p.nod + 1) l' → MR p t l b l' → Q (.bl b) H'
def spMR : Nat → Sp
  | 0 => fun _ _ _ _ => False
  | d + 1 => sp_mt d
end Rd
namespace Rd
open PySem L2
theorem look_mem {l : List (Str × Tr)} {x : Str} {t : Tr} (h : look l x = some t) : (x, t) ∈ l := by
  unfold look at h
  cases e : l.find? (fun p => decide (p.1 = x)) with
  | none => rw [e] at h; cases h
  | some p =>
    rw [e] at h
    have h1 := List.mem_of_find?_eq_some e
    have h2 := List.find?_some e
    have h3 : p.1 = x := of_decide_eq_true h2
    cases h
    rw [← h3]
    exact h1
theorem sum_take (l : List (Tr × Tr)) : ∀ i : Nat, ((l.take i).map fun q => q.1.nod + 1).sum ≤ (l.map fun q => q.1.nod + 1).sum := by
  induction l with
  | nil => intro i; simp
  | cons a l ih =>
    intro i
    cases i with
    | zero => simp
    | succ i =>
      have := ih i
      simp only [List.take_succ_cons, List.map_cons, List.sum_cons]
      omega
theorem nod_sum (p : Tr) (l : List Tr) : ((p.parts.zip l).map fun q => q.1.nod + 1).sum ≤ p.nod + 1 := by
  cases p with
  | am k x => exact Nat.zero_le _
  | un s a =>
    cases l with
    | nil => exact Nat.zero_le _
    | cons x l =>
      show a.nod + 1 + 0 ≤ a.nod + 1 + 1
      omega
  | bi s a b =>
    cases l with
    | nil => exact Nat.zero_le _
    | cons x l =>
      cases l with
      | nil =>
        show a.nod + 1 + 0 ≤ a.nod + b.nod + 1 + 1
        omega
      | cons y l =>
        show a.nod + 1 + (b.nod + 1 + 0) ≤ a.nod + b.nod + 1 + 1
        omega
end Rd
namespace Rd
open PySem L2
section
variable {P : Program} {w : World} {K : PySem.W.Frag} {mg : Str → Option Value} {base : Heap}
abbrev s__law_matched : Stmt := top 41
theorem sc__law_matched : FnScope ["_law_pattern", "_law_form_here", "_law_bound", "_law_one", "_law_other"] ["_law_pattern", "_law_form_here", "_law_bound"] (defScope s__law_matched) := ⟨rfl, rfl, rfl, by decide +kernel, rfl, by decide +kernel, by decide +kernel⟩
theorem lm_step (T : Tx w K mg) (d : Nat) (h60 : d ≤ 60) (ih : Fk P w K mg base CX0 (d + 1) "_law_matched" ["_law_pattern", "_law_form_here", "_law_bound"] (spMR d)) : Fk P w K mg base CX0 (d + 2) "_law_matched" ["_law_pattern", "_law_form_here", "_law_bound"] (sp_mt d) := by
  refine T.F__law_matched.ok0 sc__law_matched (fun _ _ _ _ _ _ us hl => match us, hl with | [_, _, _], _ => rfl)
    (fun vs H Q E h => ?_) (fun cdv A outer s H vs Q E hr h => ?_)
  · obtain ⟨v1, v2, B, p, t, kvs, l, n, rfl, _⟩ := h
    rfl
  · obtain ⟨v1, v2, B, p, t, kvs, l, n, rfl, ip, it, wp, wt, dp, dt, hB, al, bn, hn, k⟩ := h
    refine ⟨_, (pss_cons (ps_if (pt_cmpR op_eq (pe_ix ix_tup (pv 0) pe_int (fun _ _ => rfl)) pe_str (nomark _))
  (pss_cons (ps_if (pt_cmp (pc_dnotin (hu_of hr) (pe_ix ix_tup (pv 0) pe_int (fun _ _ => rfl)) (pv 2)))
  (pss_one (ps_dput (hu_of hr) (pv 2) (pe_ix ix_tup (pv 0) pe_int (fun _ _ => rfl)) (pv 1) (by rfl)))
  pss_nil)
  (pss_one (ps_ret (pe_cmpR (op_eqD hr.units) (pe_dget (hu_of hr) (pv 2) (pe_ix ix_tup (pv 0) pe_int (fun _ _ => rfl)) (fun _ _ => rfl)) (pv 1) (nomark _)))))
  pss_nil)
  (pss_cons (ps_if (PW.pt (pw_or (pt_cmpR op_inT (pe_ix ix_tup (pv 0) pe_int (fun _ _ => rfl)) (pe_tup (pa_cons pe_str (pa_cons pe_str pa_nil))) (by rfl)) (pw_or1 (pt_cmpR op_ne (pe_ix ix_tup (pv 0) pe_int (fun _ _ => rfl)) (pe_ix ix_tup (pv 1) pe_int (fun _ _ => rfl)) (nomark _)))))
  (pss_one (ps_ret (pe_cmpR (op_eqD hr.units) (pv 0) (pv 1) (nomark _))))
  pss_nil)
  (pss_cons (ps_for PassesOwn.never rfl (pi_zipTk (K := K) rfl rfl T.z_zip (pa_cons (pe_slice sl_tup (pv 0) (po_some pe_int) po_none) (pa_cons (pe_slice sl_tup (pv 1) (po_some pe_int) po_none) pa_nil))) (pg_tup rfl (pgs_cons (pg_name (i := 3) sc__law_matched.nd rfl (Or.inl rfl)) (pgs_cons (pg_name (i := 4) sc__law_matched.nd rfl (Or.inl rfl)) pgs_nil)))
  (pss_one (ps_if (pt_not (pt_val (pe_fk ih (hr.mono (by omega)) rfl pass0 (pa_cons (pv 3) (pa_cons (pv 4) (pa_cons (pv 2) pa_nil))))))
  (pss_one (ps_ret pe_bl))
  pss_nil)))
  (pss_one (ps_ret pe_bl))))), ?_⟩
    have big : 16777216 ≤ sizeLine := by decide
    have wt' := wt.fine
    have hlen := al.len
    have hln := bn.1
    have dtk := dat_shaped wt' dt
    by_cases hpt : p.parts ≠ []
    · obtain ⟨hsg, hws⟩ := wp.sign hpt
      have wp' := wp.fine
      have ikeep := ip
      have tkeep := it
      obtain ⟨pf, us, rfl, hp, hlu, hl2, hne, hus⟩ := ip.parts hpt
      obtain ⟨pg, us2, rfl, hp2⟩ := it.hd
      have h4 : ¬ decide (V.str p.head = V.str "unknown") = true := by
        have : ∀ z ∈ (["mark", "open", "own", "pair", "seal", "lock"] : List Str), ¬ decide (V.str z = V.str "unknown") = true := by decide +kernel
        exact this _ hsg
      refine ⟨_, rfl, pf, _, _, _, rfl, rfl, SqT.of hp, at_of (j := 0) rfl rfl, rfl, _, rfl, iteN h4 (nxt ?_)⟩
      try dsimp only
      have h5 : ¬ (p.head ∈ (["word", "name"] : List Str)) := by
        have : ∀ z ∈ (["mark", "open", "own", "pair", "seal", "lock"] : List Str), ¬ (z ∈ (["word", "name"] : List Str)) := by decide +kernel
        exact this _ hsg
      have tb1 : ∀ {Q2 : Bool → Hp → Prop}, (∀ H', Same H H' → Q2 false H') → 2 ≤ sizeLine ∧ ∀ q0, H q0 = none → ∃ (x : Str) (b : Addr) (xs : List Str), (V.str p.head : V) = .str x ∧ (V.ref q0 : V) = .ref b ∧ SqT K (upd H q0 (.tup [.str "word", .str "name"])) b (xs.map V.str) ∧ ∃ k, V.bl (decide (x ∈ xs)) = .bl k ∧ Q2 k (upd H q0 (.tup [.str "word", .str "name"])) := fun kq => ⟨by decide, fun q0 hq0 => ⟨_, q0, ["word", "name"], rfl, rfl, SqT.of upd_same, _, rfl, by rw [decide_eq_false h5]; exact kq _ (Rd.Same.upd hq0)⟩⟩
      by_cases hh : p.head = t.head
      · refine seqIf (tb_or (b := false) (c := false) (fun Q2 kq => ⟨_, rfl, pf, _, _, _, rfl, rfl, SqT.of hp, at_of (j := 0) rfl rfl, tb1 kq⟩) (fun H' s' _ Q2 kq => ?_)) fun H0 s0 => iteF (nxt ?_)
        · refine ⟨_, rfl, pf, _, _, _, rfl, rfl, SqT.of (s' _ _ hp), at_of (j := 0) rfl rfl, _, rfl, pg, _, _, _, rfl, rfl, SqT.of (s' _ _ hp2), at_of (j := 0) rfl rfl, rfl, _, rfl, ?_⟩
          rw [hh, decide_eq_true rfl]
          exact kq _ (Same.refl _)
        try dsimp only
        obtain ⟨em, el⟩ := mtl_parts (l := l) hpt wp wt hh
        have htp : t.parts ≠ [] := fun e => hpt (List.length_eq_zero_iff.mp (by rw [el, e]; rfl))
        obtain ⟨pg', us', e', hp2', hlu2, _, _, hus2⟩ := it.parts htp
        cases e'
        rw [hp2] at hp2'
        cases hp2'
        have hwt := (wt.sign htp).2
        refine ⟨_, rfl, _, rfl, pf, _, rfl, SqT.of (s0 _ _ hp), ?_, fun p2 hp2n => ?_⟩
        · rintro ⟨z, _⟩
          rw [show (1 : Int) = ((1 : Nat) : Int) from rfl, HT.sIx_nat, List.length_cons] at z
          omega
        rw [cut1]
        have s2 := s0.trans (Rd.Same.upd (o := .tup us) hp2n)
        have h22 : upd H0 p2 (.tup us) p2 = some (.tup us) := upd_same
        generalize upd H0 p2 (.tup us) = H2 at s2 h22 ⊢
        refine ⟨_, rfl, _, rfl, pg, _, rfl, SqT.of (s2 _ _ hp2), ?_, fun p3 hp3 => ?_⟩
        · rintro ⟨z, _⟩
          rw [show (1 : Int) = ((1 : Nat) : Int) from rfl, HT.sIx_nat, List.length_cons] at z
          omega
        rw [cut1]
        have sx := Rd.Same.upd (o := .tup us2) hp3
        have s3 := s2.trans sx
        have h23 := sx _ _ h22
        have h33 : upd H2 p3 (.tup us2) p3 = some (.tup us2) := upd_same
        generalize upd H2 p3 (.tup us2) = H3 at s3 h23 h33 ⊢
        have hB3 := s3 _ _ hB
        have n2B : p2 ≠ B := fun z => by rw [z, hB3] at h23; cases h23
        have n3B : p3 ≠ B := fun z => by rw [z, hB3] at h33; cases h33
        have hzl : (p.parts.zip t.parts).length = us.length := by rw [List.length_zip, ← el, Nat.min_self, hlu]
        have hsum : (((p.parts.zip t.parts)).map fun q => q.1.nod + 1).sum ≤ p.nod + 1 := nod_sum p t.parts
        have kp0 : ∀ {Hc : Hp}, (∀ c o, c ≠ B → H3 c = some o → Hc c = some o) → Kp 0 H3 Hc := fun {Hc} fr c o hi e => fr c o (fun z => by rw [z, hB3] at e; cases e; cases hi) e
        refine ⟨p2, p3, us, us2, rfl, SqT.of h23, SqT.of h33, ?_⟩
        refine ⟨fun i m σ Hc => m = us.length - i ∧ i ≤ us.length ∧ (∃ t3 t4 : Option V, σ = [some (.ref pf), some (.ref pg), some (.ref B), t3, t4]) ∧ (∀ c o, c ≠ B → H3 c = some o → Hc c = some o) ∧ ∃ (lc : List (Str × Tr)) (kc : List (Key × V)), Hc B = some (.dK kc) ∧ Al IsT Hc lc kc ∧ Bn (n + (((p.parts.zip t.parts).take i).map fun q => q.1.nod + 1).sum) lc ∧ mtls (p.parts.zip t.parts) l = mtls ((p.parts.zip t.parts).drop i) lc, ⟨_, rfl, Nat.zero_le _, ⟨_, _, rfl⟩, fun c o _ e => e, l, kvs, hB3, al.mono (S := IsT) (fun t v h => h.same s3), bn, rfl⟩, ?_⟩
        rintro i m σ Hc ⟨rfl, hi, ⟨t3, t4, rfl⟩, fr, lc, kc, hBc, alc, bnc, ht⟩
        by_cases hlt : i < us.length
        · obtain ⟨r1, hr1, ir1⟩ := hus i us[i] (List.getElem?_eq_getElem hlt)
          have hlt2 : i < us2.length := by omega
          obtain ⟨r2, hr2, ir2⟩ := hus2 i us2[i] (List.getElem?_eq_getElem hlt2)
          obtain ⟨w1, w2⟩ := hws r1 (List.mem_of_getElem? hr1)
          obtain ⟨w3, w4⟩ := hwt r2 (List.mem_of_getElem? hr2)
          have hz : (p.parts.zip t.parts)[i]? = some (r1, r2) := List.getElem?_zip_eq_some.mpr ⟨hr1, hr2⟩
          have etk : (p.parts.zip t.parts).take (i + 1) = (p.parts.zip t.parts).take i ++ [(r1, r2)] := by rw [List.take_succ, hz]; rfl
          have edr : (p.parts.zip t.parts).drop i = (r1, r2) :: (p.parts.zip t.parts).drop (i + 1) := by
            obtain ⟨h1, h2⟩ := List.getElem?_eq_some_iff.mp hz
            rw [← h2]
            exact List.drop_eq_getElem_cons h1
          have hsum2 : (((p.parts.zip t.parts).take (i + 1)).map fun q => q.1.nod + 1).sum ≤ p.nod + 1 := Nat.le_trans (sum_take _ (i + 1)) hsum
          rw [etk, List.map_append, List.sum_append] at hsum2
          have hsum3 : (((p.parts.zip t.parts).take i).map fun q => q.1.nod + 1).sum + (r1.nod + 1) ≤ p.nod + 1 := hsum2
          have q2 : SqT K Hc p2 us := SqT.of (fr _ _ n2B h23)
          have q3 : SqT K Hc p3 us2 := SqT.of (fr _ _ n3B h33)
          refine .inr ⟨⟨us, us2, us[i], us2[i], q2, q3, List.getElem?_eq_getElem hlt, List.getElem?_eq_getElem hlt2⟩, fun σ Hc => (∃ t3 t4 : Option V, σ = [some (.ref pf), some (.ref pg), some (.ref B), t3, t4]) ∧ (∀ c o, c ≠ B → H3 c = some o → Hc c = some o) ∧ ∃ (lc : List (Str × Tr)) (kc : List (Key × V)), Hc B = some (.dK kc) ∧ Al IsT Hc lc kc ∧ Bn (n + (((p.parts.zip t.parts).take (i + 1)).map fun q => q.1.nod + 1).sum) lc ∧ mtls (p.parts.zip t.parts) l = mtls ((p.parts.zip t.parts).drop (i + 1)) lc, fun σ' H' h => ⟨us.length - (i + 1), by omega, rfl, hlt, h⟩, ?_⟩
          rintro _ _ ⟨Tq, x, y, rfl, hT, rfl, gx, gy⟩
          have ex := gx _ q2
          have ey := gy _ q3
          rw [List.getElem?_eq_getElem hlt] at ex
          rw [List.getElem?_eq_getElem hlt2] at ey
          cases ex
          cases ey
          have sT := Rd.Same.upd (o := .tup [us[i], us2[i]]) hT
          refine ⟨Tq, [us[i], us2[i]], rfl, SqT.of upd_same, rfl, _, _, rfl, _, _, rfl, rfl, ?_⟩
          have kcT : Kp 0 H _ := ((Kp.of_same s3).trans (kp0 fr)).trans (Kp.of_same sT)
          cases d with
          | zero => exact absurd dp (by omega)
          | succ d =>
            refine ⟨_, rfl, _, rfl, _, rfl, us[i], us2[i], B, r1, r2, kc, lc, n + (((p.parts.zip t.parts).take i).map fun q => q.1.nod + 1).sum, rfl, ir1.mono kcT, ir2.mono kcT, w1, w3, (by omega), (by omega), sT _ _ hBc, alc.mono (fun t v h => h.same sT), bnc, (by omega), fun b l' kvs' H' bt hB' al' bn' mr => ?_⟩
            obtain ⟨m1, m2⟩ := mr
            have frn : ∀ c o, c ≠ B → H3 c = some o → H' c = some o := fun c o h1 e => bt c o h1 (sT _ _ (fr c o h1 e))
            refine ⟨_, rfl, ?_⟩
            cases b with
            | false =>
              refine iteP (by decide) ?_
              refine k false l' kvs' H' (fun c o hc e => frn c o hc (s3 _ _ e)) hB' al' (bn'.mono (by omega)) ⟨?_, fun e => by cases e⟩
              rw [em, ht, edr, mtls, if_neg (by rw [← m1]; decide)]
            | true =>
              refine iteN (by decide) ?_
              refine ⟨⟨_, _, rfl⟩, frn, l', kvs', hB', al', ?_, ?_⟩
              · rw [etk, List.map_append, List.sum_append]
                exact bn'.mono (by show _ ≤ n + (_ + (r1.nod + 1)); omega)
              · rw [ht, edr, mtls, if_pos m1.symm, m2 rfl]
        · have hie : i = us.length := by omega
          refine .inl ⟨⟨us, us2, SqT.of (fr _ _ n2B h23), SqT.of (fr _ _ n3B h33), by omega⟩, ?_⟩
          rw [List.drop_of_length_le (by omega)] at ht
          rw [List.take_of_length_le (by omega)] at bnc
          refine k true lc kc Hc (fun c o hc e => fr c o hc (s3 _ _ e)) hBc alc (bnc.mono (by omega)) ⟨?_, fun e => ?_⟩
          · rw [em, ht]
            rfl
          · rw [em, ht]
            rfl
      · refine seqIf (tb_or (b := false) (c := true) (fun Q2 kq => ⟨_, rfl, pf, _, _, _, rfl, rfl, SqT.of hp, at_of (j := 0) rfl rfl, tb1 kq⟩) (fun H' s' _ Q2 kq => ?_)) fun H0 s0 => iteT ?_
        · refine ⟨_, rfl, pf, _, _, _, rfl, rfl, SqT.of (s' _ _ hp), at_of (j := 0) rfl rfl, _, rfl, pg, _, _, _, rfl, rfl, SqT.of (s' _ _ hp2), at_of (j := 0) rfl rfl, rfl, _, rfl, ?_⟩
          rw [decide_eq_false (fun e => hh (V.str.inj e))]
          exact kq _ (Same.refl _)
        refine ⟨_, rfl, _, rfl, dat p, dat t, (ikeep.same s0).dp, (tkeep.same s0).dp, dat_shaped wp' (by omega), dtk, ?_⟩
        rw [eqv_dat, decide_eq_false (fun e => hh (by rw [e]))]
        refine k false l kvs H0 (fun _ _ _ e => s0 _ _ e) (s0 _ _ hB) (al.mono fun t v h => h.same s0) (bn.mono (by omega)) ⟨?_, fun e => by cases e⟩
        rw [mtl_head hpt hh]
    · cases wp with
      | @am k0 x0 ko =>
        have ikeep := ip
        obtain ⟨pf, rfl, hp⟩ := ip
        refine ⟨_, rfl, pf, _, _, _, rfl, rfl, SqT.of hp, at_of (j := 0) rfl rfl, rfl, _, rfl, ?_⟩
        have plain : ∀ (hk : k0 ≠ "unknown") H0, Same H H0 → Q (.bl (PyData.eqv (dat (.am k0 x0)) (dat t))) H0 := fun hk H0 s0 => by
          refine k _ l kvs H0 (fun _ _ _ e => s0 _ _ e) (s0 _ _ hB) (al.mono fun t v h => h.same s0) (bn.mono (by omega)) ⟨?_, fun _ => ?_⟩
          · rw [mtl, if_neg hk, eqv_dat]
          · rw [mtl, if_neg hk]
        rcases ko with ⟨rfl, hx⟩ | ⟨rfl, hx⟩ | ⟨rfl, hx⟩
        · refine iteN (by decide +kernel) (nxt ?_)
          try dsimp only
          refine ⟨_, rfl, pf, _, _, _, rfl, rfl, SqT.of hp, at_of (j := 0) rfl rfl, (by show 2 ≤ sizeLine; decide), fun q0 hq0 => ⟨_, q0, ["word", "name"], rfl, rfl, SqT.of upd_same, _, rfl, ?_⟩⟩
          have s0 := Rd.Same.upd (o := .tup [.str "word", .str "name"]) hq0
          generalize upd H q0 (.tup [.str "word", .str "name"]) = H0 at s0 ⊢
          refine iteP (by decide +kernel) (iteP (by decide +kernel) ?_)
          exact ⟨_, rfl, _, rfl, _, dat t, (ikeep.same s0).dp, (it.same s0).dp, dat_shaped (Wf.am (.inl ⟨rfl, hx⟩)).fine (Nat.zero_le _), dtk, plain (by decide +kernel) H0 s0⟩
        · refine iteN (by decide +kernel) (nxt ?_)
          try dsimp only
          refine ⟨_, rfl, pf, _, _, _, rfl, rfl, SqT.of hp, at_of (j := 0) rfl rfl, (by show 2 ≤ sizeLine; decide), fun q0 hq0 => ⟨_, q0, ["word", "name"], rfl, rfl, SqT.of upd_same, _, rfl, ?_⟩⟩
          have s0 := Rd.Same.upd (o := .tup [.str "word", .str "name"]) hq0
          generalize upd H q0 (.tup [.str "word", .str "name"]) = H0 at s0 ⊢
          refine iteP (by decide +kernel) (iteP (by decide +kernel) ?_)
          exact ⟨_, rfl, _, rfl, _, dat t, (ikeep.same s0).dp, (it.same s0).dp, dat_shaped (Wf.am (.inr (.inl ⟨rfl, hx⟩))).fine (Nat.zero_le _), dtk, plain (by decide +kernel) H0 s0⟩
        · refine iteP (by decide +kernel) ?_
          refine ⟨_, rfl, pf, _, _, _, rfl, rfl, SqT.of hp, at_of (j := 1) rfl rfl, _, rfl, B, _, rfl, DGet.k (k := .inr x0) hB, _, rfl, ?_⟩
          cases e : look l x0 with
          | some u =>
            obtain ⟨v0, e0, i0⟩ := (al.look (x := x0)).1 u e
            obtain ⟨wu, du⟩ := bn.2.2 _ (look_mem e)
            rw [e0]
            refine iteN (by simp) (nxt ?_)
            try dsimp only
            refine ⟨_, rfl, _, rfl, pf, _, _, _, rfl, rfl, SqT.of hp, at_of (j := 1) rfl rfl, B, v0, rfl, .inl ⟨kvs, .inr x0, .inl hB, rfl, e0.symm⟩, _, rfl, dat u, dat t, i0.dp, it.dp, dat_shaped wu.fine du, dtk, ?_⟩
            refine k _ l kvs H (fun _ _ _ e => e) hB al (bn.mono (by omega)) ⟨?_, fun _ => ?_⟩
            · rw [mtl, if_pos rfl, e, eqv_dat]
            · rw [mtl, if_pos rfl, e]
          | none =>
            have hv' := (al.look (x := x0)).2 e
            rw [hv']
            refine iteP (by simp) ?_
            refine ⟨_, rfl, _, rfl, _, rfl, pf, _, _, _, rfl, rfl, SqT.of hp, at_of (j := 1) rfl rfl, B, _, rfl, DPut.k (k := .inr x0) hB (by omega), ?_⟩
            rw [putK_new v2 hv']
            have kp := Kp.upd_dK (C := 0) (ys := kvs ++ [(.inr x0, v2)]) hB
            have it' := it.mono kp
            have hp' := kp _ _ rfl hp
            have e0 : valV (kvs ++ [(.inr x0, v2)]) (.inr x0) = some v2 := by rw [valV_snoc _ _ _ _ hv', if_pos rfl]
            try dsimp only
            refine ⟨_, rfl, _, rfl, pf, _, _, _, rfl, rfl, SqT.of hp', at_of (j := 1) rfl rfl, B, v2, rfl, .inl ⟨_, .inr x0, .inl upd_same, rfl, e0.symm⟩, _, rfl, dat t, dat t, it'.dp, it'.dp, dtk, dtk, ?_⟩
            rw [SeqAt.eqv_refl _ (dat_lay wt')]
            refine k true (l ++ [(x0, t)]) _ _ (fun c o hc e => by rw [upd_ne hc]; exact e) upd_same (Al.snoc it' (al.mono fun t v h => h.mono kp)) ((bn.snoc e wt dt).mono (by omega)) ⟨?_, fun _ => ?_⟩
            · rw [mtl, if_pos rfl, e]
            · rw [mtl, if_pos rfl, e]
      | _ => exact absurd (fun e => by cases e) hpt
theorem lm_none (T : Tx w K mg) : Fk P w K mg base CX0 1 "_law_matched" ["_law_pattern", "_law_form_here", "_law_bound"] (spMR 0) := by
  refine T.F__law_matched.ok0 sc__law_matched (fun _ _ _ _ _ _ us hl => match us, hl with | [_, _, _], _ => rfl) (fun vs H Q E h => h.elim) (fun cdv A outer s H vs Q E hr h => h.elim)
theorem ok__law_matched (T : Tx w K mg) : ∀ d : Nat, d ≤ 60 → Fk P w K mg base CX0 (d + 2) "_law_matched" ["_law_pattern", "_law_form_here", "_law_bound"] (sp_mt d)
  | 0, h => lm_step T 0 h (lm_none T)
  | d + 1, h => lm_step T (d + 1) h (ok__law_matched T d (by omega))
end
end Rd
namespace Rd
open PySem L2
section
variable {X : Cx} {CX : CXT} {k : Nat} {ps : List Str} {sp : Sp} {E : XK} {c : Str} {p pos : Pos} {e : Expr} {es : List Expr} {t : TA} {v : V} {K : PySem.W.Frag}
theorem pe_mk2k (hK : X.K = K) (F : Fi X.prog X.w X.K X.mg X.base CX k c ps sp v) (hr : Room (k + 1) X.A) (hg : Gl X c) (hx : Passes CX X E)
    (ha : PA X (e :: es) t) (hdb : (c == ("__debug__" : Str)) = false := by decide) (he : starEach (e :: es) X.env = (false, eval e X.env) :: starEach es X.env := by rfl) (hpl : (backTo pos (starEach es X.env)).any (·.1) = false := by rfl) :
    PE X (.Call (.Name c p) (e :: es) [] pos) (tMake (He.ga K c) sp [] E t) := by subst hK; exact pe_mk2 F hr hg hx ha hdb he hpl
end
/-- {x: f(x) for x in a list of texts} -/
theorem dcl {K : PySem.W.Frag} {C a D : Addr} {ys : List Str} {R2 : Hp → Tr → V → Prop} (f : Str → Tr) {tv : TE} {i0 : Nat} {σ : St} {H1 : Hp} {Qd : Hp → Prop}
    (m2 : ∀ H H' t v, Kp C H H' → R2 H t v → R2 H' t v) (ha : H1 a = some (.lst (ys.map V.str))) (nd : ys.Nodup) (hl : ys.length ≤ 1000) (hD : H1 D = none)
    (hsl : ∀ p : V, ((wipe σ [i0]).set i0 (some p))[i0]? = some (some p)) (hw : ∀ p : V, wipe ((wipe σ [i0]).set i0 (some p)) [i0] = wipe σ [i0])
    (hte : ∀ (i : Nat) (x : Str) (σ2 : St) (H : Hp) (Q : VK), ys[i]? = some x → Same H1 H → σ2 = ((wipe σ [i0]).set i0 (some (.str x))) → (∀ z H', Same H H' → R2 H' (f x) z → Q z H') → tv σ2 H Q)
    (hq : ∀ kvs' H', Same H1 H' → H' D = some (.dK kvs') → Al R2 H' (ys.map fun x => (x, f x)) kvs' → Qd H') :
    ∃ W : Nat → Nat → Hp → Prop, (∃ m, W 0 m (L2.upd H1 D (.dK []))) ∧ ∀ i m H, W i m H →
      ((Itl K a).stop i H ∧ Qd H) ∨ ((Itl K a).go i H ∧ ∃ Nx : Hp → Prop, (∀ H', Nx H' → ∃ m', m' < m ∧ W (i + 1) m' H') ∧ ∀ x H', (Itl K a).yld i H x H' → gName i0 x (wipe σ [i0]) H' fun σ2 H2 => wipe σ2 [i0] = wipe σ [i0] ∧ tYes σ2 H2 fun b H3 =>
        if b = true then tVar i0 σ2 H3 fun y H4 => tv σ2 H4 fun z H5 => ∃ kvs' k, y = kV k ∧ H5 D = some (.dK kvs') ∧ kvs'.length < sizeLine ∧ Nx (L2.upd H5 D (.dK (putK kvs' k z))) else Nx H3) := by
  have big : 8000000 ≤ sizeLine := by decide
  refine ⟨fun i m H => m = ys.length - i ∧ i ≤ ys.length ∧ ∃ acc, Same H1 H ∧ H D = some (.dK acc) ∧ Al R2 H ((ys.take i).map fun x => (x, f x)) acc, ⟨_, rfl, Nat.zero_le _, [], Rd.Same.upd hD, upd_same, trivial⟩, ?_⟩
  rintro i m H ⟨rfl, hi, acc, s, hDa, ala⟩
  by_cases hlt : i < ys.length
  · have hx : ys[i]? = some ys[i] := List.getElem?_eq_getElem hlt
    have hxv : (ys.map V.str)[i]? = some (V.str ys[i]) := by rw [List.getElem?_map, hx]; rfl
    refine .inr ⟨⟨_, _, SqL.of (s _ _ ha), hxv⟩, fun H' => ∃ acc, Same H1 H' ∧ H' D = some (.dK acc) ∧ Al R2 H' ((ys.take (i + 1)).map fun x => (x, f x)) acc, fun H' h => ⟨ys.length - (i + 1), by omega, rfl, hlt, h⟩, ?_⟩
    rintro _ H ⟨rfl, hy⟩
    have ey := hy _ (SqL.of (s _ _ ha))
    rw [hxv] at ey
    cases ey
    refine ⟨hw _, ?_⟩
    unfold tYes
    refine iteT ⟨_, hsl _, hte i _ _ _ _ hx s rfl fun z H' s' hz => ?_⟩
    have hD' := s' _ _ hDa
    have hal := ala.len
    rw [List.length_map, List.length_take] at hal
    have etk : ys.take (i + 1) = ys.take i ++ [ys[i]] := by rw [List.take_succ, hx]; rfl
    have hno : look ((ys.take i).map fun x => (x, f x)) ys[i] = none := by
      refine look_none ?_
      rw [List.map_map]
      have n2 : (ys.take (i + 1)).Nodup := (List.take_sublist _ _).nodup nd
      rw [etk] at n2
      have := (List.nodup_append.mp n2).2.2
      intro hm
      obtain ⟨y, hy, e⟩ := List.mem_map.mp hm
      exact this y hy ys[i] (List.mem_singleton.mpr rfl) e
    have hv0 := (ala.look (x := ys[i])).2 hno
    refine ⟨acc, .inr ys[i], rfl, hD', by omega, acc ++ [(.inr ys[i], z)], fun c o e => ?_, ?_, ?_⟩
    · rw [upd_ne (ne_of_none e hD)]
      exact s' _ _ (s _ _ e)
    · rw [upd_same, putK_new z hv0]
    · rw [putK_new z hv0, etk, List.map_append]
      have kp := Kp.upd_dK (C := C) (ys := acc ++ [(.inr ys[i], z)]) hD'
      exact Al.snoc (m2 _ _ _ _ kp hz) (ala.mono fun t v h => m2 _ _ _ _ kp (m2 _ _ _ _ (Kp.of_same s') h))
  · refine .inl ⟨⟨_, SqL.of (s _ _ ha), by rw [List.length_map]; omega⟩, hq acc H s hDa ?_⟩
    rw [List.take_of_length_le (by omega)] at ala
    exact ala
end Rd
namespace Rd
open PySem L2
abbrev Sb := List (Str × Tr)
def unk (x : Str) : Tr := .am "unknown" x
/-- the unknown x stands in a form -/
def ocU (x : Str) : Tr → Bool
  | .am k y => decide (k = "unknown") && decide (y = x)
  | .un _ a => ocU x a
  | .bi _ a b => ocU x a || ocU x b
theorem ocU_txt {x : Str} : ∀ {t : Tr}, x ∈ t.txt "unknown" ↔ ocU x t = true
  | .am k y => by
    show x ∈ (if k = "unknown" then [y] else []) ↔ (decide (k = "unknown") && decide (y = x)) = true
    by_cases e : k = "unknown"
    · rw [if_pos e, decide_eq_true e, Bool.true_and, decide_eq_true_iff, List.mem_singleton]
      exact eq_comm
    · rw [if_neg e, decide_eq_false e, Bool.false_and]
      simp
  | .un _ a => ocU_txt (t := a)
  | .bi _ a b => by
    show x ∈ a.txt "unknown" ++ b.txt "unknown" ↔ (ocU x a || ocU x b) = true
    rw [List.mem_append, ocU_txt (t := a), ocU_txt (t := b), Bool.or_eq_true]
/-- all unknowns replaced -/
def hm (f : Str → Tr) : Tr → Tr
  | .am k x => if k = "unknown" then f x else .am k x
  | .un s a => .un s (hm f a)
  | .bi s a b => .bi s (hm f a) (hm f b)
theorem hm_unk (f : Str → Tr) (x : Str) : hm f (unk x) = f x := by
  show (if ("unknown" : Str) = "unknown" then _ else _) = _
  rw [if_pos rfl]
theorem fill_hm (m : Str → Option Tr) : ∀ t : Tr, fill m t = hm (fun x => (m x).getD (unk x)) t
  | .am k x => by
    show (if k = "unknown" then _ else _) = (if k = "unknown" then _ else _)
    by_cases e : k = "unknown"
    · rw [if_pos e, if_pos e, e]
      rfl
    · rw [if_neg e, if_neg e]
  | .un s a => congrArg (Tr.un s) (fill_hm m a)
  | .bi s a b => by
    show Tr.bi s _ _ = Tr.bi s _ _
    rw [fill_hm m a, fill_hm m b]
theorem hm_congr {f g : Str → Tr} : ∀ {t : Tr}, (∀ x, ocU x t = true → f x = g x) → hm f t = hm g t
  | .am k x, h => by
    show (if k = "unknown" then _ else _) = (if k = "unknown" then _ else _)
    by_cases e : k = "unknown"
    · rw [if_pos e, if_pos e]
      refine h x ?_
      show (decide (k = "unknown") && decide (x = x)) = true
      rw [decide_eq_true e, decide_eq_true rfl]
      rfl
    · rw [if_neg e, if_neg e]
  | .un s a, h => congrArg (Tr.un s) (hm_congr (t := a) h)
  | .bi s a b, h => by
    show Tr.bi s _ _ = Tr.bi s _ _
    have h' : ∀ x, (ocU x a || ocU x b) = true → f x = g x := h
    rw [hm_congr (t := a) fun x e => h' x (by rw [e]; rfl), hm_congr (t := b) fun x e => h' x (by rw [e, Bool.or_true])]
theorem hm_self : ∀ t : Tr, hm unk t = t
  | .am k x => by
    show (if k = "unknown" then _ else _) = _
    by_cases e : k = "unknown"
    · rw [if_pos e, e]
      rfl
    · rw [if_neg e]
  | .un s a => congrArg (Tr.un s) (hm_self a)
  | .bi s a b => by
    show Tr.bi s _ _ = Tr.bi s _ _
    rw [hm_self a, hm_self b]
theorem hm_id {f : Str → Tr} {t : Tr} (h : ∀ x, ocU x t = true → f x = unk x) : hm f t = t := (hm_congr h).trans (hm_self t)
theorem hm_hm (f g : Str → Tr) : ∀ t : Tr, hm f (hm g t) = hm (fun x => hm f (g x)) t
  | .am k x => by
    show hm f (if k = "unknown" then _ else _) = (if k = "unknown" then _ else _)
    by_cases e : k = "unknown"
    · rw [if_pos e, if_pos e]
    · rw [if_neg e, if_neg e]
      show (if k = "unknown" then _ else _) = _
      rw [if_neg e]
  | .un s a => congrArg (Tr.un s) (hm_hm f g a)
  | .bi s a b => by
    show Tr.bi s _ _ = Tr.bi s _ _
    rw [hm_hm f g a, hm_hm f g b]
theorem ocU_hm {f : Str → Tr} {y : Str} : ∀ {t : Tr}, ocU y (hm f t) = true ↔ ∃ x, ocU x t = true ∧ ocU y (f x) = true
  | .am k x => by
    show ocU y (if k = "unknown" then _ else _) = true ↔ ∃ z, (decide (k = "unknown") && decide (x = z)) = true ∧ ocU y (f z) = true
    by_cases e : k = "unknown"
    · rw [if_pos e]
      constructor
      · intro h
        exact ⟨x, by rw [decide_eq_true e, decide_eq_true rfl]; rfl, h⟩
      · rintro ⟨z, h1, h2⟩
        rw [decide_eq_true e, Bool.true_and] at h1
        rw [of_decide_eq_true h1]
        exact h2
    · rw [if_neg e, decide_eq_false e]
      constructor
      · intro h
        have h : (decide (k = "unknown") && decide (x = y)) = true := h
        rw [decide_eq_false e] at h
        cases h
      · rintro ⟨z, h1, h2⟩
        cases h1
  | .un s a => ocU_hm (t := a)
  | .bi s a b => by
    show (ocU y (hm f a) || ocU y (hm f b)) = true ↔ ∃ x, (ocU x a || ocU x b) = true ∧ ocU y (f x) = true
    rw [Bool.or_eq_true, ocU_hm (t := a), ocU_hm (t := b)]
    constructor
    · rintro (⟨x, h1, h2⟩ | ⟨x, h1, h2⟩)
      · exact ⟨x, by rw [h1]; rfl, h2⟩
      · exact ⟨x, by rw [h1, Bool.or_true], h2⟩
    · rintro ⟨x, h1, h2⟩
      rcases Bool.or_eq_true _ _ ▸ h1 with h | h
      · exact .inl ⟨x, h, h2⟩
      · exact .inr ⟨x, h, h2⟩
theorem ocU_unk {x y : Str} : ocU x (unk y) = true ↔ y = x := by
  show (decide (("unknown" : Str) = "unknown") && decide (y = x)) = true ↔ _
  rw [decide_eq_true rfl, Bool.true_and, decide_eq_true_iff]
/-- x replaced by s -/
def one (x : Str) (s : Tr) : Str → Tr := fun y => if y = x then s else unk y
theorem one_self {x : Str} {s : Tr} : one x s x = s := if_pos rfl
theorem one_ne {x y : Str} {s : Tr} (h : y ≠ x) : one x s y = unk y := if_neg h
theorem one_free {x : Str} {s t : Tr} (h : ocU x t = false) : hm (one x s) t = t := hm_id fun y hy => one_ne fun e => by
  rw [e, h] at hy
  cases hy
/-- the oldest first -/
def res : Sb → Tr → Tr
  | [], t => t
  | p :: B, t => res B (hm (one p.1 p.2) t)
def Tri : Sb → Prop
  | [] => True
  | p :: B => ocU p.1 p.2 = false ∧ (∀ q ∈ B, q.1 ≠ p.1 ∧ ocU p.1 q.2 = false) ∧ Tri B
theorem res_hm : ∀ (B : Sb) (t : Tr), res B t = hm (fun x => res B (unk x)) t
  | [], t => (hm_self t).symm
  | p :: B, t => by
    show res B (hm (one p.1 p.2) t) = hm (fun x => res B (hm (one p.1 p.2) (unk x))) t
    rw [res_hm B (hm (one p.1 p.2) t), hm_hm]
    refine hm_congr fun x _ => ?_
    rw [← res_hm B, hm_unk]
theorem res_app : ∀ (B C : Sb) (t : Tr), res (B ++ C) t = res C (res B t)
  | [], _, _ => rfl
  | p :: B, C, t => res_app B C (hm (one p.1 p.2) t)
theorem res_snoc (B : Sb) (x : Str) (s t : Tr) : res (B ++ [(x, s)]) t = hm (one x s) (res B t) := res_app B [(x, s)] t
theorem res_id : ∀ {B : Sb} {t : Tr}, (∀ p ∈ B, ocU p.1 t = false) → res B t = t
  | [], _, _ => rfl
  | p :: B, t, h => by
    show res B (hm (one p.1 p.2) t) = t
    rw [one_free (h p List.mem_cons_self)]
    exact res_id fun q hq => h q (List.mem_cons_of_mem _ hq)
theorem one_gone {x : Str} {s t : Tr} (h : ocU x s = false) : ocU x (hm (one x s) t) = false := by
  refine Bool.eq_false_iff.mpr fun e => ?_
  obtain ⟨y, _, h2⟩ := ocU_hm.mp e
  by_cases q : y = x
  · rw [q, one_self, h] at h2
    cases h2
  · rw [one_ne q] at h2
    exact q (ocU_unk.mp h2)
theorem one_keep {x y : Str} {s t : Tr} (h : ocU x t = false) (hs : ocU x s = false) : ocU x (hm (one y s) t) = false := by
  refine Bool.eq_false_iff.mpr fun e => ?_
  obtain ⟨z, h1, h2⟩ := ocU_hm.mp e
  by_cases q : z = y
  · rw [q, one_self, hs] at h2
    cases h2
  · rw [one_ne q] at h2
    rw [ocU_unk.mp h2, h] at h1
    cases h1
theorem res_keep {x : Str} : ∀ {B : Sb} {t : Tr}, ocU x t = false → (∀ p ∈ B, ocU x p.2 = false) → ocU x (res B t) = false
  | [], _, h, _ => h
  | p :: B, t, h, hB => res_keep (B := B) (one_keep h (hB p List.mem_cons_self)) fun q hq => hB q (List.mem_cons_of_mem _ hq)
theorem res_free : ∀ {B : Sb} {t : Tr}, Tri B → ∀ p ∈ B, ocU p.1 (res B t) = false
  | p :: B, t, ⟨h1, h2, h3⟩, q, hq => by
    rcases List.mem_cons.mp hq with rfl | hq
    · exact res_keep (B := B) (t := hm (one q.1 q.2) t) (one_gone h1) fun r hr => (h2 r hr).2
    · exact res_free (B := B) (t := hm (one p.1 p.2) t) h3 q hq
theorem lookU_mem {x : Str} {s : Tr} {B : Sb} (h : look B x = some s) : (x, s) ∈ B := by
  unfold look at h
  cases e : B.find? fun p => decide (p.1 = x) with
  | none => rw [e] at h; cases h
  | some p =>
    rw [e] at h
    have h1 := List.find?_some e
    have h2 := List.mem_of_find?_eq_some e
    have h3 : p.2 = s := Option.some.inj h
    rw [← h3, ← of_decide_eq_true h1]
    exact h2
theorem res_look {x : Str} {s : Tr} : ∀ {B : Sb}, Tri B → look B x = some s → res B (unk x) = res B s
  | (y, u) :: B, ⟨h1, h2, h3⟩, e => by
    show res B (hm (one y u) (unk x)) = res B (hm (one y u) s)
    rw [hm_unk]
    by_cases q : y = x
    · subst q
      rw [show look ((y, u) :: B) y = some u by simp [look]] at e
      cases e
      rw [one_self, one_free h1]
    · rw [show look ((y, u) :: B) x = look B x by simp [look, q]] at e
      rw [one_ne (fun z => q z.symm), one_free (h2 _ (lookU_mem e)).2]
      exact res_look h3 e
/-- one turn of replacing changes nothing at the end -/
theorem res_pass {B : Sb} (h : Tri B) (t : Tr) : res B (fill (look B) t) = res B t := by
  rw [fill_hm, res_hm B (hm _ t), hm_hm, res_hm B t]
  refine hm_congr fun x _ => ?_
  rw [← res_hm B]
  cases e : look B x with
  | none => rfl
  | some s => exact (res_look h e).symm
theorem Tri.snoc {x : Str} {r : Tr} (hr : ocU x r = false) : ∀ {B : Sb}, Tri B → (∀ p ∈ B, ocU p.1 r = false ∧ p.1 ≠ x) → Tri (B ++ [(x, r)])
  | [], _, _ => ⟨hr, (fun q hq => nomatch hq), trivial⟩
  | p :: B, ⟨h1, h2, h3⟩, h => ⟨h1, fun q hq => by
      rcases List.mem_append.mp hq with z | z
      · exact h2 q z
      · rw [List.mem_singleton.mp z]
        obtain ⟨a, b⟩ := h p List.mem_cons_self
        exact ⟨fun e => b e.symm, a⟩, Tri.snoc hr h3 fun q hq => h q (List.mem_cons_of_mem _ hq)⟩
theorem Tri.nodup : ∀ {B : Sb}, Tri B → (B.map (·.1)).Nodup
  | [], _ => List.nodup_nil
  | p :: B, ⟨_, h2, h3⟩ => by
    rw [List.map_cons]
    refine List.nodup_cons.mpr ⟨fun h => ?_, Tri.nodup h3⟩
    obtain ⟨q, hq, e⟩ := List.mem_map.mp h
    exact (h2 q hq).1 e
/-- the first k bound unknowns do not stand in a form -/
def Frk (B : Sb) (k : Nat) (t : Tr) : Prop := ∀ (i : Nat) (p : Str × Tr), i < k → B[i]? = some p → ocU p.1 t = false
theorem tri_ix : ∀ {B : Sb} {i j : Nat} {p q : Str × Tr}, Tri B → B[i]? = some p → B[j]? = some q → j ≤ i → ocU q.1 p.2 = false
  | r :: B, 0, 0, p, q, ⟨h1, _, _⟩, e1, e2, _ => by
    cases e1
    cases e2
    exact h1
  | r :: B, i + 1, 0, p, q, ⟨_, h2, _⟩, e1, e2, _ => by
    cases e2
    exact (h2 p (List.mem_of_getElem? (by simpa using e1))).2
  | r :: B, i + 1, j + 1, p, q, ⟨_, _, h3⟩, e1, e2, hj => tri_ix (B := B) (i := i) (j := j) h3 (by simpa using e1) (by simpa using e2) (by omega)
theorem look_ix {B : Sb} {x : Str} {s : Tr} (h : look B x = some s) : ∃ i : Nat, B[i]? = some (x, s) := List.getElem?_of_mem (lookU_mem h)
theorem Frk.next {B : Sb} (h : Tri B) {k : Nat} {t : Tr} (f : Frk B k t) : Frk B (k + 1) (fill (look B) t) := fun i p hi hp => by
  refine Bool.eq_false_iff.mpr fun e => ?_
  rw [fill_hm] at e
  obtain ⟨x, h1, h2⟩ := ocU_hm.mp e
  cases el : look B x with
  | none =>
    rw [el] at h2
    have hx := ocU_unk.mp h2
    subst hx
    have := look_get (x := p.1) (t := p.2) h.nodup hp
    rw [el] at this
    cases this
  | some s =>
    rw [el] at h2
    obtain ⟨j, hj⟩ := look_ix el
    have hkj : k ≤ j := by
      refine Nat.le_of_not_lt fun z => ?_
      have := f j _ z hj
      rw [h1] at this
      cases this
    have := tri_ix h hj hp (by omega)
    have h2 : ocU p.1 s = true := h2
    rw [this] at h2
    cases h2
/-- a bound unknown stands in a form -/
def anyB (B : Sb) (t : Tr) : Bool := (uniS (t.txt "unknown")).any fun x => (look B x).isSome
theorem anyB_true {B : Sb} {t : Tr} (h : anyB B t = true) : ∃ (i : Nat) (p : Str × Tr), B[i]? = some p ∧ ocU p.1 t = true := by
  unfold anyB at h
  obtain ⟨x, h1, h2⟩ := List.any_eq_true.mp h
  obtain ⟨s, e⟩ := Option.isSome_iff_exists.mp h2
  obtain ⟨i, hi⟩ := look_ix e
  exact ⟨i, _, hi, ocU_txt.mp (uniS_mem.mp h1)⟩
theorem anyB_false {B : Sb} {t : Tr} (hn : (B.map (·.1)).Nodup) (h : anyB B t = false) : ∀ p ∈ B, ocU p.1 t = false := fun p hp => by
  refine Bool.eq_false_iff.mpr fun e => ?_
  unfold anyB at h
  have := List.any_eq_false.mp h p.1 (uniS_mem.mpr (ocU_txt.mpr e))
  obtain ⟨i, hi⟩ := List.getElem?_of_mem hp
  rw [look_get (x := p.1) (t := p.2) hn hi] at this
  exact this rfl
theorem Frk.lt {B : Sb} {k : Nat} {t : Tr} (f : Frk B k t) (h : anyB B t = true) : k < B.length := by
  obtain ⟨i, p, e1, e2⟩ := anyB_true h
  have hi := (List.getElem?_eq_some_iff.mp e1).1
  refine Nat.lt_of_not_le fun z => ?_
  rw [f i p (by omega) e1] at e2
  cases e2
theorem dep_hm {f : Str → Tr} : ∀ t : Tr, t.dep ≤ (hm f t).dep
  | .am k x => Nat.zero_le _
  | .un s a => Nat.succ_le_succ (dep_hm a)
  | .bi s a b => by
    show max a.dep b.dep + 1 ≤ max (hm f a).dep (hm f b).dep + 1
    have := dep_hm (f := f) a
    have := dep_hm (f := f) b
    omega
theorem dep_res {B : Sb} (t : Tr) : t.dep ≤ (res B t).dep := by
  rw [res_hm]
  exact dep_hm t
theorem hm_wf {f : Str → Tr} {t : Tr} (hf : ∀ x, ocU x t = true → Wf (f x)) (h : Wf t) : Wf (hm f t) := by
  induction h with
  | @am k x ko =>
    show Wf (if k = "unknown" then _ else _)
    by_cases e : k = "unknown"
    · rw [if_pos e]
      exact hf x (by show (decide (k = "unknown") && decide (x = x)) = true; rw [decide_eq_true e, decide_eq_true rfl]; rfl)
    · rw [if_neg e]
      exact .am ko
  | un hs _ ih => exact .un hs (ih hf)
  | bi hs _ _ ih1 ih2 => exact .bi hs (ih1 fun x e => hf x (by show (_ || _) = true; rw [e]; rfl)) (ih2 fun x e => hf x (by show (_ || _) = true; rw [e, Bool.or_true]))
  | lk hs _ _ ih1 ih2 => exact .lk hs (ih1 fun x e => hf x (by show (_ || _) = true; rw [e]; rfl)) (ih2 fun x e => hf x (by show (_ || _) = true; rw [show ocU x (Tr.un _ _) = _ from e, Bool.or_true]))
theorem ocU_wf {x : Str} {t : Tr} (h : Wf t) (e : ocU x t = true) : Wf (unk x) := by
  induction h with
  | @am k y ko =>
    have e : (decide (k = "unknown") && decide (y = x)) = true := e
    rw [Bool.and_eq_true] at e
    rw [of_decide_eq_true e.1, of_decide_eq_true e.2] at ko
    exact .am ko
  | un hs _ ih => exact ih e
  | bi hs _ _ ih1 ih2 =>
    have e : (_ || _) = true := e
    rcases Bool.or_eq_true _ _ ▸ e with h | h
    · exact ih1 h
    · exact ih2 h
  | lk hs _ _ ih1 ih2 =>
    have e : (_ || _) = true := e
    rcases Bool.or_eq_true _ _ ▸ e with h | h
    · exact ih1 h
    · exact ih2 h
theorem res_wf : ∀ {B : Sb} {t : Tr}, (∀ p ∈ B, Wf p.2) → Wf t → Wf (res B t)
  | [], _, _, h => h
  | p :: B, t, hB, h => res_wf (B := B) (fun q hq => hB q (List.mem_cons_of_mem _ hq)) (hm_wf (fun x hx => by
    unfold one
    split
    · exact hB p List.mem_cons_self
    · exact ocU_wf h hx) h)
theorem fillB_wf {B : Sb} {t : Tr} (hB : ∀ p ∈ B, Wf p.2) (h : Wf t) : Wf (fill (look B) t) := by
  rw [fill_hm]
  refine hm_wf (fun x hx => ?_) h
  cases e : look B x with
  | none => exact ocU_wf h hx
  | some s => exact hB _ (lookU_mem e)
inductive Act where
  | fail
  | drop
  | bind (x : Str) (t : Tr)
  | more (ps : List (Tr × Tr))
def isU : Tr → Option Str
  | .am k x => if k = "unknown" then some x else none
  | _ => none
theorem isU_some {t : Tr} {x : Str} (h : isU t = some x) : t = unk x := by
  cases t with
  | am k y =>
    have h : (if k = "unknown" then some y else none) = some x := h
    by_cases e : k = "unknown"
    · rw [if_pos e] at h
      rw [e, Option.some.inj h]
      rfl
    · rw [if_neg e] at h
      cases h
  | un => cases h
  | bi => cases h
/-- an unknown ahead -/
def sw (l r : Tr) : Tr × Tr := if (isU l).isNone && (isU r).isSome then (r, l) else (l, r)
def act2 (l r : Tr) : Act :=
  match isU l with
  | some x => if l = r then .drop else if ocU x r = true then .fail else .bind x r
  | none => if l.parts = [] ∨ l.head ≠ r.head then (if l = r then .drop else .fail) else .more (l.parts.zip r.parts)
def act (l r : Tr) : Act := act2 (sw l r).1 (sw l r).2
/-- a form of bounded depth and size -/
def SzB (D : Nat) (t : Tr) : Prop := t.dep ≤ D ∧ t.all.length ≤ 8000000
def inNs (ns : List Str) (t : Tr) : Prop := ∀ x, ocU x t = true → x ∈ ns
theorem inNs.few {ns : List Str} {t : Tr} (h : inNs ns t) : (uniS (t.txt "unknown")).length ≤ ns.length :=
  nodup_subK (List.Pairwise.imp (fun {a b} h e => by rw [e, ltS_irr] at h; cases h) uniS_asc) fun x hx => h x (ocU_txt.mp (uniS_mem.mp hx))
theorem res_in {ns : List Str} : ∀ {B : Sb} {t : Tr}, (∀ p ∈ B, inNs ns p.2) → inNs ns t → inNs ns (res B t)
  | [], _, _, h => h
  | p :: B, t, hB, h => res_in (B := B) (fun q hq => hB q (List.mem_cons_of_mem _ hq)) fun x hx => by
    obtain ⟨y, h1, h2⟩ := ocU_hm.mp hx
    by_cases e : y = p.1
    · rw [e, one_self] at h2
      exact hB p List.mem_cons_self x h2
    · rw [one_ne e] at h2
      rw [← ocU_unk.mp h2]
      exact h y h1
theorem inNs_parts {ns : List Str} {l p : Tr} (h : p ∈ l.parts) (hn : inNs ns l) : inNs ns p := by
  cases l with
  | am k x => cases h
  | un s a =>
    have h : p ∈ [a] := h
    rw [List.mem_singleton.mp h]
    exact hn
  | bi s a b =>
    have h : p ∈ [a, b] := h
    rcases List.mem_cons.mp h with rfl | h
    · exact fun x e => hn x (by show (_ || _) = true; rw [e]; rfl)
    · rw [List.mem_singleton.mp h]
      exact fun x e => hn x (by show (_ || _) = true; rw [e, Bool.or_true])
theorem fillB_in {ns : List Str} {B : Sb} {t : Tr} (hB : ∀ p ∈ B, inNs ns p.2) (h : inNs ns t) : inNs ns (fill (look B) t) := fun x hx => by
  rw [fill_hm] at hx
  obtain ⟨y, hy, hx⟩ := ocU_hm.mp hx
  cases e : look B y with
  | none =>
    rw [e] at hx
    rw [← ocU_unk.mp hx]
    exact h y hy
  | some s =>
    rw [e] at hx
    exact hB _ (lookU_mem e) x hx
theorem all_hm {f : Str → Tr} : ∀ t : Tr, t.all.length ≤ (hm f t).all.length
  | .am k x => by
    have : ∀ u : Tr, 1 ≤ u.all.length := fun u => by cases u <;> exact Nat.succ_le_succ (Nat.zero_le _)
    exact this _
  | .un s a => by
    show (Tr.un s a).all.length ≤ (Tr.un s (hm f a)).all.length
    have := all_hm (f := f) a
    show a.all.length + 1 ≤ (hm f a).all.length + 1
    omega
  | .bi s a b => by
    have h1 := all_hm (f := f) a
    have h2 := all_hm (f := f) b
    show (a.all ++ b.all).length + 1 ≤ ((hm f a).all ++ (hm f b).all).length + 1
    rw [List.length_append, List.length_append]
    omega
theorem all_res {B : Sb} (t : Tr) : t.all.length ≤ (res B t).all.length := by
  rw [res_hm]
  exact all_hm t
/-- the run over pairs, in n steps, all forms at most D deep -/
inductive UnA (A : Tr → Tr → Act) (D : Nat) : Nat → Sb → List (Tr × Tr) → Option Sb → Prop where
  | done {B : Sb} (h : ∀ p ∈ B, SzB D (res B p.2)) (hl : B.length < 64) : UnA A D 0 B [] (some B)
  | fl {B : Sb} {W : List (Tr × Tr)} {l r : Tr} (h1 : SzB D (res B l)) (h2 : SzB D (res B r)) (e : A (res B l) (res B r) = .fail) : UnA A D 1 B (W ++ [(l, r)]) none
  | dr {n : Nat} {B : Sb} {W : List (Tr × Tr)} {l r : Tr} {o : Option Sb} (h1 : SzB D (res B l)) (h2 : SzB D (res B r)) (e : A (res B l) (res B r) = .drop) (k : UnA A D n B W o) : UnA A D (n + 1) B (W ++ [(l, r)]) o
  | bd {n : Nat} {B : Sb} {W : List (Tr × Tr)} {l r : Tr} {o : Option Sb} {x : Str} {t : Tr} (h1 : SzB D (res B l)) (h2 : SzB D (res B r)) (e : A (res B l) (res B r) = .bind x t) (hb : B.length < 60) (k : UnA A D n (B ++ [(x, t)]) W o) : UnA A D (n + 1) B (W ++ [(l, r)]) o
  | mr {n : Nat} {B : Sb} {W : List (Tr × Tr)} {l r : Tr} {o : Option Sb} {ps : List (Tr × Tr)} (h1 : SzB D (res B l)) (h2 : SzB D (res B r)) (e : A (res B l) (res B r) = .more ps) (hw : W.length + 2 ≤ 16000000) (k : UnA A D n B (W ++ ps) o) : UnA A D (n + 1) B (W ++ [(l, r)]) o
theorem UnA.step {A : Tr → Tr → Act} {D m : Nat} {B : Sb} {W : List (Tr × Tr)} {o : Option Sb} (h : UnA A D m B W o) : (W = [] ∧ o = some B ∧ m = 0 ∧ (∀ p ∈ B, SzB D (res B p.2)) ∧ B.length < 64) ∨
    ∃ (W' : List (Tr × Tr)) (l r : Tr) (n : Nat), W = W' ++ [(l, r)] ∧ m = n + 1 ∧ SzB D (res B l) ∧ SzB D (res B r) ∧
      ((A (res B l) (res B r) = .fail ∧ o = none) ∨ (A (res B l) (res B r) = .drop ∧ UnA A D n B W' o) ∨ (∃ x t, A (res B l) (res B r) = .bind x t ∧ B.length < 60 ∧ UnA A D n (B ++ [(x, t)]) W' o) ∨ ∃ ps, A (res B l) (res B r) = .more ps ∧ W'.length + 2 ≤ 16000000 ∧ UnA A D n B (W' ++ ps) o) := by
  cases h with
  | done h hl => exact .inl ⟨rfl, rfl, rfl, h, hl⟩
  | fl h1 h2 e => exact .inr ⟨_, _, _, _, rfl, rfl, h1, h2, .inl ⟨e, rfl⟩⟩
  | dr h1 h2 e k => exact .inr ⟨_, _, _, _, rfl, rfl, h1, h2, .inr (.inl ⟨e, k⟩)⟩
  | bd h1 h2 e hb k => exact .inr ⟨_, _, _, _, rfl, rfl, h1, h2, .inr (.inr (.inl ⟨_, _, e, hb, k⟩))⟩
  | mr h1 h2 e hw k => exact .inr ⟨_, _, _, _, rfl, rfl, h1, h2, .inr (.inr (.inr ⟨_, e, hw, k⟩))⟩
abbrev Un : Nat → Nat → Sb → List (Tr × Tr) → Option Sb → Prop := UnA act
theorem Wf.shq {t : Tr} (h : Wf t) : (∃ k x, t = .am k x ∧ kindOk k x) ∨ (∃ s a, t = .un s a ∧ s ∈ (["mark", "open", "own"] : List Str) ∧ Wf a) ∨ ∃ s a b, t = .bi s a b ∧ s ∈ (["pair", "seal", "lock"] : List Str) ∧ Wf a ∧ Wf b := by
  cases h with
  | am ko => exact .inl ⟨_, _, rfl, ko⟩
  | un hs w => exact .inr (.inl ⟨_, _, rfl, hs, w⟩)
  | bi hs w1 w2 => exact .inr (.inr ⟨_, _, _, rfl, mem_to (by decide +kernel) hs, w1, w2⟩)
  | lk hs w1 w2 => exact .inr (.inr ⟨_, _, _, rfl, by decide +kernel, w1, .un (mem_to (by decide +kernel) hs) w2⟩)
theorem isU_head {t : Tr} (wf : Wf t) : (isU t).isSome = decide (t.head = "unknown") := by
  rcases wf.shq with ⟨k, x, rfl, _⟩ | ⟨s, a, rfl, hs, _⟩ | ⟨s, a, b, rfl, hs, _⟩
  · show (if k = "unknown" then some x else none).isSome = decide (k = "unknown")
    by_cases e : k = "unknown"
    · rw [if_pos e, decide_eq_true e]; rfl
    · rw [if_neg e, decide_eq_false e]; rfl
  · have : ∀ z ∈ (["mark", "open", "own"] : List Str), decide (z = "unknown") = false := by decide +kernel
    exact (this s hs).symm
  · have : ∀ z ∈ (["pair", "seal", "lock"] : List Str), decide (z = "unknown") = false := by decide +kernel
    exact (this s hs).symm
end Rd
namespace Rd
open PySem L2
theorem vs_bl {α : Type} {vs : List V} {xs : List α} (f : α → Bool) (hl : vs.length = xs.length) (h : ∀ (i : Nat) v, vs[i]? = some v → ∃ x, xs[i]? = some x ∧ v = .bl (f x)) : vs = (xs.map f).map V.bl := by
  refine List.ext_getElem? fun i => ?_
  rw [List.map_map, List.getElem?_map]
  cases e : vs[i]? with
  | none =>
    rw [List.getElem?_eq_none (by rw [← hl]; exact List.getElem?_eq_none_iff.mp e)]
    rfl
  | some v =>
    obtain ⟨x, h1, h2⟩ := h i v e
    rw [h1, h2]
    rfl
theorem Al.dtr {H : Hp} {l : List (Str × Tr)} {kvs : List (Key × V)} {a : Addr} (h : H a = some (.dK kvs)) (al : Al IsT H l kvs) : DTr H a (Rd.look l) :=
  ⟨kvs, .inl h, fun x t e => (al.look (x := x)).1 t e, fun x e => (al.look (x := x)).2 e⟩
def sp_resd (d : Nat) : Sp := fun vs H Q _ => ∃ (v : V) (a : Addr) (t : Tr) (B : Sb) (kvs : List (Key × V)), vs = [v, .ref a] ∧ IsT H t v ∧ Wf t ∧ SzB d (res B t) ∧ d ≤ 60 ∧ (∃ ns : List Str, ns.length ≤ 500 ∧ inNs ns t ∧ ∀ p ∈ B, inNs ns p.2) ∧ H a = some (.dK kvs) ∧ Al IsT H B kvs ∧ Tri B ∧ (∀ p ∈ B, Wf p.2) ∧ ∀ u H', Same H H' → IsT H' (res B t) u → Q u H'
section
variable {P : Program} {w : World} {K : PySem.W.Frag} {mg : Str → Option Value} {base : Heap}
abbrev s_resolved : Stmt := top 26
theorem sc_resolved : FnScope ["tree", "bound", "unknown"] ["tree", "bound"] (defScope s_resolved) := ⟨rfl, rfl, rfl, by decide +kernel, rfl, by decide +kernel, by decide +kernel⟩
theorem ok_resolved (T : Tx w K mg) (d : Nat) : Fk P w K mg base CX0 (d + 4) "resolved" ["tree", "bound"] (sp_resd d) := by
  refine T.F_resolved.ok0 sc_resolved (fun _ _ _ _ _ _ us hl => match us, hl with | [_, _], _ => rfl)
    (fun vs H Q E h => ?_) (fun cdv A outer s H vs Q E hr h => ?_)
  · obtain ⟨v, a, t, B, kvs, rfl, _⟩ := h
    rfl
  · obtain ⟨v, a, t, B, kvs, rfl, it, wf, ⟨dp, sz⟩, d10, ⟨ns, nl, int, inB⟩, ha, al, tri, wB, k⟩ := h
    refine ⟨_, (pss_cons (ps_while PassesOwn.never (pt_val (pe_callB (cr_any rfl) (by rfl) T.z_any (by decide +kernel) (pa_cons (pe_lc (own := [("unknown", 2)]) (g := gName 2) (tt := tYes) (by rfl) sc_resolved.nd (pi_list (pe_fk (ok_atoms_of T d) (hr.mono (by omega)) rfl pass0 (pa_cons (pv 0) (pa_cons pe_str pa_nil)))) (blkOk_by (own := [("unknown", 2)]) (N := ["tree", "bound", "unknown"]) (sc := defScope s_resolved) (by decide +kernel)) (fun _ _ _ _ _ => (pg_name (i := 2) sc_resolved.nd rfl (Or.inl rfl))) (fun _ _ _ _ _ => pts_nil) (fun _ _ _ _ _ => (pe_cmp (pc_din (hu_of hr) (pv 2) (pv 1))))) pa_nil)))
  (pss_one (ps_set (i := 0) sc_resolved.nd rfl (Or.inl rfl) (pe_fk (ok_filled_tree T d) (hr.mono (by omega)) rfl pass0 (pa_cons (pv 0) (pa_cons (pv 1) pa_nil))))))
  (pss_one (ps_ret (pv 0)))), ?_⟩
    have big : 16777216 ≤ sizeLine := by decide
    refine ⟨fun m σ Hc => ∃ (u : V) (t' : Tr) (n : Nat) (t2 : Option V), σ = [some u, some (.ref a), t2] ∧ Same H Hc ∧ IsT Hc t' u ∧ Wf t' ∧ res B t' = res B t ∧ Frk B n t' ∧ inNs ns t' ∧ m = B.length - n, ⟨_, v, t, 0, _, rfl, Same.refl _, it, wf, rfl, (fun i p hi => absurd hi (Nat.not_lt_zero _)), int, rfl⟩, ?_⟩
    rintro m σ Hc ⟨u, t', n, t2, rfl, sc, iu, wu, eu, fr, int', rfl⟩
    have du : t'.dep ≤ d := by
      have := dep_res (B := B) t'
      rw [eu] at this
      omega
    have szt : t'.all.length ≤ 8000000 := by
      have := all_res (B := B) t'
      rw [eu] at this
      omega
    have few := int'.few
    refine ⟨_, rfl, ⟨u, t', _, rfl, iu, wu, du, d10, szt, by omega, fun p H1 s1 np hp => ?_⟩, _, by decide +kernel, rfl⟩
    have alc : Al IsT H1 B kvs := al.mono fun t v h => h.same (sc.trans s1)
    have hac := (sc.trans s1) _ _ ha
    refine ⟨p, rfl, ⟨_, SqL.of hp⟩, fun D hD => ?_⟩
    have hul : (uniS (t'.txt "unknown")).length ≤ 8000000 := by omega
    refine lcl (C := 0) (fun i _ v => ∃ x, (uniS (t'.txt "unknown"))[i]? = some x ∧ v = .bl ((look B x).isSome)) (fun _ _ _ _ _ h => h) (SqL.of hp) (by rw [List.length_map]; exact hul) hD (fun i x H2 Q2 hx s2 k2 => ?_) fun vs H2 s2 hD2 hlv hvs => ?_
    · rw [List.getElem?_map] at hx
      cases hz : (uniS (t'.txt "unknown"))[i]? with
      | none => rw [hz] at hx; cases hx
      | some z =>
        rw [hz] at hx
        cases hx
        have g := (alc.look (x := z))
        refine ⟨_, rfl, _, rfl, a, valV kvs (.inr z), rfl, .inl ⟨kvs, .inr z, .inl (s2 _ _ hac), rfl, rfl⟩, ?_⟩
        refine k2 _ _ (Same.refl _) ⟨z, hz, ?_⟩
        cases e : look B z with
        | none => rw [g.2 e]; rfl
        | some t => obtain ⟨v, ev, _⟩ := g.1 t e; rw [ev]; rfl
    rw [List.length_map] at hlv
    have ev := vs_bl (fun x => (look B x).isSome) hlv hvs
    subst ev
    refine ⟨D, _, rfl, SqL.of hD2, _, rfl, ?_⟩
    rw [List.any_map]
    have eA : ((uniS (t'.txt "unknown")).any (id ∘ fun x => (look B x).isSome)) = anyB B t' := rfl
    rw [eA]
    have s02 := (sc.trans s1).trans s2
    cases hab : anyB B t' with
    | true =>
      refine iteT ⟨fun σ' H' => ∃ (u : V) (t' : Tr) (t2 : Option V), σ' = [some u, some (.ref a), t2] ∧ Same H H' ∧ IsT H' t' u ∧ Wf t' ∧ res B t' = res B t ∧ Frk B (n + 1) t' ∧ inNs ns t', fun σ' H' ⟨u, t', t2, e1, e2, e3, e4, e5, e6, e7⟩ => ⟨B.length - (n + 1), (by have := fr.lt hab; omega), u, t', n + 1, t2, e1, e2, e3, e4, e5, e6, e7, rfl⟩, ?_⟩
      refine ⟨_, rfl, _, rfl, u, a, t', look B, rfl, iu.same (s1.trans s2), wu, du, Al.dtr (s2 _ _ hac) (alc.mono fun t v h => h.same s2), fun u2 H3 s3 iu2 => ?_⟩
      refine gName_k ?_
      try dsimp only
      exact ⟨u2, _, _, rfl, s02.trans s3, iu2, fillB_wf wB wu, (res_pass tri t').trans eu, fr.next tri, fillB_in inB int'⟩
    | false =>
      refine iteF ⟨_, rfl, k u _ s02 ?_⟩
      rw [← eu, res_id (anyB_false tri.nodup hab)]
      exact iu.same (s1.trans s2)
end
end Rd
namespace Rd
open PySem L2
def PrT (H : Hp) (p : Tr × Tr) (v : V) : Prop := ∃ (a : Addr) (u1 u2 : V), v = .ref a ∧ H a = some (.tup [u1, u2]) ∧ IsT H p.1 u1 ∧ IsT H p.2 u2
structure PsAt (H : Hp) (W : List (Tr × Tr)) (vs : List V) : Prop where
  len : vs.length = W.length
  get : ∀ (i : Nat) p v, W[i]? = some p → vs[i]? = some v → PrT H p v
theorem PrT.mono {C : Addr} {H H' : Hp} {p : Tr × Tr} {v : V} (k : Kp C H H') (h : PrT H p v) : PrT H' p v := by
  obtain ⟨a, u1, u2, e, h1, h2, h3⟩ := h
  exact ⟨a, u1, u2, e, k _ _ rfl h1, h2.mono k, h3.mono k⟩
theorem PsAt.mono {C : Addr} {H H' : Hp} {W : List (Tr × Tr)} {vs : List V} (k : Kp C H H') (h : PsAt H W vs) : PsAt H' W vs := ⟨h.len, fun i p v a b => (h.get i p v a b).mono k⟩
theorem PsAt.same {H H' : Hp} {W : List (Tr × Tr)} {vs : List V} (s : Same H H') (h : PsAt H W vs) : PsAt H' W vs := h.mono (C := 0) (Kp.of_same s)
theorem PsAt.app {H : Hp} {W X : List (Tr × Tr)} {vs ws : List V} (h : PsAt H W vs) (g : PsAt H X ws) : PsAt H (W ++ X) (vs ++ ws) := by
  refine ⟨by rw [List.length_append, List.length_append, h.len, g.len], fun i p v a b => ?_⟩
  by_cases hi : i < vs.length
  · rw [List.getElem?_append_left (by rw [← h.len]; exact hi)] at a
    rw [List.getElem?_append_left hi] at b
    exact h.get i p v a b
  · rw [List.getElem?_append_right (by rw [← h.len]; omega)] at a
    rw [List.getElem?_append_right (by omega)] at b
    rw [← h.len] at a
    exact g.get _ p v a b
theorem PsAt.drop {H : Hp} {W : List (Tr × Tr)} {p : Tr × Tr} {vs : List V} (h : PsAt H (W ++ [p]) vs) : PsAt H W vs.dropLast ∧ ∃ v, vs[vs.length - 1]? = some v ∧ PrT H p v := by
  have hl := h.len
  rw [List.length_append, List.length_singleton] at hl
  refine ⟨⟨by rw [List.length_dropLast]; omega, fun i q v a b => ?_⟩, ?_⟩
  · have hi := (List.getElem?_eq_some_iff.mp a).1
    rw [List.getElem?_dropLast, if_pos (by omega)] at b
    exact h.get i q v (by rw [List.getElem?_append_left hi]; exact a) b
  · have hv : vs[vs.length - 1]? = some (vs[vs.length - 1]'(by omega)) := List.getElem?_eq_getElem (by omega)
    refine ⟨_, hv, h.get (vs.length - 1) p _ ?_ hv⟩
    rw [List.getElem?_append_right (by omega), show vs.length - 1 - W.length = 0 by omega]
    rfl
theorem PsAt.nil {H : Hp} : PsAt H [] [] := ⟨rfl, fun i p v h => by simp at h⟩
theorem PsAt.of {H : Hp} {ts : List Addr} {xs ys : List V} {ls rs : List Tr} (h : Paired (fun (t : Addr) (q : V × V) => H t = some (.tup [q.1, q.2])) ts (xs.zip ys)) (hx : xs.length = ls.length) (hy : ys.length = rs.length) (hl : ls.length = rs.length)
    (ix : ∀ (i : Nat) v, xs[i]? = some v → ∃ r, ls[i]? = some r ∧ IsT H r v) (iy : ∀ (i : Nat) v, ys[i]? = some v → ∃ r, rs[i]? = some r ∧ IsT H r v) : PsAt H (ls.zip rs) (ts.map V.ref) := by
  have hlen := Paired.length h
  rw [List.length_zip] at hlen
  refine ⟨by rw [List.length_map, List.length_zip]; omega, fun i p v a b => ?_⟩
  rw [List.getElem?_map] at b
  cases e : ts[i]? with
  | none => rw [e] at b; cases b
  | some t =>
    rw [e] at b
    cases b
    obtain ⟨q, e1, e2⟩ := LiI.paired_get h e
    obtain ⟨f1, f2⟩ := List.getElem?_zip_eq_some.mp e1
    obtain ⟨g1, g2⟩ := List.getElem?_zip_eq_some.mp (show (ls.zip rs)[i]? = some (p.1, p.2) from a)
    obtain ⟨r1, k1, k2⟩ := ix i _ f1
    obtain ⟨r2, k3, k4⟩ := iy i _ f2
    rw [g1] at k1
    rw [g2] at k3
    cases k1
    cases k3
    exact ⟨t, q.1, q.2, rfl, e2, k2, k4⟩
/-- the ways of an if joined -/
theorem seqIfC {c : TT} {t u v : TS} {D : Ends} {σ : St} {H : Hp} (R : St → Hp → Prop) (k1 : ∀ σ' H', R σ' H' → v D σ' H')
    (k2 : (∀ σ' H', R σ' H' → v D σ' H') → c σ H fun b H' => if b = true then t { D with nx := v D } σ H' else u { D with nx := v D } σ H') : tSeq (tIfS c t u) v D σ H := k2 k1
theorem rd_neT2 {K : PySem.W.Frag} {H : Hp} {t r : Tr} {v u : V} {Q : VK} (ht : t.fine) (hd : t.dep ≤ 60) (hr : r.fine) (hd2 : r.dep ≤ 60) (h1 : IsT H t v) (h2 : IsT H r u) (q : Q (.bl (!decide (t = r))) H) : rNeD K v u H Q := by
  refine ⟨dat t, dat r, h1.dp, h2.dp, dat_shaped ht hd, dat_shaped hr hd2, ?_⟩
  rw [eqv_dat]
  exact q
theorem inV_strsZ (t : Str) : ∀ nm : List Str, inV (V.str t) (nm.map V.str) = decide (t ∈ nm)
  | [] => by simp [inV]
  | z :: r => by
    have ih := inV_strsZ t r
    unfold inV at ih ⊢
    rw [List.map_cons, List.any_cons, ih]
    show ((z == t) || _) = _
    by_cases e : z = t
    · subst e; simp
    · have e' : t ≠ z := fun q => e q.symm
      simp [e, e']
/-- what the unknowns become at the end -/
def Rst (B m : Sb) : Prop := m.length = B.length ∧ (m.map (·.1)).Nodup ∧ ∀ p ∈ m, (look B p.1).isSome = true ∧ p.2 = res B (unk p.1)
def sp_nar (d : Nat) : Sp := fun vs H Q _ => ∃ (a : Addr) (ps : List V) (W : List (Tr × Tr)) (n : Nat) (o : Option Sb), vs = [.ref a] ∧ H a = some (.lst ps) ∧ PsAt H W ps ∧ (∀ p ∈ W, Wf p.1 ∧ Wf p.2) ∧ d ≤ 60 ∧ (∃ ns : List Str, ns.length ≤ 500 ∧ ∀ p ∈ W, inNs ns p.1 ∧ inNs ns p.2) ∧ Un d n [] W o ∧ W.length ≤ 1000 ∧
  (o = none → ∀ H', Same H H' → Q .non H') ∧ (∀ B, o = some B → Tri B → (∀ p ∈ B, Wf p.2) → ∀ q kq m H', Same H H' → H q = none → H' q = some (.dK kq) → Al IsT H' m kq → Rst B m → Q (.ref q) H')
end Rd
namespace Rd
open PySem L2
def NarI (ns : List Str) (d : Nat) (H : Hp) (a b q : Addr) (o : Option Sb) (m : Nat) (σ : St) (Hc : Hp) : Prop := ∃ (B : Sb) (W : List (Tr × Tr)) (vs : List V) (kvs : List (Key × V)) (t3 t4 t5 : Option V), σ = [some (.ref a), some (.ref b), some (.ref q), t3, t4, t5] ∧ Same H Hc ∧ Hc b = some (.dK kvs) ∧ Al IsT Hc B kvs ∧ Tri B ∧ (∀ p ∈ B, Wf p.2) ∧ Hc q = some (.lst vs) ∧ PsAt Hc W vs ∧ (∀ p ∈ W, Wf p.1 ∧ Wf p.2) ∧ ((∀ p ∈ W, inNs ns p.1 ∧ inNs ns p.2) ∧ ∀ p ∈ B, inNs ns p.2) ∧ Un d m B W o ∧ B.length ≤ 64 ∧ W.length ≤ 16000000
section
variable {P : Program} {w : World} {K : PySem.W.Frag} {mg : Str → Option Value} {base : Heap}
abbrev s_narrowest_trees : Stmt := top 27
theorem sc_narrowest_trees : FnScope ["pairs", "bound", "waiting", "left", "right", "unknown"] ["pairs"] (defScope s_narrowest_trees) := ⟨rfl, rfl, rfl, by decide +kernel, rfl, by decide +kernel, by decide +kernel⟩
theorem ok_narrowest_trees (T : Tx w K mg) (d : Nat) : Fk P w K mg base CX0 (d + 5) "narrowest_trees" ["pairs"] (sp_nar d) := by
  refine T.F_narrowest_trees.ok0 sc_narrowest_trees (fun _ _ _ _ _ _ us hl => match us, hl with | [_], _ => rfl)
    (fun vs H Q E h => ?_) (fun cdv A outer s H vs Q E hr h => ?_)
  · obtain ⟨a, ps, W, n, o, rfl, _⟩ := h
    rfl
  · obtain ⟨a, ps, W0, n0, o, rfl, ha, hps, wW0, d10, ⟨ns, nl, inW0⟩, hU0, hbig, kf, kt⟩ := h
    refine ⟨_, (pss_cons (ps_set (i := 1) sc_narrowest_trees.nd rfl (Or.inr rfl) pe_dnewK)
  (pss_cons (ps_set (i := 2) sc_narrowest_trees.nd rfl (Or.inl rfl) (pe_callTy call_list_of (by rfl) T.z_list (by decide +kernel) (pa_cons (pv 0) pa_nil)))
  (pss_cons (ps_while PassesOwn.never (pt_truth (pv 2) (by intro _; rfl))
  (pss_cons (ps_asg (pe_bm0 PySem.F.plainAttrs_list PySem.F.slot_list_pop PySem.F.type_list_pop mt_pop (pv 2)) (pg_tup rfl (pgs_cons (pg_name (i := 3) sc_narrowest_trees.nd rfl (Or.inl rfl)) (pgs_cons (pg_name (i := 4) sc_narrowest_trees.nd rfl (Or.inl rfl)) pgs_nil))))
  (pss_cons (ps_set (i := 3) sc_narrowest_trees.nd rfl (Or.inl rfl) (pe_fk (ok_resolved T d) (hr.mono (by omega)) rfl pass0 (pa_cons (pv 3) (pa_cons (pv 1) pa_nil))))
  (pss_cons (ps_set (i := 4) sc_narrowest_trees.nd rfl (Or.inl rfl) (pe_fk (ok_resolved T d) (hr.mono (by omega)) rfl pass0 (pa_cons (pv 4) (pa_cons (pv 1) pa_nil))))
  (pss_cons (ps_if (PW.pt (pw_and (pt_cmpR op_ne (pe_ix ix_tup (pv 3) pe_int (fun _ _ => rfl)) pe_str (nomark _)) (pw_and1 (pt_cmpR op_eq (pe_ix ix_tup (pv 4) pe_int (fun _ _ => rfl)) pe_str (nomark _)))))
  (pss_one (ps_par (i := 3) (j := 4) (by rfl) sc_narrowest_trees.nd rfl rfl (by decide) rfl rfl (pa_cons (pv 4) (pa_cons (pv 3) pa_nil)) (by rfl)))
  pss_nil)
  (pss_one (ps_if (pt_cmpR op_eq (pe_ix ix_tup (pv 3) pe_int (fun _ _ => rfl)) pe_str (nomark _))
  (pss_one (ps_if (pt_cmpR (op_neD hr.units) (pv 3) (pv 4) (nomark _))
  (pss_cons (ps_if (pt_cmpR op_in_seq (pe_ix ix_tup (pv 3) pe_int (fun _ _ => rfl)) (pe_fk (ok_atoms_of T d) (hr.mono (by omega)) rfl pass0 (pa_cons (pv 4) (pa_cons pe_str pa_nil))) (by rfl))
  (pss_one (ps_ret pe_non))
  pss_nil)
  (pss_one (ps_dput (hu_of hr) (pv 1) (pe_ix ix_tup (pv 3) pe_int (fun _ _ => rfl)) (pv 4) (by rfl))))
  pss_nil))
  (pss_one (ps_if (PW.pt (pw_or (pt_cmpR (op_notInK T.D_SIGNS) (pe_ix ix_tup (pv 3) pe_int (fun _ _ => rfl)) (pe_kd T.D_SIGNS) (by rfl)) (pw_or1 (pt_cmpR op_ne (pe_ix ix_tup (pv 3) pe_int (fun _ _ => rfl)) (pe_ix ix_tup (pv 4) pe_int (fun _ _ => rfl)) (nomark _)))))
  (pss_one (ps_if (pt_cmpR (op_neD hr.units) (pv 3) (pv 4) (nomark _))
  (pss_one (ps_ret pe_non))
  pss_nil))
  (pss_one (ps_expr (pe_bm PySem.F.plainAttrs_list PySem.F.slot_list_extend PySem.F.type_list_extend mt_extend (pv 2) (pa_cons (pe_listZip rfl (by rfl) T.z_list (by rfl) T.z_zip (pa_cons (pe_slice sl_tup (pv 3) (po_some pe_int) po_none) (pa_cons (pe_slice sl_tup (pv 4) (po_some pe_int) po_none) pa_nil))) pa_nil)))))))))))))
  (pss_one (ps_ret (pe_dc (own := [("unknown", 5)]) (g := gName 5) (tt := tYes) (by rfl) sc_narrowest_trees.nd (pi_list (pe_callB (call_sortedD rfl) (by rfl) T.z_sorted (by decide +kernel) (pa_cons (pv 1) pa_nil))) (blkOk_by (own := [("unknown", 5)]) (N := ["pairs", "bound", "waiting", "left", "right", "unknown"]) (sc := defScope s_narrowest_trees) (by decide +kernel)) (fun _ _ _ _ _ => (pg_name (i := 5) sc_narrowest_trees.nd rfl (Or.inl rfl))) (fun _ _ _ _ _ => pts_nil) (fun _ _ _ _ _ => (pv 5)) (fun _ _ _ _ _ => (pe_fk (ok_resolved T d) (hr.mono (by omega)) rfl pass0 (pa_cons (pe_dget (hu_of hr) (pv 1) (pv 5) (fun _ _ => rfl)) (pa_cons (pv 1) pa_nil)))))))))), ?_⟩
    have big : 16777216 ≤ sizeLine := by decide
    refine fun b hb => ?_
    refine gName_k ?_
    try dsimp only
    have sb := Rd.Same.upd (o := .dK []) hb
    have hb1 : upd H b (.dK []) b = some (.dK []) := upd_same
    generalize upd H b (.dK []) = H1 at sb hb1 ⊢
    refine seqAsg ⟨_, rfl, a, ps, rfl, .inl (SqL.of (sb _ _ ha)), fun q hq => ?_⟩
    refine gName_k ?_
    try dsimp only
    have sq := Rd.Same.upd (o := .lst ps) hq
    have hq1 : upd H1 q (.lst ps) q = some (.lst ps) := upd_same
    have hqH : H q = none := sb.free hq
    have nbq : b ≠ q := fun z => by rw [z, hq] at hb1; cases hb1
    generalize upd H1 q (.lst ps) = H2 at sq hq1 ⊢
    have s2 := sb.trans sq
    refine ⟨fun m σ Hc => NarI ns d H a b q o m σ Hc, ⟨n0, [], W0, ps, [], _, _, _, rfl, s2, sq _ _ hb1, trivial, trivial, (fun p hp => nomatch hp), hq1, hps.same s2, wW0, ⟨inW0, fun p hp => nomatch hp⟩, hU0, by decide, by omega⟩, ?_⟩
    rintro m σ Hc ⟨B, W, vs, kvs, t3, t4, t5, rfl, sc, hbc, al, tri, wB, hqc, hpw, wW, ⟨inW, inB⟩, hU, hB1, hW1⟩
    have hvl := hpw.len
    refine ⟨_, rfl, _, .inl ⟨vs, SqL.of hqc, rfl⟩, ?_⟩
    rcases hU.step with ⟨rfl, rfl, rfl, hd, hl64⟩ | ⟨W', l, r, n, rfl, rfl, dl, dr, hact⟩
    · obtain rfl : vs = [] := List.eq_nil_of_length_eq_zero hvl
      refine iteN (by decide) ?_
      have ek : kvs.map (·.1) = (B.map (·.1)).map Sum.inr := by rw [al.keys, List.map_map]; rfl
      have hl6 : (B.map (·.1)).length < 64 := by rw [List.length_map]; exact hl64
      refine ⟨_, rfl, b, kvs, B.map (·.1), rfl, .inl hbc, ek, hl6, fun ys q2 hpm _ hq2 => ?_⟩
      have sq2 := Rd.Same.upd (o := .lst (ys.map V.str)) hq2
      have hq3 : upd Hc q2 (.lst (ys.map V.str)) q2 = some (.lst (ys.map V.str)) := upd_same
      generalize upd Hc q2 (.lst (ys.map V.str)) = H3 at sq2 hq3 ⊢
      have hyl := hpm.length_eq
      have hyn : ys.Nodup := hpm.nodup_iff.mpr tri.nodup
      refine ⟨q2, rfl, ⟨_, SqL.of hq3⟩, fun D hD => ?_⟩
      have S3 := sc.trans sq2
      have hlk : ∀ x ∈ ys, ∃ u, look B x = some u ∧ Wf u ∧ SzB d (res B u) ∧ inNs ns u := fun x hx => by
        obtain ⟨⟨y, u⟩, hy, ey⟩ := List.mem_map.mp (hpm.mem_iff.mp hx)
        obtain ⟨i, hi⟩ := List.getElem?_of_mem hy
        have ey : y = x := ey
        subst ey
        exact ⟨u, look_get tri.nodup hi, wB _ hy, hd _ hy, inB _ hy⟩
      refine dcl (C := 0) (ys := ys) (R2 := IsT) (fun x => res B (unk x)) (fun _ _ _ _ kp h => h.mono kp) hq3 hyn (by omega) hD (fun _ => rfl) (fun _ => rfl) (fun i x σ2 H4 Q4 hx s4 e k4 => ?_) fun kq H4 s4 hD4 al4 => ?_
      · subst e
        obtain ⟨u, hu, wu, du, nu⟩ := hlk x (List.mem_of_getElem? hx)
        have al3 : Al IsT H4 B kvs := al.mono fun t v h => (h.same sq2).same s4
        obtain ⟨v0, e0, i0⟩ := (al3.look (x := x)).1 u hu
        refine ⟨_, rfl, _, rfl, b, _, rfl, .inl ⟨kvs, .inr x, .inl (s4 _ _ (sq2 _ _ hbc)), rfl, e0.symm⟩, ?_⟩
        refine ⟨_, rfl, v0, b, u, B, kvs, rfl, i0, wu, du, d10, ⟨ns, nl, nu, inB⟩, s4 _ _ (sq2 _ _ hbc), al3, tri, wB, fun u2 H5 s5 iu2 => k4 _ _ s5 ?_⟩
        rw [res_look tri hu]
        exact iu2
      · refine kt B rfl tri wB D kq _ H4 (S3.trans s4) (S3.free hD) hD4 al4 ⟨by rw [List.length_map, hyl, List.length_map], by rw [List.map_map]; exact (List.map_id ys).symm ▸ hyn, fun r hr => ?_⟩
        obtain ⟨x, hx, rfl⟩ := List.mem_map.mp hr
        obtain ⟨u, hu, _⟩ := hlk x hx
        exact ⟨by show (look B x).isSome = true; rw [hu]; rfl, rfl⟩
    · obtain ⟨hpw', v, hv, pa, u1, u2, rfl, hpa, il, ir⟩ := hpw.drop
      rw [List.length_append, List.length_singleton] at hvl hW1
      refine iteP (by cases vs with | nil => simp at hvl | cons _ _ => rfl) ?_
      refine ⟨fun σ' H' => NarI ns d H a b q o n σ' H', fun σ' H' h => ⟨n, Nat.lt_succ_self n, h⟩, ?_⟩
      obtain ⟨wl, wr⟩ := wW (l, r) (List.mem_append_right _ (List.mem_singleton.mpr rfl))
      obtain ⟨nnl, nnr⟩ := inW (l, r) (List.mem_append_right _ (List.mem_singleton.mpr rfl))
      have inW' : ∀ p ∈ W', inNs ns p.1 ∧ inNs ns p.2 := fun p hp => inW p (List.mem_append_left _ hp)
      have wW' : ∀ p ∈ W', Wf p.1 ∧ Wf p.2 := fun p hp => wW p (List.mem_append_left _ hp)
      refine ⟨_, rfl, .inl ⟨rfl, _, SqL.of hqc⟩, q, vs, _, rfl, rfl, hqc, hv, ?_⟩
      have kp3 := Kp.upd_lst (C := 0) (ys := vs.dropLast) hqc
      have hq3 : upd Hc q (.lst vs.dropLast) q = some (.lst vs.dropLast) := upd_same
      have hb3 : upd Hc q (.lst vs.dropLast) b = some (.dK kvs) := by rw [upd_ne nbq]; exact hbc
      have s3 : Same H (upd Hc q (.lst vs.dropLast)) := fun c o e => by rw [upd_ne (ne_of_none e hqH)]; exact sc c o e
      generalize upd Hc q (.lst vs.dropLast) = H3 at kp3 hq3 hb3 s3 ⊢
      refine ⟨pa, [u1, u2], rfl, SqT.of (kp3 _ _ rfl hpa), rfl, _, _, rfl, _, _, rfl, rfl, ?_⟩
      try dsimp only
      have al3 : Al IsT H3 B kvs := al.mono fun t v h => h.mono kp3
      refine seqAsg ⟨_, rfl, _, rfl, u1, b, l, B, kvs, rfl, il.mono kp3, wl, dl, d10, ⟨ns, nl, nnl, inB⟩, hb3, al3, tri, wB, fun v1 H4 s4 i1 => ?_⟩
      refine gName_k ?_
      try dsimp only
      refine seqAsg ⟨_, rfl, _, rfl, u2, b, r, B, kvs, rfl, (ir.mono kp3).same s4, wr, dr, d10, ⟨ns, nl, nnr, inB⟩, s4 _ _ hb3, al3.mono (fun t v h => h.same s4), tri, wB, fun v2 H5 s5 i2 => ?_⟩
      refine gName_k ?_
      try dsimp only
      have s45 := s4.trans s5
      have hp5 : PsAt H5 W' vs.dropLast := (hpw'.mono kp3).same s45
      have al5 : Al IsT H5 B kvs := al3.mono fun t v h => h.same s45
      have hb5 := s45 _ _ hb3
      have hq5 := s45 _ _ hq3
      have S5 := s3.trans s45
      have w1 := res_wf wB wl
      have w2 := res_wf wB wr
      have n1 := res_in inB nnl
      have n2 := res_in inB nnr
      have fr1 := res_free (t := l) tri
      have fr2 := res_free (t := r) tri
      replace i1 := i1.same s5
      generalize res B l = l' at dl i1 w1 hact fr1 n1
      generalize res B r = r' at dr i2 w2 hact fr2 n2
      refine seqIfC (fun σ' H' => ∃ (z1 z2 : V) (L R : Tr), σ' = [some (.ref a), some (.ref b), some (.ref q), some z1, some z2, t5] ∧ Same H5 H' ∧ IsT H' L z1 ∧ IsT H' R z2 ∧ (L, R) = sw l' r') ?_ ?_
      · rintro σ' H' ⟨z1, z2, L, R, rfl, s6, iL, iR, eLR⟩
        have hLR : (L = l' ∧ R = r') ∨ (L = r' ∧ R = l') := by
          unfold sw at eLR
          split at eLR
          · exact .inr ⟨congrArg Prod.fst eLR, congrArg Prod.snd eLR⟩
          · exact .inl ⟨congrArg Prod.fst eLR, congrArg Prod.snd eLR⟩
        have wL : Wf L := by rcases hLR with ⟨rfl, _⟩ | ⟨rfl, _⟩; exact w1; exact w2
        have wR : Wf R := by rcases hLR with ⟨_, rfl⟩ | ⟨_, rfl⟩; exact w2; exact w1
        have dL : L.dep ≤ d := by rcases hLR with ⟨rfl, _⟩ | ⟨rfl, _⟩; exact dl.1; exact dr.1
        have dR : R.dep ≤ d := by rcases hLR with ⟨_, rfl⟩ | ⟨_, rfl⟩; exact dr.1; exact dl.1
        have sR : R.all.length ≤ 8000000 := by rcases hLR with ⟨_, rfl⟩ | ⟨_, rfl⟩; exact dr.2; exact dl.2
        have nL : inNs ns L := by rcases hLR with ⟨rfl, _⟩ | ⟨rfl, _⟩; exact n1; exact n2
        have nR : inNs ns R := by rcases hLR with ⟨_, rfl⟩ | ⟨_, rfl⟩; exact n2; exact n1
        have fL : ∀ p ∈ B, ocU p.1 L = false := by rcases hLR with ⟨rfl, _⟩ | ⟨rfl, _⟩; exact fr1; exact fr2
        have fR : ∀ p ∈ B, ocU p.1 R = false := by rcases hLR with ⟨_, rfl⟩ | ⟨_, rfl⟩; exact fr2; exact fr1
        have ea : act l' r' = act2 L R := by unfold act; rw [← eLR]
        rw [ea] at hact
        clear hLR ea eLR
        have S6 := S5.trans s6
        have hp6 := hp5.same s6
        have al6 : Al IsT H' B kvs := al5.mono fun t v h => h.same s6
        have hb6 := s6 _ _ hb5
        have hq6 := s6 _ _ hq5
        have eH := isU_head wL
        obtain ⟨p1, us1, rfl, hp1⟩ := iL.hd
        have stay : Un d n B W' o → ∀ H7, Same H' H7 → NarI ns d H a b q o n [some (.ref a), some (.ref b), some (.ref q), some (.ref p1), some z2, t5] H7 := fun hu H7 s7 => ⟨B, W', _, kvs, _, _, _, rfl, S6.trans s7, s7 _ _ hb6, al6.mono (fun t v h => h.same s7), tri, wB, s7 _ _ hq6, hp6.same s7, wW', ⟨inW', inB⟩, hu, by omega, by omega⟩
        refine ⟨_, rfl, p1, _, _, _, rfl, rfl, SqT.of hp1, at_of (j := 0) rfl rfl, rfl, _, rfl, ?_⟩
        cases hL : isU L with
        | some x =>
          obtain rfl := isU_some hL
          refine iteP (by show decide (V.str "unknown" = V.str "unknown") = true; decide +kernel) ?_
          refine ⟨_, rfl, _, rfl, rd_neT2 wL.fine (by omega) wR.fine (by omega) iL iR ⟨_, rfl, ?_⟩⟩
          unfold act2 at hact
          rw [hL] at hact
          dsimp only at hact
          by_cases hEq : unk x = R
          · rw [if_pos hEq] at hact
            refine iteN (by rw [decide_eq_true hEq]; decide) (nxt ?_)
            rcases hact with ⟨e, _⟩ | ⟨_, hu⟩ | ⟨_, _, e, _⟩ | ⟨_, e, _⟩
            · cases e
            · exact stay hu _ (Same.refl _)
            · cases e
            · cases e
          · rw [if_neg hEq] at hact
            refine iteP (by rw [decide_eq_false hEq]; rfl) ?_
            obtain ⟨p1', e1', hp1'⟩ := iL
            cases e1'
            refine ⟨_, rfl, p1, _, _, _, rfl, rfl, SqT.of hp1', at_of (j := 1) rfl rfl, _, rfl, ⟨z2, R, _, rfl, iR, wR, dR, d10, sR, by have := nR.few; omega, fun pl H7 s7 npl hpl => ?_⟩, _, by decide +kernel, rfl⟩
            refine ⟨pl, _, rfl, .inl (SqL.of hpl), rfl, (by rw [List.all_map, List.all_eq_true]; intro _ _; rfl), _, rfl, ?_⟩
            rw [if_neg Bool.false_ne_true, inV_strsZ]
            have eI : (x ∈ uniS (R.txt "unknown")) ↔ ocU x R = true := uniS_mem.trans ocU_txt
            by_cases hO : ocU x R = true
            · rw [if_pos hO] at hact
              refine iteP (decide_eq_true (eI.mpr hO)) ?_
              rcases hact with ⟨_, rfl⟩ | ⟨e, _⟩ | ⟨_, _, e, _⟩ | ⟨_, e, _⟩
              · exact kf rfl _ (S6.trans s7)
              · cases e
              · cases e
              · cases e
            · rw [if_neg hO] at hact
              refine iteN (by rw [decide_eq_false (fun z => hO (eI.mp z))]; decide) (nxt ?_)
              try dsimp only
              rcases hact with ⟨e, _⟩ | ⟨e, _⟩ | ⟨x', t', e, hb60, hu⟩ | ⟨_, e, _⟩
              · cases e
              · cases e
              · cases e
                have al7 : Al IsT H7 B kvs := al6.mono fun t v h => h.same s7
                have hlk : look B x = none := look_none fun hm => by
                  obtain ⟨p, hp, e⟩ := List.mem_map.mp hm
                  have := fL p hp
                  rw [e] at this
                  rw [show ocU x (unk x) = true from ocU_unk.mpr rfl] at this
                  cases this
                have hv' := (al7.look (x := x)).2 hlk
                have hb7 := s7 _ _ hb6
                have hkl := al7.len
                refine ⟨_, rfl, _, rfl, _, rfl, p1, _, _, _, rfl, rfl, SqT.of (s7 _ _ hp1'), at_of (j := 1) rfl rfl, b, _, rfl, DPut.k (k := .inr x) hb7 (by omega), ?_⟩
                rw [putK_new z2 hv']
                have kp := Kp.upd_dK (C := 0) (ys := kvs ++ [(.inr x, z2)]) hb7
                refine ⟨B ++ [(x, R)], W', _, kvs ++ [(.inr x, z2)], _, _, _, rfl, fun c o e => ?_, upd_same, Al.snoc ((iR.same s7).mono kp) (al7.mono fun t v h => h.mono kp), tri.snoc (Bool.eq_false_iff.mpr hO) (fun p hp => ⟨fR p hp, fun e => ?_⟩), fun p hp => ?_, ?_, (hp6.same s7).mono kp, wW', ⟨inW', fun p hp => (List.mem_append.mp hp).elim (inB p) fun h => by rw [List.mem_singleton.mp h]; exact nR⟩, hu, by rw [List.length_append, List.length_singleton]; omega, by omega⟩
                · rw [upd_ne (ne_of_none e hb)]
                  exact s7 _ _ (S6 c o e)
                · have := fL p hp
                  rw [e, show ocU x (unk x) = true from ocU_unk.mpr rfl] at this
                  cases this
                · rcases List.mem_append.mp hp with z | z
                  · exact wB p z
                  · rw [List.mem_singleton.mp z]
                    exact wR
                · rw [upd_ne (Ne.symm nbq)]
                  exact s7 _ _ hq6
              · cases e
        | none =>
          have e3 : ¬ L.head = "unknown" := of_decide_eq_false (by rw [← eH, hL]; rfl)
          refine iteN (by rw [decide_eq_false (fun z => e3 (V.str.inj z))]; decide) ?_
          refine ⟨_, rfl, p1, _, _, _, rfl, rfl, SqT.of hp1, at_of (j := 0) rfl rfl, _, rfl, rfl, _, rfl, ?_⟩
          unfold act2 at hact
          rw [hL] at hact
          dsimp only at hact
          by_cases hpt : L.parts = []
          · rw [if_pos (.inl hpt)] at hact
            have hn : decide (L.head ∈ sgns) = false := by
              cases wL with
              | am ko => exact sgn_no ko
              | _ => exact absurd hpt (fun e => by cases e)
            refine iteP (by show (!decide (L.head ∈ sgns)) = true; rw [hn]; rfl) (iteT ?_)
            refine ⟨_, rfl, _, rfl, rd_neT2 wL.fine (by omega) wR.fine (by omega) iL iR ⟨_, rfl, ?_⟩⟩
            by_cases hEq : L = R
            · rw [if_pos hEq] at hact
              refine iteN (by rw [decide_eq_true hEq]; decide) (nxt ?_)
              rcases hact with ⟨e, _⟩ | ⟨_, hu⟩ | ⟨_, _, e, _⟩ | ⟨_, e, _⟩
              · cases e
              · exact stay hu _ (Same.refl _)
              · cases e
              · cases e
            · rw [if_neg hEq] at hact
              refine iteP (by rw [decide_eq_false hEq]; rfl) ?_
              rcases hact with ⟨_, rfl⟩ | ⟨e, _⟩ | ⟨_, _, e, _⟩ | ⟨_, e, _⟩
              · exact kf rfl _ S6
              · cases e
              · cases e
              · cases e
          · refine iteN (by show ¬ (!decide (L.head ∈ sgns)) = true; rw [sgn_yes wL hpt]; decide) ?_
            obtain ⟨p2, us2, rfl, hp2⟩ := iR.hd
            refine ⟨_, rfl, p1, _, _, _, rfl, rfl, SqT.of hp1, at_of (j := 0) rfl rfl, _, rfl, p2, _, _, _, rfl, rfl, SqT.of hp2, at_of (j := 0) rfl rfl, rfl, _, rfl, ?_⟩
            by_cases hh : L.head = R.head
            · refine iteN (by rw [hh]; simp) ?_
              rw [if_neg (fun z => z.elim hpt (fun z => z hh))] at hact
              obtain ⟨_, el⟩ := mtl_parts (l := []) hpt wL wR hh
              have hpt2 : R.parts ≠ [] := fun e => hpt (List.length_eq_zero_iff.mp (by rw [el, e]; rfl))
              obtain ⟨hsL, hwL⟩ := wL.sign hpt
              obtain ⟨hsR, hwR⟩ := wR.sign hpt2
              obtain ⟨p1', vs1, e1', hp1', hlu1, hl21, hne1, hus1⟩ := iL.parts hpt
              cases e1'
              obtain ⟨p2', vs2, e2', hp2', hlu2, hl22, hne2, hus2⟩ := iR.parts hpt2
              cases e2'
              refine ⟨_, rfl, .inl ⟨rfl, _, SqL.of hq6⟩, ?_⟩
              refine ⟨_, rfl, _, rfl, p1, _, rfl, SqT.of hp1', ?_, fun p3 hp3 => ?_⟩
              · rintro ⟨z, _⟩
                rw [show (1 : Int) = ((1 : Nat) : Int) from rfl, HT.sIx_nat, List.length_cons] at z
                omega
              rw [cut1]
              have s7 := Rd.Same.upd (o := .tup vs1) hp3
              have h73 : upd H' p3 (.tup vs1) p3 = some (.tup vs1) := upd_same
              generalize upd H' p3 (.tup vs1) = H7 at s7 h73 ⊢
              refine ⟨_, rfl, _, rfl, p2, _, rfl, SqT.of (s7 _ _ hp2'), ?_, fun p4 hp4 => ?_⟩
              · rintro ⟨z, _⟩
                rw [show (1 : Int) = ((1 : Nat) : Int) from rfl, HT.sIx_nat, List.length_cons] at z
                omega
              rw [cut1]
              have s8 := Rd.Same.upd (o := .tup vs2) hp4
              have h84 : upd H7 p4 (.tup vs2) p4 = some (.tup vs2) := upd_same
              generalize upd H7 p4 (.tup vs2) = H8 at s8 h84 ⊢
              refine ⟨p3, p4, vs1, vs2, rfl, SqT.of (s8 _ _ h73), SqT.of h84, (by omega), List.length_pos_iff.mpr hne1, (by omega), fun H9 pl ts s9 npl hpl hpr => ?_⟩
              have s69 := (s7.trans s8).trans s9
              have hq9 := s69 _ _ hq6
              have hts := Paired.length hpr
              rw [List.length_zip] at hts
              have hdl := hp6.len
              refine ⟨q, pl, _, _, rfl, rfl, hq9, hpl, (by rw [List.length_map]; omega), ?_⟩
              have pz : PsAt H9 (L.parts.zip R.parts) (ts.map V.ref) := PsAt.of hpr hlu1 hlu2 el (fun i v hv => by obtain ⟨r, a, b⟩ := hus1 i v hv; exact ⟨r, a, b.same s69⟩) (fun i v hv => by obtain ⟨r, a, b⟩ := hus2 i v hv; exact ⟨r, a, b.same s69⟩)
              have kp := Kp.upd_lst (C := 0) (ys := vs.dropLast ++ ts.map V.ref) hq9
              rcases hact with ⟨e, _⟩ | ⟨e, _⟩ | ⟨_, _, e, _⟩ | ⟨ps', e, hw2, hu⟩
              · cases e
              · cases e
              · cases e
              · cases e
                refine ⟨B, W' ++ L.parts.zip R.parts, _, kvs, _, _, _, rfl, fun c o e => ?_, ?_, al6.mono (fun t v h => (h.same s69).mono kp), tri, wB, upd_same, ((hp6.same s69).mono kp).app (pz.mono kp), fun p hp => ?_, ⟨fun p hp => (List.mem_append.mp hp).elim (inW' p) fun h => by
                  obtain ⟨i, hi⟩ := List.getElem?_of_mem h
                  obtain ⟨g1, g2⟩ := List.getElem?_zip_eq_some.mp (show (L.parts.zip R.parts)[i]? = some (p.1, p.2) from hi)
                  exact ⟨inNs_parts (List.mem_of_getElem? g1) nL, inNs_parts (List.mem_of_getElem? g2) nR⟩, inB⟩, hu, by omega, ?_⟩
                · rw [upd_ne (ne_of_none e hqH)]
                  exact s69 _ _ (S6 c o e)
                · rw [upd_ne nbq]
                  exact s69 _ _ hb6
                · rcases List.mem_append.mp hp with z | z
                  · exact wW' p z
                  · obtain ⟨i, hi⟩ := List.getElem?_of_mem z
                    obtain ⟨g1, g2⟩ := List.getElem?_zip_eq_some.mp (show (L.parts.zip R.parts)[i]? = some (p.1, p.2) from hi)
                    exact ⟨(hwL _ (List.mem_of_getElem? g1)).1, (hwR _ (List.mem_of_getElem? g2)).1⟩
                · rw [List.length_append, List.length_zip]
                  omega
            · refine iteP (by rw [decide_eq_false (fun z => hh (V.str.inj z))]; rfl) ?_
              rw [if_pos (.inr hh)] at hact
              have hEq : ¬ L = R := fun e => hh (by rw [e])
              rw [if_neg hEq] at hact
              refine ⟨_, rfl, _, rfl, rd_neT2 wL.fine (by omega) wR.fine (by omega) iL iR ⟨_, rfl, ?_⟩⟩
              refine iteP (by rw [decide_eq_false hEq]; rfl) ?_
              rcases hact with ⟨_, rfl⟩ | ⟨e, _⟩ | ⟨_, _, e, _⟩ | ⟨_, e, _⟩
              · exact kf rfl _ S6
              · cases e
              · cases e
              · cases e
      · intro tail
        obtain ⟨p1, us1, rfl, hp1⟩ := i1.hd
        obtain ⟨p2, us2, rfl, hp2⟩ := i2.hd
        have e1 := isU_head w1
        have e2 := isU_head w2
        refine ⟨_, rfl, p1, _, _, _, rfl, rfl, SqT.of hp1, at_of (j := 0) rfl rfl, rfl, _, rfl, ?_⟩
        cases hl : isU l' with
        | some x =>
          have e3 : l'.head = "unknown" := of_decide_eq_true (by rw [← e1, hl]; rfl)
          refine iteN (by rw [e3]; decide +kernel) ?_
          refine iteF (nxt ?_)
          exact tail _ _ ⟨_, _, l', r', rfl, Same.refl _, i1, i2, by unfold sw; rw [hl]; rfl⟩
        | none =>
          have e3 : ¬ l'.head = "unknown" := of_decide_eq_false (by rw [← e1, hl]; rfl)
          refine iteP (by rw [decide_eq_false (fun z => e3 (V.str.inj z))]; rfl) ?_
          refine ⟨_, rfl, p2, _, _, _, rfl, rfl, SqT.of hp2, at_of (j := 0) rfl rfl, rfl, _, rfl, ?_⟩
          cases hr' : isU r' with
          | some x =>
            have e4 : r'.head = "unknown" := of_decide_eq_true (by rw [← e2, hr']; rfl)
            refine iteP (by rw [e4]; decide +kernel) ?_
            refine ⟨_, rfl, _, rfl, _, _, rfl, ?_⟩
            exact tail _ _ ⟨_, _, r', l', rfl, Same.refl _, i2, i1, by unfold sw; rw [hl, hr']; rfl⟩
          | none =>
            have e4 : ¬ r'.head = "unknown" := of_decide_eq_false (by rw [← e2, hr']; rfl)
            refine iteN (by rw [decide_eq_false (fun z => e4 (V.str.inj z))]; decide) (nxt ?_)
            exact tail _ _ ⟨_, _, l', r', rfl, Same.refl _, i1, i2, by unfold sw; rw [hl, hr']; rfl⟩
end
end Rd
namespace Rd
open PySem L2
/-- {x: f(d[x]) for x in d} -/
theorem dck {C d D : Addr} {o : Obj} {kvs : List (Key × V)} {l : List (Str × Tr)} {R1 R2 : Hp → Tr → V → Prop} (f : Tr → Tr) {tv : TE} {i0 : Nat} {σ : St} {H1 : Hp} {Qd : Hp → Prop}
    (m1 : ∀ H H' t v, Kp C H H' → R1 H t v → R1 H' t v) (m2 : ∀ H H' t v, Kp C H H' → R2 H t v → R2 H' t v) (hd : H1 d = some (.frz o (.dK kvs))) (al : Al R1 H1 l kvs) (nd : (l.map (·.1)).Nodup) (hl : l.length ≤ 1000) (hD : H1 D = none)
    (hsl : ∀ p : V, ((wipe σ [i0]).set i0 (some p))[i0]? = some (some p)) (hw : ∀ p : V, wipe ((wipe σ [i0]).set i0 (some p)) [i0] = wipe σ [i0])
    (hte : ∀ (i : Nat) (x : Str) (t : Tr) (v : V) (σ2 : St) (H : Hp) (Q : VK), l[i]? = some (x, t) → Same H1 H → R1 H t v → DGet H d (.str x) (some v) → σ2 = (wipe σ [i0]).set i0 (some (.str x)) → (∀ z H', Same H H' → R2 H' (f t) z → Q z H') → tv σ2 H Q)
    (hq : ∀ kvs' H', Same H1 H' → H' D = some (.dK kvs') → Al R2 H' (l.map fun p => (p.1, f p.2)) kvs' → Qd H') :
    ∃ W : Nat → Nat → Hp → Prop, (∃ m, W 0 m (L2.upd H1 D (.dK []))) ∧ ∀ i m H, W i m H →
      ((Itk d o kvs).stop i H ∧ Qd H) ∨ ((Itk d o kvs).go i H ∧ ∃ Nx : Hp → Prop, (∀ H', Nx H' → ∃ m', m' < m ∧ W (i + 1) m' H') ∧ ∀ x H', (Itk d o kvs).yld i H x H' → gName i0 x (wipe σ [i0]) H' fun σ2 H2 => wipe σ2 [i0] = wipe σ [i0] ∧ tYes σ2 H2 fun b H3 =>
        if b = true then tVar i0 σ2 H3 fun y H4 => tv σ2 H4 fun z H5 => ∃ kvs' k, y = kV k ∧ H5 D = some (.dK kvs') ∧ kvs'.length < sizeLine ∧ Nx (L2.upd H5 D (.dK (putK kvs' k z))) else Nx H3) := by
  have hlen := al.len
  have big : 8000000 ≤ sizeLine := by decide
  refine ⟨fun i m H => m = kvs.length - i ∧ i ≤ kvs.length ∧ ∃ acc, Same H1 H ∧ H D = some (.dK acc) ∧ Al R2 H ((l.take i).map fun p => (p.1, f p.2)) acc, ⟨_, rfl, Nat.zero_le _, [], Rd.Same.upd hD, upd_same, trivial⟩, ?_⟩
  rintro i m H ⟨rfl, hi, acc, s, hDa, ala⟩
  by_cases hlt : i < kvs.length
  · refine .inr ⟨⟨s _ _ hd, hlt⟩, fun H' => ∃ acc, Same H1 H' ∧ H' D = some (.dK acc) ∧ Al R2 H' ((l.take (i + 1)).map fun p => (p.1, f p.2)) acc, fun H' h => ⟨kvs.length - (i + 1), by omega, rfl, hlt, h⟩, ?_⟩
    rintro _ _ ⟨rfl, k, v0, hk, rfl⟩
    obtain ⟨x, t, hx, rfl, _⟩ := al.get hk
    obtain ⟨v, ev, r1⟩ := (al.look (x := x)).1 t (look_get nd hx)
    have etk : l.take (i + 1) = l.take i ++ [(x, t)] := by rw [List.take_succ, hx]; rfl
    refine ⟨hw _, ?_⟩
    unfold tYes
    have hal := ala.len
    rw [List.length_map, List.length_take] at hal
    refine iteT ⟨_, hsl _, hte i x t v _ _ _ hx s (m1 _ _ _ _ (Kp.of_same s) r1) (.inl ⟨kvs, .inr x, .inr ⟨o, s _ _ hd⟩, rfl, ev.symm⟩) rfl fun z H' s' hz => ?_⟩
    have hD' := s' _ _ hDa
    have hno : look ((l.take i).map fun p => (p.1, f p.2)) x = none := by
      refine look_none ?_
      rw [List.map_map]
      have n2 : ((l.take (i + 1)).map (·.1)).Nodup := ((List.take_sublist _ _).map _).nodup nd
      rw [etk, List.map_append] at n2
      have := (List.nodup_append.mp n2).2.2
      intro hm
      exact this x hm x (List.mem_singleton.mpr rfl) rfl
    have hv0 := (ala.look (x := x)).2 hno
    refine ⟨acc, .inr x, rfl, hD', by omega, acc ++ [(.inr x, z)], fun c o e => ?_, ?_, ?_⟩
    · rw [upd_ne (ne_of_none e hD)]
      exact s' _ _ (s _ _ e)
    · rw [upd_same, putK_new z hv0]
    · rw [putK_new z hv0, etk, List.map_append]
      have kp := Kp.upd_dK (C := C) (ys := acc ++ [(.inr x, z)]) hD'
      exact Al.snoc (m2 _ _ _ _ kp hz) (ala.mono fun t v h => m2 _ _ _ _ kp (m2 _ _ _ _ (Kp.of_same s') h))
  · refine .inl ⟨⟨s _ _ hd, by omega⟩, hq acc H s hDa ?_⟩
    rw [List.take_of_length_le (by omega)] at ala
    exact ala
def PrL (K : PySem.W.Frag) (H : Hp) (p : Tr × Tr) (v : V) : Prop := ∃ (a b1 b2 : Addr) (u1 u2 : V), v = .ref a ∧ H a = some (.tup [.ref b1, .ref b2]) ∧ IsL K H b1 u1 ∧ IsL K H b2 u2 ∧ IsT H p.1 u1 ∧ IsT H p.2 u2
structure PLs (K : PySem.W.Frag) (H : Hp) (W : List (Tr × Tr)) (vs : List V) : Prop where
  len : vs.length = W.length
  get : ∀ (i : Nat) p v, W[i]? = some p → vs[i]? = some v → PrL K H p v
theorem PrL.same {K : PySem.W.Frag} {H H' : Hp} {p : Tr × Tr} {v : V} (s : Same H H') (h : PrL K H p v) : PrL K H' p v := by
  obtain ⟨a, b1, b2, u1, u2, e, h1, ⟨dx, h2⟩, ⟨dy, h3⟩, h4, h5⟩ := h
  exact ⟨a, b1, b2, u1, u2, e, s _ _ h1, ⟨dx, s _ _ h2⟩, ⟨dy, s _ _ h3⟩, h4.same s, h5.same s⟩
theorem PrT.same {H H' : Hp} {p : Tr × Tr} {v : V} (s : Same H H') (h : PrT H p v) : PrT H' p v := h.mono (C := 0) (Kp.of_same s)
theorem Un.len64 {D n : Nat} {B : Sb} {W : List (Tr × Tr)} {o : Option Sb} (h : Un D n B W o) : ∀ {B' : Sb}, o = some B' → B'.length < 64 := by
  induction h with
  | done _ hl => intro B' e; cases e; exact hl
  | fl => intro B' e; cases e
  | dr _ _ _ _ ih => exact ih
  | bd _ _ _ _ _ ih => exact ih
  | mr _ _ _ _ _ ih => exact ih
def sp_narr (K : PySem.W.Frag) (d : Nat) : Sp := fun vs H Q _ => ∃ (a : Addr) (ps : List V) (W : List (Tr × Tr)) (n : Nat) (o : Option Sb), vs = [.ref a] ∧ H a = some (.lst ps) ∧ PLs K H W ps ∧ (∀ p ∈ W, Wf p.1 ∧ Wf p.2) ∧ d ≤ 60 ∧ (∃ ns : List Str, ns.length ≤ 500 ∧ ∀ p ∈ W, inNs ns p.1 ∧ inNs ns p.2) ∧ Un d n [] W o ∧ W.length ≤ 1000 ∧
  (o = none → ∀ H', Same H H' → Q .non H') ∧ (∀ B, o = some B → Tri B → (∀ p ∈ B, Wf p.2) → ∀ q kq m H', Same H H' → H q = none → H' q = some (.dK kq) → Al (IsLet K) H' m kq → Rst B m → Q (.ref q) H')
section
variable {P : Program} {w : World} {K : PySem.W.Frag} {mg : Str → Option Value} {base : Heap}
abbrev s_narrowest : Stmt := top 28
theorem sc_narrowest : FnScope ["pairs", "trees", "one", "other", "unknown"] ["pairs"] (defScope s_narrowest) := ⟨rfl, rfl, rfl, by decide +kernel, rfl, by decide +kernel, by decide +kernel⟩
theorem ok_narrowest (T : Tx w K mg) (d : Nat) : Fk P w K mg base CX0 (d + 8) "narrowest" ["pairs"] (sp_narr K d) := by
  refine T.F_narrowest.ok0 sc_narrowest (fun _ _ _ _ _ _ us hl => match us, hl with | [_], _ => rfl)
    (fun vs H Q E h => ?_) (fun cdv A outer s H vs Q E hr h => ?_)
  · obtain ⟨a, ps, W, n, o, rfl, _⟩ := h
    rfl
  · obtain ⟨a, ps, W, n, o, rfl, ha, hps, wW, d10, hns, hU, hbig, kf, kt⟩ := h
    refine ⟨_, (pss_cons (ps_set (i := 1) sc_narrowest.nd rfl (Or.inr rfl) (pe_fk (ok_narrowest_trees T d) (hr.mono (by omega)) rfl pass0 (pa_cons (pe_lc (own := [("one", 2), ("other", 3)])  (tt := tYes) (by rfl) sc_narrowest.nd (pi_list (pv 0)) (blkOk_by (own := [("one", 2), ("other", 3)]) (N := ["pairs", "trees", "one", "other", "unknown"]) (sc := defScope s_narrowest) (by decide +kernel)) (fun _ _ _ _ _ => (pg_tupk (K := K) (n := 2) rfl rfl (pgs_cons (pg_name (i := 2) sc_narrowest.nd rfl (Or.inl rfl)) (pgs_cons (pg_name (i := 3) sc_narrowest.nd rfl (Or.inl rfl)) pgs_nil)))) (fun _ _ _ _ _ => pts_nil) (fun _ _ _ _ _ => (pe_tup (pa_cons (pe_fldk (K := K) rfl (pv 2) rfl) (pa_cons (pe_fldk (K := K) rfl (pv 3) rfl) pa_nil))))) pa_nil)))
  (pss_cons (ps_if (pt_cmpR op_isN (pv 1) pe_non (nomark _))
  (pss_one (ps_ret pe_non))
  pss_nil)
  (pss_one (ps_ret (pe_lock (pe_dc (own := [("unknown", 4)]) (g := gName 4) (tt := tYes) (by rfl) sc_narrowest.nd (pi_keys (pv 1)) (blkOk_by (own := [("unknown", 4)]) (N := ["pairs", "trees", "one", "other", "unknown"]) (sc := defScope s_narrowest) (by decide +kernel)) (fun _ _ _ _ _ => (pg_name (i := 4) sc_narrowest.nd rfl (Or.inl rfl))) (fun _ _ _ _ _ => pts_nil) (fun _ _ _ _ _ => (pv 4)) (fun _ _ _ _ _ => (pe_mk2k (K := K) rfl (ok_Letter T) (hr.mono (by omega)) (by rfl) passN (pa_cons pe_str (pa_cons (pe_dget (hu_of hr) (pv 1) (pv 4) (fun _ _ => rfl)) pa_nil)))))))))), ?_⟩
    have big : 16777216 ≤ sizeLine := by decide
    have hpl := hps.len
    refine seqAsg ⟨_, rfl, a, rfl, ⟨_, SqL.of ha⟩, fun D hD => ?_⟩
    refine lc_list (K := K) (a := a) (xs := ps) (fun i Hc => ∃ vs, Same H Hc ∧ Hc D = some (.lst vs) ∧ PsAt Hc (W.take i) vs) ⟨[], Rd.Same.upd hD, upd_same, PsAt.nil⟩ (fun i Hc _ ⟨_, sc, _⟩ => SqL.of (sc _ _ ha)) ?_ ?_
    · rintro i x Hc hx ⟨vs, sc, hDc, hpc⟩
      have hlt := (List.getElem?_eq_some_iff.mp hx).1
      have hw : W[i]? = some W[i] := List.getElem?_eq_getElem (by omega)
      have etk : W.take (i + 1) = W.take i ++ [W[i]] := by rw [List.take_succ, hw]; rfl
      obtain ⟨pa, b1, b2, u1, u2, rfl, hpa, ⟨dx, hb1⟩, ⟨dy, hb2⟩, i1, i2⟩ := (hps.get i _ _ hw hx).same sc
      refine ⟨pa, _, rfl, SqT.of hpa, rfl, _, _, rfl, _, _, rfl, rfl, rfl, ?_⟩
      unfold tYes
      refine iteT ⟨_, rfl, b1, _, dx, _, u1, rfl, hb1, T.k_Letter, T.n_Letter_tree, look1 _, _, rfl, b2, _, dy, _, u2, rfl, hb2, T.k_Letter, T.n_Letter_tree, look1 _, (by show 2 ≤ sizeLine; decide), fun q hq => ?_⟩
      have sq := Rd.Same.upd (o := .tup [u1, u2]) hq
      have hD2 := sq _ _ hDc
      have hvl := hpc.len
      rw [List.length_take] at hvl
      have kp := Kp.upd_lst (C := 0) (ys := vs ++ [.ref q]) hD2
      refine ⟨vs, hD2, by omega, vs ++ [.ref q], fun c o e => ?_, upd_same, ?_⟩
      · rw [upd_ne (ne_of_none e hD)]
        exact sq _ _ (sc _ _ e)
      · rw [etk]
        refine ((hpc.same sq).mono kp).app ⟨rfl, fun j p v a b => ?_⟩
        cases j with
        | zero =>
          cases a
          cases b
          exact ⟨q, u1, u2, rfl, kp _ _ rfl upd_same, (i1.same sq).mono kp, (i2.same sq).mono kp⟩
        | succ j => simp at a
    · rintro H1 ⟨vs, s1, hD1, hp1⟩
      rw [hpl, List.take_length] at hp1
      refine ⟨D, vs, W, n, o, rfl, hD1, hp1, wW, d10, hns, hU, hbig, fun eo H2 s2 => ?_, fun B eo tri wB q kq m H2 s2 nq hq2 al2 rst => ?_⟩
      · refine gName_k ?_
        try dsimp only
        refine ⟨_, rfl, rfl, _, rfl, iteP (by decide +kernel) ?_⟩
        exact kf eo _ (s1.trans s2)
      · refine gName_k ?_
        try dsimp only
        refine ⟨_, rfl, rfl, _, rfl, iteN (by simp) (nxt ?_)⟩
        try dsimp only
        refine ⟨q, _, hq2, trivial, fun od => ?_⟩
        have ka : Kp (He.ga K "Letter") H2 (upd H2 q (.frz od (.dK kq))) := fun c o hi e => by
          rw [upd_ne (fun z => by rw [z, hq2] at e; cases e; cases hi)]
          exact e
        have S2 := s1.trans s2
        have nqH : H q = none := s1.free nq
        have S2f : Same H (upd H2 q (.frz od (.dK kq))) := fun c o e => by
          rw [upd_ne (ne_of_none e nqH)]
          exact S2 _ _ e
        have hq3 : upd H2 q (.frz od (.dK kq)) q = some (.frz od (.dK kq)) := upd_same
        generalize upd H2 q (.frz od (.dK kq)) = H3 at ka S2f hq3 ⊢
        have al3 : Al IsT H3 m kq := al2.mono fun t v h => h.mono ka
        have hml : m.length < 64 := by rw [rst.1]; exact Un.len64 hU eo
        refine ⟨_, rfl, q, od, rfl, .inl ⟨kq, hq3, fun D2 hD2 => ?_⟩⟩
        refine dck (C := He.ga K "Letter") (l := m) (R1 := IsT) (R2 := IsLet K) id (fun _ _ _ _ kp h => h.mono kp) (fun _ _ _ _ kp h => h.mono kp) hq3 al3 rst.2.1 (by omega) hD2 (fun _ => rfl) (fun _ => rfl) (fun i x t v σ2 H4 Q4 hx s4 r4 dg e k4 => ?_) fun kq' H4 s4 hD4 al4 => ?_
        · subst e
          obtain ⟨pp, us, rfl, hpp⟩ := r4.hd
          refine ⟨_, rfl, _, rfl, q, _, rfl, dg, ?_⟩
          exact rd_mkL hpp fun x' H' s' hl' => k4 _ H' s' ⟨x', _, rfl, hl', r4.same s'⟩
        · have el : (m.map fun p => (p.1, id p.2)) = m := by simp
          rw [el] at al4
          have hq4 := s4 _ _ hq3
          refine ⟨hq4, ?_⟩
          have nDq : D2 ≠ q := fun z => by rw [z, hq3] at hD2; cases hD2
          have kx : Kp (He.ga K "Letter") H4 (upd H4 q (.dK kq)) := fun c o hi e => by
            rw [upd_ne (fun z => by rw [z, hq4] at e; cases e; cases hi)]
            exact e
          refine kt B eo tri wB D2 kq' m _ (fun c o e => ?_) (S2f.free hD2) (by rw [upd_ne nDq]; exact hD4) (al4.mono fun t v h => h.mono kx) rst
          rw [upd_ne (ne_of_none e nqH)]
          exact s4 _ _ (S2f _ _ e)
end
end Rd
namespace Rd
open PySem L2
def sz : Tr → Nat
  | .am _ _ => 1
  | .un _ a => sz a + 1
  | .bi _ a b => sz a + sz b + 1
theorem sz_pos : ∀ t : Tr, 1 ≤ sz t
  | .am _ _ => Nat.le_refl _
  | .un _ _ => Nat.le_add_left _ _
  | .bi _ _ _ => Nat.le_add_left _ _
theorem sz_oc {f : Str → Tr} {x : Str} : ∀ {t : Tr}, ocU x t = true → t = unk x ∨ sz (f x) < sz (hm f t)
  | .am k y, h => by
    have h : (decide (k = "unknown") && decide (y = x)) = true := h
    rw [Bool.and_eq_true] at h
    left
    rw [of_decide_eq_true h.1, of_decide_eq_true h.2]
    rfl
  | .un s a, h => by
    right
    have h : ocU x a = true := h
    show sz (f x) < sz (hm f a) + 1
    rcases sz_oc (f := f) (t := a) h with rfl | h
    · rw [hm_unk]; omega
    · omega
  | .bi s a b, h => by
    right
    have h : (ocU x a || ocU x b) = true := h
    show sz (f x) < sz (hm f a) + sz (hm f b) + 1
    rcases Bool.or_eq_true _ _ ▸ h with h | h
    · rcases sz_oc (f := f) (t := a) h with rfl | h
      · rw [hm_unk]; omega
      · omega
    · rcases sz_oc (f := f) (t := b) h with rfl | h
      · rw [hm_unk]; omega
      · omega
def Sat (f : Str → Tr) (B : Sb) : Prop := ∀ p ∈ B, f p.1 = hm f p.2
theorem sat_res {f : Str → Tr} : ∀ {B : Sb} {t : Tr}, Sat f B → hm f (res B t) = hm f t
  | [], _, _ => rfl
  | p :: B, t, h => by
    show hm f (res B (hm (one p.1 p.2) t)) = hm f t
    rw [sat_res (B := B) fun q hq => h q (List.mem_cons_of_mem _ hq), hm_hm]
    refine hm_congr fun x _ => ?_
    by_cases e : x = p.1
    · rw [e, one_self]
      exact (h p List.mem_cons_self).symm
    · rw [one_ne e, hm_unk]
theorem nodup_subZ {α : Type} [DecidableEq α] : ∀ {l m : List α}, l.Nodup → (∀ x ∈ l, x ∈ m) → l.length ≤ m.length
  | [], _, _, _ => Nat.zero_le _
  | a :: l, m, h1, h2 => by
    obtain ⟨n1, n2⟩ := List.nodup_cons.mp h1
    have ha := h2 a List.mem_cons_self
    have ih := nodup_subZ (l := l) (m := m.erase a) n2 fun x hx => by
      refine (List.mem_erase_of_ne fun e => n1 (by rw [← e]; exact hx)).mpr (h2 x (List.mem_cons_of_mem _ hx))
    have := List.length_erase_of_mem ha
    have := List.length_pos_of_mem ha
    rw [List.length_cons]
    omega
/-- what a pair asks that a filling makes equal -/
theorem act_eq {f : Str → Tr} {l r : Tr} (h : hm f l = hm f r) : act l r = .drop ∨ (∃ x t, act l r = .bind x t ∧ f x = hm f t ∧ ocU x t = false ∧ (t = l ∨ t = r) ∧ (unk x = l ∨ unk x = r)) ∨
    ∃ ps, act l r = .more ps ∧ (∀ p ∈ ps, hm f p.1 = hm f p.2) ∧ ps = l.parts.zip r.parts ∧ l.parts.length = r.parts.length ∧ l.parts ≠ [] := by
  have two : ∀ {L R : Tr} {x : Str}, isU L = some x → hm f L = hm f R → act2 L R = .drop ∨ (act2 L R = .bind x R ∧ f x = hm f R ∧ ocU x R = false ∧ L = unk x) := by
    intro L R x hL hLR
    unfold act2
    rw [hL]
    dsimp only
    have eL := isU_some hL
    by_cases e : L = R
    · rw [if_pos e]
      exact .inl rfl
    · rw [if_neg e]
      rw [eL, hm_unk] at hLR
      by_cases o : ocU x R = true
      · rcases sz_oc (f := f) o with z | z
        · exact absurd (eL.trans z.symm) e
        · rw [hLR] at z
          exact absurd z (Nat.lt_irrefl _)
      · rw [if_neg o]
        exact .inr ⟨rfl, hLR, Bool.eq_false_iff.mpr o, eL⟩
  unfold act
  cases hl : isU l with
  | some x =>
    have es : sw l r = (l, r) := by unfold sw; rw [hl]; rfl
    rw [es]
    rcases two hl h with e | ⟨e, h1, h2, h3⟩
    · exact .inl e
    · exact .inr (.inl ⟨x, r, e, h1, h2, .inr rfl, .inl h3.symm⟩)
  | none =>
    cases hr : isU r with
    | some x =>
      have es : sw l r = (r, l) := by unfold sw; rw [hl, hr]; rfl
      rw [es]
      rcases two hr h.symm with e | ⟨e, h1, h2, h3⟩
      · exact .inl e
      · exact .inr (.inl ⟨x, l, e, h1, h2, .inl rfl, .inr h3.symm⟩)
    | none =>
      have es : sw l r = (l, r) := by unfold sw; rw [hl, hr]; rfl
      rw [es]
      show act2 l r = .drop ∨ _ ∨ _
      have notU : ∀ {k x}, isU (.am k x) = none → ∀ g, hm g (.am k x) = .am k x := fun {k x} e g => by
        have e : (if k = "unknown" then some x else none) = none := e
        by_cases q : k = "unknown"
        · rw [if_pos q] at e; cases e
        · show (if k = "unknown" then _ else _) = _
          rw [if_neg q]
      unfold act2
      rw [hl]
      dsimp only
      cases l with
      | am k x =>
        rw [notU hl] at h
        rw [if_pos (.inl rfl)]
        cases r with
        | am k' x' =>
          rw [notU hr] at h
          rw [if_pos h]
          exact .inl rfl
        | un s a => cases h
        | bi s a b => cases h
      | un s a =>
        cases r with
        | am k' x' => rw [notU hr] at h; cases h
        | un s' a' =>
          have h : Tr.un s (hm f a) = Tr.un s' (hm f a') := h
          obtain ⟨rfl, ha⟩ := Tr.un.inj h
          rw [if_neg (fun z => z.elim (fun e => by cases e) (fun e => e rfl))]
          refine .inr (.inr ⟨_, rfl, fun p hp => ?_, rfl, rfl, fun e => by cases e⟩)
          have hp : p ∈ [(a, a')] := hp
          rw [List.mem_singleton.mp hp]
          exact ha
        | bi s' a' b' => cases h
      | bi s a b =>
        cases r with
        | am k' x' => rw [notU hr] at h; cases h
        | un s' a' => cases h
        | bi s' a' b' =>
          have h : Tr.bi s (hm f a) (hm f b) = Tr.bi s' (hm f a') (hm f b') := h
          obtain ⟨rfl, h1, h2⟩ := Tr.bi.inj h
          rw [if_neg (fun z => z.elim (fun e => by cases e) (fun e => e rfl))]
          refine .inr (.inr ⟨_, rfl, fun p hp => ?_, rfl, rfl, fun e => by cases e⟩)
          have hp : p ∈ [(a, a'), (b, b')] := hp
          rcases List.mem_cons.mp hp with rfl | hp
          · exact h1
          · rw [List.mem_singleton.mp hp]
            exact h2
theorem mtl_sat {f : Str → Tr} : ∀ (p t : Tr) (l : Sb), hm f p = t → (∀ q ∈ l, q.2 = f q.1) → (mtl p t l).1 = true ∧ ∀ q ∈ (mtl p t l).2, q.2 = f q.1
  | .am k x, t, l, h, hl => by
    by_cases e : k = "unknown"
    · subst e
      have h : f x = t := by rw [← h]; exact (hm_unk f x).symm
      rw [mtl, if_pos rfl]
      cases el : look l x with
      | some u =>
        have := hl _ (lookU_mem el)
        refine ⟨decide_eq_true ?_, hl⟩
        rw [← h]
        exact this
      | none =>
        refine ⟨rfl, fun q hq => ?_⟩
        rcases List.mem_append.mp hq with z | z
        · exact hl q z
        · rw [List.mem_singleton.mp z]
          exact h.symm
    · rw [mtl, if_neg e]
      have h : (if k = "unknown" then f x else .am k x) = t := h
      rw [if_neg e] at h
      exact ⟨decide_eq_true h, hl⟩
  | .un s a, t, l, h, hl => by
    have h : Tr.un s (hm f a) = t := h
    subst h
    rw [mtl, if_pos rfl]
    exact mtl_sat a _ l rfl hl
  | .bi s a b, t, l, h, hl => by
    have h : Tr.bi s (hm f a) (hm f b) = t := h
    subst h
    obtain ⟨h1, h2⟩ := mtl_sat a _ l rfl hl
    rw [mtl, if_pos rfl, if_pos h1]
    exact mtl_sat b _ _ rfl h2
end Rd
namespace Rd
open PySem L2
def NV : List Str := ["x", "y", "z", "v"]
section
variable {P : Program} {w : World} {K : PySem.W.Frag} {mg : Str → Option Value} {base : Heap}
def sp_plainF (d : Nat) : Sp := fun vs H Q _ => ∃ (p nl : Addr) (xs : List V) (n : Nat), vs = [.ref p, .ref nl, .int d] ∧ H p = some (.lst xs) ∧ StL (n + 4 * dr d) xs ∧ nl ≠ p ∧ H nl = some (.lst (NV.map V.str)) ∧
  ∀ q kq (l : List (Str × Tr)) ys H', But p H H' → H q = none → q ≠ p → H' p = some (.lst ys) → StL n ys → H' q = some (.dK kq) → Al IsT H' l kq → l.map (·.1) = NV → (∀ z ∈ l, Wf z.2 ∧ dpN d [] z.2) → Q (.ref q) H'
abbrev s__law_plain_forms : Stmt := top 44
theorem sc__law_plain_forms : FnScope ["_law_stream_here", "_law_names", "_law_deep", "_law_name_here"] ["_law_stream_here", "_law_names", "_law_deep"] (defScope s__law_plain_forms) := ⟨rfl, rfl, rfl, by decide +kernel, rfl, by decide +kernel, by decide +kernel⟩
theorem ok__law_plain_forms (T : Tx w K mg) (d : Nat) : Fk P w K mg base CX0 (d + 7) "_law_plain_forms" ["_law_stream_here", "_law_names", "_law_deep"] (sp_plainF d) := by
  refine T.F__law_plain_forms.ok0 sc__law_plain_forms (fun _ _ _ _ _ _ us hl => match us, hl with | [_, _, _], _ => rfl)
    (fun vs H Q E h => ?_) (fun cdv A outer s H vs Q E hr h => ?_)
  · obtain ⟨p, nl, xs, n, rfl, _⟩ := h
    rfl
  · obtain ⟨p, nl, xs, n, rfl, hp, hx, nqp, hq1, k⟩ := h
    refine ⟨_, (pss_one (ps_ret (pe_callTy (call_dictP rfl) (by rfl) T.z_dict (by decide +kernel) (pa_cons (pe_lc (own := [("_law_name_here", 3)]) (g := gName 3) (tt := tYes) (by rfl) sc__law_plain_forms.nd (pi_list (pv 1)) (blkOk_by (own := [("_law_name_here", 3)]) (N := ["_law_stream_here", "_law_names", "_law_deep", "_law_name_here"]) (sc := defScope s__law_plain_forms) (by decide +kernel)) (fun _ _ _ _ _ => (pg_name (i := 3) sc__law_plain_forms.nd rfl (Or.inl rfl))) (fun _ _ _ _ _ => pts_nil) (fun _ _ _ _ _ => (pe_tup (pa_cons (pv 3) (pa_cons (pe_fk (ok__law_form T d) (hr.mono (by omega)) rfl pass0 (pa_cons (pv 0) (pa_cons (pe_lst pa_nil) (pa_cons (pv 2) pa_nil)))) pa_nil))))) pa_nil)))), ?_⟩
    have big : 8000000 ≤ sizeLine := by decide
    refine ⟨_, rfl, nl, rfl, ⟨_, SqL.of hq1⟩, fun D2 hD2 => ?_⟩
    have nD2p : D2 ≠ p := fun z => by rw [z, hp] at hD2; cases hD2
    refine lc_list (K := K) (a := nl) (xs := NV.map V.str) (fun i Hd => ∃ (ps : List Addr) (kq : List (Key × V)) (l : List (Str × Tr)) (ys : List V), But p H Hd ∧ Hd D2 = some (.lst (ps.map V.ref)) ∧ Pq Hd ps kq ∧ Al IsT Hd l kq ∧ l.map (·.1) = NV.take i ∧ (∀ z ∈ l, Wf z.2 ∧ dpN d [] z.2) ∧ Hd p = some (.lst ys) ∧ StL (n + (4 - i) * dr d) ys) ⟨[], [], [], xs, But.new hD2, upd_same, trivial, trivial, rfl, (fun z hz => by cases hz), by rw [upd_ne (Ne.symm nD2p)]; exact hp, hx⟩ ?_ ?_ ?_
    · rintro i Hd hi ⟨ps, kq, l, yd, bd, _⟩
      exact SqL.of (bd _ _ nqp hq1)
    · rintro i x Hd hxi ⟨ps, kq, l, yd, bd, hDd, pq, al, hlk, hwf, hpd, hyd⟩
      rw [List.getElem?_map] at hxi
      obtain ⟨z, hz, rfl⟩ := Option.map_eq_some_iff.mp hxi
      have hi4 : i < 4 := (List.getElem?_eq_some_iff.mp hz).1
      have etk : NV.take (i + 1) = NV.take i ++ [z] := by rw [List.take_succ, hz]; rfl
      have hm : (4 - i) * dr d = (4 - (i + 1)) * dr d + dr d := by
        rw [show 4 - i = (4 - (i + 1)) + 1 by omega, Nat.add_mul, Nat.one_mul]
      refine ⟨rfl, ?_⟩
      unfold tYes
      have rdf := fun {Q : VK} k => rd_form (d := d) (Q := Q) (us := []) (n := n + (4 - (i + 1)) * dr d) hpd (hyd.mono (by omega)) (unkOk (l := []) (by decide +kernel) (by decide)) k
      refine iteT ⟨_, rfl, _, rfl, Nat.zero_le _, fun qn hqn => ⟨_, rfl, (rdf fun t v y3 H3 b3 hp3 hy3 wf dp it => ⟨(by show 2 ≤ sizeLine; decide), fun q hq => ?_⟩).2 qn hqn⟩⟩
      have hpl := pq.len
      have hal := al.len
      have hll := congrArg List.length hlk
      rw [List.length_map, List.length_take] at hll
      have sq := Rd.Same.upd (o := .tup [V.str z, v]) hq
      have kd : Kp 0 Hd H3 := b3.kp hpd
      have hD3 := sq _ _ (b3 _ _ nD2p hDd)
      have kp := Kp.upd_lst (C := 0) (ys := ps.map V.ref ++ [V.ref q]) hD3
      have kk := (kd.trans (Kp.of_same sq)).trans kp
      refine ⟨_, hD3, by rw [List.length_map]; omega, ps ++ [q], kq ++ [((.inr z : Key), v)], l ++ [(z, t)], y3, fun c o hc e => ?_, by rw [upd_same, List.map_append]; rfl, Pq.snoc (kv := ((.inr z : Key), v)) (kp _ _ rfl upd_same) (pq.mono kk), Al.snoc (x := z) ((it.same sq).mono kp) (al.mono fun t v h => h.mono kk), by rw [etk, List.map_append, hlk]; rfl, fun y hy => ?_, ?_, hy3⟩
      · rw [upd_ne (ne_of_none e hD2)]
        exact sq _ _ (b3 _ _ hc (bd c o hc e))
      · rcases List.mem_append.mp hy with h | h
        · exact hwf y h
        · rw [List.mem_singleton.mp h]
          exact ⟨wf, dp⟩
      · rw [upd_ne (Ne.symm nD2p)]
        exact sq _ _ hp3
    · rintro Hd ⟨ps, kq, l, yd, bd, hDd, pq, al, hlk, hwf, hpd, hyd⟩
      rw [List.take_of_length_le (by rw [List.length_map]; exact Nat.le_refl _)] at hlk
      refine ⟨D2, ps, kq, rfl, SqL.of hDd, pq.paired, fun q hq => ?_⟩
      have nd : (l.map (·.1)).Nodup := by rw [hlk]; decide +kernel
      rw [al.merge nd]
      have sq := Rd.Same.upd (o := .dK kq) hq
      have nqp2 : q ≠ p := fun z => by rw [z, hpd] at hq; cases hq
      have hqH : H q = none := by
        cases e : H q with
        | none => rfl
        | some o => rw [bd _ _ nqp2 e] at hq; cases hq
      exact k q kq l yd _ (bd.trans (But.of_same sq)) hqH nqp2 (sq _ _ hpd) (hyd.mono (by omega)) upd_same (al.mono fun t v h => h.same sq) hlk hwf
end
end Rd
namespace Rd
open PySem L2
def oD : Nat → Nat
  | 0 => 4
  | d + 1 => 4 + 2 * oD d
theorem rd_eqT2 {K : PySem.W.Frag} {H : Hp} {t r : Tr} {v u : V} {Q : VK} (ht : t.fine) (hd : t.dep ≤ 60) (hr : r.fine) (hd2 : r.dep ≤ 60) (h1 : IsT H t v) (h2 : IsT H r u) (q : Q (.bl (decide (t = r))) H) : rEqD K v u H Q := by
  refine ⟨dat t, dat r, h1.dp, h2.dp, dat_shaped ht hd, dat_shaped hr hd2, ?_⟩
  rw [eqv_dat]
  exact q
theorem fill_free {m : Str → Option Tr} {t : Tr} (h : t.unkIn []) : fill m t = t := by
  rw [fill_hm]
  refine hm_id fun x hx => ?_
  exfalso
  induction t with
  | am k y =>
    have hx : (decide (k = "unknown") && decide (y = x)) = true := hx
    rw [Bool.and_eq_true] at hx
    have := h (of_decide_eq_true hx.1)
    simp at this
  | un s a ih => exact ih h hx
  | bi s a b iha ihb =>
    have hx : (ocU x a || ocU x b) = true := hx
    rcases Bool.or_eq_true _ _ ▸ hx with e | e
    · exact iha h.1 e
    · exact ihb h.2 e
theorem free_oc {t : Tr} (h : t.unkIn []) (x : Str) : ocU x t = false := by
  induction t with
  | am k y =>
    refine Bool.eq_false_iff.mpr fun hx => ?_
    have hx : (decide (k = "unknown") && decide (y = x)) = true := hx
    rw [Bool.and_eq_true] at hx
    have := h (of_decide_eq_true hx.1)
    simp at this
  | un s a ih => exact ih h
  | bi s a b iha ihb =>
    show (ocU x a || ocU x b) = false
    rw [iha h.1, ihb h.2]
    rfl
structure Op (l : Sb) (t t' : Tr) : Prop where
  wf : Wf t'
  fl : fill (look l) t' = t
  ns : ∀ x, ocU x t' = true → x ∈ l.map (·.1)
theorem unk_partsY {t r : Tr} {us : List V} (h : t.unkIn us) (hr : r ∈ t.parts) : r.unkIn us := by
  cases t with
  | am k x => cases hr
  | un s a => rw [show r = a by simpa [Tr.parts] using hr]; exact h
  | bi s a b =>
    have hr : r = a ∨ r = b := by simpa [Tr.parts] using hr
    rcases hr with rfl | rfl
    · exact h.1
    · exact h.2
theorem op_of {H : Hp} {l : Sb} {t : Tr} {q : Addr} {vs : List V} {ts : List Tr} (wf : Wf t) (hpt : t.parts ≠ []) (hq : H q = some (.tup (.str t.head :: vs))) (hts : TsAt H ts vs) (hlen : ts.length = t.parts.length)
    (ho : ∀ (j : Nat) r', ts[j]? = some r' → ∃ r, t.parts[j]? = some r ∧ Op l r r') (hl : t.head = "lock" → ∃ s b, ts[1]? = some (Tr.un s b)) : ∃ t', Op l t t' ∧ IsT H t' (.ref q) := by
  have hv := hts.len
  cases wf with
  | am ko => exact absurd rfl hpt
  | @un s a hs wa =>
    match ts, hlen with
    | [r1], _ =>
      match vs, hv with
      | [v1], _ =>
        obtain ⟨r, e, o⟩ := ho 0 r1 rfl
        cases (show some a = some r from e)
        exact ⟨.un s r1, ⟨.un hs o.wf, by rw [fill, o.fl], o.ns⟩, q, v1, rfl, hq, hts.get 0 r1 v1 rfl rfl⟩
  | @bi s a b hs wa wb =>
    match ts, hlen with
    | [r1, r2], _ =>
      match vs, hv with
      | [v1, v2], _ =>
        obtain ⟨r, e, o⟩ := ho 0 r1 rfl
        cases (show some a = some r from e)
        obtain ⟨r', e', o'⟩ := ho 1 r2 rfl
        cases (show some b = some r' from e')
        refine ⟨.bi s r1 r2, ⟨.bi hs o.wf o'.wf, by rw [fill, o.fl, o'.fl], fun x hx => ?_⟩, q, v1, v2, rfl, hq, hts.get 0 r1 v1 rfl rfl, hts.get 1 r2 v2 rfl rfl⟩
        have hx : (ocU x r1 || ocU x r2) = true := hx
        rcases Bool.or_eq_true _ _ ▸ hx with z | z
        · exact o.ns x z
        · exact o'.ns x z
  | @lk s a b hs wa wb =>
    match ts, hlen with
    | [r1, r2], _ =>
      match vs, hv with
      | [v1, v2], _ =>
        obtain ⟨r, e, o⟩ := ho 0 r1 rfl
        cases (show some a = some r from e)
        obtain ⟨r', e', o'⟩ := ho 1 r2 rfl
        cases (show some (Tr.un s b) = some r' from e')
        obtain ⟨s', b', e2⟩ := hl rfl
        cases (show some r2 = some (Tr.un s' b') from e2)
        have ef : Tr.un s' (fill (look l) b') = Tr.un s b := o'.fl
        obtain ⟨rfl, ef⟩ := Tr.un.inj ef
        have wb' : Wf b' := by
          have := o'.wf
          cases this with
          | un _ w => exact w
        refine ⟨.bi "lock" r1 (.un s' b'), ⟨.lk hs o.wf wb', by rw [fill, o.fl, o'.fl], fun x hx => ?_⟩, q, v1, v2, rfl, hq, hts.get 0 r1 v1 rfl rfl, hts.get 1 _ v2 rfl rfl⟩
        have hx : (ocU x r1 || ocU x (Tr.un s' b')) = true := hx
        rcases Bool.or_eq_true _ _ ▸ hx with z | z
        · exact o.ns x z
        · exact o'.ns x z
theorem Op.refl {l : Sb} {t : Tr} (wf : Wf t) (un : t.unkIn []) : Op l t t := ⟨wf, fill_free un, fun x hx => by rw [free_oc un x] at hx; cases hx⟩
def sp_opu (d : Nat) : Sp := fun vs H Q _ => ∃ (p a : Addr) (xs : List V) (v : V) (t : Tr) (kvs : List (Key × V)) (l : Sb) (n : Nat), vs = [.ref p, v, .ref a, .int d] ∧ H p = some (.lst xs) ∧ StL (n + oD d) xs ∧ IsT H t v ∧ Wf t ∧ t.unkIn [] ∧ t.dep ≤ 60 ∧ H a = some (.dK kvs) ∧ Al IsT H l kvs ∧ (l.map (·.1)).Nodup ∧ l.length ≤ 4 ∧ (∀ z ∈ l, Wf z.2 ∧ z.2.dep ≤ 60 ∧ Wf (unk z.1)) ∧
  ∀ t' u ys H', But p H H' → H' p = some (.lst ys) → StL n ys → Op l t t' → IsT H' t' u → Q u H'
def spOR : Nat → Sp
  | 0 => fun _ _ _ _ => False
  | d + 1 => sp_opu d
section
variable {P : Program} {w : World} {K : PySem.W.Frag} {mg : Str → Option Value} {base : Heap}
abbrev s__law_opened_up : Stmt := top 45
theorem sc__law_opened_up : FnScope ["_law_stream_here", "_law_form_here", "_law_forms", "_law_deep", "_law_name_here", "_law_inner", "_law_part"] ["_law_stream_here", "_law_form_here", "_law_forms", "_law_deep"] (defScope s__law_opened_up) := ⟨rfl, rfl, rfl, by decide +kernel, rfl, by decide +kernel, by decide +kernel⟩
theorem opu_step (T : Tx w K mg) (d : Nat) (ih : Fk P w K mg base CX0 (d + 7) "_law_opened_up" ["_law_stream_here", "_law_form_here", "_law_forms", "_law_deep"] (spOR d)) : Fk P w K mg base CX0 (d + 8) "_law_opened_up" ["_law_stream_here", "_law_form_here", "_law_forms", "_law_deep"] (sp_opu d) := by
  refine T.F__law_opened_up.ok0 sc__law_opened_up (fun _ _ _ _ _ _ us hl => match us, hl with | [_, _, _, _], _ => rfl)
    (fun vs H Q E h => ?_) (fun cdv A outer s H vs Q E hr h => ?_)
  · obtain ⟨p, a, xs, v, t, kvs, l, n, rfl, _⟩ := h
    rfl
  · obtain ⟨p, a, xs, v, t, kvs, l, n, rfl, hp, hx, it, wf, un, dp, ha, al, nd, hl4, wl, k⟩ := h
    refine ⟨_, (pss_cons (ps_lock (ps_for PassesOwn.never rfl (pi_keys (pv 2)) (pg_name (i := 4) sc__law_opened_up.nd rfl (Or.inl rfl))
  (pss_one (ps_if (PW.pt (pw_and (pt_cmpR (op_eqD hr.units) (pe_dget (hu_of hr) (pv 2) (pv 4) (fun _ _ => rfl)) (pv 1) (nomark _)) (pw_and1 (pt_cmpR op_gt (pe_fk (ok__law_draw T) (hr.mono (by omega)) rfl pass0 (pa_cons (pv 0) (pa_cons pe_int pa_nil))) pe_int (nomark _)))))
  (pss_one (ps_ret (pe_tup (pa_cons pe_str (pa_cons (pv 4) pa_nil)))))
  pss_nil))))
  (pss_cons (ps_if (PW.pt (pw_or (pt_cmpR op_eq (pv 3) pe_int (nomark _)) (pw_or1 (pt_cmpR op_inT (pe_ix ix_tup (pv 1) pe_int (fun _ _ => rfl)) (pe_tup (pa_cons pe_str (pa_cons pe_str (pa_cons pe_str pa_nil)))) (by rfl)))))
  (pss_one (ps_ret (pv 1)))
  pss_nil)
  (pss_cons (ps_setLc (i := 5) (own := [("_law_part", 6)]) (g := gName 6) (tt := tYes) (by rfl) sc__law_opened_up.nd rfl rfl (sw_true rfl rfl rfl (by decide +kernel)) (pi_tup (pe_slice sl_tup (pv 1) (po_some pe_int) po_none)) (blkOk_by (own := [("_law_part", 6)]) (N := ["_law_stream_here", "_law_form_here", "_law_forms", "_law_deep", "_law_name_here", "_law_inner", "_law_part"]) (sc := defScope s__law_opened_up) (by decide +kernel)) (fun _ _ _ _ _ => (pg_name (i := 6) sc__law_opened_up.nd rfl (Or.inl rfl))) (fun _ _ _ _ _ => pts_nil) (fun _ _ _ _ _ => (pe_fk ih (hr.mono (by omega)) rfl pass0 (pa_cons (pv 0) (pa_cons (pv 6) (pa_cons (pv 2) (pa_cons (pe_op op_sub (pv 3) pe_int) pa_nil)))))))
  (pss_cons (ps_if (PW.pt (pw_and (pt_cmpR op_eq (pe_ix ix_tup (pv 1) pe_int (fun _ _ => rfl)) pe_str (nomark _)) (pw_and1 (pt_cmpR op_eq (pe_ix ix_tup (pe_ix ix_list (pv 5) pe_int (fun _ _ => rfl)) pe_int (fun _ _ => rfl)) pe_str (nomark _)))))
  (pss_one (ps_asg (pe_ix ix_tup (pv 1) pe_int (fun _ _ => rfl)) (pg_sub (pv 5) pe_int set_list)))
  pss_nil)
  (pss_one (ps_ret (pe_op op_catT (pe_tup (pa_cons (pe_ix ix_tup (pv 1) pe_int (fun _ _ => rfl)) pa_nil)) (pe_callTy call_tuple_of (by rfl) T.z_tuple (by decide +kernel) (pa_cons (pv 5) pa_nil))))))))), ?_⟩
    have big : 16777216 ≤ sizeLine := by decide
    have npa : p ≠ a := fun z => by rw [z, ha] at hp; cases hp
    obtain ⟨pf, us, rfl, hpf⟩ := it.hd
    have npf : pf ≠ p := fun z => by rw [z, hp] at hpf; cases hpf
    have nfa : pf ≠ a := fun z => by rw [z, ha] at hpf; cases hpf
    have hlen := al.len
    refine seqJoin (fun σ' H' => ∃ (ys : List V) (t4 : Option V), σ' = [some (.ref p), some (.ref pf), some (.ref a), some (.int d), t4, none, none] ∧ But p H H' ∧ H' p = some (.lst ys) ∧ StL (n + (oD d - 4)) ys) (fun KK hK => ?_) ?_
    · refine ⟨a, _, ha, trivial, fun od => ?_⟩
      have ka : Kp 0 H (upd H a (.frz od (.dK kvs))) := fun c o hi e => by
        rw [upd_ne (fun z => by rw [z, ha] at e; cases e; cases hi)]
        exact e
      have ha1 : upd H a (.frz od (.dK kvs)) a = some (.frz od (.dK kvs)) := upd_same
      have hp1 : upd H a (.frz od (.dK kvs)) p = some (.lst xs) := by rw [upd_ne npa]; exact hp
      have off1 : ∀ c o, c ≠ a → H c = some o → upd H a (.frz od (.dK kvs)) c = some o := fun c o hc e => by rw [upd_ne hc]; exact e
      have back : ∀ c o, c ≠ a → upd H a (.frz od (.dK kvs)) c = some o → H c = some o := fun c o hc e => by rw [upd_ne hc] at e; exact e
      generalize upd H a (.frz od (.dK kvs)) = H1 at ka ha1 hp1 off1 back ⊢
      have alH1 : Al IsT H1 l kvs := al.mono fun t v h => h.mono ka
      have undo : ∀ {H2 : Hp}, But p H1 H2 → But p H (upd H2 a (.dK kvs)) := fun b2 c o hc e => by
        by_cases z : c = a
        · rw [z] at e ⊢
          rw [ha] at e
          cases e
          exact upd_same
        · rw [upd_ne z]
          exact b2 c o hc (off1 c o z e)
      refine ⟨_, rfl, a, od, rfl, .inl ⟨kvs, ha1, ?_⟩⟩
      refine ⟨fun i m σ Hc => m = kvs.length - i ∧ i ≤ kvs.length ∧ ∃ (ys : List V) (t4 : Option V), σ = [some (.ref p), some (.ref pf), some (.ref a), some (.int d), t4, none, none] ∧ But p H1 Hc ∧ Hc p = some (.lst ys) ∧ StL (n + (oD d - 4) + (4 - i)) ys, ⟨_, rfl, Nat.zero_le _, xs, _, rfl, fun _ _ _ e => e, hp1, hx.mono (by cases d with | zero => (show n + (4 - 4) + 4 ≤ n + 4; omega) | succ d => (show n + (4 + 2 * oD d - 4) + 4 ≤ n + (4 + 2 * oD d); omega))⟩, ?_⟩
      rintro i m σ Hc ⟨rfl, hi, ys, t4, rfl, bc, hpc, hyc⟩
      have hac : Hc a = some (.frz od (.dK kvs)) := bc _ _ (Ne.symm npa) ha1
      by_cases hlt : i < kvs.length
      · refine .inr ⟨⟨hac, hlt⟩, fun σ' H' => ∃ (ys : List V) (t4 : Option V), σ' = [some (.ref p), some (.ref pf), some (.ref a), some (.int d), t4, none, none] ∧ But p H1 H' ∧ H' p = some (.lst ys) ∧ StL (n + (oD d - 4) + (4 - (i + 1))) ys, fun σ' H' h => ⟨kvs.length - (i + 1), by omega, rfl, hlt, h⟩, ?_⟩
        rintro _ Hc ⟨rfl, kk, v0, hk, rfl⟩
        obtain ⟨x, u, hx', rfl, _⟩ := al.get hk
        refine gName_k ?_
        try dsimp only
        have kc : Kp 0 H1 Hc := bc.kp hp1
        have alc : Al IsT Hc l kvs := alH1.mono fun t v h => h.mono kc
        obtain ⟨v1, ev, r1⟩ := (alc.look (x := x)).1 u (look_get nd hx')
        obtain ⟨wu, du, wx⟩ := wl _ (List.mem_of_getElem? hx')
        have itc : IsT Hc t (.ref pf) := (it.mono ka).mono kc
        have hi4 : i < 4 := by omega
        have ey : n + (oD d - 4) + (4 - i) = n + (oD d - 4) + (4 - (i + 1)) + 1 := by omega
        rw [ey] at hyc
        refine ⟨_, rfl, _, rfl, a, v1, rfl, .inl ⟨kvs, .inr x, .inr ⟨od, hac⟩, rfl, ev.symm⟩, _, rfl, rd_eqT2 wu.fine du wf.fine dp r1 itc ⟨_, rfl, ?_⟩⟩
        by_cases hut : u = t
        · refine iteP (decide_eq_true hut) ?_
          refine rd_draw (m := 3) (by rfl) hpc hyc (by decide) (by decide) fun dw H3 y3 hdw b3 hp3 hy3 => ?_
          have B3 : But p H1 H3 := bc.trans b3
          have ha3 : H3 a = some (.frz od (.dK kvs)) := B3 _ _ (Ne.symm npa) ha1
          refine ⟨_, _, rfl, rfl, _, rfl, ite2 (fun _ => ?_) (fun _ => ?_)⟩
          · refine ⟨_, rfl, (by show 2 ≤ sizeLine; decide), fun q hq => ?_⟩
            have sq := Rd.Same.upd (o := .tup [.str "unknown", .str x]) hq
            have nqa : q ≠ a := fun z => by rw [z, ha3] at hq; cases hq
            refine ⟨sq _ _ ha3, k (unk x) _ y3 _ (undo (B3.trans (But.of_same sq))) ?_ (hy3.mono (by omega)) ⟨wx, ?_, fun y hy => ?_⟩ ?_⟩
            · rw [upd_ne npa]
              exact sq _ _ hp3
            · rw [fill_hm, hm_unk, look_get nd hx']
              exact hut
            · rw [← ocU_unk.mp hy]
              exact List.mem_map.mpr ⟨_, List.mem_of_getElem? hx', rfl⟩
            · refine ⟨q, rfl, ?_⟩
              rw [upd_ne nqa]
              exact upd_same
          · exact ⟨y3, _, rfl, B3, hp3, hy3⟩
        · refine iteN (by rw [decide_eq_false hut]; decide) (iteF ?_)
          exact ⟨ys, _, rfl, bc, hpc, hyc.mono (by omega)⟩
      · refine .inl ⟨⟨hac, by omega⟩, hac, ?_⟩
        refine hK _ _ ⟨ys, t4, rfl, undo bc, ?_, hyc.mono (by omega)⟩
        rw [upd_ne npa]
        exact hpc
    · rintro σ' H2 ⟨ys, t4, rfl, b2, hp2, hy2⟩
      have hpf2 := b2 _ _ npf hpf
      have k2 : Kp 0 H H2 := b2.kp hp
      have it2 : IsT H2 t (.ref pf) := it.mono k2
      have itself : ∀ {H3 : Hp}, Same H2 H3 → Q (.ref pf) H3 := fun s3 => k t _ ys _ (b2.trans (But.of_same s3)) (s3 _ _ hp2) (hy2.mono (by omega)) (Op.refl wf un) (it2.same s3)
      cases d with
      | zero =>
        refine ⟨_, rfl, rfl, _, rfl, iteP (by decide +kernel) (iteT ?_)⟩
        exact ⟨_, rfl, itself (Same.refl _)⟩
      | succ d =>
        refine ⟨_, rfl, rfl, _, rfl, iteN (by intro e; have := V.int.inj (of_decide_eq_true e); omega) ?_⟩
        refine ⟨_, rfl, pf, _, _, _, rfl, rfl, SqT.of hpf2, at_of (j := 0) rfl rfl, (by show 3 ≤ sizeLine; decide), fun q0 hq0 => ⟨_, q0, ["word", "name", "unknown"], rfl, rfl, SqT.of upd_same, _, rfl, ?_⟩⟩
        have s0 := Rd.Same.upd (o := .tup [.str "word", .str "name", .str "unknown"]) hq0
        generalize upd H2 q0 (.tup [.str "word", .str "name", .str "unknown"]) = H3 at s0 ⊢
        by_cases hpt : t.parts ≠ []
        · obtain ⟨hsg, hws⟩ := wf.sign hpt
          have h5 : ¬ decide (t.head ∈ (["word", "name", "unknown"] : List Str)) = true := by
            have : ∀ z ∈ (["mark", "open", "own", "pair", "seal", "lock"] : List Str), ¬ decide (z ∈ (["word", "name", "unknown"] : List Str)) = true := by decide +kernel
            exact this _ hsg
          refine iteN h5 (nxt ?_)
          try dsimp only
          obtain ⟨pf', us', e', hpf', hlu, hl2, hne, hus⟩ := it2.parts hpt
          cases e'
          rw [hpf2] at hpf'
          cases hpf'
          have hpf3 := s0 _ _ hpf2
          refine ⟨_, rfl, _, rfl, pf, _, rfl, SqT.of hpf3, ?_, fun p2 hp2n => ?_⟩
          · rintro ⟨z, _⟩
            rw [show (1 : Int) = ((1 : Nat) : Int) from rfl, HT.sIx_nat, List.length_cons] at z
            omega
          rw [cut1]
          have s4 := s0.trans (Rd.Same.upd (o := .tup us) hp2n)
          have h42 : upd H3 p2 (.tup us) p2 = some (.tup us) := upd_same
          generalize upd H3 p2 (.tup us) = H4 at s4 h42 ⊢
          have hp4 := s4 _ _ hp2
          have n2p : p2 ≠ p := fun z => by rw [z, hp4] at h42; cases h42
          have k4 : Kp 0 H H4 := k2.trans (Kp.of_same s4)
          have b4 : But p H H4 := b2.trans (But.of_same s4)
          refine ⟨p2, rfl, ⟨_, SqT.of h42⟩, fun D hD => ?_⟩
          have nDp : D ≠ p := fun z => by rw [z, hp4] at hD; cases hD
          have eo : oD (d + 1) - 4 = 2 * oD d := by show 4 + 2 * oD d - 4 = _; omega
          rw [eo] at hy2
          refine lc_tup (K := K) (a := p2) (xs := us) (fun i Hd => ∃ (vs : List V) (ts : List Tr) (ys : List V), But p H4 Hd ∧ Hd D = some (.lst vs) ∧ ts.length = i ∧ TsAt Hd ts vs ∧ (∀ (j : Nat) r', ts[j]? = some r' → ∃ r, t.parts[j]? = some r ∧ Op l r r') ∧ Hd p = some (.lst ys) ∧ StL (n + (2 - i) * oD d) ys) ⟨[], [], ys, But.new hD, upd_same, rfl, ⟨rfl, fun i t v h => by simp at h⟩, (fun j r' h => by simp at h), by rw [upd_ne (Ne.symm nDp)]; exact hp4, hy2⟩ (fun i Hd _ ⟨_, _, _, bd, _⟩ => SqT.of (bd _ _ n2p h42)) ?_ ?_
          · rintro i x Hd hxi ⟨vs, ts, yd, bd, hDd, hti, hts, hop, hpd, hyd⟩
            have hlt := (List.getElem?_eq_some_iff.mp hxi).1
            obtain ⟨r, hr1, ir⟩ := hus i x hxi
            obtain ⟨w1, w2⟩ := hws r (List.mem_of_getElem? hr1)
            have ur := unk_partsY un (List.mem_of_getElem? hr1)
            have kd : Kp 0 H4 Hd := bd.kp hp4
            have em : (2 - i) * oD d = (2 - (i + 1)) * oD d + oD d := by
              rw [show 2 - i = (2 - (i + 1)) + 1 by omega, Nat.add_mul, Nat.one_mul]
            refine gName_k ⟨rfl, ?_⟩
            unfold tYes
            refine iteT ⟨_, rfl, _, rfl, _, rfl, _, rfl, _, _, rfl, rfl, ?_⟩
            have ha4 : H4 a = some (.dK kvs) := b4 _ _ (Ne.symm npa) ha
            refine ⟨p, a, yd, x, r, kvs, l, n + (2 - (i + 1)) * oD d, (by show [V.ref p, x, V.ref a, V.int (((d + 1 : Nat) : Int) - 1)] = _; rw [show ((d + 1 : Nat) : Int) - 1 = (d : Int) by omega]), hpd, hyd.mono (by omega), (ir.same s4).mono kd, w1, ur, (by omega), bd _ _ (Ne.symm npa) ha4, al.mono (fun t v h => (h.mono k4).mono kd), nd, hl4, wl, fun t' u y5 H5 b5 hp5 hy5 op5 it5 => ?_⟩
            have hvl := hts.len
            have hD5 := b5 _ _ nDp hDd
            have kp := Kp.upd_lst (C := 0) (ys := vs ++ [u]) hD5
            refine ⟨vs, hD5, by omega, vs ++ [u], ts ++ [t'], y5, fun c o hc e => ?_, upd_same, by rw [List.length_append, hti]; rfl, ((hts.mono (C := 0) (b5.kp hpd)).mono kp).app (TsAt.one (it5.mono kp)), fun j r' hj => ?_, ?_, hy5⟩
            · rw [upd_ne (ne_of_none e hD)]
              exact b5 c o hc (bd c o hc e)
            · by_cases hji : j < ts.length
              · rw [List.getElem?_append_left hji] at hj
                exact hop j r' hj
              · rw [List.getElem?_append_right (by omega)] at hj
                have : j - ts.length = 0 := by
                  have := (List.getElem?_eq_some_iff.mp hj).1
                  simpa using this
                rw [this] at hj
                cases hj
                rw [show j = i by omega]
                exact ⟨r, hr1, op5⟩
            · rw [upd_ne (Ne.symm nDp)]
              exact hp5
          · rintro Hd ⟨vs, ts, yd, bd, hDd, hti, hts, hop, hpd, hyd⟩
            refine gName_k ?_
            try dsimp only
            have Bd : But p H Hd := b4.trans bd
            have hpfd := Bd _ _ npf hpf
            have kd : Kp 0 H4 Hd := bd.kp hp4
            have usd : ∀ (i : Nat) u, us[i]? = some u → ∃ r, t.parts[i]? = some r ∧ IsT Hd r u := fun i u e => by
              obtain ⟨r, a1, a2⟩ := hus i u e
              exact ⟨r, a1, (a2.same s4).mono kd⟩
            have nfD : pf ≠ D := fun z => by rw [z] at hpf2; rw [s4 _ _ hpf2] at hD; cases hD
            refine seqJoin (fun σ' H' => ∃ (vs : List V) (ts : List Tr) (t6 : Option V), σ' = [some (.ref p), some (.ref pf), some (.ref a), some (.int ((d + 1 : Nat) : Int)), t4, some (.ref D), t6] ∧ But p H H' ∧ H' D = some (.lst vs) ∧ ts.length = us.length ∧ TsAt H' ts vs ∧ (∀ (j : Nat) r', ts[j]? = some r' → ∃ r, t.parts[j]? = some r ∧ Op l r r') ∧ H' p = some (.lst yd) ∧ (t.head = "lock" → ∃ s b, ts[1]? = some (Tr.un s b))) (fun KK hK => ?_) ?_
            · refine ⟨_, rfl, pf, _, _, _, rfl, rfl, SqT.of hpfd, at_of (j := 0) rfl rfl, rfl, _, rfl, ?_⟩
              by_cases hlk : t.head = "lock"
              · refine iteP (by rw [hlk]; decide +kernel) ?_
                obtain ⟨a0, s0', b0, rfl⟩ : ∃ a0 s0' b0, t = .bi "lock" a0 (.un s0' b0) := by
                  cases wf with
                  | am ko => exact absurd rfl hpt
                  | un hs _ =>
                    have : ∀ z ∈ (["mark", "open", "own"] : List Str), z ≠ "lock" := by decide +kernel
                    exact absurd hlk (this _ hs)
                  | bi hs _ _ =>
                    have : ∀ z ∈ (["pair", "seal"] : List Str), z ≠ "lock" := by decide +kernel
                    exact absurd hlk (this _ hs)
                  | lk _ _ _ => exact ⟨_, _, _, rfl⟩
                have hvl := hts.len
                match us, hlu, ts, vs, hti, hvl with
                | [u1, u2], _, [r1, r2], [v1, v2], _, _ =>
                  have i2 := hts.get 1 r2 v2 rfl rfl
                  obtain ⟨r, er, o2⟩ := hop 1 r2 rfl
                  cases (show some (Tr.un s0' b0) = some r from er)
                  obtain ⟨pv2, w2, rfl, hpv2⟩ := i2.hd
                  refine ⟨_, rfl, D, _, _, _, rfl, rfl, SqL.of hDd, at_of (j := 1) rfl rfl, pv2, _, _, _, rfl, rfl, SqT.of hpv2, at_of (j := 0) rfl rfl, rfl, _, rfl, ?_⟩
                  have eU := isU_head o2.wf
                  cases hU : isU r2 with
                  | some x =>
                    have e3 : r2.head = "unknown" := of_decide_eq_true (by rw [← eU, hU]; rfl)
                    refine iteP (by rw [e3]; decide +kernel) ?_
                    refine ⟨_, rfl, pf, _, _, _, rfl, rfl, SqT.of hpfd, at_of (j := 2) rfl rfl, ?_⟩
                    refine ⟨_, rfl, D, _, 1, 1, rfl, rfl, hDd, (by show ixN 2 1 = some 1; decide +kernel), ?_⟩
                    have kp := Kp.upd_lst (C := 0) (ys := ([v1, .ref pv2] : List V).set 1 u2) hDd
                    obtain ⟨r0, er0, iu2⟩ := usd 1 u2 rfl
                    cases (show some (Tr.un s0' b0) = some r0 from er0)
                    obtain ⟨w1, w2⟩ := hws _ (List.mem_of_getElem? er0)
                    refine hK _ _ ⟨_, [r1, .un s0' b0], _, rfl, fun c o hc e => ?_, upd_same, rfl, ⟨rfl, fun j t v e1 e2 => ?_⟩, fun j r' hj => ?_, ?_, fun _ => ⟨_, _, rfl⟩⟩
                    · rw [upd_ne (fun z => by rw [z] at e; rw [b4 _ _ (by rw [← z]; exact hc) e] at hD; cases hD)]
                      exact Bd c o hc e
                    · match j, e1, e2 with
                      | 0, e1, e2 =>
                        cases e1
                        cases e2
                        exact (hts.get 0 _ _ rfl rfl).mono kp
                      | 1, e1, e2 =>
                        cases e1
                        cases e2
                        exact iu2.mono kp
                      | j + 2, e1, _ => simp at e1
                    · match j, hj with
                      | 0, hj => cases hj; exact hop 0 _ rfl
                      | 1, hj => cases hj; exact ⟨_, rfl, Op.refl w1 (unk_partsY un (List.mem_of_getElem? er0))⟩
                      | j + 2, hj => simp at hj
                    · rw [upd_ne (Ne.symm nDp)]
                      exact hpd
                  | none =>
                    have e3 : ¬ r2.head = "unknown" := of_decide_eq_false (by rw [← eU, hU]; rfl)
                    refine iteN (by intro e; exact e3 (V.str.inj (of_decide_eq_true e))) ?_
                    refine hK _ _ ⟨_, _, _, rfl, Bd, hDd, rfl, hts, hop, hpd, fun _ => ?_⟩
                    have ef := o2.fl
                    cases r2 with
                    | am k' x' =>
                      have hU : (if k' = "unknown" then some x' else none) = none := hU
                      by_cases e : k' = "unknown"
                      · rw [if_pos e] at hU; cases hU
                      · rw [fill, if_neg e] at ef; cases ef
                    | un s' b' => exact ⟨s', b', rfl⟩
                    | bi s' c' d' => cases ef
              · refine iteN (by intro e; exact hlk (V.str.inj (of_decide_eq_true e))) (iteF ?_)
                exact hK _ _ ⟨vs, ts, _, rfl, Bd, hDd, hti, hts, hop, hpd, fun e => absurd e hlk⟩
            rintro σ' H5 ⟨vs5, ts5, t6, rfl, B5, hD5, hl5, hts5, hop5, hp5, hlk5⟩
            have hpf5 := B5 _ _ npf hpf
            refine ⟨_, rfl, pf, _, _, _, rfl, rfl, SqT.of hpf5, at_of (j := 0) rfl rfl, (by show 1 ≤ sizeLine; decide), fun q hq => ?_⟩
            have sq := Rd.Same.upd (o := .tup [.str t.head]) hq
            have hq1 : upd H5 q (.tup [.str t.head]) q = some (.tup [.str t.head]) := upd_same
            generalize upd H5 q (.tup [.str t.head]) = Hq at sq hq1 ⊢
            refine ⟨_, rfl, D, vs5, rfl, .inl ⟨SqL.of (sq _ _ hD5), fun l' hl' => ?_⟩⟩
            have sl := Rd.Same.upd (o := .tup vs5) hl'
            have hv5 := hts5.len
            refine ⟨q, l', [.str t.head], vs5, rfl, rfl, SqT.of (sl _ _ hq1), SqT.of upd_same, (fun e => by cases e), (by show 1 + vs5.length ≤ sizeLine; omega), fun e => ?_, fun _ p9 hp9 => ?_⟩
            · subst e
              exact absurd (List.length_eq_zero_iff.mp (by rw [← hl5, ← hv5]; rfl)) hne
            have s9 := Rd.Same.upd (o := .tup ([.str t.head] ++ vs5)) hp9
            have S9 := (sq.trans sl).trans s9
            obtain ⟨t', o', i'⟩ := op_of (l := l) wf hpt (show upd (upd Hq l' (.tup vs5)) p9 (.tup ([.str t.head] ++ vs5)) p9 = some (.tup (.str t.head :: vs5)) from upd_same) (hts5.same S9) (by rw [hl5, hlu]) hop5 hlk5
            refine k t' _ yd _ (B5.trans (But.of_same S9)) (S9 _ _ hp5) (hyd.mono (by omega)) o' i'
        · cases wf with
          | @am k0 x0 ko =>
            refine iteP ?_ ⟨_, rfl, itself s0⟩
            · rcases ko with ⟨rfl, _⟩ | ⟨rfl, _⟩ | ⟨rfl, _⟩
              · show decide (("word" : Str) ∈ (["word", "name", "unknown"] : List Str)) = true
                decide +kernel
              · show decide (("name" : Str) ∈ (["word", "name", "unknown"] : List Str)) = true
                decide +kernel
              · exact absurd (un rfl) (by simp)
          | _ => exact absurd (fun e => by cases e) hpt
theorem opu_none (T : Tx w K mg) : Fk P w K mg base CX0 7 "_law_opened_up" ["_law_stream_here", "_law_form_here", "_law_forms", "_law_deep"] (spOR 0) := by
  refine T.F__law_opened_up.ok0 sc__law_opened_up (fun _ _ _ _ _ _ us hl => match us, hl with | [_, _, _, _], _ => rfl) (fun vs H Q E h => h.elim) (fun cdv A outer s H vs Q E hr h => h.elim)
theorem ok__law_opened_up (T : Tx w K mg) : ∀ d : Nat, Fk P w K mg base CX0 (d + 8) "_law_opened_up" ["_law_stream_here", "_law_form_here", "_law_forms", "_law_deep"] (sp_opu d)
  | 0 => opu_step T 0 (opu_none T)
  | d + 1 => opu_step T (d + 1) (ok__law_opened_up T d)
end
end Rd
namespace Rd
open PySem L2
theorem fill_wfZ {m : Str → Option Tr} {d : Nat} (hm : ∀ x t, m x = some t → Wf t ∧ t.dep ≤ d) {t : Tr} (h : Wf t) : Wf (fill m t) ∧ (fill m t).dep ≤ t.dep + d := by
  induction h with
  | @am k x ko =>
    show Wf (if k = "unknown" then _ else _) ∧ (if k = "unknown" then _ else _ : Tr).dep ≤ _
    split
    · cases e : m x with
      | none => exact ⟨.am ko, Nat.zero_le _⟩
      | some t =>
        obtain ⟨a, b⟩ := hm x t e
        exact ⟨a, by show t.dep ≤ 0 + d; omega⟩
    · exact ⟨.am ko, Nat.zero_le _⟩
  | @un s a hs _ ih => exact ⟨.un hs ih.1, by show (fill m a).dep + 1 ≤ a.dep + 1 + d; have := ih.2; omega⟩
  | @bi s a b hs _ _ ih1 ih2 => exact ⟨.bi hs ih1.1 ih2.1, by show max (fill m a).dep (fill m b).dep + 1 ≤ max a.dep b.dep + 1 + d; have := ih1.2; have := ih2.2; omega⟩
  | @lk s a b hs _ _ ih1 ih2 => exact ⟨.lk hs ih1.1 ih2.1, by show max (fill m a).dep ((fill m b).dep + 1) + 1 ≤ max a.dep (b.dep + 1) + 1 + d; have := ih1.2; have := ih2.2; omega⟩
theorem fill_plainZ {l : List (Str × Tr)} (hl : l.map (·.1) = NV) (hp : ∀ z ∈ l, z.2.unkIn []) : ∀ {t : Tr}, t.unkIn (NV.map V.str) → (fill (look l) t).unkIn []
  | .am k x, h => by
    unfold fill
    split
    · rename_i e
      have hx := h e
      have hx : x ∈ NV := by
        obtain ⟨y, hy, ey⟩ := List.mem_map.mp hx
        cases ey
        exact hy
      rw [← hl] at hx
      obtain ⟨⟨y, u⟩, hy, ey⟩ := List.mem_map.mp hx
      have ey : y = x := ey
      subst ey
      obtain ⟨i, hi⟩ := List.getElem?_of_mem hy
      rw [look_get (by rw [hl]; decide +kernel) hi]
      exact hp _ hy
    · rename_i e
      exact fun z => absurd z e
  | .un s a, h => by
    rw [fill]
    exact fill_plainZ hl hp (t := a) h
  | .bi s a b, h => by
    rw [fill]
    exact ⟨fill_plainZ hl hp (t := a) h.1, fill_plainZ hl hp (t := b) h.2⟩
/-- a drawn filling -/
structure PlF (l : Sb) : Prop where
  ks : l.map (·.1) = NV
  ok : ∀ z ∈ l, Wf z.2 ∧ dpN 2 [] z.2
theorem PlF.nd {l : Sb} (h : PlF l) : (l.map (·.1)).Nodup := by rw [h.ks]; decide +kernel
theorem PlF.len {l : Sb} (h : PlF l) : l.length = 4 := by
  have := congrArg List.length h.ks
  rw [List.length_map] at this
  exact this
theorem PlF.wl {l : Sb} (h : PlF l) : ∀ z ∈ l, Wf z.2 ∧ z.2.dep ≤ 60 ∧ Wf (unk z.1) := fun z hz => by
  obtain ⟨a, b, _⟩ := h.ok z hz
  refine ⟨a, by omega, ?_⟩
  have hn : z.1 ∈ NV := by rw [← h.ks]; exact List.mem_map.mpr ⟨z, hz, rfl⟩
  have : ∀ y ∈ NV, isUnk y = true := by decide +kernel
  exact .am (.inr (.inr ⟨rfl, this _ hn⟩))
end Rd
namespace Rd
open PySem L2
structure ActOk (A : Tr → Tr → Act) : Prop where
  eq : ∀ {f : Str → Tr} {l r : Tr}, hm f l = hm f r → A l r = .drop ∨ (∃ x t, A l r = .bind x t ∧ f x = hm f t) ∨ ∃ ps, A l r = .more ps ∧ ∀ p ∈ ps, hm f p.1 = hm f p.2
  drop : ∀ {l r : Tr}, A l r = .drop → l = r
  bind : ∀ {l r t : Tr} {x : Str}, A l r = .bind x t → ocU x t = false ∧ ((unk x = l ∧ t = r) ∨ (unk x = r ∧ t = l))
  more : ∀ {l r : Tr} {ps : List (Tr × Tr)}, A l r = .more ps → Wf l → Wf r → ps = l.parts.zip r.parts ∧ l.parts.length = r.parts.length ∧ l.parts ≠ [] ∧ l.head = r.head
theorem parts_len {l r : Tr} (wl : Wf l) (wr : Wf r) (h : l.head = r.head) (hp : l.parts ≠ []) : l.parts.length = r.parts.length := (mtl_parts (l := []) hp wl wr h).2
theorem act2_drop {l r : Tr} (h : act2 l r = .drop) : l = r := by
  unfold act2 at h
  cases hl : isU l with
  | some x =>
    rw [hl] at h
    dsimp only at h
    by_cases e : l = r
    · exact e
    · rw [if_neg e] at h
      split at h <;> cases h
  | none =>
    rw [hl] at h
    dsimp only at h
    by_cases e : l = r
    · exact e
    · rw [if_neg e] at h
      split at h <;> cases h
theorem act2_bind {l r t : Tr} {x : Str} (h : act2 l r = .bind x t) : ocU x t = false ∧ unk x = l ∧ t = r := by
  unfold act2 at h
  cases hl : isU l with
  | some y =>
    rw [hl] at h
    dsimp only at h
    by_cases e : l = r
    · rw [if_pos e] at h; cases h
    · rw [if_neg e] at h
      by_cases o : ocU y r = true
      · rw [if_pos o] at h; cases h
      · rw [if_neg o] at h
        cases h
        exact ⟨Bool.eq_false_iff.mpr o, (isU_some hl).symm, rfl⟩
  | none =>
    rw [hl] at h
    dsimp only at h
    split at h
    · split at h <;> cases h
    · cases h
theorem act2_more {l r : Tr} {ps : List (Tr × Tr)} (h : act2 l r = .more ps) : isU l = none ∧ ps = l.parts.zip r.parts ∧ l.parts ≠ [] ∧ l.head = r.head := by
  unfold act2 at h
  cases hl : isU l with
  | some y =>
    rw [hl] at h
    dsimp only at h
    split at h
    · cases h
    · split at h <;> cases h
  | none =>
    rw [hl] at h
    dsimp only at h
    by_cases e : l.parts = [] ∨ l.head ≠ r.head
    · rw [if_pos e] at h
      split at h <;> cases h
    · rw [if_neg e] at h
      cases h
      exact ⟨rfl, rfl, fun z => e (.inl z), Decidable.byContradiction fun z => e (.inr z)⟩
theorem unk_parts {t : Tr} {x : Str} (h : isU t = some x) : t.parts = [] := by rw [isU_some h]; rfl
theorem act_ok : ActOk act := by
  refine ⟨fun h => ?_, fun {l r} h => ?_, fun {l r t x} h => ?_, fun {l r ps} h wl wr => ?_⟩
  · rcases act_eq h with h | ⟨x, t, h1, h2, _⟩ | ⟨ps, h1, h2, _⟩
    · exact .inl h
    · exact .inr (.inl ⟨x, t, h1, h2⟩)
    · exact .inr (.inr ⟨ps, h1, h2⟩)
  · have h := act2_drop h
    unfold sw at h
    split at h
    · exact h.symm
    · exact h
  · obtain ⟨h1, h2, h3⟩ := act2_bind h
    unfold sw at h2 h3
    split at h2
    · rename_i c
      rw [if_pos c] at h3
      exact ⟨h1, .inr ⟨h2, h3⟩⟩
    · rename_i c
      rw [if_neg c] at h3
      exact ⟨h1, .inl ⟨h2, h3⟩⟩
  · obtain ⟨h1, h2, h3, h4⟩ := act2_more h
    unfold sw at h1 h2 h3 h4
    split at h1
    · rename_i c
      rw [if_pos c] at h3
      obtain ⟨y, hy⟩ := Option.isSome_iff_exists.mp (Bool.and_eq_true_iff.mp c).2
      exact absurd (unk_parts hy) h3
    · rename_i c
      rw [if_neg c] at h2 h3 h4
      exact ⟨h2, parts_len wl wr h4 h3, h3, h4⟩
def swL (l r : Tr) : Tr × Tr := if (isU r).isSome = true then (r, l) else (l, r)
def actL2 (l r : Tr) : Act := if l = r then .drop else
  match isU l with
  | some x => if ocU x r = true then .fail else .bind x r
  | none => if l.head ≠ r.head ∨ l.parts = [] then .fail else .more (l.parts.zip r.parts)
def actL (l r : Tr) : Act := actL2 (swL l r).1 (swL l r).2
theorem actL2_eq {f : Str → Tr} {l r : Tr} (hs : isU l = none → isU r = none) (h : hm f l = hm f r) : actL2 l r = .drop ∨ (∃ x t, actL2 l r = .bind x t ∧ f x = hm f t) ∨ ∃ ps, actL2 l r = .more ps ∧ ∀ p ∈ ps, hm f p.1 = hm f p.2 := by
  unfold actL2
  by_cases e : l = r
  · rw [if_pos e]; exact .inl rfl
  rw [if_neg e]
  have a2 := act_eq h
  cases hl : isU l with
  | some x =>
    dsimp only
    have eL := isU_some hl
    have es : sw l r = (l, r) := by unfold sw; rw [hl]; rfl
    by_cases o : ocU x r = true
    · exfalso
      have e2 : act l r = .fail := by
        unfold act
        rw [es]
        unfold act2
        dsimp only
        rw [hl]
        dsimp only
        rw [if_neg e, if_pos o]
      rw [e2] at a2
      rcases a2 with z | ⟨_, _, z, _⟩ | ⟨_, z, _⟩ <;> cases z
    · rw [if_neg o]
      rw [eL, hm_unk] at h
      exact .inr (.inl ⟨x, r, rfl, h⟩)
  | none =>
    dsimp only
    have es : sw l r = (l, r) := by unfold sw; rw [hl, hs hl]; rfl
    by_cases c : l.head ≠ r.head ∨ l.parts = []
    · exfalso
      have e2 : act l r = .fail := by
        unfold act
        rw [es]
        unfold act2
        dsimp only
        rw [hl]
        dsimp only
        rw [if_pos c.symm, if_neg e]
      rw [e2] at a2
      rcases a2 with z | ⟨_, _, z, _⟩ | ⟨_, z, _⟩ <;> cases z
    · rw [if_neg c]
      have e2 : act l r = .more (l.parts.zip r.parts) := by
        unfold act
        rw [es]
        unfold act2
        dsimp only
        rw [hl]
        dsimp only
        rw [if_neg (fun z => c z.symm)]
      rw [e2] at a2
      rcases a2 with z | ⟨_, _, z, _⟩ | ⟨ps, z, q, _⟩
      · cases z
      · cases z
      · cases z
        exact .inr (.inr ⟨_, rfl, q⟩)
theorem swL_hs {l r : Tr} : isU (swL l r).1 = none → isU (swL l r).2 = none := by
  unfold swL
  split
  · rename_i c
    intro h
    have h : isU r = none := h
    rw [h] at c
    cases c
  · rename_i c
    intro _
    show isU r = none
    cases e : isU r with
    | none => rfl
    | some x => rw [e] at c; exact absurd rfl c
theorem actL_ok : ActOk actL := by
  refine ⟨fun {f l r} h => ?_, fun {l r} h => ?_, fun {l r t x} h => ?_, fun {l r ps} h wl wr => ?_⟩
  · refine actL2_eq swL_hs ?_
    unfold swL
    split
    · exact h.symm
    · exact h
  · unfold actL actL2 at h
    split at h
    · rename_i c
      unfold swL at c
      split at c
      · exact c.symm
      · exact c
    · split at h
      · split at h <;> cases h
      · split at h <;> cases h
  · unfold actL actL2 at h
    split at h
    · cases h
    · split at h
      · rename_i y hy
        split at h
        · cases h
        · rename_i o
          cases h
          have h2 := isU_some hy
          refine ⟨Bool.eq_false_iff.mpr o, ?_⟩
          unfold swL at h2 ⊢
          split
          · rename_i c
            rw [if_pos c] at h2
            exact .inr ⟨h2.symm, rfl⟩
          · rename_i c
            rw [if_neg c] at h2
            exact .inl ⟨h2.symm, rfl⟩
      · split at h <;> cases h
  · unfold actL actL2 at h
    split at h
    · cases h
    · split at h
      · split at h <;> cases h
      · rename_i hn
        split at h
        · cases h
        · rename_i c
          cases h
          have h3 : (swL l r).1.parts ≠ [] := fun z => c (.inr z)
          have h4 : (swL l r).1.head = (swL l r).2.head := Decidable.byContradiction fun z => c (.inl z)
          unfold swL at h3 h4 ⊢
          split
          · rename_i c2
            rw [if_pos c2] at h3
            obtain ⟨y, hy⟩ := Option.isSome_iff_exists.mp c2
            exact absurd (unk_parts hy) h3
          · rename_i c2
            rw [if_neg c2] at h3 h4
            exact ⟨rfl, parts_len wl wr h4 h3, h3, h4⟩
end Rd
namespace Rd
open PySem L2
theorem res_idem {B : Sb} (h : Tri B) (t : Tr) : res B (res B t) = res B t := res_id fun p hp => res_free h p hp
theorem hm_parts_eq {f : Str → Tr} {l r : Tr} (hh : l.head = r.head) (hp : l.parts ≠ []) (hl : l.parts.length = r.parts.length) (h : ∀ p ∈ l.parts.zip r.parts, hm f p.1 = hm f p.2) : hm f l = hm f r := by
  cases l with
  | am k x => exact absurd rfl hp
  | un s a =>
    cases r with
    | am k x => exact absurd hl (by show ¬ 1 = 0; decide)
    | un s' a' =>
      have e : s = s' := hh
      have := h (a, a') (by show (a, a') ∈ [(a, a')]; exact List.mem_cons_self)
      subst e
      show Tr.un s (hm f a) = Tr.un s (hm f a')
      rw [this]
    | bi s' a' b' => exact absurd hl (by show ¬ 1 = 2; decide)
  | bi s a b =>
    cases r with
    | am k x => exact absurd hl (by show ¬ 2 = 0; decide)
    | un s' a' => exact absurd hl (by show ¬ 2 = 1; decide)
    | bi s' a' b' =>
      have e : s = s' := hh
      have h1 := h (a, a') (by show (a, a') ∈ [(a, a'), (b, b')]; exact List.mem_cons_self)
      have h2 := h (b, b') (by show (b, b') ∈ [(a, a'), (b, b')]; exact List.mem_cons_of_mem _ List.mem_cons_self)
      subst e
      show Tr.bi s (hm f a) (hm f b) = Tr.bi s (hm f a') (hm f b')
      rw [h1, h2]
/-- what a run keeps of its forms -/
structure RunI (ns : List Str) (B : Sb) (W : List (Tr × Tr)) : Prop where
  tri : Tri B
  wB : ∀ p ∈ B, Wf p.2
  nB : ∀ p ∈ B, p.1 ∈ ns ∧ inNs ns p.2
  wW : ∀ p ∈ W, Wf p.1 ∧ Wf p.2
  nW : ∀ p ∈ W, inNs ns p.1 ∧ inNs ns p.2
theorem RunI.pop {ns : List Str} {B : Sb} {W : List (Tr × Tr)} {p : Tr × Tr} (h : RunI ns B (W ++ [p])) : RunI ns B W := ⟨h.tri, h.wB, h.nB, fun q hq => h.wW q (List.mem_append_left _ hq), fun q hq => h.nW q (List.mem_append_left _ hq)⟩
section
variable {A : Tr → Tr → Act} (ok : ActOk A) {ns : List Str} {B : Sb} {W : List (Tr × Tr)} {l r : Tr}
include ok
theorem RunI.bd (h : RunI ns B (W ++ [(l, r)])) {x : Str} {t : Tr} (e : A (res B l) (res B r) = .bind x t) : RunI ns (B ++ [(x, t)]) W ∧ (∀ p ∈ B, p.1 ≠ x) ∧ x ∈ ns := by
  obtain ⟨o, c⟩ := ok.bind e
  obtain ⟨wl, wr⟩ := h.wW (l, r) (List.mem_append_right _ List.mem_cons_self)
  obtain ⟨nl, nr⟩ := h.nW (l, r) (List.mem_append_right _ List.mem_cons_self)
  have inB : ∀ p ∈ B, inNs ns p.2 := fun p hp => (h.nB p hp).2
  have f1 := res_free (t := l) h.tri
  have f2 := res_free (t := r) h.tri
  have w1 := res_wf h.wB wl
  have w2 := res_wf h.wB wr
  have n1 := res_in inB nl
  have n2 := res_in inB nr
  have ft : ∀ p ∈ B, ocU p.1 t = false := by rcases c with ⟨_, rfl⟩ | ⟨_, rfl⟩; exact f2; exact f1
  have wt : Wf t := by rcases c with ⟨_, rfl⟩ | ⟨_, rfl⟩; exact w2; exact w1
  have nt : inNs ns t := by rcases c with ⟨_, rfl⟩ | ⟨_, rfl⟩; exact n2; exact n1
  have ux : ∃ u, unk x = u ∧ (∀ p ∈ B, ocU p.1 u = false) ∧ inNs ns u := by
    rcases c with ⟨e, _⟩ | ⟨e, _⟩
    · exact ⟨_, e, f1, n1⟩
    · exact ⟨_, e, f2, n2⟩
  obtain ⟨u, rfl, fu, nu⟩ := ux
  have nx : ∀ p ∈ B, p.1 ≠ x := fun p hp e => by
    have := fu p hp
    rw [e, show ocU x (unk x) = true from ocU_unk.mpr rfl] at this
    cases this
  have hx : x ∈ ns := nu x (ocU_unk.mpr rfl)
  have hp := h.pop
  refine ⟨⟨h.tri.snoc o fun p hp => ⟨ft p hp, nx p hp⟩, fun p hp => ?_, fun p hp => ?_, hp.wW, hp.nW⟩, nx, hx⟩
  · rcases List.mem_append.mp hp with z | z
    · exact h.wB p z
    · rw [List.mem_singleton.mp z]; exact wt
  · rcases List.mem_append.mp hp with z | z
    · exact h.nB p z
    · rw [List.mem_singleton.mp z]; exact ⟨hx, nt⟩
theorem RunI.mr (h : RunI ns B (W ++ [(l, r)])) {ps : List (Tr × Tr)} (e : A (res B l) (res B r) = .more ps) : RunI ns B (W ++ ps) ∧ ps = (res B l).parts.zip (res B r).parts ∧ (res B l).parts.length = (res B r).parts.length ∧ (res B l).parts ≠ [] ∧ (res B l).head = (res B r).head := by
  obtain ⟨wl, wr⟩ := h.wW (l, r) (List.mem_append_right _ List.mem_cons_self)
  obtain ⟨nl, nr⟩ := h.nW (l, r) (List.mem_append_right _ List.mem_cons_self)
  have inB : ∀ p ∈ B, inNs ns p.2 := fun p hp => (h.nB p hp).2
  have w1 := res_wf h.wB wl
  have w2 := res_wf h.wB wr
  have n1 := res_in inB nl
  have n2 := res_in inB nr
  obtain ⟨e1, e2, e3, e4⟩ := ok.more e w1 w2
  have p2 : (res B r).parts ≠ [] := fun z => e3 (List.length_eq_zero_iff.mp (by rw [e2, z]; rfl))
  have hz : ∀ p ∈ ps, p.1 ∈ (res B l).parts ∧ p.2 ∈ (res B r).parts := fun p hp => by
    rw [e1] at hp
    obtain ⟨i, hi⟩ := List.getElem?_of_mem hp
    obtain ⟨g1, g2⟩ := List.getElem?_zip_eq_some.mp (show ((res B l).parts.zip (res B r).parts)[i]? = some (p.1, p.2) from hi)
    exact ⟨List.mem_of_getElem? g1, List.mem_of_getElem? g2⟩
  have hp := h.pop
  refine ⟨⟨h.tri, h.wB, h.nB, fun p q => ?_, fun p q => ?_⟩, e1, e2, e3, e4⟩
  · rcases List.mem_append.mp q with z | z
    · exact hp.wW p z
    · exact ⟨((w1.sign e3).2 _ (hz p z).1).1, ((w2.sign p2).2 _ (hz p z).2).1⟩
  · rcases List.mem_append.mp q with z | z
    · exact hp.nW p z
    · exact ⟨inNs_parts (hz p z).1 n1, inNs_parts (hz p z).2 n2⟩
/-- what a run finds makes all pairs equal -/
theorem sound {D n : Nat} {o : Option Sb} (h : UnA A D n B W o) : RunI ns B W → ∀ B', o = some B' → RunI ns B' [] ∧ (∃ C, B' = B ++ C) ∧ ∀ p ∈ W, res B' p.1 = res B' p.2 := by
  induction h with
  | done _ _ => intro I B' e; cases e; exact ⟨I, ⟨[], (List.append_nil _).symm⟩, fun p hp => by cases hp⟩
  | fl _ _ _ => intro I B' e; cases e
  | @dr n B W l r o h1 h2 e k ih =>
    intro I B' eo
    obtain ⟨I', ⟨C, rfl⟩, q⟩ := ih I.pop B' eo
    refine ⟨I', ⟨C, rfl⟩, fun p hp => ?_⟩
    rcases List.mem_append.mp hp with z | z
    · exact q p z
    · rw [List.mem_singleton.mp z]
      show res (B ++ C) l = res (B ++ C) r
      rw [res_app, res_app, ok.drop e]
  | @bd n B W l r o x t h1 h2 e hb k ih =>
    intro I B' eo
    obtain ⟨I2, _⟩ := I.bd ok e
    obtain ⟨I', ⟨C, rfl⟩, q⟩ := ih I2 B' eo
    refine ⟨I', ⟨(x, t) :: C, by rw [List.append_assoc]; rfl⟩, fun p hp => ?_⟩
    rcases List.mem_append.mp hp with z | z
    · exact q p z
    · rw [List.mem_singleton.mp z]
      show res (B ++ [(x, t)] ++ C) l = res (B ++ [(x, t)] ++ C) r
      rw [res_app, res_app (t := r), res_snoc, res_snoc]
      obtain ⟨oc, c⟩ := ok.bind e
      have e1 : hm (one x t) (unk x) = t := by rw [hm_unk]; exact one_self
      have e2 : hm (one x t) t = t := one_free oc
      rcases c with ⟨c1, c2⟩ | ⟨c1, c2⟩
      · rw [← c1, ← c2, e1, e2]
      · rw [← c1, ← c2, e1, e2]
  | @mr n B W l r o ps h1 h2 e hw k ih =>
    intro I B' eo
    obtain ⟨I2, ep, el, en, eh⟩ := I.mr ok e
    obtain ⟨I', ⟨C, rfl⟩, q⟩ := ih I2 B' eo
    refine ⟨I', ⟨C, rfl⟩, fun p hp => ?_⟩
    rcases List.mem_append.mp hp with z | z
    · exact q p (List.mem_append_left _ z)
    · rw [List.mem_singleton.mp z]
      show res (B ++ C) l = res (B ++ C) r
      have key : ∀ t, res (B ++ C) t = hm (fun x => res (B ++ C) (unk x)) (res B t) := fun t => by
        rw [← res_hm, res_app, res_app, res_idem I.tri]
      rw [key l, key r]
      refine hm_parts_eq eh en el fun p hp => ?_
      rw [← res_hm, ← res_hm]
      exact q p (List.mem_append_right _ (by rw [ep]; exact hp))
/-- whatever makes all pairs equal is an instance of what a run finds, and the run finds something -/
theorem general {f : Str → Tr} {D n : Nat} {o : Option Sb} (h : UnA A D n B W o) : RunI ns B W → Sat f B → (∀ p ∈ W, hm f p.1 = hm f p.2) → ∃ B', o = some B' ∧ Sat f B' := by
  have back : ∀ {B : Sb} {l r : Tr}, Sat f B → hm f l = hm f r → hm f (res B l) = hm f (res B r) := fun {B l r} s e => by rw [sat_res s, sat_res s, e]
  induction h with
  | done _ _ => exact fun _ s _ => ⟨_, rfl, s⟩
  | @fl B W l r h1 h2 e =>
    intro I s q
    have := ok.eq (back s (q (l, r) (List.mem_append_right _ List.mem_cons_self)))
    rw [e] at this
    rcases this with z | ⟨_, _, z, _⟩ | ⟨_, z, _⟩ <;> cases z
  | @dr n B W l r o h1 h2 e k ih => exact fun I s q => ih I.pop s fun p hp => q p (List.mem_append_left _ hp)
  | @bd n B W l r o x t h1 h2 e hb k ih =>
    intro I s q
    have := ok.eq (back s (q (l, r) (List.mem_append_right _ List.mem_cons_self)))
    rw [e] at this
    rcases this with z | ⟨_, _, z, g⟩ | ⟨_, z, _⟩
    · cases z
    · cases z
      refine ih (I.bd ok e).1 (fun p hp => ?_) fun p hp => q p (List.mem_append_left _ hp)
      rcases List.mem_append.mp hp with z | z
      · exact s p z
      · rw [List.mem_singleton.mp z]; exact g
    · cases z
  | @mr n B W l r o ps h1 h2 e hw k ih =>
    intro I s q
    have := ok.eq (back s (q (l, r) (List.mem_append_right _ List.mem_cons_self)))
    rw [e] at this
    rcases this with z | ⟨_, _, z, g⟩ | ⟨_, z, g⟩
    · cases z
    · cases z
    · cases z
      refine ih (I.mr ok e).1 s fun p hp => ?_
      rcases List.mem_append.mp hp with z | z
      · exact q p (List.mem_append_left _ z)
      · exact g p z
end
end Rd
namespace Rd
open PySem L2
theorem sz_all : ∀ t : Tr, sz t = t.all.length
  | .am _ _ => rfl
  | .un s a => by show sz a + 1 = a.all.length + 1; rw [sz_all a]
  | .bi s a b => by show sz a + sz b + 1 = (a.all ++ b.all).length + 1; rw [List.length_append, sz_all a, sz_all b]
theorem hm_all_le {f : Str → Tr} {M : Nat} : ∀ {t : Tr}, (∀ y, ocU y t = true → (f y).all.length ≤ M) → (hm f t).all.length ≤ t.all.length + t.lf * M
  | .am k x, h => by
    show (if k = "unknown" then f x else .am k x : Tr).all.length ≤ 1 + 1 * M
    split
    · rename_i e
      subst e
      have := h x (ocU_unk.mpr rfl)
      omega
    · show 1 ≤ _
      omega
  | .un s a, h => by
    have := hm_all_le (f := f) (M := M) (t := a) h
    show (hm f a).all.length + 1 ≤ a.all.length + 1 + a.lf * M
    omega
  | .bi s a b, h => by
    have oc : ∀ y, ocU y (.bi s a b) = (ocU y a || ocU y b) := fun y => rfl
    have h1 := hm_all_le (f := f) (M := M) (t := a) fun y hy => h y (by rw [oc, hy]; rfl)
    have h2 := hm_all_le (f := f) (M := M) (t := b) fun y hy => h y (by rw [oc, hy, Bool.or_true])
    show ((hm f a).all ++ (hm f b).all).length + 1 ≤ (a.all ++ b.all).length + 1 + (a.lf + b.lf) * M
    rw [List.length_append, List.length_append, Nat.add_mul]
    omega
theorem hm_dep_le {f : Str → Tr} {M : Nat} : ∀ {t : Tr}, (∀ y, ocU y t = true → (f y).dep ≤ M) → (hm f t).dep ≤ t.dep + M
  | .am k x, h => by
    show (if k = "unknown" then f x else .am k x : Tr).dep ≤ 0 + M
    split
    · rename_i e
      subst e
      have := h x (ocU_unk.mpr rfl)
      omega
    · exact Nat.zero_le _
  | .un s a, h => by
    have := hm_dep_le (f := f) (M := M) (t := a) h
    show (hm f a).dep + 1 ≤ a.dep + 1 + M
    omega
  | .bi s a b, h => by
    have oc : ∀ y, ocU y (.bi s a b) = (ocU y a || ocU y b) := fun y => rfl
    have h1 := hm_dep_le (f := f) (M := M) (t := a) fun y hy => h y (by rw [oc, hy]; rfl)
    have h2 := hm_dep_le (f := f) (M := M) (t := b) fun y hy => h y (by rw [oc, hy, Bool.or_true])
    show max (hm f a).dep (hm f b).dep + 1 ≤ max a.dep b.dep + 1 + M
    omega
theorem filter_lt {α : Type} {p q : α → Bool} {y : α} : ∀ {l : List α}, (∀ z, p z = true → q z = true) → y ∈ l → p y = false → q y = true → (l.filter p).length < (l.filter q).length
  | [], _, h, _, _ => by cases h
  | z :: l, s, h, h1, h2 => by
    have le : ∀ l : List α, (l.filter p).length ≤ (l.filter q).length := fun l => by
      induction l with
      | nil => exact Nat.le_refl _
      | cons a l ih =>
        rw [List.filter_cons, List.filter_cons]
        cases hp : p a with
        | true => rw [s a hp, if_pos rfl, if_pos rfl, List.length_cons, List.length_cons]; omega
        | false =>
          rw [if_neg (by decide)]
          split
          · rw [List.length_cons]; omega
          · exact ih
    rw [List.filter_cons, List.filter_cons]
    rcases List.mem_cons.mp h with rfl | h
    · rw [h1, h2, if_neg (by decide), if_pos rfl, List.length_cons]
      have := le l
      omega
    · have ih := filter_lt s h h1 h2
      cases hp : p z with
      | true => rw [s z hp, if_pos rfl, if_pos rfl, List.length_cons, List.length_cons]; omega
      | false =>
        rw [if_neg (by decide)]
        split
        · rw [List.length_cons]; omega
        · exact ih
/-- the forms that a run starts from, and their parts -/
structure Org (O : Tr → Prop) (ns : List Str) : Prop where
  pt : ∀ {t p : Tr}, O t → p ∈ t.parts → O p
  sz : ∀ {t : Tr}, O t → t.all.length ≤ 51
  lf : ∀ {t : Tr}, O t → t.lf ≤ 18
  dp : ∀ {t : Tr}, O t → t.dep ≤ 9
  nm : ∀ {t : Tr}, O t → inNs ns t
/-- a form that is, resolved, an unknown or such a part, resolved -/
def Cls (O : Tr → Prop) (B : Sb) (w : Tr) : Prop := (∃ y, res B w = unk y) ∨ ∃ s, O s ∧ isU s = none ∧ res B w = res B s
def fF : Nat → Nat
  | 0 => 1
  | k + 1 => 51 + 18 * fF k
section
variable {O : Tr → Prop} {ns : List Str} (org : Org O ns) {B : Sb}
include org
theorem unk_sz (hc : ∀ x ∈ ns, Cls O B (unk x)) : ∀ (k : Nat) (x : Str), x ∈ ns → (ns.filter fun y => decide (sz (res B (unk y)) < sz (res B (unk x)))).length < k → (res B (unk x)).all.length ≤ fF k ∧ (res B (unk x)).dep ≤ 9 * k
  | 0, x, _, h => absurd h (Nat.not_lt_zero _)
  | k + 1, x, hx, h => by
    rcases hc x hx with ⟨y, e⟩ | ⟨s, hs, hn, e⟩
    · rw [e]
      exact ⟨by show 1 ≤ 51 + 18 * fF k; omega, Nat.zero_le _⟩
    · have step : ∀ y, ocU y s = true → (res B (unk y)).all.length ≤ fF k ∧ (res B (unk y)).dep ≤ 9 * k := fun y hy => by
        have hyn := org.nm hs y hy
        refine unk_sz hc k y hyn ?_
        have lt : sz (res B (unk y)) < sz (res B (unk x)) := by
          rcases sz_oc (f := fun x => res B (unk x)) hy with z | z
          · rw [z] at hn
            exact absurd hn (by show ¬ (if ("unknown" : Str) = "unknown" then some y else none) = none; rw [if_pos rfl]; exact fun z => by cases z)
          · rw [← res_hm, ← e] at z
            exact z
        have := filter_lt (p := fun z => decide (sz (res B (unk z)) < sz (res B (unk y)))) (q := fun z => decide (sz (res B (unk z)) < sz (res B (unk x)))) (y := y) (l := ns) (fun z hz => decide_eq_true (Nat.lt_trans (of_decide_eq_true hz) lt)) hyn (decide_eq_false (Nat.lt_irrefl _)) (decide_eq_true lt)
        omega
      have h1 := hm_all_le (f := fun x => res B (unk x)) (M := fF k) (t := s) fun y hy => (step y hy).1
      have h2 := hm_dep_le (f := fun x => res B (unk x)) (M := 9 * k) (t := s) fun y hy => (step y hy).2
      rw [← res_hm, ← e] at h1 h2
      have h3 := org.sz hs
      have h4 := org.lf hs
      have h5 := org.dp hs
      have h6 : s.lf * fF k ≤ 18 * fF k := Nat.mul_le_mul_right _ h4
      exact ⟨by show _ ≤ 51 + 18 * fF k; omega, by omega⟩
theorem unk_sz4 (hc : ∀ x ∈ ns, Cls O B (unk x)) (n4 : ns.length ≤ 4) {x : Str} (hx : x ∈ ns) : (res B (unk x)).all.length ≤ 419901 ∧ (res B (unk x)).dep ≤ 36 := by
  have := filter_lt (p := fun y => decide (sz (res B (unk y)) < sz (res B (unk x)))) (q := fun _ => true) (y := x) (l := ns) (fun _ _ => rfl) hx (decide_eq_false (Nat.lt_irrefl _)) rfl
  have hl := List.length_filter_le (fun _ : Str => true) ns
  exact unk_sz org hc 4 x hx (by omega)
theorem org_sz (hc : ∀ x ∈ ns, Cls O B (unk x)) (n4 : ns.length ≤ 4) {s : Tr} (hs : O s) : (res B s).all.length ≤ 7558269 ∧ (res B s).dep ≤ 45 := by
  have h1 := hm_all_le (f := fun x => res B (unk x)) (M := 419901) (t := s) fun y hy => (unk_sz4 org hc n4 (org.nm hs y hy)).1
  have h2 := hm_dep_le (f := fun x => res B (unk x)) (M := 36) (t := s) fun y hy => (unk_sz4 org hc n4 (org.nm hs y hy)).2
  rw [← res_hm] at h1 h2
  have h3 := org.sz hs
  have h4 := org.lf hs
  have h5 := org.dp hs
  have h6 : s.lf * 419901 ≤ 18 * 419901 := Nat.mul_le_mul_right _ h4
  exact ⟨by omega, by omega⟩
theorem cls_sz (hc : ∀ x ∈ ns, Cls O B (unk x)) (n4 : ns.length ≤ 4) {w : Tr} (h : Cls O B w) : SzB 45 (res B w) := by
  rcases h with ⟨y, e⟩ | ⟨s, hs, _, e⟩
  · rw [e]
    exact ⟨Nat.zero_le _, by show 1 ≤ 8000000; decide⟩
  · rw [e]
    obtain ⟨a, b⟩ := org_sz org hc n4 hs
    exact ⟨b, by omega⟩
end
theorem res_parts {B : Sb} {s : Tr} (h : isU s = none) : (res B s).parts = s.parts.map (res B) := by
  have key : ∀ f : Str → Tr, (hm f s).parts = s.parts.map (hm f) := fun f => by
    cases s with
    | am k x =>
      have h : (if k = "unknown" then some x else none) = none := h
      by_cases e : k = "unknown"
      · rw [if_pos e] at h; cases h
      · show (if k = "unknown" then f x else .am k x : Tr).parts = []
        rw [if_neg e]; rfl
    | un s a => rfl
    | bi s a b => rfl
  rw [res_hm, key]
  exact List.map_congr_left fun p _ => (res_hm B p).symm
theorem hm_parts {g : Str → Tr} {t : Tr} (h : t.parts ≠ []) : (hm g t).parts = t.parts.map (hm g) := by
  cases t with
  | am k x => exact absurd rfl h
  | un s a => rfl
  | bi s a b => rfl
theorem Cls.parts {O : Tr → Prop} {ns : List Str} (org : Org O ns) {B : Sb} (tri : Tri B) (hc : ∀ x ∈ ns, Cls O B (unk x)) {w p : Tr} (h : Cls O B w) (hp : p ∈ (res B w).parts) : Cls O B p ∧ res B p = p := by
  rcases h with ⟨y, e⟩ | ⟨s, hs, hn, e⟩
  · rw [e] at hp
    cases hp
  · rw [e, res_parts hn] at hp
    obtain ⟨q, hq, rfl⟩ := List.mem_map.mp hp
    have oq := org.pt hs hq
    have ei := res_idem tri q
    refine ⟨?_, ei⟩
    cases hu : isU q with
    | none => exact .inr ⟨q, oq, hu, ei⟩
    | some z =>
      have ez := isU_some hu
      subst ez
      have := hc z (org.nm oq z (ocU_unk.mpr rfl))
      rcases this with ⟨y, e2⟩ | ⟨s2, a, b, e2⟩
      · exact .inl ⟨y, by rw [ei, e2]⟩
      · exact .inr ⟨s2, a, b, by rw [ei, e2]⟩
theorem Cls.bind {O : Tr → Prop} {B : Sb} {x : Str} {t w2 w : Tr} (ht : t = res B w2) (c2 : Cls O B w2) (ho : ocU x t = false) (h : Cls O B w) : Cls O (B ++ [(x, t)]) w := by
  unfold Cls at *
  rw [res_snoc]
  rcases h with ⟨y, e⟩ | ⟨s, hs, hn, e⟩
  · rw [e, hm_unk]
    by_cases z : y = x
    · subst z
      rw [one_self]
      rcases c2 with ⟨y2, e2⟩ | ⟨s2, hs2, hn2, e2⟩
      · exact .inl ⟨y2, by rw [ht, e2]⟩
      · refine .inr ⟨s2, hs2, hn2, ?_⟩
        rw [res_snoc, ← e2, ← ht, one_free ho]
    · exact .inl ⟨y, one_ne z⟩
  · exact .inr ⟨s, hs, hn, by rw [res_snoc, e]⟩
/-- a stack of forms that came of a list of forms -/
inductive Stk (L : List Tr) : List Tr → Prop where
  | refl : Stk L L
  | drop {M : List Tr} {t : Tr} : Stk L (M ++ [t]) → Stk L M
  | more {M : List Tr} {t : Tr} : Stk L (M ++ [t]) → t.parts ≠ [] → Stk L (M ++ t.parts)
theorem parts_sz {t : Tr} (h : t.parts ≠ []) : (t.parts.map sz).sum + 1 = sz t := by
  cases t with
  | am k x => exact absurd rfl h
  | un s a => show sz a + 0 + 1 = sz a + 1; omega
  | bi s a b => show sz a + (sz b + 0) + 1 = sz a + sz b + 1; omega
theorem Stk.sum {L M : List Tr} (h : Stk L M) : (M.map sz).sum ≤ (L.map sz).sum := by
  induction h with
  | refl => exact Nat.le_refl _
  | @drop M t _ ih => rw [List.map_append, List.sum_append] at ih; omega
  | @more M t _ hp ih =>
    rw [List.map_append, List.sum_append] at ih ⊢
    have := parts_sz hp
    have e : ([t].map sz).sum = sz t := by show sz t + 0 = sz t; omega
    omega
theorem Stk.hm {L M : List Tr} (g : Str → Tr) (h : Stk L M) : Stk (L.map (Rd.hm g)) (M.map (Rd.hm g)) := by
  induction h with
  | refl => exact .refl
  | @drop M t _ ih =>
    rw [List.map_append] at ih
    exact .drop ih
  | @more M t _ hp ih =>
    rw [List.map_append] at ih ⊢
    have e := hm_parts (g := g) hp
    rw [← e]
    exact .more ih (by rw [e]; exact fun z => hp (List.map_eq_nil_iff.mp z))
theorem len_sz : ∀ M : List Tr, M.length ≤ (M.map sz).sum
  | [] => Nat.le_refl _
  | t :: M => by
    have := len_sz M
    have := sz_pos t
    show M.length + 1 ≤ sz t + (M.map sz).sum
    omega
end Rd
namespace Rd
open PySem L2
theorem Cls.of {O : Tr → Prop} {w : Tr} (h : O w) : Cls O [] w := by
  cases hu : isU w with
  | none => exact .inr ⟨w, h, hu, rfl⟩
  | some y => exact .inl ⟨y, isU_some hu⟩
theorem pops {α : Type} (W : List α) : W = [] ∨ ∃ W' p, W = W' ++ [p] := by
  rcases List.eq_nil_or_concat W with h | ⟨W', p, h⟩
  · exact .inl h
  · exact .inr ⟨W', p, by simpa using h⟩
theorem sum_two {f : Tr × Tr → Nat} {k : Nat} : ∀ {l : List (Tr × Tr)}, l.length ≤ 2 → (∀ p ∈ l, f p ≤ k) → (l.map f).sum ≤ 2 * k
  | [], _, _ => Nat.zero_le _
  | [p], _, h => by
    have := h p List.mem_cons_self
    show f p + 0 ≤ _
    omega
  | [p, q], _, h => by
    have := h p List.mem_cons_self
    have := h q (List.mem_cons_of_mem _ List.mem_cons_self)
    show f p + (f q + 0) ≤ _
    omega
  | _ :: _ :: _ :: _, h, _ => by simp at h
def Small (ns : List Str) (o : Option Sb) : Prop := ∀ B', o = some B' → ∀ x ∈ ns, (res B' (unk x)).all.length ≤ 419901 ∧ (res B' (unk x)).dep ≤ 36
section
variable {A : Tr → Tr → Act} (ok : ActOk A) {O : Tr → Prop} {ns : List Str} (org : Org O ns) (n4 : ns.length ≤ 4) {W0 : List (Tr × Tr)} (hl : W0.length ≤ 2) (hO : ∀ p ∈ W0, O p.1)
include ok org n4 hl hO
theorem run_ex : ∀ (u m : Nat) (B : Sb) (W : List (Tr × Tr)), RunI ns B W → (∀ x ∈ ns, Cls O B (unk x)) → (∀ p ∈ W, Cls O B p.1 ∧ Cls O B p.2) → Stk (W0.map fun p => res B p.1) (W.map fun p => res B p.1) → ns.length - B.length = u → (W.map fun p => sz (res B p.1)).sum = m → ∃ n o, UnA A 45 n B W o ∧ Small ns o := by
  have lenB : ∀ {B W}, RunI ns B W → B.length ≤ ns.length := fun {B W} h => by
    have := nodup_subZ h.tri.nodup (m := ns) fun x hx => by
      obtain ⟨p, hp, rfl⟩ := List.mem_map.mp hx
      exact (h.nB p hp).1
    rw [List.length_map] at this
    exact this
  intro u
  induction u using Nat.strongRecOn with
  | _ u ihu =>
  intro m
  induction m using Nat.strongRecOn with
  | _ m ihm =>
  intro B W I hc hw st eu em
  have lB := lenB I
  rcases pops W with rfl | ⟨W, ⟨l, r⟩, rfl⟩
  · refine ⟨0, _, .done (fun p hp => ?_) (by omega), fun B' e x hx => by cases e; exact unk_sz4 org hc n4 hx⟩
    obtain ⟨i, hi⟩ := List.getElem?_of_mem hp
    have e := res_look (x := p.1) (s := p.2) I.tri (look_get I.tri.nodup (by rw [hi]))
    rw [← e]
    exact cls_sz org hc n4 (hc _ (I.nB p hp).1)
  obtain ⟨cl, cr⟩ := hw (l, r) (List.mem_append_right _ List.mem_cons_self)
  have hw' : ∀ p ∈ W, Cls O B p.1 ∧ Cls O B p.2 := fun p hp => hw p (List.mem_append_left _ hp)
  have s1 := cls_sz org hc n4 cl
  have s2 := cls_sz org hc n4 cr
  rw [List.map_append] at st em
  rw [List.sum_append] at em
  have em : (W.map fun p => sz (res B p.1)).sum + (sz (res B l) + 0) = m := em
  have sp := sz_pos (res B l)
  cases e : A (res B l) (res B r) with
  | fail => exact ⟨_, _, .fl s1 s2 e, fun B' e => by cases e⟩
  | drop =>
    obtain ⟨n, o, k, sm⟩ := ihm _ (by omega) B W I.pop hc hw' (.drop st) eu rfl
    exact ⟨_, _, .dr s1 s2 e k, sm⟩
  | bind x t =>
    obtain ⟨I2, nx, hx⟩ := I.bd ok e
    have l2 := lenB I2
    rw [List.length_append] at l2
    have l2 : B.length + 1 ≤ ns.length := l2
    obtain ⟨oc, c⟩ := ok.bind e
    have cb : ∀ {w}, Cls O B w → Cls O (B ++ [(x, t)]) w := fun {w} h => by
      rcases c with ⟨_, c⟩ | ⟨_, c⟩
      · exact Cls.bind c cr oc h
      · exact Cls.bind c cl oc h
    have em2 : ∀ l : List (Tr × Tr), (l.map fun p => res (B ++ [(x, t)]) p.1) = (l.map fun p => res B p.1).map (hm (one x t)) := fun l => by
      rw [List.map_map]
      exact List.map_congr_left fun p _ => res_snoc _ _ _ _
    obtain ⟨n, o, k, sm⟩ := ihu (ns.length - (B ++ [(x, t)]).length) (by rw [List.length_append]; show ns.length - (B.length + 1) < u; omega) _ _ W I2 (fun y hy => cb (hc y hy)) (fun p hp => ⟨cb (hw' p hp).1, cb (hw' p hp).2⟩) (by
      rw [em2, em2]
      exact (Stk.drop st).hm _) rfl rfl
    exact ⟨_, _, .bd s1 s2 e (by omega) k, sm⟩
  | more ps =>
    obtain ⟨I2, ep, el, en, eh⟩ := I.mr ok e
    have hz : ∀ p ∈ ps, p.1 ∈ (res B l).parts ∧ p.2 ∈ (res B r).parts := fun p hp => by
      rw [ep] at hp
      obtain ⟨i, hi⟩ := List.getElem?_of_mem hp
      obtain ⟨g1, g2⟩ := List.getElem?_zip_eq_some.mp (show ((res B l).parts.zip (res B r).parts)[i]? = some (p.1, p.2) from hi)
      exact ⟨List.mem_of_getElem? g1, List.mem_of_getElem? g2⟩
    have eps : (ps.map fun p => res B p.1) = (res B l).parts := by
      have e1 : (ps.map fun p => res B p.1) = ps.map Prod.fst := List.map_congr_left fun p hp => (Cls.parts org I.tri hc cl (hz p hp).1).2
      rw [e1, ep]
      exact List.map_fst_zip (by omega)
    have hps := parts_sz en
    have hsum : (ps.map fun p => sz (res B p.1)).sum + 1 = sz (res B l) := by
      rw [← hps, ← eps, List.map_map]
      rfl
    have st0 := st.sum
    have hl0 : ((W0.map fun p => res B p.1).map sz).sum ≤ 2 * 7558269 := by
      rw [List.map_map]
      refine sum_two hl fun p hp => ?_
      show sz (res B p.1) ≤ _
      rw [sz_all]
      exact (org_sz org hc n4 (hO p hp)).1
    have hln := len_sz (W.map fun p => res B p.1)
    rw [List.length_map] at hln
    rw [List.map_append, List.sum_append] at st0
    obtain ⟨n, o, k, sm⟩ := ihm ((W ++ ps).map fun p => sz (res B p.1)).sum (by
        rw [List.map_append, List.sum_append]
        omega) B (W ++ ps) I2 hc (fun p hp => by
        rcases List.mem_append.mp hp with z | z
        · exact hw' p z
        · exact ⟨(Cls.parts org I.tri hc cl (hz p z).1).1, (Cls.parts org I.tri hc cr (hz p z).2).1⟩) (by
        rw [List.map_append, eps]
        exact .more st en) eu rfl
    exact ⟨_, _, .mr s1 s2 e (by omega) k, sm⟩
theorem run_of (hO2 : ∀ p ∈ W0, O p.2) (wf : ∀ p ∈ W0, Wf p.1 ∧ Wf p.2) : RunI ns [] W0 ∧ ∃ n o, UnA A 45 n [] W0 o ∧ Small ns o := by
  have I : RunI ns [] W0 := ⟨trivial, fun p hp => (nomatch hp), fun p hp => (nomatch hp), wf, fun p hp => ⟨org.nm (hO p hp), org.nm (hO2 p hp)⟩⟩
  exact ⟨I, run_ex ok org n4 hl hO _ _ [] W0 I (fun x _ => .inl ⟨x, rfl⟩) (fun p hp => ⟨Cls.of (hO p hp), Cls.of (hO2 p hp)⟩) .refl rfl rfl⟩
end
end Rd
namespace Rd
open PySem L2
section
variable {P : Program} {w : World} {K : PySem.W.Frag} {mg : Str → Option Value} {base : Heap}
abbrev s__law_parts : Stmt := top 38
theorem sc__law_parts : FnScope ["_law_form_here", "_law_found", "_law_part"] ["_law_form_here"] (defScope s__law_parts) := ⟨rfl, rfl, rfl, by decide +kernel, rfl, by decide +kernel, by decide +kernel⟩
theorem parts_step (T : Tx w K mg) (d : Nat) (ih : Fk P w K mg base CX0 (d + 1) "_law_parts" ["_law_form_here"] (spPR d)) : Fk P w K mg base CX0 (d + 2) "_law_parts" ["_law_form_here"] (sp_parts d) := by
  refine T.F__law_parts.ok0 sc__law_parts (fun _ _ _ _ _ _ us hl => match us, hl with | [_], _ => rfl)
    (fun vs H Q E h => ?_) (fun cdv A outer s H vs Q E hr h => ?_)
  · obtain ⟨v, t, rfl, _⟩ := h
    rfl
  · obtain ⟨v, t, rfl, it, wf, dp, d12, sz, k⟩ := h
    obtain ⟨pf, vs0, rfl, hpv⟩ := it.hd
    refine ⟨_, (pss_cons (ps_set (i := 1) sc__law_parts.nd rfl (Or.inl rfl) (pe_lst (pa_cons (pv 0) pa_nil)))
  (pss_cons (ps_if (pt_cmpR op_notInT (pe_ix ix_tup (pv 0) pe_int (fun _ _ => rfl)) (pe_tup (pa_cons pe_str (pa_cons pe_str (pa_cons pe_str pa_nil)))) (by rfl))
  (pss_one (ps_for PassesOwn.never rfl (pi_tup (pe_slice sl_tup (pv 0) (po_some pe_int) po_none)) (pg_name (i := 2) sc__law_parts.nd rfl (Or.inl rfl))
  (pss_one (ps_expr (pe_bm PySem.F.plainAttrs_list PySem.F.slot_list_extend PySem.F.type_list_extend mt_extend (pv 1) (pa_cons (pe_fk ih (hr.mono (by omega)) rfl pass0 (pa_cons (pv 2) pa_nil)) pa_nil))))))
  pss_nil)
  (pss_one (ps_ret (pv 1))))), ?_⟩
    refine ⟨_, rfl, (by show 1 ≤ sizeLine; decide), fun p np => ?_⟩
    refine gName_k ?_
    try dsimp only
    have sp := Rd.Same.upd (o := .lst [.ref pf]) np
    refine ⟨_, rfl, pf, _, _, _, rfl, rfl, SqT.of (sp _ _ hpv), at_of (j := 0) rfl rfl, (by show 3 ≤ sizeLine; decide), fun q hq => ?_⟩
    have sq := Rd.Same.upd (o := .tup [.str "word", .str "name", .str "unknown"]) hq
    refine ⟨_, q, ["word", "name", "unknown"], rfl, rfl, SqT.of upd_same, _, rfl, ?_⟩
    have s1 := sp.trans sq
    have hp1 : upd (upd H p (.lst [.ref pf])) q (.tup [.str "word", .str "name", .str "unknown"]) p = some (.lst [.ref pf]) := sq _ _ upd_same
    by_cases hpt : t.parts ≠ []
    · obtain ⟨hsg, hws⟩ := wf.sign hpt
      obtain ⟨p', us, e, hpu, hlu, hl2, hne, hus⟩ := it.parts hpt
      cases e
      have h3 : (!decide (t.head ∈ (["word", "name", "unknown"] : List Str))) = true := by
        have : ∀ z ∈ (["mark", "open", "own", "pair", "seal", "lock"] : List Str), (!decide (z ∈ (["word", "name", "unknown"] : List Str))) = true := by decide +kernel
        exact this _ hsg
      refine iteP h3 ?_
      refine ⟨_, rfl, _, rfl, pf, _, rfl, SqT.of (s1 _ _ hpu), ?_, fun p2 hp2 => ?_⟩
      · rintro ⟨z, _⟩
        rw [show (1 : Int) = ((1 : Nat) : Int) from rfl, HT.sIx_nat, List.length_cons] at z
        omega
      rw [cut1]
      have s2 := Rd.Same.upd (o := .tup us) hp2
      refine ⟨p2, rfl, ⟨_, SqT.of upd_same⟩, ?_⟩
      refine for_tup (xs := us) (fun i σ H' => PInv H p p2 us t i H' ∧ ∃ t2, σ = [some (.ref pf), some (.ref p), t2]) ⟨⟨s1.trans s2, np, upd_same, [.ref pf], s2 _ _ hp1, TsAt.one (it.same (s1.trans s2))⟩, _, rfl⟩ ?_ ?_ ?_
      · rintro i σ H' hi ⟨hI, _⟩
        exact SqT.of hI.tup
      · rintro i x σ H1 hx ⟨⟨sm, _, htu, ws, hws1, hts⟩, t2, rfl⟩
        refine gName_k ?_
        try dsimp only
        obtain ⟨r, hr1, hr2⟩ := hus i x hx
        obtain ⟨w1, w2⟩ := hws r (List.mem_of_getElem? hr1)
        cases d with
        | zero => exact absurd dp (by omega)
        | succ d =>
          have szr : r.all.length ≤ 8000000 := by
            have hf := flat_le (t := t) (i + 1)
            rw [take_flat hr1, List.length_append] at hf
            omega
          refine ⟨_, rfl, .inl ⟨rfl, _, SqL.of hws1⟩, _, rfl, x, r, rfl, hr2.same sm, w1, (by omega), (by omega), szr, fun b zs H2 sm2 nb hb htz => ?_⟩
          have hl1 := all_len t
          have hf := flat_le (t := t) (i + 1)
          rw [take_flat hr1, List.length_append] at hf
          have h13 : 8000000 ≤ sizeLine := by decide
          have e1 := hts.len
          have e2 := htz.len
          rw [List.length_cons] at e1
          refine ⟨p, b, ws, zs, rfl, rfl, sm2 _ _ hws1, hb, (by omega), ?_⟩
          have kp := Kp.upd_lst (C := 0) (ys := ws ++ zs) (sm2 _ _ hws1)
          have nbp : b ≠ p := fun z => by rw [z, hws1] at nb; cases nb
          refine ⟨⟨fun c o e => ?_, np, ?_, ws ++ zs, upd_same, ?_⟩, _, rfl⟩
          · rw [upd_ne (ne_of_none e np)]
            exact sm2 _ _ (sm _ _ e)
          · rw [upd_ne (fun z => by rw [z, hws1] at htu; cases htu)]
            exact sm2 _ _ htu
          · rw [take_flat hr1, ← List.cons_append]
            exact ((hts.same sm2).mono kp).app (htz.mono kp)
      · rintro σ H1 ⟨⟨sm, _, htu, ws, hws1, hts⟩, t2, rfl⟩
        refine ⟨_, rfl, k p ws H1 sm np hws1 ?_⟩
        rw [all_parts]
        rw [hlu, List.take_length] at hts
        exact hts
    · cases wf with
      | @am k0 x0 ko =>
        have h3 : ¬ (!decide ((Tr.am k0 x0).head ∈ (["word", "name", "unknown"] : List Str))) = true := by
          rcases ko with ⟨rfl, _⟩ | ⟨rfl, _⟩ | ⟨rfl, _⟩
          · show ¬ (!decide (("word" : Str) ∈ (["word", "name", "unknown"] : List Str))) = true; decide +kernel
          · show ¬ (!decide (("name" : Str) ∈ (["word", "name", "unknown"] : List Str))) = true; decide +kernel
          · show ¬ (!decide (("unknown" : Str) ∈ (["word", "name", "unknown"] : List Str))) = true; decide +kernel
        exact iteN h3 ⟨_, rfl, k p _ _ s1 np hp1 (TsAt.one (it.same s1))⟩
      | _ => exact absurd (fun e => by cases e) hpt
theorem parts_none (T : Tx w K mg) : Fk P w K mg base CX0 1 "_law_parts" ["_law_form_here"] (spPR 0) := by
  refine T.F__law_parts.ok0 sc__law_parts (fun _ _ _ _ _ _ us hl => match us, hl with | [_], _ => rfl) (fun vs H Q E h => h.elim) (fun cdv A outer s H vs Q E hr h => h.elim)
theorem ok__law_parts (T : Tx w K mg) : ∀ d : Nat, Fk P w K mg base CX0 (d + 2) "_law_parts" ["_law_form_here"] (sp_parts d)
  | 0 => parts_step T 0 (parts_none T)
  | d + 1 => parts_step T (d + 1) (ok__law_parts T d)
end
end Rd
namespace Rd
open PySem L2
section
variable {P : Program} {w : World} {K : PySem.W.Frag} {mg : Str → Option Value} {base : Heap}
abbrev s__law_atoms : Stmt := top 39
theorem sc__law_atoms : FnScope ["_law_form_here", "_law_kind", "_law_part"] ["_law_form_here", "_law_kind"] (defScope s__law_atoms) := ⟨rfl, rfl, rfl, by decide +kernel, rfl, by decide +kernel, by decide +kernel⟩
theorem ok__law_atoms (T : Tx w K mg) (d : Nat) : Fk P w K mg base CX0 (d + 3) "_law_atoms" ["_law_form_here", "_law_kind"] (fun vs H Q E => sp_atoms d vs H Q E ∧ ∃ kd ∈ kinds, vs[1]? = some (.str kd)) := by
  refine T.F__law_atoms.ok0 sc__law_atoms (fun _ _ _ _ _ _ us hl => match us, hl with | [_, _], _ => rfl)
    (fun vs H Q E h => ?_) (fun cdv A outer s H vs Q E hr h => ?_)
  · obtain ⟨⟨v, t, kd, rfl, _⟩, _⟩ := h
    rfl
  · obtain ⟨⟨v, t, kd, rfl, it, wf, dp, d10, sz, su, k⟩, kd', hk, e⟩ := h
    obtain rfl : kd = kd' := by cases e; rfl
    refine ⟨_, (pss_one (ps_ret (pe_callB (cr_sortedSS rfl) (by rfl) T.z_sorted (by decide +kernel) (pa_cons (pe_callTy (cr_setOfS rfl) (by rfl) T.z_set (by decide +kernel) (pa_cons (pe_lc (own := [("_law_part", 2)]) (g := gName 2)  (by rfl) sc__law_atoms.nd (pi_list (pe_fk (ok__law_parts T d) (hr.mono (by omega)) rfl pass0 (pa_cons (pv 0) pa_nil))) (blkOk_by (own := [("_law_part", 2)]) (N := ["_law_form_here", "_law_kind", "_law_part"]) (sc := defScope s__law_atoms) (by decide +kernel)) (fun _ _ _ _ _ => (pg_name (i := 2) sc__law_atoms.nd rfl (Or.inl rfl))) (fun _ _ _ _ _ => (pts_one (pt_cmpR op_eq (pe_ix (kIx (r := rIxT) (K := K) rfl ix_tup) (pv 2) pe_int (fun _ _ => rfl)) (pv 1) (nomark _)))) (fun _ _ _ _ _ => (pe_ix (kIx (r := rIxT) (K := K) rfl ix_tup) (pv 2) pe_int (fun _ _ => rfl)))) pa_nil)) pa_nil)))), ?_⟩
    refine ⟨_, rfl, v, t, rfl, it, wf, dp, (by omega), sz, fun p ws H1 s1 np hp htz => ?_⟩
    refine ⟨p, rfl, ⟨_, SqL.of hp⟩, fun D hD => ?_⟩
    have h13 : 1001 < scanBound := by decide
    have hu : ∀ i : Nat, (putS [] ((t.txt kd).take i)).length + 1 < scanBound := fun i => by
      have := nodup_subK (l := putS [] ((t.txt kd).take i)) (m := uniS (t.txt kd)) (putS_nd List.nodup_nil) fun x hx => by
        rw [putS_mem] at hx
        rcases hx with hx | hx
        · cases hx
        · rw [uniS_mem]
          exact List.mem_of_mem_take hx
      omega
    refine lclF (fun t => (txt1 kd t).map V.str) (fun t => by rw [List.length_map]; exact txt1_le kd t) (SqL.of hp) htz.len (by rw [htz.len]; omega) hD (fun i x t1 H2 Q2 hx ht s2 => ?_) (fun σ H P Q h z => ?_) fun H2 s2 hD2 => ?_
    · have i1 := (htz.get i t1 x ht hx).same s2
      have w1 := (all_wf wf t1 (List.mem_of_getElem? ht)).1
      obtain ⟨q, us, rfl, hq, _, h1⟩ := txt_at (kd := kd) i1 w1
      refine ⟨fun e => ?_, fun c e => ?_⟩
      · exact ⟨_, rfl, q, _, _, _, rfl, rfl, SqT.of hq, at_of (j := 0) rfl rfl, _, rfl, rfl, _, rfl, decide_eq_false (fun z => head_kd w1 hk (List.map_eq_nil_iff.mp e) (by cases z; rfl)), rfl⟩
      · obtain ⟨c', e', rfl⟩ : ∃ c', txt1 kd t1 = [c'] ∧ c = .str c' := by
          cases hc : txt1 kd t1 with
          | nil => rw [hc] at e; cases e
          | cons a r =>
            rw [hc, List.map_cons] at e
            cases r with
            | nil => cases e; exact ⟨a, rfl, rfl⟩
            | cons b r => cases e
        refine ⟨?_, fun z => ?_⟩
        · exact ⟨_, rfl, q, _, _, _, rfl, rfl, SqT.of hq, at_of (j := 0) rfl rfl, _, rfl, rfl, _, rfl, decide_eq_true (by rw [(h1 c' e').1]), rfl⟩
        · rw [(h1 c' e').2] at hq
          exact ⟨_, rfl, q, _, _, _, rfl, rfl, SqT.of hq, at_of (j := 1) rfl rfl, z⟩
    · obtain ⟨_, h1, q, a, b, c, h2, h3, h4, h5, d, h6, h7, e, h8, h9⟩ := z
      exact ⟨_, h1, q, a, b, c, h2, h3, h4, h5, d, h6, h7, e, h8, h _ _ h9⟩
    · have e : t.all.flatMap (fun t => (txt1 kd t).map V.str) = (t.txt kd).map V.str := by rw [← txt_all, List.map_flatMap]
      rw [e] at hD2
      refine ⟨D, t.txt kd, rfl, SqL.of hD2, hu, fun S hS => ?_⟩
      refine ⟨S, _, rfl, upd_same, fun ys q pm nd so hq => ?_⟩
      have e : ys = uniS (t.txt kd) := uniS_of nd so fun z => by rw [pm.mem_iff, putS_mem]; simp
      rw [e]
      have s3 := (s1.trans s2).trans (Rd.Same.upd (o := SetSO w S (putS [] (t.txt kd))) hS)
      exact k q _ (s3.trans (Rd.Same.upd hq)) (s3.free hq) upd_same
end
end Rd
namespace Rd
open PySem L2
def sp_rest (d : Nat) : Sp := fun vs H Q _ => ∃ (v : V) (a : Addr) (t : Tr) (B : Sb) (kvs : List (Key × V)), vs = [v, .ref a] ∧ IsT H t v ∧ Wf t ∧ SzB d (res B t) ∧ L2.Rd H a (.dK kvs) ∧ Al IsT H B kvs ∧ Tri B ∧ (∀ p ∈ B, Wf p.2) ∧ B.length ≤ 40 ∧ ∀ u H', Same H H' → IsT H' (res B t) u → Q u H'
section
variable {P : Program} {w : World} {K : PySem.W.Frag} {mg : Str → Option Value} {base : Heap}
abbrev s__law_at_rest : Stmt := top 42
theorem sc__law_at_rest : FnScope ["_law_form_here", "_law_bound", "_law_turn"] ["_law_form_here", "_law_bound"] (defScope s__law_at_rest) := ⟨rfl, rfl, rfl, by decide +kernel, rfl, by decide +kernel, by decide +kernel⟩
theorem ok__law_at_rest (T : Tx w K mg) (d : Nat) : Fk P w K mg base CX0 (d + 3) "_law_at_rest" ["_law_form_here", "_law_bound"] (sp_rest d) := by
  refine T.F__law_at_rest.ok0 sc__law_at_rest (fun _ _ _ _ _ _ us hl => match us, hl with | [_, _], _ => rfl)
    (fun vs H Q E h => ?_) (fun cdv A outer s H vs Q E hr h => ?_)
  · obtain ⟨v, a, t, B, kvs, rfl, _⟩ := h
    rfl
  · obtain ⟨v, a, t, B, kvs, rfl, it, wf, ⟨dp, sz⟩, ha, al, tri, wB, hl, k⟩ := h
    refine ⟨_, (pss_cons (ps_for PassesOwn.never rfl (pi_range1 rfl T.z_range (pa_cons pe_int pa_nil)) (pg_name (i := 2) sc__law_at_rest.nd rfl (Or.inl rfl))
  (pss_one (ps_set (i := 0) sc__law_at_rest.nd rfl (Or.inl rfl) (pe_fk (ok__law_filled T d) (hr.mono (by omega)) rfl pass0 (pa_cons (pv 0) (pa_cons (pv 1) pa_nil))))))
  (pss_one (ps_ret (pv 0)))), ?_⟩
    refine ⟨((40 : Nat) : Int), rfl, by decide, by decide, for_range (n := 40) (fun i σ Hc => ∃ (u : V) (t' : Tr) (t2 : Option V), σ = [some u, some (.ref a), t2] ∧ Same H Hc ∧ IsT Hc t' u ∧ Wf t' ∧ res B t' = res B t ∧ Frk B i t') ⟨v, t, _, rfl, Same.refl _, it, wf, rfl, (fun i p hi => absurd hi (Nat.not_lt_zero _))⟩ ?_ ?_⟩
    · rintro i σ Hc hi ⟨u, t', t2, rfl, sc, iu, wu, eu, fr⟩
      refine gName_k ?_
      try dsimp only
      have du : t'.dep ≤ d := by
        have := dep_res (B := B) t'
        rw [eu] at this
        omega
      refine ⟨_, rfl, _, rfl, u, a, t', look B, rfl, iu, wu, du, DTr.same sc ⟨kvs, ha, fun x t e => (al.look (x := x)).1 t e, fun x e => (al.look (x := x)).2 e⟩, fun u2 H3 s3 iu2 => ?_⟩
      refine gName_k ?_
      try dsimp only
      exact ⟨u2, _, _, rfl, sc.trans s3, iu2, fillB_wf wB wu, (res_pass tri t').trans eu, fr.next tri⟩
    · rintro σ Hc ⟨u, t', t2, rfl, sc, iu, wu, eu, fr⟩
      refine ⟨_, rfl, k u _ sc ?_⟩
      have e : res B t' = t' := res_id fun p hp => by
        obtain ⟨i, hi⟩ := List.getElem?_of_mem hp
        have := (List.getElem?_eq_some_iff.mp hi).1
        exact fr i p (by omega) hi
      rw [← eu, e]
      exact iu
end
end Rd
namespace Rd
open PySem L2
theorem rd_inTsZ {K : PySem.W.Frag} {H : Hp} {u : Tr} {ts : List Tr} {v : V} {p : Addr} {vs : List V} {Q : VK} (iu : IsT H u v) (fu : u.fine ∧ u.dep ≤ 60) (hp : H p = some (.lst vs)) (hts : TsAt H ts vs) (ft : ∀ t ∈ ts, t.fine ∧ t.dep ≤ 60) (q : Q (.bl (decide (u ∈ ts))) H) : rInD K v (.ref p) H Q := by
  refine ⟨dat u, ts.map dat, iu.dp, .lst (SqL.of hp) (dpAll_ts hts), dat_shaped fu.1 fu.2, ts_shaped ft, ?_⟩
  have e : (ts.map dat).any (fun z => PyData.eqv z (dat u)) = decide (u ∈ ts) := by
    clear q ft hts hp
    induction ts with
    | nil => simp
    | cons t ts ih =>
      rw [List.map_cons, List.any_cons, ih, eqv_dat]
      by_cases h : t = u
      · subst h
        simp
      · have h' : u ≠ t := fun z => h z.symm
        simp [h, h']
  rw [e]
  exact q
theorem PsAt.at_ {H : Hp} {W : List (Tr × Tr)} {vs : List V} (h : PsAt H W vs) {i : Nat} {v : V} (hv : vs[i]? = some v) : ∃ w, W[i]? = some w ∧ PrT H w v := by
  have hlt := (List.getElem?_eq_some_iff.mp hv).1
  have hl := h.len
  have hw : W[i]? = some W[i] := List.getElem?_eq_getElem (by omega)
  exact ⟨_, hw, h.get i _ _ hw hv⟩
theorem PsAt.snoc {H : Hp} {W : List (Tr × Tr)} {vs : List V} {w : Tr × Tr} {v : V} (h : PsAt H W vs) (g : PrT H w v) : PsAt H (W ++ [w]) (vs ++ [v]) := h.app ⟨rfl, fun j p u a b => by
  cases j with
  | zero => cases a; cases b; exact g
  | succ j => simp at a⟩
theorem unk_all {x : Str} : ∀ {t : Tr}, unk x ∈ t.all ↔ ocU x t = true
  | .am k y => by
    show unk x ∈ [Tr.am k y] ↔ _
    rw [List.mem_singleton, ← ocU_txt]
    show _ ↔ x ∈ (if k = "unknown" then [y] else [])
    by_cases h : k = "unknown"
    · rw [if_pos h, List.mem_singleton, h]
      constructor
      · intro e; cases e; rfl
      · intro e; rw [e]; rfl
    · rw [if_neg h]
      constructor
      · intro e; cases e; exact absurd rfl h
      · intro e; cases e
  | .un s a => by
    show unk x ∈ Tr.un s a :: a.all ↔ ocU x a = true
    rw [List.mem_cons, unk_all (t := a)]
    constructor
    · rintro (e | e)
      · cases e
      · exact e
    · exact .inr
  | .bi s a b => by
    show unk x ∈ Tr.bi s a b :: (a.all ++ b.all) ↔ (ocU x a || ocU x b) = true
    rw [List.mem_cons, List.mem_append, unk_all (t := a), unk_all (t := b), Bool.or_eq_true]
    constructor
    · rintro (e | e)
      · cases e
      · exact e
    · exact .inr
def UniI (ns : List Str) (d : Nat) (H : Hp) (a b q : Addr) (o : Option Sb) (m : Nat) (σ : St) (Hc : Hp) : Prop := ∃ (B : Sb) (W : List (Tr × Tr)) (vs : List V) (kvs : List (Key × V)) (t3 t4 t5 t6 : Option V), σ = [some (.ref a), some (.ref b), some (.ref q), t3, t4, t5, t6] ∧ Same H Hc ∧ Hc b = some (.dK kvs) ∧ Al IsT Hc B kvs ∧ Tri B ∧ (∀ p ∈ B, Wf p.2) ∧ Hc q = some (.lst vs) ∧ PsAt Hc W vs ∧ (∀ p ∈ W, Wf p.1 ∧ Wf p.2) ∧ ((∀ p ∈ W, inNs ns p.1 ∧ inNs ns p.2) ∧ ∀ p ∈ B, p.1 ∈ ns ∧ inNs ns p.2) ∧ UnA actL d m B W o ∧ W.length ≤ 16000000
def sp_uni (d : Nat) : Sp := fun vs H Q _ => ∃ (a : Addr) (ps : List V) (W : List (Tr × Tr)) (n : Nat) (o : Option Sb), vs = [.ref a] ∧ H a = some (.lst ps) ∧ PsAt H W ps ∧ (∀ p ∈ W, Wf p.1 ∧ Wf p.2) ∧ d ≤ 60 ∧ (∃ ns : List Str, ns.length ≤ 40 ∧ ∀ p ∈ W, inNs ns p.1 ∧ inNs ns p.2) ∧ UnA actL d n [] W o ∧ W.length ≤ 1000 ∧
  (o = none → ∀ H', Same H H' → Q .non H') ∧ (∀ B, o = some B → Tri B → (∀ p ∈ B, Wf p.2) → (∀ p ∈ B, SzB d (res B p.2)) → ∀ q kq H', Same H H' → H q = none → H' q = some (.dK kq) → Al IsT H' (B.map fun p => (p.1, res B p.2)) kq → Q (.ref q) H')
section
variable {P : Program} {w : World} {K : PySem.W.Frag} {mg : Str → Option Value} {base : Heap}
abbrev s__law_unified : Stmt := top 43
theorem sc__law_unified : FnScope ["_law_pairs_here", "_law_bound", "_law_waiting", "_law_one", "_law_other", "_law_pair", "_law_name_here"] ["_law_pairs_here"] (defScope s__law_unified) := ⟨rfl, rfl, rfl, by decide +kernel, rfl, by decide +kernel, by decide +kernel⟩
theorem ok__law_unified (T : Tx w K mg) (d : Nat) : Fk P w K mg base CX0 (d + 5) "_law_unified" ["_law_pairs_here"] (sp_uni d) := by
  refine T.F__law_unified.ok0 sc__law_unified (fun _ _ _ _ _ _ us hl => match us, hl with | [_], _ => rfl)
    (fun vs H Q E h => ?_) (fun cdv A outer s H vs Q E hr h => ?_)
  · obtain ⟨a, ps, W, n, o, rfl, _⟩ := h
    rfl
  · obtain ⟨a, ps, W0, n0, o, rfl, ha, hps, wW0, d10, ⟨ns, nl, inW0⟩, hU0, hbig, kf, kt⟩ := h
    refine ⟨_, (pss_cons (ps_set (i := 1) sc__law_unified.nd rfl (Or.inr rfl) pe_dnewK)
  (pss_cons (ps_set (i := 2) sc__law_unified.nd rfl (Or.inl rfl) (pe_callTy call_list_of (by rfl) T.z_list (by decide +kernel) (pa_cons (pv 0) pa_nil)))
  (pss_cons (ps_while PassesOwn.never (pt_cmpR (op_neE hr.units) (pv 2) (pe_lst pa_nil) (nomark _))
  (pss_cons (ps_asg (pe_bm0 PySem.F.plainAttrs_list PySem.F.slot_list_pop PySem.F.type_list_pop mt_pop (pv 2)) (pg_tup rfl (pgs_cons (pg_name (i := 3) sc__law_unified.nd rfl (Or.inl rfl)) (pgs_cons (pg_name (i := 4) sc__law_unified.nd rfl (Or.inl rfl)) pgs_nil))))
  (pss_cons (ps_par (i := 3) (j := 4) (by rfl) sc__law_unified.nd rfl rfl (by decide) rfl rfl (pa_cons (pe_fk (ok__law_at_rest T d) (hr.mono (by omega)) rfl pass0 (pa_cons (pv 3) (pa_cons (pv 1) pa_nil))) (pa_cons (pe_fk (ok__law_at_rest T d) (hr.mono (by omega)) rfl pass0 (pa_cons (pv 4) (pa_cons (pv 1) pa_nil))) pa_nil)) (by rfl))
  (pss_cons (ps_if (pt_cmpR op_eq (pe_ix ix_tup (pv 4) pe_int (fun _ _ => rfl)) pe_str (nomark _))
  (pss_one (ps_par (i := 3) (j := 4) (by rfl) sc__law_unified.nd rfl rfl (by decide) rfl rfl (pa_cons (pv 4) (pa_cons (pv 3) pa_nil)) (by rfl)))
  pss_nil)
  (pss_cons (ps_if (pt_cmpR (op_eqD hr.units) (pv 3) (pv 4) (nomark _))
  (pss_one ps_continue)
  pss_nil)
  (pss_one (ps_if (pt_cmpR op_eq (pe_ix ix_tup (pv 3) pe_int (fun _ _ => rfl)) pe_str (nomark _))
  (pss_cons (ps_if (pt_cmpR (op_inD hr.units65) (pv 3) (pe_fk (ok__law_parts T d) (hr.mono (by omega)) rfl pass0 (pa_cons (pv 4) pa_nil)) (by rfl))
  (pss_one (ps_ret pe_non))
  pss_nil)
  (pss_one (ps_dput (hu_of hr) (pv 1) (pe_ix ix_tup (pv 3) pe_int (fun _ _ => rfl)) (pv 4) (by rfl))))
  (pss_one (ps_if (PW.pt (pw_or (pt_cmpR op_ne (pe_ix ix_tup (pv 3) pe_int (fun _ _ => rfl)) (pe_ix ix_tup (pv 4) pe_int (fun _ _ => rfl)) (nomark _)) (pw_or1 (pt_cmpR op_inT (pe_ix ix_tup (pv 3) pe_int (fun _ _ => rfl)) (pe_tup (pa_cons pe_str (pa_cons pe_str pa_nil))) (by rfl)))))
  (pss_one (ps_ret pe_non))
  (pss_one (ps_expr (pe_bm PySem.F.plainAttrs_list PySem.F.slot_list_extend PySem.F.type_list_extend mt_extend (pv 2) (pa_cons (pe_lc (own := [("_law_pair", 5)]) (g := gName 5) (tt := tYes) (by rfl) sc__law_unified.nd (pi_zipTN (K := K) rfl rfl T.z_zip (pa_cons (pe_slice sl_tup (pv 3) (po_some pe_int) po_none) (pa_cons (pe_slice sl_tup (pv 4) (po_some pe_int) po_none) pa_nil))) (blkOk_by (own := [("_law_pair", 5)]) (N := ["_law_pairs_here", "_law_bound", "_law_waiting", "_law_one", "_law_other", "_law_pair", "_law_name_here"]) (sc := defScope s__law_unified) (by decide +kernel)) (fun _ _ _ _ _ => (pg_name (i := 5) sc__law_unified.nd rfl (Or.inl rfl))) (fun _ _ _ _ _ => pts_nil) (fun _ _ _ _ _ => (pv 5))) pa_nil)))))))))))))
  (pss_one (ps_ret (pe_callTy (call_dictP rfl) (by rfl) T.z_dict (by decide +kernel) (pa_cons (pe_lock (pe_lc (own := [("_law_name_here", 6)]) (g := gName 6) (tt := tYes) (by rfl) sc__law_unified.nd (pi_keys (pv 1)) (blkOk_by (own := [("_law_name_here", 6)]) (N := ["_law_pairs_here", "_law_bound", "_law_waiting", "_law_one", "_law_other", "_law_pair", "_law_name_here"]) (sc := defScope s__law_unified) (by decide +kernel)) (fun _ _ _ _ _ => (pg_name (i := 6) sc__law_unified.nd rfl (Or.inl rfl))) (fun _ _ _ _ _ => pts_nil) (fun _ _ _ _ _ => (pe_tup (pa_cons (pv 6) (pa_cons (pe_fk (ok__law_at_rest T d) (hr.mono (by omega)) rfl pass0 (pa_cons (pe_dget (hu_of hr) (pv 1) (pv 6) (fun _ _ => rfl)) (pa_cons (pv 1) pa_nil))) pa_nil)))))) pa_nil))))))), ?_⟩
    have big : 16777216 ≤ sizeLine := by decide
    refine fun b hb => ?_
    refine gName_k ?_
    try dsimp only
    have sb := Rd.Same.upd (o := .dK []) hb
    have hb1 : upd H b (.dK []) b = some (.dK []) := upd_same
    generalize upd H b (.dK []) = H1 at sb hb1 ⊢
    refine seqAsg ⟨_, rfl, a, ps, rfl, .inl (SqL.of (sb _ _ ha)), fun q hq => ?_⟩
    refine gName_k ?_
    try dsimp only
    have sq := Rd.Same.upd (o := .lst ps) hq
    have hq1 : upd H1 q (.lst ps) q = some (.lst ps) := upd_same
    have hqH : H q = none := sb.free hq
    have nbq : b ≠ q := fun z => by rw [z, hq] at hb1; cases hb1
    generalize upd H1 q (.lst ps) = H2 at sq hq1 ⊢
    have s2 := sb.trans sq
    refine ⟨fun m σ Hc => UniI ns d H a b q o m σ Hc, ⟨n0, [], W0, ps, [], _, _, _, _, rfl, s2, sq _ _ hb1, trivial, trivial, (fun p hp => nomatch hp), hq1, hps.same s2, wW0, ⟨inW0, fun p hp => nomatch hp⟩, hU0, by omega⟩, ?_⟩
    rintro m σ Hc ⟨B, W, vs, kvs, t3, t4, t5, t6, rfl, sc0, hbc0, al0, tri, wB, hqc0, hpw0, wW, ⟨inW, inB⟩, hU, hW1⟩
    have hvl := hpw0.len
    have hB40 : B.length ≤ 40 := by
      have := nodup_subK tri.nodup (m := ns) fun x hx => by
        obtain ⟨p, hp, e⟩ := List.mem_map.mp hx
        rw [← e]
        exact (inB p hp).1
      rw [List.length_map] at this
      omega
    have inB2 : ∀ p ∈ B, inNs ns p.2 := fun p hp => (inB p hp).2
    refine ⟨_, rfl, Nat.zero_le _, fun pe hpe => ⟨q, pe, vs, rfl, rfl, Rd.Same.upd hpe _ _ hqc0, upd_same, _, rfl, ?_⟩⟩
    have se := Rd.Same.upd (o := .lst []) hpe
    generalize upd Hc pe (.lst []) = Hd at se ⊢
    have sc := sc0.trans se
    have hbc := se _ _ hbc0
    have hqc := se _ _ hqc0
    have al : Al IsT Hd B kvs := al0.mono fun t v h => h.same se
    have hpw := hpw0.same se
    rcases hU.step with ⟨rfl, rfl, rfl, hd, hl64⟩ | ⟨W', l, r, n, rfl, rfl, dl, dr, hact⟩
    · obtain rfl : vs = [] := List.eq_nil_of_length_eq_zero hvl
      refine iteN (by decide) ?_
      refine ⟨b, _, hbc, trivial, fun od => ?_⟩
      have ka : Kp 0 Hd (upd Hd b (.frz od (.dK kvs))) := fun c o hi e => by
        rw [upd_ne (fun z => by rw [z, hbc] at e; cases e; cases hi)]
        exact e
      refine ⟨_, rfl, b, od, rfl, .inl ⟨kvs, upd_same, fun D hD => ?_⟩⟩
      refine lck (C := 0) (l := B) (R1 := IsT) (R2 := IsT) (res B) (fun _ _ _ _ kp h => h.mono kp) (fun _ _ _ _ kp h => h.mono kp) upd_same (al.mono fun t v h => h.mono ka) tri.nodup (by omega) hD (fun _ => rfl) (fun _ => rfl) (fun i x t v σ2 H11 Q1 hx s11 r1 dg e kk => ?_) fun ps kq H11 s11 hD11 pq al11 => ?_
      · subst e
        have hm := List.mem_of_getElem? hx
        exact ⟨_, rfl, _, rfl, b, v, rfl, dg, _, rfl, v, b, t, B, kvs, rfl, r1, wB _ hm, hd _ hm, .inr ⟨od, s11 _ _ upd_same⟩, (al.mono fun t v h => h.mono ka).mono (fun t v h => h.same s11), tri, wB, hB40, fun u H' s' hu => kk _ _ s' hu⟩
      have ha1 := s11 _ _ (upd_same (H := Hd) (a := b))
      refine ⟨ha1, ?_⟩
      have sx : Same Hd (upd H11 b (.dK kvs)) := fun c o e => by
        by_cases z : c = b
        · subst z
          rw [hbc] at e
          cases e
          exact upd_same
        · rw [upd_ne z]
          exact s11 _ _ (by rw [upd_ne z]; exact e)
      have neD : D ≠ b := fun z => by rw [z, upd_same] at hD; cases hD
      have kx : Kp 0 H11 (upd H11 b (.dK kvs)) := fun c o hi e => by
        rw [upd_ne (fun z => by rw [z, ha1] at e; cases e; cases hi)]
        exact e
      refine ⟨D, ps, kq, rfl, SqL.of (by rw [upd_ne neD]; exact hD11), (pq.mono kx).paired, fun q7 hq7 => ?_⟩
      have ndm : ((B.map fun p => (p.1, res B p.2)).map (·.1)).Nodup := by rw [List.map_map]; exact tri.nodup
      rw [al11.merge ndm]
      have s12 := (sc.trans sx).trans (Rd.Same.upd (o := .dK kq) hq7)
      exact kt B rfl tri wB hd q7 kq _ s12 ((sc.trans sx).free hq7) upd_same ((al11.mono fun t v h => h.mono kx).mono fun t v h => h.same (Rd.Same.upd hq7))
    · obtain ⟨hpw', v, hv, pa, u1, u2, rfl, hpa, il, ir⟩ := hpw.drop
      rw [List.length_append, List.length_singleton] at hvl hW1
      refine iteP (by cases vs with | nil => simp at hvl | cons _ _ => rfl) ?_
      refine ⟨fun σ' H' => UniI ns d H a b q o n σ' H', fun σ' H' h => ⟨n, Nat.lt_succ_self n, h⟩, ?_⟩
      obtain ⟨wl, wr⟩ := wW (l, r) (List.mem_append_right _ (List.mem_singleton.mpr rfl))
      obtain ⟨nnl, nnr⟩ := inW (l, r) (List.mem_append_right _ (List.mem_singleton.mpr rfl))
      have inW' : ∀ p ∈ W', inNs ns p.1 ∧ inNs ns p.2 := fun p hp => inW p (List.mem_append_left _ hp)
      have wW' : ∀ p ∈ W', Wf p.1 ∧ Wf p.2 := fun p hp => wW p (List.mem_append_left _ hp)
      refine ⟨_, rfl, .inl ⟨rfl, _, SqL.of hqc⟩, q, vs, _, rfl, rfl, hqc, hv, ?_⟩
      have kp3 := Kp.upd_lst (C := 0) (ys := vs.dropLast) hqc
      have hq3 : upd Hd q (.lst vs.dropLast) q = some (.lst vs.dropLast) := upd_same
      have hb3 : upd Hd q (.lst vs.dropLast) b = some (.dK kvs) := by rw [upd_ne nbq]; exact hbc
      have s3 : Same H (upd Hd q (.lst vs.dropLast)) := fun c o e => by rw [upd_ne (ne_of_none e hqH)]; exact sc c o e
      generalize upd Hd q (.lst vs.dropLast) = H3 at kp3 hq3 hb3 s3 ⊢
      refine ⟨pa, [u1, u2], rfl, SqT.of (kp3 _ _ rfl hpa), rfl, _, _, rfl, _, _, rfl, rfl, ?_⟩
      try dsimp only
      have al3 : Al IsT H3 B kvs := al.mono fun t v h => h.mono kp3
      refine ⟨_, rfl, _, rfl, u1, b, l, B, kvs, rfl, il.mono kp3, wl, dl, .inl hb3, al3, tri, wB, hB40, fun v1 H4 s4 i1 => ?_⟩
      refine ⟨_, rfl, _, rfl, u2, b, r, B, kvs, rfl, (ir.mono kp3).same s4, wr, dr, .inl (s4 _ _ hb3), al3.mono (fun t v h => h.same s4), tri, wB, hB40, fun v2 H5 s5 i2 => ?_⟩
      refine ⟨_, _, rfl, ?_⟩
      try dsimp only
      have s45 := s4.trans s5
      have hp5 : PsAt H5 W' vs.dropLast := (hpw'.mono kp3).same s45
      have al5 : Al IsT H5 B kvs := al3.mono fun t v h => h.same s45
      have hb5 := s45 _ _ hb3
      have hq5 := s45 _ _ hq3
      have S5 := s3.trans s45
      have w1 := res_wf wB wl
      have w2 := res_wf wB wr
      have n1 := res_in inB2 nnl
      have n2 := res_in inB2 nnr
      have fr1 := res_free (t := l) tri
      have fr2 := res_free (t := r) tri
      replace i1 := i1.same s5
      generalize res B l = l' at dl i1 w1 hact fr1 n1
      generalize res B r = r' at dr i2 w2 hact fr2 n2
      refine seqIfC (fun σ' H' => ∃ (z1 z2 : V) (L R : Tr), σ' = [some (.ref a), some (.ref b), some (.ref q), some z1, some z2, t5, t6] ∧ Same H5 H' ∧ IsT H' L z1 ∧ IsT H' R z2 ∧ (L, R) = swL l' r') ?_ ?_
      · rintro σ' H' ⟨z1, z2, L, R, rfl, s6, iL, iR, eLR⟩
        have hLR : (L = l' ∧ R = r') ∨ (L = r' ∧ R = l') := by
          unfold swL at eLR
          split at eLR
          · exact .inr ⟨congrArg Prod.fst eLR, congrArg Prod.snd eLR⟩
          · exact .inl ⟨congrArg Prod.fst eLR, congrArg Prod.snd eLR⟩
        have wL : Wf L := by rcases hLR with ⟨rfl, _⟩ | ⟨rfl, _⟩; exact w1; exact w2
        have wR : Wf R := by rcases hLR with ⟨_, rfl⟩ | ⟨_, rfl⟩; exact w2; exact w1
        have dL : L.dep ≤ d := by rcases hLR with ⟨rfl, _⟩ | ⟨rfl, _⟩; exact dl.1; exact dr.1
        have dR : R.dep ≤ d := by rcases hLR with ⟨_, rfl⟩ | ⟨_, rfl⟩; exact dr.1; exact dl.1
        have sR : R.all.length ≤ 8000000 := by rcases hLR with ⟨_, rfl⟩ | ⟨_, rfl⟩; exact dr.2; exact dl.2
        have nL : inNs ns L := by rcases hLR with ⟨rfl, _⟩ | ⟨rfl, _⟩; exact n1; exact n2
        have nR : inNs ns R := by rcases hLR with ⟨_, rfl⟩ | ⟨_, rfl⟩; exact n2; exact n1
        have fL : ∀ p ∈ B, ocU p.1 L = false := by rcases hLR with ⟨rfl, _⟩ | ⟨rfl, _⟩; exact fr1; exact fr2
        have fR : ∀ p ∈ B, ocU p.1 R = false := by rcases hLR with ⟨_, rfl⟩ | ⟨_, rfl⟩; exact fr2; exact fr1
        have ea : actL l' r' = actL2 L R := by unfold actL; rw [← eLR]
        rw [ea] at hact
        clear hLR ea eLR
        have S6 := S5.trans s6
        have hp6 := hp5.same s6
        have al6 : Al IsT H' B kvs := al5.mono fun t v h => h.same s6
        have hb6 := s6 _ _ hb5
        have hq6 := s6 _ _ hq5
        have eH := isU_head wL
        obtain ⟨p1, us1, rfl, hp1⟩ := iL.hd
        have stay : UnA actL d n B W' o → ∀ H7, Same H' H7 → UniI ns d H a b q o n [some (.ref a), some (.ref b), some (.ref q), some (.ref p1), some z2, t5, t6] H7 := fun hu H7 s7 => ⟨B, W', _, kvs, _, _, _, _, rfl, S6.trans s7, s7 _ _ hb6, al6.mono (fun t v h => h.same s7), tri, wB, s7 _ _ hq6, hp6.same s7, wW', ⟨inW', inB⟩, hu, by omega⟩
        refine ⟨_, rfl, _, rfl, rd_eqT2 wL.fine (by omega) wR.fine (by omega) iL iR ⟨_, rfl, ?_⟩⟩
        unfold actL2 at hact
        by_cases hEq : L = R
        · rw [if_pos hEq] at hact
          refine iteP (decide_eq_true hEq) ?_
          rcases hact with ⟨e, _⟩ | ⟨_, hu⟩ | ⟨_, _, e, _⟩ | ⟨_, e, _⟩
          · cases e
          · exact stay hu _ (Same.refl _)
          · cases e
          · cases e
        rw [if_neg hEq] at hact
        refine iteN (by rw [decide_eq_false hEq]; decide) (nxt ?_)
        refine ⟨_, rfl, p1, _, _, _, rfl, rfl, SqT.of hp1, at_of (j := 0) rfl rfl, rfl, _, rfl, ?_⟩
        cases hL : isU L with
        | some x =>
          rw [hL] at hact
          dsimp only at hact
          obtain rfl := isU_some hL
          refine iteP (by show decide (V.str "unknown" = V.str "unknown") = true; decide +kernel) ?_
          refine ⟨_, rfl, _, rfl, z2, R, rfl, iR, wR, dR, (by omega), sR, fun pl ws H7 s7 npl hpl htz => ?_⟩
          refine rd_inTsZ (iL.same s7) ⟨wL.fine, Nat.zero_le _⟩ hpl htz (fun t ht => by
            obtain ⟨z1, z2⟩ := all_wf wR t ht
            exact ⟨z1.fine, by omega⟩) ⟨_, rfl, ?_⟩
          by_cases hO : ocU x R = true
          · rw [if_pos hO] at hact
            refine iteP (decide_eq_true (unk_all.mpr hO)) ?_
            rcases hact with ⟨_, rfl⟩ | ⟨e, _⟩ | ⟨_, _, e, _⟩ | ⟨_, e, _⟩
            · exact kf rfl _ (S6.trans s7)
            · cases e
            · cases e
            · cases e
          · rw [if_neg hO] at hact
            refine iteN (by rw [decide_eq_false (fun z => hO (unk_all.mp z))]; decide) (nxt ?_)
            try dsimp only
            rcases hact with ⟨e, _⟩ | ⟨e, _⟩ | ⟨x', t', e, hb60, hu⟩ | ⟨_, e, _⟩
            · cases e
            · cases e
            · cases e
              obtain ⟨p1', e1', hp1'⟩ := iL
              cases e1'
              have al7 : Al IsT H7 B kvs := al6.mono fun t v h => h.same s7
              have hlk : look B x = none := look_none fun hm => by
                obtain ⟨p, hp, e⟩ := List.mem_map.mp hm
                have := fL p hp
                rw [e] at this
                rw [show ocU x (unk x) = true from ocU_unk.mpr rfl] at this
                cases this
              have hv' := (al7.look (x := x)).2 hlk
              have hb7 := s7 _ _ hb6
              have hkl := al7.len
              refine ⟨_, rfl, _, rfl, _, rfl, p1, _, _, _, rfl, rfl, SqT.of (s7 _ _ hp1'), at_of (j := 1) rfl rfl, b, _, rfl, DPut.k (k := .inr x) hb7 (by omega), ?_⟩
              rw [putK_new z2 hv']
              have kp := Kp.upd_dK (C := 0) (ys := kvs ++ [(.inr x, z2)]) hb7
              refine ⟨B ++ [(x, R)], W', _, kvs ++ [(.inr x, z2)], _, _, _, _, rfl, fun c o e => ?_, upd_same, Al.snoc ((iR.same s7).mono kp) (al7.mono fun t v h => h.mono kp), tri.snoc (Bool.eq_false_iff.mpr hO) (fun p hp => ⟨fR p hp, fun e => ?_⟩), fun p hp => ?_, ?_, (hp6.same s7).mono kp, wW', ⟨inW', fun p hp => (List.mem_append.mp hp).elim (inB p) fun h => by rw [List.mem_singleton.mp h]; exact ⟨nL x (ocU_unk.mpr rfl), nR⟩⟩, hu, by omega⟩
              · rw [upd_ne (ne_of_none e hb)]
                exact s7 _ _ (S6 c o e)
              · have := fL p hp
                rw [e, show ocU x (unk x) = true from ocU_unk.mpr rfl] at this
                cases this
              · rcases List.mem_append.mp hp with z | z
                · exact wB p z
                · rw [List.mem_singleton.mp z]
                  exact wR
              · rw [upd_ne (Ne.symm nbq)]
                exact s7 _ _ hq6
            · cases e
        | none =>
          rw [hL] at hact
          dsimp only at hact
          have e3 : ¬ L.head = "unknown" := of_decide_eq_false (by rw [← eH, hL]; rfl)
          refine iteN (by rw [decide_eq_false (fun z => e3 (V.str.inj z))]; decide) ?_
          obtain ⟨p2, us2, rfl, hp2⟩ := iR.hd
          refine ⟨_, rfl, p1, _, _, _, rfl, rfl, SqT.of hp1, at_of (j := 0) rfl rfl, _, rfl, p2, _, _, _, rfl, rfl, SqT.of hp2, at_of (j := 0) rfl rfl, rfl, _, rfl, ?_⟩
          by_cases hh : L.head = R.head
          · refine iteN (by rw [hh]; simp) ?_
            refine ⟨_, rfl, p1, _, _, _, rfl, rfl, SqT.of hp1, at_of (j := 0) rfl rfl, (by show 2 ≤ sizeLine; decide), fun pt hpt => ?_⟩
            have st := Rd.Same.upd (o := .tup [.str "word", .str "name"]) hpt
            refine ⟨_, pt, ["word", "name"], rfl, rfl, SqT.of upd_same, _, rfl, ?_⟩
            generalize upd H' pt (.tup [.str "word", .str "name"]) = Ht at st ⊢
            by_cases hpt0 : L.parts = []
            · rw [if_pos (.inr hpt0)] at hact
              refine iteP ?_ ?_
              · cases wL with
                | @am k0 x0 ko =>
                  rcases ko with ⟨rfl, _⟩ | ⟨rfl, _⟩ | ⟨rfl, _⟩
                  · show decide (("word" : Str) ∈ (["word", "name"] : List Str)) = true; decide +kernel
                  · show decide (("name" : Str) ∈ (["word", "name"] : List Str)) = true; decide +kernel
                  · exact absurd rfl e3
                | _ => exact absurd hpt0 (fun e => by cases e)
              · rcases hact with ⟨_, rfl⟩ | ⟨e, _⟩ | ⟨_, _, e, _⟩ | ⟨_, e, _⟩
                · exact kf rfl _ (S6.trans st)
                · cases e
                · cases e
                · cases e
            · have hsg := (wL.sign hpt0).1
              refine iteN (by
                have : ∀ z ∈ (["mark", "open", "own", "pair", "seal", "lock"] : List Str), ¬ decide (z ∈ (["word", "name"] : List Str)) = true := by decide +kernel
                exact this _ hsg) ?_
              rw [if_neg (fun z => z.elim (fun z => z hh) hpt0)] at hact
              obtain ⟨_, el⟩ := mtl_parts (l := []) hpt0 wL wR hh
              have hpt2 : R.parts ≠ [] := fun e => hpt0 (List.length_eq_zero_iff.mp (by rw [el, e]; rfl))
              obtain ⟨hsL, hwL⟩ := wL.sign hpt0
              obtain ⟨hsR, hwR⟩ := wR.sign hpt2
              obtain ⟨p1', vs1, e1', hp1', hlu1, hl21, hne1, hus1⟩ := iL.parts hpt0
              cases e1'
              obtain ⟨p2', vs2, e2', hp2', hlu2, hl22, hne2, hus2⟩ := iR.parts hpt2
              cases e2'
              refine ⟨_, rfl, .inl ⟨rfl, _, SqL.of (st _ _ hq6)⟩, ?_⟩
              refine ⟨_, rfl, _, rfl, p1, _, rfl, SqT.of (st _ _ hp1'), ?_, fun p3 hp3 => ?_⟩
              · rintro ⟨z, _⟩
                rw [show (1 : Int) = ((1 : Nat) : Int) from rfl, HT.sIx_nat, List.length_cons] at z
                omega
              rw [cut1]
              have s7 := Rd.Same.upd (o := .tup vs1) hp3
              have h73 : upd Ht p3 (.tup vs1) p3 = some (.tup vs1) := upd_same
              generalize upd Ht p3 (.tup vs1) = H7 at s7 h73 ⊢
              refine ⟨_, rfl, _, rfl, p2, _, rfl, SqT.of (s7 _ _ (st _ _ hp2')), ?_, fun p4 hp4 => ?_⟩
              · rintro ⟨z, _⟩
                rw [show (1 : Int) = ((1 : Nat) : Int) from rfl, HT.sIx_nat, List.length_cons] at z
                omega
              rw [cut1]
              have s8 := Rd.Same.upd (o := .tup vs2) hp4
              have h84 : upd H7 p4 (.tup vs2) p4 = some (.tup vs2) := upd_same
              generalize upd H7 p4 (.tup vs2) = H8 at s8 h84 ⊢
              have s68 := (st.trans s7).trans s8
              refine ⟨p3, p4, vs1, vs2, rfl, SqT.of (s8 _ _ h73), SqT.of h84, fun D hD => ?_⟩
              have hl12 : vs1.length = vs2.length := by omega
              refine lc_zipT (xs := vs1) (ys := vs2) hl12 (fun jj Hz => ∃ acc : List V, Same H8 Hz ∧ Hz D = some (.lst acc) ∧ PsAt Hz ((L.parts.zip R.parts).take jj) acc) ⟨[], Rd.Same.upd hD, upd_same, PsAt.nil⟩ (fun jj Hz z => by obtain ⟨_, z1, _⟩ := z; exact ⟨SqT.of (z1 _ _ (s8 _ _ h73)), SqT.of (z1 _ _ h84)⟩) ?_ ?_
              · rintro jj x y TT Hz hx hy ⟨acc, z1, z2, z3⟩ hTT
                obtain ⟨rx, hrx, irx⟩ := hus1 jj x hx
                obtain ⟨ry, hry, iry⟩ := hus2 jj y hy
                have hz : (L.parts.zip R.parts)[jj]? = some (rx, ry) := List.getElem?_zip_eq_some.mpr ⟨hrx, hry⟩
                have hjl := (List.getElem?_eq_some_iff.mp hz).1
                rw [List.length_zip] at hjl
                have s9 := Rd.Same.upd (o := .tup [x, y]) hTT
                have ip : PrT (upd Hz TT (.tup [x, y])) (rx, ry) (.ref TT) := ⟨TT, x, y, rfl, upd_same, ((irx.same s68).same z1).same s9, ((iry.same s68).same z1).same s9⟩
                have hD5 := s9 _ _ z2
                have hal := z3.len
                rw [List.length_take, List.length_zip] at hal
                refine ⟨by simp [wipe], ?_⟩
                unfold tYes
                refine iteT ⟨_, rfl, acc, hD5, (by omega), acc ++ [.ref TT], fun c o e => ?_, upd_same, ?_⟩
                · rw [upd_ne (ne_of_none e hD)]
                  exact s9 _ _ (z1 _ _ e)
                · have kp := Kp.upd_lst (C := 0) (ys := acc ++ [V.ref TT]) hD5
                  rw [List.take_add_one, hz]
                  exact ((z3.same s9).snoc ip).mono kp
              · rintro H9 ⟨acc, z1, z2, z3⟩
                have s69 := s68.trans z1
                have hq9 := s69 _ _ hq6
                have eT : (L.parts.zip R.parts).take vs1.length = L.parts.zip R.parts := List.take_of_length_le (by rw [List.length_zip]; omega)
                rw [eT] at z3
                have hal := z3.len
                rw [List.length_zip] at hal
                have hdl := hp6.len
                refine ⟨q, D, _, _, rfl, rfl, hq9, z2, (by omega), ?_⟩
                have kp := Kp.upd_lst (C := 0) (ys := vs.dropLast ++ acc) hq9
                rcases hact with ⟨e, _⟩ | ⟨e, _⟩ | ⟨_, _, e, _⟩ | ⟨ps', e, hw2, hu⟩
                · cases e
                · cases e
                · cases e
                · cases e
                  refine ⟨B, W' ++ L.parts.zip R.parts, _, kvs, _, _, _, _, rfl, fun c o e => ?_, ?_, al6.mono (fun t v h => (h.same s69).mono kp), tri, wB, upd_same, ((hp6.same s69).mono kp).app (z3.mono kp), fun p hp => ?_, ⟨fun p hp => (List.mem_append.mp hp).elim (inW' p) fun h => by
                    obtain ⟨i, hi⟩ := List.getElem?_of_mem h
                    obtain ⟨g1, g2⟩ := List.getElem?_zip_eq_some.mp (show (L.parts.zip R.parts)[i]? = some (p.1, p.2) from hi)
                    exact ⟨inNs_parts (List.mem_of_getElem? g1) nL, inNs_parts (List.mem_of_getElem? g2) nR⟩, inB⟩, hu, ?_⟩
                  · rw [upd_ne (ne_of_none e hqH)]
                    exact s69 _ _ (S6 c o e)
                  · rw [upd_ne nbq]
                    exact s69 _ _ hb6
                  · rcases List.mem_append.mp hp with z | z
                    · exact wW' p z
                    · obtain ⟨i, hi⟩ := List.getElem?_of_mem z
                      obtain ⟨g1, g2⟩ := List.getElem?_zip_eq_some.mp (show (L.parts.zip R.parts)[i]? = some (p.1, p.2) from hi)
                      exact ⟨(hwL _ (List.mem_of_getElem? g1)).1, (hwR _ (List.mem_of_getElem? g2)).1⟩
                  · rw [List.length_append, List.length_zip]
                    omega
          · refine iteP (by rw [decide_eq_false (fun z => hh (V.str.inj z))]; rfl) ?_
            rw [if_pos (.inl hh)] at hact
            rcases hact with ⟨_, rfl⟩ | ⟨e, _⟩ | ⟨_, _, e, _⟩ | ⟨_, e, _⟩
            · exact kf rfl _ S6
            · cases e
            · cases e
            · cases e
      · intro tail
        obtain ⟨p1, us1, rfl, hp1⟩ := i1.hd
        obtain ⟨p2, us2, rfl, hp2⟩ := i2.hd
        have e2 := isU_head w2
        refine ⟨_, rfl, p2, _, _, _, rfl, rfl, SqT.of hp2, at_of (j := 0) rfl rfl, rfl, _, rfl, ?_⟩
        cases hr' : isU r' with
        | some x =>
          have e4 : r'.head = "unknown" := of_decide_eq_true (by rw [← e2, hr']; rfl)
          refine iteP (by rw [e4]; decide +kernel) ?_
          refine ⟨_, rfl, _, rfl, _, _, rfl, ?_⟩
          exact tail _ _ ⟨_, _, r', l', rfl, Same.refl _, i2, i1, by unfold swL; rw [hr']; rfl⟩
        | none =>
          have e4 : ¬ r'.head = "unknown" := of_decide_eq_false (by rw [← e2, hr']; rfl)
          refine iteN (by rw [decide_eq_false (fun z => e4 (V.str.inj z))]; decide) (nxt ?_)
          exact tail _ _ ⟨_, _, l', r', rfl, Same.refl _, i1, i2, by unfold swL; rw [hr']; rfl⟩
end
end Rd
namespace Rd
open PySem L2
theorem all_nod : ∀ t : Tr, t.all.length = t.nod + t.lf
  | .am _ _ => rfl
  | .un s a => by show a.all.length + 1 = a.nod + 1 + a.lf; rw [all_nod a]; omega
  | .bi s a b => by show (a.all ++ b.all).length + 1 = a.nod + b.nod + 1 + (a.lf + b.lf); rw [List.length_append, all_nod a, all_nod b]; omega
theorem fill_szs {m : Str → Option Tr} (hm : ∀ x t, m x = some t → t.nod ≤ 2 ∧ t.lf ≤ 2) : ∀ t : Tr, (fill m t).nod ≤ t.nod + 2 * t.lf ∧ (fill m t).lf ≤ 2 * t.lf
  | .am k x => by
    show (if k = "unknown" then _ else _ : Tr).nod ≤ 0 + 2 * 1 ∧ (if k = "unknown" then _ else _ : Tr).lf ≤ 2 * 1
    split
    · cases e : m x with
      | none => exact ⟨Nat.zero_le _, by show 1 ≤ 2; decide⟩
      | some t => have := hm x t e; exact ⟨by show t.nod ≤ _; omega, by show t.lf ≤ _; omega⟩
    · exact ⟨Nat.zero_le _, by show 1 ≤ 2; decide⟩
  | .un s a => by
    obtain ⟨h1, h2⟩ := fill_szs hm a
    exact ⟨by show (fill m a).nod + 1 ≤ a.nod + 1 + 2 * a.lf; omega, h2⟩
  | .bi s a b => by
    obtain ⟨h1, h2⟩ := fill_szs hm a
    obtain ⟨g1, g2⟩ := fill_szs hm b
    exact ⟨by show (fill m a).nod + (fill m b).nod + 1 ≤ a.nod + b.nod + 1 + 2 * (a.lf + b.lf); omega, by show (fill m a).lf + (fill m b).lf ≤ 2 * (a.lf + b.lf); omega⟩
theorem lf_posZ : ∀ t : Tr, 1 ≤ t.lf
  | .am _ _ => Nat.le_refl _
  | .un _ a => lf_posZ a
  | .bi _ a b => Nat.le_trans (lf_posZ a) (Nat.le_add_right _ _)
theorem lf_hm {f : Str → Tr} : ∀ t : Tr, t.lf ≤ (hm f t).lf
  | .am k x => by show 1 ≤ _; exact lf_posZ _
  | .un s a => lf_hm a
  | .bi s a b => Nat.add_le_add (lf_hm a) (lf_hm b)
theorem unkIn_ns {us : List Str} {ns : List Str} (hs : ∀ x ∈ us, x ∈ ns) : ∀ {t : Tr}, t.unkIn (us.map V.str) → inNs ns t
  | .am k y, h => fun x hx => by
    have hx : (decide (k = "unknown") && decide (y = x)) = true := hx
    rw [Bool.and_eq_true] at hx
    have hk := of_decide_eq_true hx.1
    have e := of_decide_eq_true hx.2
    obtain ⟨z, hz, ez⟩ := List.mem_map.mp (h hk)
    cases ez
    rw [← e]
    exact hs _ hz
  | .un s a, h => unkIn_ns (t := a) hs h
  | .bi s a b, h => fun x hx => by
    have hx : (ocU x a || ocU x b) = true := hx
    rcases Bool.or_eq_true _ _ ▸ hx with z | z
    · exact unkIn_ns (t := a) hs h.1 x z
    · exact unkIn_ns (t := b) hs h.2 x z
/-- a drawn filling -/
structure PlG (l : Sb) : Prop where
  ks : l.map (·.1) = NV
  ok : ∀ z ∈ l, Wf z.2 ∧ dpN 1 [] z.2
theorem PlG.nd {l : Sb} (h : PlG l) : (l.map (·.1)).Nodup := by rw [h.ks]; decide +kernel
theorem PlG.len {l : Sb} (h : PlG l) : l.length = 4 := by
  have := congrArg List.length h.ks
  rw [List.length_map] at this
  exact this
theorem PlG.wl {l : Sb} (h : PlG l) : ∀ z ∈ l, Wf z.2 ∧ z.2.dep ≤ 60 ∧ Wf (unk z.1) := fun z hz => by
  obtain ⟨a, b, _⟩ := h.ok z hz
  refine ⟨a, by omega, ?_⟩
  have hn : z.1 ∈ NV := by rw [← h.ks]; exact List.mem_map.mpr ⟨z, hz, rfl⟩
  have : ∀ y ∈ NV, isUnk y = true := by decide +kernel
  exact .am (.inr (.inr ⟨rfl, this _ hn⟩))
/-- a form that a pair of the law can have -/
structure Oz (t : Tr) : Prop where
  sz : t.all.length ≤ 51
  lf : t.lf ≤ 18
  dp : t.dep ≤ 9
  nm : inNs NV t
/-- such a form, before a pair is made of it -/
structure Oy (t : Tr) : Prop where
  wf : Wf t
  nd : t.nod ≤ 30
  lf : t.lf ≤ 16
  dp : t.dep ≤ 8
  nm : inNs NV t
theorem nod_hm {f : Str → Tr} : ∀ t : Tr, t.nod ≤ (hm f t).nod
  | .am k x => Nat.zero_le _
  | .un s a => Nat.succ_le_succ (nod_hm a)
  | .bi s a b => Nat.succ_le_succ (Nat.add_le_add (nod_hm a) (nod_hm b))
theorem Op.oy {l : Sb} {g t : Tr} (h : Op l g t) (ks : l.map (·.1) = NV) (h1 : g.nod ≤ 30) (h2 : g.lf ≤ 16) (h3 : g.dep ≤ 8) : Oy t := by
  have e := h.fl
  rw [fill_hm] at e
  have a1 := nod_hm (f := fun x => (look l x).getD (unk x)) t
  have a2 := lf_hm (f := fun x => (look l x).getD (unk x)) t
  have a3 := dep_hm (f := fun x => (look l x).getD (unk x)) t
  rw [e] at a1 a2 a3
  exact ⟨h.wf, by omega, by omega, by omega, fun x hx => by rw [← ks]; exact h.ns x hx⟩
theorem dpN.oy {d : Nat} {us : List Str} {t : Tr} (h : dpN d (us.map V.str) t) (wf : Wf t) (hd : d ≤ 3) (hs : ∀ x ∈ us, x ∈ NV) : Oy t := by
  obtain ⟨a, ⟨b, c⟩, e⟩ := h
  have p1 : 2 ^ (d + 1) ≤ 2 ^ 4 := Nat.pow_le_pow_right (by decide) (by omega)
  have p2 : 2 ^ d ≤ 2 ^ 3 := Nat.pow_le_pow_right (by decide) hd
  exact ⟨wf, by omega, by omega, by omega, unkIn_ns hs e⟩
theorem Oy.oz {t : Tr} (h : Oy t) : Oz t := by
  have := h.nd
  have := h.lf
  have := h.dp
  exact ⟨by rw [all_nod]; omega, by omega, by omega, h.nm⟩
theorem Oy.pair {t : Tr} {us : List Str} {g : Tr} (h : Oy t) (hg : dpN 1 (us.map V.str) g) (hs : ∀ x ∈ us, x ∈ NV) : Oz (.bi "pair" t g) := by
  obtain ⟨a, ⟨b, c⟩, e⟩ := hg
  have p1 : (2 : Nat) ^ (1 + 1) = 4 := rfl
  have p2 : (2 : Nat) ^ 1 = 2 := rfl
  have := h.nd
  have := h.lf
  have := h.dp
  refine ⟨?_, ?_, ?_, fun x hx => ?_⟩
  · rw [all_nod]
    show t.nod + g.nod + 1 + (t.lf + g.lf) ≤ 51
    omega
  · show t.lf + g.lf ≤ 18
    omega
  · show max t.dep g.dep + 1 ≤ 9
    omega
  · have hx : (ocU x t || ocU x g) = true := hx
    rcases Bool.or_eq_true _ _ ▸ hx with z | z
    · exact h.nm x z
    · exact unkIn_ns hs e x z
def dQ : Nat := dr 3 + 2 * oD 3 + 1 + dr 2 + 2 * dr 1
def sp_prs : Sp := fun vs H Q _ => ∃ (p : Addr) (xs : List V) (n : Nat), vs = [.ref p] ∧ H p = some (.lst xs) ∧ StL (n + (4 * dr 1 + 1 + 2 * dQ)) xs ∧
  ∀ q ws (W : List (Tr × Tr)) H', But p H H' → H q = none → H' q = some (.lst ws) → PsAt H' W ws → W.length ≤ 2 → (∀ w ∈ W, (Wf w.1 ∧ Oz w.1) ∧ Wf w.2 ∧ Oz w.2) → Q (.ref q) H'
section
variable {P : Program} {w : World} {K : PySem.W.Frag} {mg : Str → Option Value} {base : Heap}
abbrev s__law_pairs : Stmt := top 46
theorem sc__law_pairs : FnScope ["_law_stream_here", "_law_forms", "_law_found", "_law_k", "_law_base", "_law_one", "_law_other", "_law_way"] ["_law_stream_here"] (defScope s__law_pairs) := ⟨rfl, rfl, rfl, by decide +kernel, rfl, by decide +kernel, by decide +kernel⟩
theorem ok__law_pairs (T : Tx w K mg) : Fk P w K mg base CX0 14 "_law_pairs" ["_law_stream_here"] sp_prs := by
  refine T.F__law_pairs.ok0 sc__law_pairs (fun _ _ _ _ _ _ us hl => match us, hl with | [_], _ => rfl)
    (fun vs H Q E h => ?_) (fun cdv A outer s H vs Q E hr h => ?_)
  · obtain ⟨p, xs, n, rfl, _⟩ := h
    rfl
  · obtain ⟨p, xs, n, rfl, hp, hx, k⟩ := h
    refine ⟨_, (pss_cons (ps_set (i := 1) sc__law_pairs.nd rfl (Or.inl rfl) (pe_fk (ok__law_plain_forms T 1) (hr.mono (by omega)) rfl pass0 (pa_cons (pv 0) (pa_cons (pe_lst (pa_cons pe_str (pa_cons pe_str (pa_cons pe_str (pa_cons pe_str pa_nil))))) (pa_cons pe_int pa_nil)))))
  (pss_cons (ps_set (i := 2) sc__law_pairs.nd rfl (Or.inl rfl) (pe_lst pa_nil))
  (pss_cons (ps_for PassesOwn.never rfl (pi_range1 rfl T.z_range (pa_cons (pe_op op_add pe_int (pe_fk (ok__law_draw T) (hr.mono (by omega)) rfl pass0 (pa_cons (pv 0) (pa_cons pe_int pa_nil)))) pa_nil)) (pg_name (i := 3) sc__law_pairs.nd rfl (Or.inl rfl))
  (pss_cons (ps_set (i := 4) sc__law_pairs.nd rfl (Or.inl rfl) (pe_fk (ok__law_filled T 6) (hr.mono (by omega)) rfl pass0 (pa_cons (pe_fk (ok__law_form T 3) (hr.mono (by omega)) rfl pass0 (pa_cons (pv 0) (pa_cons (pe_lst (pa_cons pe_str (pa_cons pe_str (pa_cons pe_str (pa_cons pe_str pa_nil))))) (pa_cons pe_int pa_nil)))) (pa_cons (pv 1) pa_nil))))
  (pss_cons (ps_set (i := 5) sc__law_pairs.nd rfl (Or.inl rfl) (pe_fk (ok__law_opened_up T 3) (hr.mono (by omega)) rfl pass0 (pa_cons (pv 0) (pa_cons (pv 4) (pa_cons (pv 1) (pa_cons pe_int pa_nil))))))
  (pss_cons (ps_set (i := 6) sc__law_pairs.nd rfl (Or.inl rfl) (pe_fk (ok__law_opened_up T 3) (hr.mono (by omega)) rfl pass0 (pa_cons (pv 0) (pa_cons (pv 4) (pa_cons (pv 1) (pa_cons pe_int pa_nil))))))
  (pss_cons (ps_set (i := 7) sc__law_pairs.nd rfl (Or.inl rfl) (pe_fk (ok__law_draw T) (hr.mono (by omega)) rfl pass0 (pa_cons (pv 0) (pa_cons pe_int pa_nil))))
  (pss_cons (ps_if (pt_cmpR op_eq (pv 7) pe_int (nomark _))
  (pss_one (ps_set (i := 6) sc__law_pairs.nd rfl (Or.inl rfl) (pe_fk (ok__law_form T 2) (hr.mono (by omega)) rfl pass0 (pa_cons (pv 0) (pa_cons (pe_lst (pa_cons pe_str (pa_cons pe_str (pa_cons pe_str pa_nil)))) (pa_cons pe_int pa_nil))))))
  pss_nil)
  (pss_cons (ps_if (pt_cmpR op_eq (pv 7) pe_int (nomark _))
  (pss_cons (ps_set (i := 6) sc__law_pairs.nd rfl (Or.inl rfl) (pe_tup (pa_cons pe_str (pa_cons (pv 6) (pa_cons (pe_fk (ok__law_form T 1) (hr.mono (by omega)) rfl pass0 (pa_cons (pv 0) (pa_cons (pe_lst (pa_cons pe_str (pa_cons pe_str pa_nil))) (pa_cons pe_int pa_nil)))) pa_nil)))))
  (pss_one (ps_set (i := 5) sc__law_pairs.nd rfl (Or.inl rfl) (pe_tup (pa_cons pe_str (pa_cons (pv 5) (pa_cons (pe_fk (ok__law_form T 1) (hr.mono (by omega)) rfl pass0 (pa_cons (pv 0) (pa_cons (pe_lst (pa_cons pe_str (pa_cons pe_str pa_nil))) (pa_cons pe_int pa_nil)))) pa_nil)))))))
  pss_nil)
  (pss_one (ps_expr (pe_bm PySem.F.plainAttrs_list PySem.F.slot_list_append PySem.F.type_list_append mt_append (pv 2) (pa_cons (pe_tup (pa_cons (pv 5) (pa_cons (pv 6) pa_nil))) pa_nil)))))))))))
  (pss_one (ps_ret (pv 2)))))), ?_⟩
    have big : 16777216 ≤ sizeLine := by decide
    refine seqAsg ⟨_, rfl, (by show 4 ≤ sizeLine; decide), fun ql hql => ?_⟩
    have nlp : ql ≠ p := fun z => by rw [z, hp] at hql; cases hql
    have sl := Rd.Same.upd (o := .lst (NV.map V.str)) hql
    have hql1 : upd H ql (.lst (NV.map V.str)) ql = some (.lst (NV.map V.str)) := upd_same
    refine ⟨p, ql, xs, n + (1 + 2 * dQ), rfl, sl _ _ hp, hx.mono (by omega), nlp, hql1, fun a kvs l x1 H1 b1' na nap hp1 hx1 ha al ks ok => ?_⟩
    have b1 : But p H H1 := (But.of_same sl).trans b1'
    have pf : PlG l := ⟨ks, ok⟩
    have hlen := al.len
    have hl4 := pf.len
    have npa : p ≠ a := Ne.symm nap
    refine gName_k ?_
    try dsimp only
    refine seqAsg ⟨Nat.zero_le _, fun q hq => ?_⟩
    refine gName_k ?_
    try dsimp only
    have nqp : q ≠ p := fun z => by rw [z, hp1] at hq; cases hq
    have nqa : q ≠ a := fun z => by rw [z, ha] at hq; cases hq
    have sq := Rd.Same.upd (o := .lst []) hq
    have hq1 : upd H1 q (.lst []) q = some (.lst []) := upd_same
    have hqH : H q = none := by
      cases e : H q with
      | none => rfl
      | some o => rw [b1 _ _ nqp e] at hq; cases hq
    have hp1' := sq _ _ hp1
    have ha1' := sq _ _ ha
    have al1' : Al IsT (upd H1 q (.lst [])) l kvs := al.mono fun t v h => h.same sq
    have b1q : But p H (upd H1 q (.lst [])) := b1.trans (But.of_same sq)
    clear al ha hp1 b1 hql1 b1'
    generalize upd H1 q (.lst []) = Hs at sq hq1 hp1' ha1' al1' b1q ⊢
    rw [show n + (1 + 2 * dQ) = n + 2 * dQ + 1 by omega] at hx1
    refine rd_draw (m := 2) (by rfl) hp1' hx1 (by decide) (by decide) fun dw H2 y2 hdw b2 hp2 hy2 => ?_
    refine ⟨_, _, rfl, rfl, ?_⟩
    have B2 : But p Hs H2 := b2
    have hq2 := b2 _ _ nqp hq1
    have e1 : ((1 : Int) + (dw : Int)) = ((dw + 1 : Nat) : Int) := by omega
    refine ⟨((dw + 1 : Nat) : Int), (by show [V.int (1 + (dw : Int))] = _; rw [e1]), by omega, by omega, for_range (n := dw + 1) (fun i σ Hc => ∃ (ws : List V) (W : List (Tr × Tr)) (ys : List V) (t3 t4 t5 t6 t7 : Option V), σ = [some (.ref p), some (.ref a), some (.ref q), t3, t4, t5, t6, t7] ∧ But p Hs (upd Hc q (.lst [])) ∧ Hc q = some (.lst ws) ∧ PsAt Hc W ws ∧ W.length = i ∧ (∀ w ∈ W, (Wf w.1 ∧ Oz w.1) ∧ Wf w.2 ∧ Oz w.2) ∧ Hc p = some (.lst ys) ∧ StL (n + (2 - i) * dQ) ys) ⟨[], [], y2, _, _, _, _, _, rfl, fun c o hc e => by
        by_cases z : c = q
        · rw [z] at e ⊢
          rw [hq1] at e
          cases e
          exact upd_same
        · rw [upd_ne z]
          exact b2 c o hc e, hq2, PsAt.nil, rfl, (fun w hw => nomatch hw), hp2, hy2⟩ ?_ ?_⟩
    · rintro i σ Hc hi ⟨ws, W, ys, t3, t4, t5, t6, t7, rfl, bc, hqc, hpw, hwl, hpl, hpc, hyc⟩
      refine gName_k ?_
      try dsimp only
      have bcx : ∀ c o, c ≠ p → c ≠ q → Hs c = some o → Hc c = some o := fun c o h1 h2 e => by
        have := bc c o h1 e
        rw [upd_ne h2] at this
        exact this
      have hac := bcx _ _ (Ne.symm npa) (Ne.symm nqa) ha1'
      have kc : Kp 0 Hs Hc := fun c o hi e => bcx c o (fun z => by rw [z, hp1'] at e; cases e; cases hi) (fun z => by rw [z, hq1] at e; cases e; cases hi) e
      have alc : Al IsT Hc l kvs := al1'.mono fun t v h => h.mono kc
      have em : n + (2 - i) * dQ = (n + (2 - (i + 1)) * dQ + (2 * oD 3 + 1 + dr 2 + 2 * dr 1)) + dr 3 := by
        rw [show 2 - i = (2 - (i + 1)) + 1 by omega, Nat.add_mul, Nat.one_mul]
        unfold dQ
        omega
      rw [em] at hyc
      generalize n + (2 - (i + 1)) * dQ = N at hyc ⊢
      refine seqAsg ⟨_, rfl, (by show 4 ≤ sizeLine; decide), fun qn hqn => ?_⟩
      have rdf := fun {Q : VK} k => rd_form (d := 3) (Q := Q) (us := NV.map V.str) hpc hyc (unkOk (l := NV) (by decide +kernel) (by decide)) k
      refine (rdf fun f1 v1 y5 H5 b5 hp5 hy5 wf1 dp1 it1 => ?_).2 qn hqn
      have ha5 := b5 _ _ (Ne.symm npa) hac
      have al5 : Al IsT H5 l kvs := alc.mono fun t v h => h.mono (C := 0) (b5.kp hpc)
      refine ⟨_, rfl, v1, a, f1, look l, rfl, it1, wf1, dp1.1, Al.dtr ha5 al5, fun v6 H6 s6 it6 => ?_⟩
      refine gName_k ?_
      try dsimp only
      obtain ⟨wg, dg⟩ := fill_wfZ (m := look l) (d := 2) (fun x t e => ⟨(pf.ok _ (lookU_mem e)).1, (pf.ok _ (lookU_mem e)).2.1⟩) wf1
      have ug := fill_plainZ pf.ks (fun z hz => (pf.ok z hz).2.2.2) dp1.2.2
      obtain ⟨ng, lg⟩ := fill_szs (m := look l) (fun x t e => by
        obtain ⟨_, _, ⟨c, d⟩, _⟩ := pf.ok _ (lookU_mem e)
        have c : t.nod + 2 ≤ 4 := c
        have d : t.lf ≤ 2 := d
        exact ⟨by omega, d⟩) f1
      have d6 : f1.dep ≤ 6 := dp1.1
      have n6 : f1.nod + 2 ≤ 16 := dp1.2.1.1
      have l6 : f1.lf ≤ 8 := dp1.2.1.2
      have hp6 := s6 _ _ hp5
      have B6 : But p Hc H6 := b5.trans (But.of_same s6)
      generalize fill (look l) f1 = g at wg dg ug it6 ng lg
      have ha6 := s6 _ _ ha5
      have al6 : Al IsT H6 l kvs := al5.mono fun t v h => h.same s6
      refine seqAsg ⟨_, rfl, _, rfl, _, rfl, p, a, y5, v6, g, kvs, l, N + (oD 3 + 1 + dr 2 + 2 * dr 1), rfl, hp6, hy5.mono (by omega), it6, wg, ug, (by omega), ha6, al6, pf.nd, (by omega), pf.wl, fun g7 u7 y7 H7 b7 hp7 hy7 o7 it7 => ?_⟩
      refine gName_k ?_
      try dsimp only
      refine seqAsg ⟨_, rfl, _, rfl, _, rfl, p, a, y7, v6, g, kvs, l, N + (1 + dr 2 + 2 * dr 1), rfl, hp7, hy7.mono (by omega), it6.but b7 hp6, wg, ug, (by omega), b7 _ _ (Ne.symm npa) ha6, al6.mono (fun t v h => h.mono (C := 0) (b7.kp hp6)), pf.nd, (by omega), pf.wl, fun g8 u8 y8 H8 b8 hp8 hy8 o8 it8 => ?_⟩
      refine gName_k ?_
      try dsimp only
      have oy7 := o7.oy pf.ks (by omega) (by omega) (by omega)
      have oy8 := o8.oy pf.ks (by omega) (by omega) (by omega)
      rw [show N + (1 + dr 2 + 2 * dr 1) = N + (dr 2 + 2 * dr 1) + 1 by omega] at hy8
      refine seqAsg (rd_draw (m := 5) (by rfl) hp8 hy8 (by decide) (by decide) fun dv H9 y9 hdv b9 hp9 hy9 => ?_)
      refine gName_k ?_
      try dsimp only
      have B9 : But p Hc H9 := ((B6.trans b7).trans b8).trans b9
      have it79 : IsT H9 g7 u7 := (it7.but b8 hp7).but b9 hp8
      have it89 : IsT H9 g8 u8 := it8.but b9 hp8
      clear it7 it8 al6 al5 it6 it1 rdf
      refine seqIfC (fun σ' H' => ∃ (v8 : V) (f8 : Tr) (y : List V), σ' = [some (.ref p), some (.ref a), some (.ref q), some (.int (0 + (i : Int))), some v6, some u7, some v8, some (.int (dv : Int))] ∧ But p H9 H' ∧ IsT H' f8 v8 ∧ Oy f8 ∧ H' p = some (.lst y) ∧ StL (N + 2 * dr 1) y) ?_ ?_
      · rintro σ' Ha ⟨v8, f8, ya, rfl, ba, it8, oyf, hpa, hya⟩
        have it7a : IsT Ha g7 u7 := it79.but ba hp9
        refine seqIfC (fun σ' H' => ∃ (v7 v8 : V) (f7 f8 : Tr) (y : List V), σ' = [some (.ref p), some (.ref a), some (.ref q), some (.int (0 + (i : Int))), some v6, some v7, some v8, some (.int (dv : Int))] ∧ But p Ha H' ∧ IsT H' f7 v7 ∧ IsT H' f8 v8 ∧ (Wf f7 ∧ Oz f7) ∧ (Wf f8 ∧ Oz f8) ∧ H' p = some (.lst y) ∧ StL N y) ?_ ?_
        · rintro σ' Hb ⟨v7, v8, f7, f8, yb, rfl, bb, i7, i8, o7, o8, hpb, hyb⟩
          have Bb : But p Hc Hb := (B9.trans ba).trans bb
          have hqb := Bb _ _ nqp hqc
          refine ⟨_, rfl, .inl ⟨rfl, _, SqL.of hqb⟩, ?_⟩
          refine ⟨_, rfl, _, rfl, (by show 2 ≤ sizeLine; decide), fun q9 hq9 => ?_⟩
          have s9 := Rd.Same.upd (o := .tup [v7, v8]) hq9
          have hq9' := s9 _ _ hqb
          have hwl2 := hpw.len
          refine ⟨q, ws, _, rfl, rfl, hq9', by omega, ?_⟩
          have kp := Kp.upd_lst (C := 0) (ys := ws ++ [.ref q9]) hq9'
          refine ⟨ws ++ [.ref q9], W ++ [(f7, f8)], yb, _, _, _, _, _, rfl, fun c o hc e => ?_, upd_same, (((hpw.mono (C := 0) (Bb.kp hpc)).same s9).mono kp).snoc ⟨q9, v7, v8, rfl, kp _ _ rfl upd_same, (i7.same s9).mono kp, (i8.same s9).mono kp⟩, by rw [List.length_append, hwl]; rfl, fun w hw => ?_, ?_, hyb⟩
          · by_cases z : c = q
            · rw [z] at e ⊢
              rw [hq1] at e
              cases e
              exact upd_same
            · rw [upd_ne z, upd_ne z]
              exact s9 _ _ (Bb c o hc (bcx c o hc z e))
          · rcases List.mem_append.mp hw with z | z
            · exact hpl w z
            · rw [List.mem_singleton.mp z]
              exact ⟨o7, o8⟩
          · rw [upd_ne (Ne.symm nqp)]
            exact s9 _ _ hpb
        · intro tail
          refine ⟨_, rfl, rfl, _, rfl, ?_⟩
          by_cases h2 : dv = 2
          · refine iteP (by rw [h2]; decide +kernel) ?_
            refine seqAsg ⟨_, rfl, _, rfl, (by show 2 ≤ sizeLine; decide), fun qn hqn => ?_⟩
            have rdf := fun {Q : VK} k => rd_form (d := 1) (Q := Q) (us := (["x", "y"] : List Str).map V.str) (n := N + dr 1) hpa (hya.mono (by omega)) (unkOk (l := ["x", "y"]) (by decide +kernel) (by decide)) k
            refine (rdf fun f1 v1 y1 H1 b1 hp1 hy1 wf1 dp1 it1 => ?_).2 qn hqn
            refine ⟨(by show 3 ≤ sizeLine; decide), fun qt hqt => ?_⟩
            have s1 := Rd.Same.upd (o := .tup [.str "pair", v8, v1]) hqt
            have ip1 : IsT (upd H1 qt (.tup [.str "pair", v8, v1])) (.bi "pair" f8 f1) (.ref qt) := ⟨qt, v8, v1, rfl, upd_same, (it8.but b1 hpa).same s1, it1.same s1⟩
            have hp1b := s1 _ _ hp1
            have it7b := (it7a.but b1 hpa).same s1
            have b1b : But p Ha (upd H1 qt (.tup [.str "pair", v8, v1])) := b1.trans (But.of_same s1)
            generalize upd H1 qt (.tup [.str "pair", v8, v1]) = Hb at ip1 hp1b it7b b1b ⊢
            refine gName_k ?_
            try dsimp only
            refine ⟨_, rfl, _, rfl, (by show 2 ≤ sizeLine; decide), fun qm hqm => ?_⟩
            have rdf2 := fun {Q : VK} k => rd_form (d := 1) (Q := Q) (us := (["y", "z"] : List Str).map V.str) (n := N) hp1b hy1 (unkOk (l := ["y", "z"]) (by decide +kernel) (by decide)) k
            refine (rdf2 fun f2 v2 y2 H2 b2 hp2 hy2 wf2 dp2 it2 => ?_).2 qm hqm
            refine ⟨(by show 3 ≤ sizeLine; decide), fun qu hqu => ?_⟩
            have s2 := Rd.Same.upd (o := .tup [.str "pair", u7, v2]) hqu
            refine gName_k ?_
            try dsimp only
            refine tail _ _ ⟨_, _, .bi "pair" g7 f2, .bi "pair" f8 f1, y2, rfl, (b1b.trans b2).trans (But.of_same s2), ⟨qu, u7, v2, rfl, upd_same, (it7b.but b2 hp1b).same s2, it2.same s2⟩, (ip1.but b2 hp1b).same s2, ⟨.bi (by decide +kernel) oy7.wf wf2, oy7.pair dp2 (by decide +kernel)⟩, ⟨.bi (by decide +kernel) oyf.wf wf1, oyf.pair dp1 (by decide +kernel)⟩, s2 _ _ hp2, hy2⟩
          · refine iteN (by
              intro e
              have := V.int.inj (of_decide_eq_true e)
              exact h2 (by omega)) (nxt ?_)
            exact tail _ _ ⟨_, _, g7, f8, ya, rfl, fun _ _ _ e => e, it7a, it8, ⟨oy7.wf, oy7.oz⟩, ⟨oyf.wf, oyf.oz⟩, hpa, hya.mono (by omega)⟩
      · intro tail
        refine ⟨_, rfl, rfl, _, rfl, ?_⟩
        by_cases h1 : dv = 1
        · refine iteP (by rw [h1]; decide +kernel) ?_
          refine ⟨_, rfl, (by show 3 ≤ sizeLine; decide), fun qn hqn => ?_⟩
          have rdf := fun {Q : VK} k => rd_form (d := 2) (Q := Q) (us := (["x", "y", "z"] : List Str).map V.str) (n := N + 2 * dr 1) hp9 (hy9.mono (by omega)) (unkOk (l := ["x", "y", "z"]) (by decide +kernel) (by decide)) k
          refine (rdf fun f1 v1 y1 H1 b1 hp1 hy1 wf1 dp1 it1 => ?_).2 qn hqn
          refine gName_k ?_
          try dsimp only
          exact tail _ _ ⟨v1, f1, y1, rfl, b1, it1, dp1.oy wf1 (by decide) (by decide +kernel), hp1, hy1⟩
        · refine iteN (by
            intro e
            have := V.int.inj (of_decide_eq_true e)
            exact h1 (by omega)) (nxt ?_)
          exact tail _ _ ⟨u8, g8, y9, rfl, fun _ _ _ e => e, it89, oy8, hp9, hy9.mono (by omega)⟩
    · rintro σ Hc ⟨ws, W, ys, t3, t4, t5, t6, t7, rfl, bc, hqc, hpw, hwl, hpl, hpc, hyc⟩
      refine ⟨_, rfl, k q ws W Hc (fun c o hc e => ?_) hqH hqc hpw (by omega) hpl⟩
      have hcq : c ≠ q := ne_of_none e hqH
      have := bc c o hc (b1q c o hc e)
      rw [upd_ne hcq] at this
      exact this
end
end Rd
namespace Rd
open PySem L2
theorem rst_get {B m : Sb} (tri : Tri B) (h : Rst B m) (x : Str) : (look m x).getD (unk x) = res B (unk x) := by
  obtain ⟨h1, h2, h3⟩ := h
  cases e : look m x with
  | some u =>
    have := (h3 _ (lookU_mem e)).2
    exact this
  | none =>
    have hx : x ∉ m.map (·.1) := fun hm => by
      obtain ⟨⟨y, u⟩, hy, ey⟩ := List.mem_map.mp hm
      have ey : y = x := ey
      subst ey
      obtain ⟨i, hi⟩ := List.getElem?_of_mem hy
      rw [look_get h2 hi] at e
      cases e
    refine (res_id fun p hp => Bool.eq_false_iff.mpr fun ho => ?_).symm
    have e2 : x = p.1 := ocU_unk.mp ho
    have hB : x ∈ B.map (·.1) := by rw [e2]; exact List.mem_map.mpr ⟨p, hp, rfl⟩
    have := nodup_subZ (l := x :: m.map (·.1)) (m := B.map (·.1)) (List.nodup_cons.mpr ⟨hx, h2⟩) fun y hy => by
      rcases List.mem_cons.mp hy with rfl | hy
      · exact hB
      · obtain ⟨q, hq, rfl⟩ := List.mem_map.mp hy
        have := (h3 q hq).1
        obtain ⟨s, es⟩ := Option.isSome_iff_exists.mp this
        exact List.mem_map.mpr ⟨_, lookU_mem es, rfl⟩
    rw [List.length_cons, List.length_map, List.length_map] at this
    omega
theorem rst_self {B : Sb} (tri : Tri B) : Rst B (B.map fun p => (p.1, res B p.2)) := by
  refine ⟨List.length_map _, by rw [List.map_map]; exact tri.nodup, fun p hp => ?_⟩
  obtain ⟨q, hq, rfl⟩ := List.mem_map.mp hp
  obtain ⟨i, hi⟩ := List.getElem?_of_mem hq
  have e : look B q.1 = some q.2 := look_get tri.nodup (by rw [hi])
  exact ⟨by rw [e]; rfl, (res_look tri e).symm⟩
theorem rst_fill {B m : Sb} (tri : Tri B) (h : Rst B m) (t : Tr) : fill (look m) t = res B t := by
  rw [fill_hm, res_hm]
  exact hm_congr fun x _ => rst_get tri h x
theorem Rst.key {B m : Sb} (h : Rst B m) {x : Str} {u : Tr} (e : look m x = some u) : x ∈ B.map (·.1) := by
  obtain ⟨s, es⟩ := Option.isSome_iff_exists.mp (h.2.2 _ (lookU_mem e)).1
  exact List.mem_map.mpr ⟨_, lookU_mem es, rfl⟩
theorem Rst.none {B m : Sb} (h : Rst B m) {x : Str} (hx : x ∉ B.map (·.1)) : look m x = none := by
  cases e : look m x with
  | none => rfl
  | some u => exact absurd (h.key e) hx
/-- the pairs, what was told of them, and what was due -/
structure Nrw (ns : List Str) (W : List (Tr × Tr)) (B m Bd : Sb) : Prop where
  wW : ∀ p ∈ W, (Wf p.1 ∧ Oz p.1) ∧ Wf p.2 ∧ Oz p.2
  wl : W.length ≤ 2
  oc : ∀ x ∈ ns, x ∈ NV ∧ ∃ p ∈ W, ocU x p.1 = true ∨ ocU x p.2 = true
  ni : ∀ p ∈ W, inNs ns p.1 ∧ inNs ns p.2
  rB : RunI ns B []
  rD : RunI ns Bd []
  rst : Rst B m
  eq : ∀ p ∈ W, res B p.1 = res B p.2
  sat : Sat (fun x => res Bd (unk x)) B
  em : Bd = [] → B = []
  zB : Small ns (some B)
  zD : Small ns (some Bd)
theorem Nrw.resW {ns : List Str} {W : List (Tr × Tr)} {B m Bd : Sb} (h : Nrw ns W B m Bd) {t : Tr} (ht : Oz t) (hn : inNs ns t) : (res B t).dep ≤ 45 := by
  rw [res_hm]
  have := hm_dep_le (f := fun x => res B (unk x)) (M := 36) (t := t) fun y hy => (h.zB B rfl y (hn y hy)).2
  have := ht.dp
  omega
theorem isUnk_NV {x : Str} (h : x ∈ NV) : Wf (unk x) := by
  have : ∀ y ∈ NV, isUnk y = true := by decide +kernel
  exact .am (.inr (.inr ⟨rfl, this _ h⟩))
theorem few_NV {nm : List Str} (nd : nm.Nodup) (h : ∀ x ∈ nm, x ∈ NV) : nm.length ≤ 4 := nodup_subZ nd h
def sp_isn : Sp := fun vs H Q _ => ∃ (q a b : Addr) (ws : List V) (W : List (Tr × Tr)) (ka kb : List (Key × V)) (ns : List Str) (B m Bd : Sb), vs = [.ref q, .ref a, .ref b] ∧ H q = some (.lst ws) ∧ PsAt H W ws ∧ H a = some (.dK ka) ∧ Al IsT H m ka ∧ H b = some (.dK kb) ∧ Al IsT H (Bd.map fun p => (p.1, res Bd p.2)) kb ∧ Nrw ns W B m Bd ∧ ∀ H', Same H H' → Q (.bl true) H'
section
variable {P : Program} {w : World} {K : PySem.W.Frag} {mg : Str → Option Value} {base : Heap}
/-- x not in a list of texts -/
theorem rd_niS {H : Hp} {x : Str} {p : Addr} {nm : List Str} {Q : VK} (hp : H p = some (.lst (nm.map V.str))) (k : Q (.bl (!decide (x ∈ nm))) H) : rIn K true (.str x) (.ref p) H Q := by
  refine ⟨p, _, rfl, .inl (SqL.of hp), rfl, (by rw [List.all_map, List.all_eq_true]; intro _ _; rfl), ?_⟩
  rw [if_pos rfl, inV_strsZ]
  exact k
abbrev s__law_is_narrow : Stmt := top 47
theorem sc__law_is_narrow : FnScope ["_law_pairs_here", "_law_found", "_law_due", "_law_names", "_law_pair", "_law_name_here", "_law_one", "_law_other", "_law_inner", "_law_bound"] ["_law_pairs_here", "_law_found", "_law_due"] (defScope s__law_is_narrow) := ⟨rfl, rfl, rfl, by decide +kernel, rfl, by decide +kernel, by decide +kernel⟩
theorem ok__law_is_narrow (T : Tx w K mg) : Fk P w K mg base CX0 64 "_law_is_narrow" ["_law_pairs_here", "_law_found", "_law_due"] sp_isn := by
  refine T.F__law_is_narrow.ok0 sc__law_is_narrow (fun _ _ _ _ _ _ us hl => match us, hl with | [_, _, _], _ => rfl)
    (fun vs H Q E h => ?_) (fun cdv A outer s H vs Q E hr h => ?_)
  · obtain ⟨q, a, b, ws, W, ka, kb, ns, B, m, Bd, rfl, _⟩ := h
    rfl
  · obtain ⟨q, a, b, ws, W, ka, kb, ns, B, m, Bd, rfl, hq, hps, ha, ala, hb, alb, N, k⟩ := h
    refine ⟨_, (pss_cons (ps_set (i := 3) sc__law_is_narrow.nd rfl (Or.inr rfl) (pe_lst pa_nil))
  (pss_cons (ps_for PassesOwn.never rfl (pi_list (pv 0)) (pg_name (i := 4) sc__law_is_narrow.nd rfl (Or.inl rfl))
  (pss_one (ps_expr (pe_bm PySem.F.plainAttrs_list PySem.F.slot_list_extend PySem.F.type_list_extend mt_extend (pv 3) (pa_cons (pe_lc (own := [("_law_name_here", 5)]) (g := gName 5)  (by rfl) sc__law_is_narrow.nd (pi_list (pe_fk (ok__law_atoms T 60) (hr.mono (by omega)) rfl pass0 (pa_cons (pe_op op_catT (pe_tup (pa_cons pe_str pa_nil)) (pv 4)) (pa_cons pe_str pa_nil)))) (blkOk_by (own := [("_law_name_here", 5)]) (N := ["_law_pairs_here", "_law_found", "_law_due", "_law_names", "_law_pair", "_law_name_here", "_law_one", "_law_other", "_law_inner", "_law_bound"]) (sc := defScope s__law_is_narrow) (by decide +kernel)) (fun _ _ _ _ _ => (pg_name (i := 5) sc__law_is_narrow.nd rfl (Or.inl rfl))) (fun _ _ _ _ _ => (pts_one (pt_cmpR (kOp (r := fun K => rIn K true) (K := K) rfl op_notIn_seq) (pv 5) (pv 3) (by rfl)))) (fun _ _ _ _ _ => (pv 5))) pa_nil)))))
  (pss_cons (ps_for PassesOwn.never rfl (pi_list (pv 0)) (pg_tup rfl (pgs_cons (pg_name (i := 6) sc__law_is_narrow.nd rfl (Or.inl rfl)) (pgs_cons (pg_name (i := 7) sc__law_is_narrow.nd rfl (Or.inl rfl)) pgs_nil)))
  (pss_one (ps_if (pt_cmpR (op_neD hr.units) (pe_fk (ok__law_filled T 60) (hr.mono (by omega)) rfl pass0 (pa_cons (pv 6) (pa_cons (pv 1) pa_nil))) (pe_fk (ok__law_filled T 60) (hr.mono (by omega)) rfl pass0 (pa_cons (pv 7) (pa_cons (pv 1) pa_nil))) (nomark _))
  (pss_one (ps_ret pe_bl))
  pss_nil)))
  (pss_cons (ps_lock (ps_for PassesOwn.never rfl (pi_keys (pv 1)) (pg_name (i := 5) sc__law_is_narrow.nd rfl (Or.inl rfl))
  (pss_one (ps_if (pt_val (pe_callB (cr_any rfl) (by rfl) T.z_any (by decide +kernel) (pa_cons (pe_lc (own := [("_law_inner", 8)]) (g := gName 8) (tt := tYes) (by rfl) sc__law_is_narrow.nd (pi_list (pe_fk (ok__law_atoms T 60) (hr.mono (by omega)) rfl pass0 (pa_cons (pe_dget (hu_of hr) (pv 1) (pv 5) (fun _ _ => rfl)) (pa_cons pe_str pa_nil)))) (blkOk_by (own := [("_law_inner", 8)]) (N := ["_law_pairs_here", "_law_found", "_law_due", "_law_names", "_law_pair", "_law_name_here", "_law_one", "_law_other", "_law_inner", "_law_bound"]) (sc := defScope s__law_is_narrow) (by decide +kernel)) (fun _ _ _ _ _ => (pg_name (i := 8) sc__law_is_narrow.nd rfl (Or.inl rfl))) (fun _ _ _ _ _ => pts_nil) (fun _ _ _ _ _ => (pe_or (pe_cmp (pc_din (hu_of hr) (pv 8) (pv 1))) (pe_one (pe_cmpR (kOp (r := fun K => rIn K true) (K := K) rfl op_notIn_seq) (pv 8) (pv 3) (by rfl)))))) pa_nil)))
  (pss_one (ps_ret pe_bl))
  pss_nil))))
  (pss_cons (ps_if (PW.pt (pw_and (pt_cmpR (op_eqE hr.units65) (pv 2) pe_dnewK (nomark _)) (pw_and1 (pt_cmpR (op_neDE hr.units65) (pv 1) pe_dnewK (nomark _)))))
  (pss_one (ps_ret pe_bl))
  pss_nil)
  (pss_cons (ps_set (i := 9) sc__law_is_narrow.nd rfl (Or.inl rfl) pe_dnewK)
  (pss_cons (ps_for PassesOwn.never rfl (pi_list (pv 3)) (pg_name (i := 5) sc__law_is_narrow.nd rfl (Or.inl rfl))
  (pss_one (ps_if (pt_not (pt_val (pe_fk (ok__law_matched T 45 (by decide)) (hr.mono (by omega)) rfl pass0 (pa_cons (pe_dget2 (hu_of hr) (pv 1) (pv 5) (pe_tup (pa_cons pe_str (pa_cons (pv 5) pa_nil))) ⟨by rfl, by rfl, by rfl, by rfl⟩) (pa_cons (pe_dget2 (hu_of hr) (pv 2) (pv 5) (pe_tup (pa_cons pe_str (pa_cons (pv 5) pa_nil))) ⟨by rfl, by rfl, by rfl, by rfl⟩) (pa_cons (pv 9) pa_nil))))))
  (pss_one (ps_ret pe_bl))
  pss_nil)))
  (pss_one (ps_ret pe_bl))))))))), ?_⟩
    have big : 16777216 ≤ sizeLine := by decide
    have hwl := hps.len
    have hWl := N.wl
    have nsl : ∀ x ∈ ns, x ∈ NV := fun x hx => (N.oc x hx).1
    have hml : m.length ≤ 4 := by
      have h1 := nodup_subZ N.rB.tri.nodup (m := NV) fun x hx => by
        obtain ⟨p, hp, rfl⟩ := List.mem_map.mp hx
        exact nsl _ (N.rB.nB p hp).1
      rw [List.length_map] at h1
      have h2 : NV.length = 4 := rfl
      have := N.rst.1
      omega
    have hka := ala.len
    refine seqAsg ⟨Nat.zero_le _, fun g hg => ?_⟩
    refine gName_k ?_
    try dsimp only
    have sg := Rd.Same.upd (o := .lst []) hg
    have hg1 : upd H g (.lst []) g = some (.lst []) := upd_same
    generalize upd H g (.lst []) = H1 at sg hg1 ⊢
    refine seqJoin (fun σ' H' => ∃ (nm : List Str) (t4 t5 : Option V), σ' = [some (.ref q), some (.ref a), some (.ref b), some (.ref g), t4, t5, none, none, none, none] ∧ Same H H' ∧ H' g = some (.lst (nm.map V.str)) ∧ nm.Nodup ∧ (∀ x ∈ nm, x ∈ NV) ∧ ∀ x ∈ ns, x ∈ nm) (fun KK hK => ?_) ?_
    · refine ⟨_, rfl, q, rfl, ⟨_, SqL.of (sg _ _ hq)⟩, ?_⟩
      refine for_list (xs := ws) (fun i σ' H' => ∃ (nm : List Str) (t4 t5 : Option V), σ' = [some (.ref q), some (.ref a), some (.ref b), some (.ref g), t4, t5, none, none, none, none] ∧ Same H H' ∧ H' g = some (.lst (nm.map V.str)) ∧ nm.Nodup ∧ (∀ x ∈ nm, x ∈ NV) ∧ ∀ j < i, ∀ p, W[j]? = some p → ∀ x, ocU x p.1 = true ∨ ocU x p.2 = true → x ∈ nm) ⟨[], _, _, rfl, sg, hg1, List.nodup_nil, (fun x hx => nomatch hx), fun j hj => absurd hj (Nat.not_lt_zero _)⟩ ?_ ?_ ?_
      · rintro i σ' H' hi ⟨nm, t4, t5, rfl, s', _⟩
        exact SqL.of (s' _ _ hq)
      · rintro i x σ' H' hx ⟨nm, t4, t5, rfl, s', hgn, nd, hnv, hcov⟩
        refine gName_k ?_
        try dsimp only
        obtain ⟨wp, hwp, pa, u1, u2, rfl, hpa, i1, i2⟩ := (hps.same s').at_ hx
        obtain ⟨⟨w1, o1⟩, w2, o2⟩ := N.wW wp (List.mem_of_getElem? hwp)
        refine ⟨_, rfl, .inl ⟨rfl, _, SqL.of hgn⟩, ?_⟩
        refine ⟨(by show 1 ≤ sizeLine; decide), fun qa hqa => ⟨_, rfl, qa, pa, [.str "pair"], [u1, u2], rfl, rfl, SqT.of upd_same, SqT.of (Rd.Same.upd hqa _ _ hpa), (by simp), (by show 3 ≤ sizeLine; decide), (fun e => by cases e), fun _ qb hqb => ?_⟩⟩
        have sa := (Rd.Same.upd (o := .tup [.str "pair"]) hqa).trans (Rd.Same.upd (o := .tup ([.str "pair"] ++ [u1, u2])) hqb)
        have hb' : upd (upd H' qa (.tup [.str "pair"])) qb (.tup ([.str "pair"] ++ [u1, u2])) qb = some (.tup [.str "pair", u1, u2]) := upd_same
        generalize upd (upd H' qa (.tup [.str "pair"])) qb (.tup ([.str "pair"] ++ [u1, u2])) = Ha at sa hb' ⊢
        have itb : IsT Ha (.bi "pair" wp.1 wp.2) (.ref qb) := ⟨qb, u1, u2, rfl, hb', i1.same sa, i2.same sa⟩
        have wfb : Wf (.bi "pair" wp.1 wp.2) := .bi (by decide +kernel) w1 w2
        have inb : inNs NV (.bi "pair" wp.1 wp.2) := fun y hy => by
          have hy : (ocU y wp.1 || ocU y wp.2) = true := hy
          rcases Bool.or_eq_true _ _ ▸ hy with z | z
          · exact o1.nm y z
          · exact o2.nm y z
        have fewb := inb.few
        have hNV : NV.length = 4 := rfl
        have z1 := o1.sz
        have z2 := o2.sz
        have d1 := o1.dp
        have d2 := o2.dp
        refine ⟨⟨_, _, "unknown", rfl, itb, wfb, (by show max wp.1.dep wp.2.dep + 1 ≤ 60; omega), (by decide), (by show (wp.1.all ++ wp.2.all).length + 1 ≤ 8000000; rw [List.length_append]; omega), (by omega), fun D0 H8 s8 nD0 hD0 => ?_⟩, "unknown", (by decide +kernel), rfl⟩
        refine ⟨D0, rfl, ⟨_, SqL.of hD0⟩, fun D hD => ?_⟩
        have s08 := sa.trans s8
        have hg8 := s08 _ _ hgn
        refine lclF (ts := uniS ((Tr.bi "pair" wp.1 wp.2).txt "unknown")) (fun x => if x ∈ nm then [] else [V.str x]) (fun x => by split <;> simp) (SqL.of hD0) (by rw [List.length_map]) (by rw [List.length_map]; omega) hD (fun j x t1 H2 Q2 hx2 ht2 s2 => ?_) (fun σ H P Q h z => ?_) fun H2 s2 hD2 => ?_
        · rw [List.getElem?_map, ht2] at hx2
          cases hx2
          refine ⟨fun e => ?_, fun c e => ⟨?_, fun z => ?_⟩⟩
          · refine ⟨_, rfl, _, rfl, rd_niS (s2 _ _ hg8) ⟨_, rfl, ?_, rfl⟩⟩
            by_cases hm : t1 ∈ nm
            · rw [decide_eq_true hm]; rfl
            · rw [if_neg hm] at e; cases e
          · refine ⟨_, rfl, _, rfl, rd_niS (s2 _ _ hg8) ⟨_, rfl, ?_, rfl⟩⟩
            by_cases hm : t1 ∈ nm
            · rw [if_pos hm] at e; cases e
            · rw [decide_eq_false hm]; rfl
          · have hc : c = V.str t1 := by
              by_cases hm : t1 ∈ nm
              · rw [if_pos hm] at e; cases e
              · rw [if_neg hm] at e; cases e; rfl
            subst hc
            exact ⟨_, rfl, z⟩
        · obtain ⟨_, h1, _, h2, p, xs, h3, h4, h5, h6, c, h7, h8⟩ := z
          exact ⟨_, h1, _, h2, p, xs, h3, h4, h5, h6, c, h7, h _ _ h8⟩
        · have ef : ∀ l : List Str, (l.flatMap fun x => if x ∈ nm then [] else [V.str x]) = (l.filter fun x => decide (x ∉ nm)).map V.str := fun l => by
            induction l with
            | nil => rfl
            | cons y l ih =>
              rw [List.flatMap_cons, ih, List.filter_cons]
              by_cases hm : y ∈ nm
              · rw [if_pos hm, if_neg (by simpa using hm)]; rfl
              · rw [if_neg hm, if_pos (by simpa using hm)]; rfl
          rw [ef] at hD2
          have ndf : (uniS ((Tr.bi "pair" wp.1 wp.2).txt "unknown")).Nodup := List.Pairwise.imp (fun {a b} h e => by rw [e, ltS_irr] at h; cases h) uniS_asc
          have memU : ∀ x, x ∈ uniS ((Tr.bi "pair" wp.1 wp.2).txt "unknown") ↔ ocU x (.bi "pair" wp.1 wp.2) = true := fun x => uniS_mem.trans ocU_txt
          generalize uniS ((Tr.bi "pair" wp.1 wp.2).txt "unknown") = U at hD2 ndf memU fewb
          have s28 := s08.trans s2
          have hg2 := s28 _ _ hgn
          have hnl := few_NV nd hnv
          have hfl := List.length_filter_le (fun x => decide (x ∉ nm)) U
          refine ⟨g, D, _, _, rfl, rfl, hg2, hD2, (by rw [List.length_map, List.length_map]; omega), ?_⟩
          refine ⟨nm ++ U.filter (fun x => decide (x ∉ nm)), _, _, rfl, fun c o e => ?_, by rw [upd_same, List.map_append], ?_, fun x hx => ?_, fun j hj p hp x hx => ?_⟩
          · rw [upd_ne (ne_of_none e hg)]
            exact s28 _ _ (s' _ _ e)
          · refine List.nodup_append.mpr ⟨nd, ndf.filter _, fun x hx y hy e => ?_⟩
            have := (List.mem_filter.mp hy).2
            rw [← e] at this
            exact (of_decide_eq_true this) hx
          · rcases List.mem_append.mp hx with z | z
            · exact hnv x z
            · exact inb x ((memU x).mp (List.mem_filter.mp z).1)
          · by_cases hji : j < i
            · exact List.mem_append_left _ (hcov j hji p hp x hx)
            · obtain rfl : j = i := by omega
              rw [hwp] at hp
              cases hp
              by_cases hm : x ∈ nm
              · exact List.mem_append_left _ hm
              · refine List.mem_append_right _ (List.mem_filter.mpr ⟨(memU x).mpr ?_, decide_eq_true hm⟩)
                show (ocU x wp.1 || ocU x wp.2) = true
                rw [Bool.or_eq_true]
                exact hx
      · rintro σ' H' ⟨nm, t4, t5, rfl, s', hgn, nd, hnv, hcov⟩
        refine hK _ _ ⟨nm, _, _, rfl, s', hgn, nd, hnv, fun x hx => ?_⟩
        obtain ⟨p, hp, ho⟩ := (N.oc x hx).2
        obtain ⟨j, hj⟩ := List.getElem?_of_mem hp
        exact hcov j (by have := (List.getElem?_eq_some_iff.mp hj).1; omega) p hj x ho
    rintro σ' H2 ⟨nm, t4, t5, rfl, s2, hg2, nd, hnv, hcov⟩
    try dsimp only
    have hnl := few_NV nd hnv
    refine seqJoin (fun σ' H' => ∃ (t6 t7 : Option V), σ' = [some (.ref q), some (.ref a), some (.ref b), some (.ref g), t4, t5, t6, t7, none, none] ∧ Same H2 H') (fun KK hK => ?_) ?_
    · refine ⟨_, rfl, q, rfl, ⟨_, SqL.of (s2 _ _ hq)⟩, ?_⟩
      refine for_list (xs := ws) (fun i σ' H' => ∃ (t6 t7 : Option V), σ' = [some (.ref q), some (.ref a), some (.ref b), some (.ref g), t4, t5, t6, t7, none, none] ∧ Same H2 H') ⟨_, _, rfl, Same.refl _⟩ ?_ ?_ ?_
      · rintro i σ' H' hi ⟨t6, t7, rfl, s'⟩
        exact SqL.of (s' _ _ (s2 _ _ hq))
      · rintro i x σ' H' hx ⟨t6, t7, rfl, s'⟩
        have S' := s2.trans s'
        obtain ⟨wp, hwp, pa, u1, u2, rfl, hpa, i1, i2⟩ := (hps.same S').at_ hx
        have hwm := List.mem_of_getElem? hwp
        obtain ⟨⟨w1, o1⟩, w2, o2⟩ := N.wW wp hwm
        obtain ⟨n1, n2⟩ := N.ni wp hwm
        refine ⟨pa, [u1, u2], rfl, SqT.of hpa, rfl, _, _, rfl, _, _, rfl, rfl, ?_⟩
        try dsimp only
        have d1 := o1.dp
        have d2 := o2.dp
        have al' : Al IsT H' m ka := ala.mono fun t v h => h.same S'
        refine ⟨_, rfl, _, rfl, u1, a, wp.1, look m, rfl, i1, w1, (by omega), Al.dtr (S' _ _ ha) al', fun v1 H3 s3 j1 => ?_⟩
        refine ⟨_, rfl, _, rfl, u2, a, wp.2, look m, rfl, i2.same s3, w2, (by omega), Al.dtr (s3 _ _ (S' _ _ ha)) (al'.mono fun t v h => h.same s3), fun v2 H4 s4 j2 => ?_⟩
        replace j1 := j1.same s4
        rw [rst_fill N.rB.tri N.rst] at j1 j2
        have f1 := res_wf N.rB.wB w1
        have f2 := res_wf N.rB.wB w2
        have e1 := N.resW o1 n1
        have e2 := N.resW o2 n2
        refine rd_neT2 f1.fine (by omega) f2.fine (by omega) j1 j2 ⟨_, rfl, ?_⟩
        rw [decide_eq_true (N.eq wp hwm)]
        refine iteN (by decide) ?_
        exact ⟨_, _, rfl, (s'.trans s3).trans s4⟩
      · rintro σ' H' ⟨t6, t7, rfl, s'⟩
        exact hK _ _ ⟨_, _, rfl, s'⟩
    rintro σ' H3 ⟨t6, t7, rfl, s3⟩
    try dsimp only
    have S3 := s2.trans s3
    have ha3 := S3 _ _ ha
    have hg3 := s3 _ _ hg2
    have al3 : Al IsT H3 m ka := ala.mono fun t v h => h.same S3
    refine seqJoin (fun σ' H' => ∃ (t5 t8 : Option V), σ' = [some (.ref q), some (.ref a), some (.ref b), some (.ref g), t4, t5, t6, t7, t8, none] ∧ Same H3 H') (fun KK hK => ?_) ?_
    · refine ⟨a, _, ha3, trivial, fun od => ?_⟩
      have kf : Kp 0 H3 (upd H3 a (.frz od (.dK ka))) := fun c o hi e => by
        rw [upd_ne (fun z => by rw [z, ha3] at e; cases e; cases hi)]
        exact e
      have ha4 : upd H3 a (.frz od (.dK ka)) a = some (.frz od (.dK ka)) := upd_same
      have off : ∀ c o, c ≠ a → H3 c = some o → upd H3 a (.frz od (.dK ka)) c = some o := fun c o hc e => by rw [upd_ne hc]; exact e
      have nga : g ≠ a := fun z => by rw [z, ha3] at hg3; cases hg3
      have hg4 := off _ _ nga hg3
      generalize upd H3 a (.frz od (.dK ka)) = H4 at kf ha4 off hg4 ⊢
      have al4 : Al IsT H4 m ka := al3.mono fun t v h => h.mono kf
      have undo : ∀ {Hx : Hp}, Same H4 Hx → Same H3 (upd Hx a (.dK ka)) := fun sx c o e => by
        by_cases z : c = a
        · rw [z] at e ⊢
          rw [ha3] at e
          cases e
          exact upd_same
        · rw [upd_ne z]
          exact sx c o (off c o z e)
      refine ⟨_, rfl, a, od, rfl, .inl ⟨ka, ha4, ?_⟩⟩
      refine ⟨fun i n σ Hc => n = ka.length - i ∧ i ≤ ka.length ∧ ∃ (t5 t8 : Option V), σ = [some (.ref q), some (.ref a), some (.ref b), some (.ref g), t4, t5, t6, t7, t8, none] ∧ Same H4 Hc, ⟨_, rfl, Nat.zero_le _, _, _, rfl, Same.refl _⟩, ?_⟩
      rintro i n σ Hc ⟨rfl, hi, t5', t8, rfl, sc⟩
      have hac := sc _ _ ha4
      by_cases hlt : i < ka.length
      · refine .inr ⟨⟨hac, hlt⟩, fun σ' H' => ∃ (t5 t8 : Option V), σ' = [some (.ref q), some (.ref a), some (.ref b), some (.ref g), t4, t5, t6, t7, t8, none] ∧ Same H4 H', fun σ' H' h => ⟨ka.length - (i + 1), by omega, rfl, hlt, h⟩, ?_⟩
        rintro _ Hc ⟨rfl, kk, v0, hk, rfl⟩
        obtain ⟨x, u, hx, rfl, _⟩ := ala.get hk
        refine gName_k ?_
        try dsimp only
        have alc : Al IsT Hc m ka := al4.mono fun t v h => h.same sc
        obtain ⟨v1, ev, r1⟩ := (alc.look (x := x)).1 u (look_get N.rst.2.1 hx)
        have hxm := List.mem_of_getElem? hx
        have eu : u = res B (unk x) := (N.rst.2.2 _ hxm).2
        obtain ⟨s0, es0⟩ := Option.isSome_iff_exists.mp (N.rst.2.2 _ hxm).1
        have hxn : x ∈ ns := (N.rB.nB _ (lookU_mem es0)).1
        have wu : Wf u := by rw [eu]; exact res_wf N.rB.wB (isUnk_NV (nsl x hxn))
        have inu : inNs ns u := by
          rw [eu]
          exact res_in (fun p hp => (N.rB.nB p hp).2) fun y hy => by rw [← ocU_unk.mp hy]; exact hxn
        have zu := N.zB B rfl x hxn
        rw [← eu] at zu
        have fr := res_free (t := unk x) N.rB.tri
        rw [← eu] at fr
        have fewu : (uniS (u.txt "unknown")).length ≤ 4 := by
          have : inNs NV u := fun y hy => nsl y (inu y hy)
          exact this.few
        refine ⟨_, rfl, _, rfl, a, v1, rfl, .inl ⟨ka, .inr x, .inr ⟨od, hac⟩, rfl, ev.symm⟩, ⟨v1, u, "unknown", rfl, r1, wu, by omega, by decide, by omega, by omega, fun D0 H5 s5 nD0 hD0 => ?_⟩, "unknown", by decide +kernel, rfl⟩
        refine ⟨D0, rfl, ⟨_, SqL.of hD0⟩, fun D hD => ?_⟩
        have hac5 := s5 _ _ hac
        have hg5 := s5 _ _ (sc _ _ hg4)
        have al5 : Al IsT H5 m ka := alc.mono fun t v h => h.same s5
        refine lcl (C := 0) (fun i _ v => v = .bl false) (fun _ _ _ _ _ h => h) (SqL.of hD0) (by rw [List.length_map]; omega) hD (fun i y H6 Q6 hy s6 k6 => ?_) fun vs H6 s6 hD6 hlv hvs => ?_
        · rw [List.getElem?_map] at hy
          obtain ⟨z, hz, rfl⟩ := Option.map_eq_some_iff.mp hy
          have hzu : ocU z u = true := ocU_txt.mp (uniS_mem.mp (List.mem_of_getElem? hz))
          have hzB : z ∉ B.map (·.1) := fun hm => by
            obtain ⟨p, hp, e⟩ := List.mem_map.mp hm
            have := fr p hp
            rw [e, hzu] at this
            cases this
          have g0 := (al5.look (x := z)).2 (N.rst.none hzB)
          refine ⟨_, rfl, _, rfl, a, valV ka (.inr z), rfl, .inl ⟨ka, .inr z, .inr ⟨od, s6 _ _ hac5⟩, rfl, rfl⟩, ?_⟩
          rw [g0]
          refine ⟨false, rfl, iteF ?_⟩
          refine ⟨_, rfl, _, rfl, rd_niS (s6 _ _ hg5) ?_⟩
          refine k6 _ _ (Same.refl _) ?_
          rw [decide_eq_true (hcov z (inu z hzu))]
          rfl
        have evs : vs = (List.replicate vs.length false).map V.bl := by
          refine List.ext_getElem? fun j => ?_
          rw [List.getElem?_map, List.getElem?_replicate]
          cases e : vs[j]? with
          | none => rw [if_neg (by have := List.getElem?_eq_none_iff.mp e; omega)]; rfl
          | some v => rw [if_pos (List.getElem?_eq_some_iff.mp e).1, hvs j v e]; rfl
        rw [evs] at hD6
        refine ⟨D, _, rfl, SqL.of hD6, _, rfl, ?_⟩
        have ef : (List.replicate vs.length false).any id = false := by
          rw [List.any_eq_false]
          intro z hz
          rw [List.eq_of_mem_replicate hz]
          decide
        rw [ef]
        refine iteF ?_
        exact ⟨_, _, rfl, (sc.trans s5).trans s6⟩
      · refine .inl ⟨⟨hac, by omega⟩, hac, ?_⟩
        exact hK _ _ ⟨_, _, rfl, undo sc⟩
    rintro σ' H4 ⟨t5', t8, rfl, s4⟩
    try dsimp only
    have S4 := S3.trans s4
    refine seqIfC (fun σ' H' => σ' = [some (.ref q), some (.ref a), some (.ref b), some (.ref g), t4, t5', t6, t7, t8, none] ∧ Same H4 H') ?_ ?_
    · rintro σ' H5 ⟨rfl, s5⟩
      have S5 := S4.trans s5
      refine seqAsg fun C hC => ?_
      refine gName_k ?_
      try dsimp only
      have sC := Rd.Same.upd (o := .dK []) hC
      have hC1 : upd H5 C (.dK []) C = some (.dK []) := upd_same
      generalize upd H5 C (.dK []) = H6 at sC hC1 ⊢
      have S6 := S5.trans sC
      have hg6 := sC _ _ (s5 _ _ (s4 _ _ hg3))
      have nCH : ∀ {c : Addr} {o : HO}, H5 c = some o → c ≠ C := fun {c o} e => ne_of_none e hC
      refine ⟨_, rfl, g, rfl, ⟨_, SqL.of hg6⟩, ?_⟩
      refine for_list (xs := nm.map V.str) (fun i σ Hc => ∃ (kc : List (Key × V)) (lb : Sb) (n : Nat) (t5 : Option V), σ = [some (.ref q), some (.ref a), some (.ref b), some (.ref g), t4, t5, t6, t7, t8, some (.ref C)] ∧ Same H5 Hc ∧ Hc C = some (.dK kc) ∧ Al IsT Hc lb kc ∧ Bn n lb ∧ n ≤ i * 500000 ∧ ∀ z ∈ lb, z.2 = (fun x => res Bd (unk x)) z.1) ⟨[], [], 0, _, rfl, sC, hC1, trivial, ⟨Nat.le_refl _, List.nodup_nil, fun p hp => nomatch hp⟩, Nat.zero_le _, fun p hp => nomatch hp⟩ ?_ ?_ ?_
      · rintro i σ Hc hi ⟨kc, lb, n, t5, rfl, sc, _⟩
        exact SqL.of (sc _ _ (s5 _ _ (s4 _ _ hg3)))
      · rintro i x σ Hc hx ⟨kc, lb, n, t5, rfl, sc, hCc, alc, bn, hnn, hlb⟩
        rw [List.getElem?_map] at hx
        obtain ⟨z, hz, rfl⟩ := Option.map_eq_some_iff.mp hx
        have hzm := List.mem_of_getElem? hz
        have hi4 : i < 4 := by have := (List.getElem?_eq_some_iff.mp hz).1; omega
        have Sc := S5.trans sc
        refine gName_k ?_
        try dsimp only
        have hzN := hnv z hzm
        have wz := isUnk_NV hzN
        -- the two forms
        have m1 : DTr Hc a (look m) := Al.dtr (Sc _ _ ha) (ala.mono fun t v h => h.same Sc)
        have m2 : DTr Hc b (look (Bd.map fun p => (p.1, res Bd p.2))) := Al.dtr (Sc _ _ hb) (alb.mono fun t v h => h.same Sc)
        have ep := rst_get N.rB.tri N.rst z
        have et := rst_get N.rD.tri (rst_self N.rD.tri) z
        refine ⟨_, rfl, a, rfl, m1.isD, _, rfl, _, rfl, (by show 2 ≤ sizeLine; decide), fun q7 hq7 => ?_⟩
        have s7 := Rd.Same.upd (o := .tup [.str "unknown", .str z]) hq7
        have iu7 : IsT (upd Hc q7 (.tup [.str "unknown", .str z])) (unk z) (.ref q7) := ⟨q7, rfl, upd_same⟩
        generalize upd Hc q7 (.tup [.str "unknown", .str z]) = H7 at s7 iu7 ⊢
        obtain ⟨o7, g7, p7, n7⟩ := (m1.same s7).get (x := z)
        refine ⟨o7, g7, ?_⟩
        have iv1 : IsT H7 (res B (unk z)) (o7.getD (.ref q7)) := by
          rw [← ep]
          cases e : look m z with
          | none => rw [n7 e]; exact iu7
          | some u => obtain ⟨v, ev, hv⟩ := p7 u e; rw [ev]; exact hv
        refine ⟨_, rfl, b, rfl, (m2.same s7).isD, _, rfl, _, rfl, (by show 2 ≤ sizeLine; decide), fun q8 hq8 => ?_⟩
        have s8 := Rd.Same.upd (o := .tup [.str "unknown", .str z]) hq8
        have iu8 : IsT (upd H7 q8 (.tup [.str "unknown", .str z])) (unk z) (.ref q8) := ⟨q8, rfl, upd_same⟩
        generalize upd H7 q8 (.tup [.str "unknown", .str z]) = H8 at s8 iu8 ⊢
        obtain ⟨o8, g8, p8, n8⟩ := ((m2.same s7).same s8).get (x := z)
        refine ⟨o8, g8, ?_⟩
        have iv2 : IsT H8 (res Bd (unk z)) (o8.getD (.ref q8)) := by
          rw [← et]
          cases e : look (Bd.map fun p => (p.1, res Bd p.2)) z with
          | none => rw [n8 e]; exact iu8
          | some u => obtain ⟨v, ev, hv⟩ := p8 u e; rw [ev]; exact hv
        have iv1' := iv1.same s8
        generalize o7.getD (.ref q7) = w1 at iv1' ⊢
        generalize o8.getD (.ref q8) = w2 at iv2 ⊢
        have s78 := s7.trans s8
        have wp := res_wf (t := unk z) N.rB.wB wz
        have wt := res_wf (t := unk z) N.rD.wB wz
        have zz : (res B (unk z)).all.length ≤ 419901 ∧ (res B (unk z)).dep ≤ 36 ∧ (res Bd (unk z)).dep ≤ 36 := by
          by_cases hzn : z ∈ ns
          · exact ⟨(N.zB B rfl z hzn).1, (N.zB B rfl z hzn).2, (N.zD Bd rfl z hzn).2⟩
          · have e1 : res B (unk z) = unk z := res_id fun p hp => Bool.eq_false_iff.mpr fun ho => hzn (by rw [ocU_unk.mp ho]; exact (N.rB.nB p hp).1)
            have e2 : res Bd (unk z) = unk z := res_id fun p hp => Bool.eq_false_iff.mpr fun ho => hzn (by rw [ocU_unk.mp ho]; exact (N.rD.nB p hp).1)
            rw [e1, e2]
            exact ⟨by show 1 ≤ 419901; decide, Nat.zero_le _, Nat.zero_le _⟩
        have hnd := all_nod (res B (unk z))
        refine ⟨_, rfl, w1, w2, C, res B (unk z), res Bd (unk z), kc, lb, n, rfl, iv1', iv2, wp, wt, (by omega), (by omega), s78 _ _ hCc, alc.mono (fun t v h => h.same s78), bn, (by omega), fun bb l' kvs' H9 bt hC9 al9 bn9 mr => ⟨_, rfl, ?_⟩⟩
        obtain ⟨r1, r2⟩ := mr
        have esat : hm (fun x => res Bd (unk x)) (res B (unk z)) = res Bd (unk z) := by rw [sat_res N.sat, hm_unk]
        obtain ⟨g1, g2⟩ := mtl_sat (f := fun x => res Bd (unk x)) (res B (unk z)) (res Bd (unk z)) lb esat hlb
        rw [g1] at r1
        subst r1
        refine iteN (by decide) ?_
        refine ⟨kvs', l', _, _, rfl, fun c o e => bt c o (nCH e) (s78 _ _ (sc _ _ e)), hC9, al9, bn9, ?_, ?_⟩
        · rw [Nat.add_mul]
          omega
        · rw [r2 rfl]
          exact g2
      · rintro σ Hc ⟨kc, lb, n, t5, rfl, sc, _⟩
        exact k _ (S5.trans sc)
    · intro tail
      have hb4 := S4 _ _ hb
      have ha4 := S4 _ _ ha
      refine ⟨_, rfl, fun pe hpe => ⟨b, pe, kb, rfl, rfl, Rd.Same.upd hpe _ _ hb4, upd_same, _, rfl, ?_⟩⟩
      have se := Rd.Same.upd (o := .dK []) hpe
      generalize upd H4 pe (.dK []) = H5 at se ⊢
      have hkb := alb.len
      rw [List.length_map] at hkb
      by_cases hBd : Bd = []
      · have hB := N.em hBd
        have hm0 : ka = [] := List.eq_nil_of_length_eq_zero (by have := N.rst.1; rw [hB] at this; have : m.length = 0 := this; omega)
        have hk0 : kb = [] := List.eq_nil_of_length_eq_zero (by rw [hBd] at hkb; exact hkb)
        refine iteP (by rw [hk0]; rfl) ?_
        refine ⟨_, rfl, fun pf hpf => ⟨a, pf, ka, rfl, rfl, Rd.Same.upd hpf _ _ (se _ _ ha4), upd_same, _, rfl, ?_⟩⟩
        refine iteN (by rw [hm0]; decide) (nxt ?_)
        exact tail _ _ ⟨rfl, se.trans (Rd.Same.upd hpf)⟩
      · refine iteN (by
          cases kb with
          | nil => exact absurd (List.eq_nil_of_length_eq_zero hkb.symm) hBd
          | cons _ _ => intro h; cases h) ?_
        refine iteF (nxt ?_)
        exact tail _ _ ⟨rfl, se⟩
end
end Rd
namespace Rd
open PySem L2
theorem Oz.part {t p : Tr} (h : Oz t) (hp : p ∈ t.parts) : Oz p := by
  have h1 := h.sz
  have h2 := h.lf
  have h3 := h.dp
  have h4 : inNs NV p := inNs_parts hp h.nm
  cases t with
  | am k x => cases hp
  | un s a =>
    have hp : p ∈ [a] := hp
    rw [List.mem_singleton.mp hp] at h4 ⊢
    have h1 : a.all.length + 1 ≤ 51 := h1
    have h3 : a.dep + 1 ≤ 9 := h3
    exact ⟨by omega, h2, by omega, h4⟩
  | bi s a b =>
    have h1 : (a.all ++ b.all).length + 1 ≤ 51 := h1
    have h2 : a.lf + b.lf ≤ 18 := h2
    have h3 : max a.dep b.dep + 1 ≤ 9 := h3
    rw [List.length_append] at h1
    have hp : p ∈ [a, b] := hp
    rcases List.mem_cons.mp hp with rfl | hp
    · exact ⟨by omega, by omega, by omega, h4⟩
    · rw [List.mem_singleton.mp hp] at h4 ⊢
      exact ⟨by omega, by omega, by omega, h4⟩
def nsW (W : List (Tr × Tr)) : List Str := NV.filter fun x => W.any fun p => ocU x p.1 || ocU x p.2
theorem nsW_in {W : List (Tr × Tr)} (hW : ∀ w ∈ W, (Wf w.1 ∧ Oz w.1) ∧ Wf w.2 ∧ Oz w.2) : ∀ p ∈ W, inNs (nsW W) p.1 ∧ inNs (nsW W) p.2 := fun p hp => by
  obtain ⟨⟨_, o1⟩, _, o2⟩ := hW p hp
  refine ⟨fun x hx => List.mem_filter.mpr ⟨o1.nm x hx, List.any_eq_true.mpr ⟨p, hp, by rw [hx]; rfl⟩⟩, fun x hx => List.mem_filter.mpr ⟨o2.nm x hx, List.any_eq_true.mpr ⟨p, hp, by rw [hx, Bool.or_true]⟩⟩⟩
theorem two_runs {W : List (Tr × Tr)} (hW : ∀ w ∈ W, (Wf w.1 ∧ Oz w.1) ∧ Wf w.2 ∧ Oz w.2) (hl : W.length ≤ 2) : ∃ n1 o1 n2 o2, UnA actL 45 n1 [] W o1 ∧ Un 45 n2 [] W o2 ∧ ((o1 = none ∧ o2 = none) ∨ ∃ Bd B, o1 = some Bd ∧ o2 = some B ∧ ∀ m, Rst B m → Nrw (nsW W) W B m Bd) := by
  have hin := nsW_in hW
  have n4 : (nsW W).length ≤ 4 := List.length_filter_le _ NV
  have wf : ∀ p ∈ W, Wf p.1 ∧ Wf p.2 := fun p hp => ⟨(hW p hp).1.1, (hW p hp).2.1⟩
  have org : Org (fun t => Oz t ∧ inNs (nsW W) t) (nsW W) := ⟨fun h hp => ⟨h.1.part hp, inNs_parts hp h.2⟩, fun h => h.1.sz, fun h => h.1.lf, fun h => h.1.dp, fun h => h.2⟩
  have hO1 : ∀ p ∈ W, (fun t => Oz t ∧ inNs (nsW W) t) p.1 := fun p hp => ⟨(hW p hp).1.2, (hin p hp).1⟩
  have hO2 : ∀ p ∈ W, (fun t => Oz t ∧ inNs (nsW W) t) p.2 := fun p hp => ⟨(hW p hp).2.2, (hin p hp).2⟩
  obtain ⟨I1, n1, o1, U1, z1⟩ := run_of actL_ok org n4 hl hO1 hO2 wf
  obtain ⟨I2, n2, o2, U2, z2⟩ := run_of act_ok org n4 hl hO1 hO2 wf
  refine ⟨n1, o1, n2, o2, U1, U2, ?_⟩
  have eqs : ∀ {B : Sb}, (∀ p ∈ W, res B p.1 = res B p.2) → ∀ p ∈ W, hm (fun x => res B (unk x)) p.1 = hm (fun x => res B (unk x)) p.2 := fun h p hp => by
    rw [← res_hm, ← res_hm]
    exact h p hp
  cases e1 : o1 with
  | none =>
    cases e2 : o2 with
    | none => exact .inl ⟨rfl, rfl⟩
    | some B =>
      obtain ⟨IB, _, eB⟩ := sound act_ok U2 I2 B e2
      obtain ⟨B', e, _⟩ := general actL_ok U1 I1 (f := fun x => res B (unk x)) (fun p hp => nomatch hp) (eqs eB)
      rw [e1] at e
      cases e
  | some Bd =>
    obtain ⟨ID, _, eD⟩ := sound actL_ok U1 I1 Bd e1
    obtain ⟨B, e, sat⟩ := general act_ok U2 I2 (f := fun x => res Bd (unk x)) (fun p hp => nomatch hp) (eqs eD)
    obtain ⟨IB, _, eB⟩ := sound act_ok U2 I2 B e
    rw [e]
    refine .inr ⟨Bd, B, rfl, rfl, fun m rst => ⟨hW, hl, fun x hx => ?_, hin, IB, ID, rst, eB, sat, fun hd => ?_, by rw [← e]; exact z2, by rw [← e1]; exact z1⟩⟩
    · obtain ⟨a, b⟩ := List.mem_filter.mp hx
      obtain ⟨p, hp, ho⟩ := List.any_eq_true.mp b
      exact ⟨a, p, hp, by rw [Bool.or_eq_true] at ho; exact ho⟩
    · subst hd
      cases B with
      | nil => rfl
      | cons p B =>
        exfalso
        have h1 := sat p List.mem_cons_self
        have h1 : unk p.1 = hm unk p.2 := h1
        rw [hm_self] at h1
        have h2 := tri_ix (i := 0) (j := 0) (p := p) (q := p) IB.tri rfl rfl (Nat.le_refl _)
        rw [← h1, show ocU p.1 (unk p.1) = true from ocU_unk.mpr rfl] at h2
        cases h2
def failB : Nat → Sb → List (Tr × Tr) → Bool
  | 0, _, _ => false
  | f + 1, B, W => match W.getLast? with
    | none => false
    | some p => decide ((res B p.1).dep ≤ 45) && decide ((res B p.1).all.length ≤ 8000000) && decide ((res B p.2).dep ≤ 45) && decide ((res B p.2).all.length ≤ 8000000) && match act (res B p.1) (res B p.2) with
      | .fail => true
      | .drop => failB f B W.dropLast
      | .bind x t => decide (B.length < 60) && failB f (B ++ [(x, t)]) W.dropLast
      | .more ps => decide (W.dropLast.length + 2 ≤ 16000000) && failB f B (W.dropLast ++ ps)
theorem failB_un : ∀ (f : Nat) (B : Sb) (W : List (Tr × Tr)), failB f B W = true → ∃ n, Un 45 n B W none
  | 0, _, _, h => by cases h
  | f + 1, B, W, h => by
    rcases pops W with rfl | ⟨W', ⟨l, r⟩, rfl⟩
    · cases h
    · rw [failB, List.getLast?_concat, List.dropLast_concat] at h
      dsimp only at h
      simp only [Bool.and_eq_true, decide_eq_true_eq] at h
      obtain ⟨⟨⟨⟨h1, h2⟩, h3⟩, h4⟩, h5⟩ := h
      cases e : act (res B l) (res B r) with
      | fail => exact ⟨_, .fl ⟨h1, h2⟩ ⟨h3, h4⟩ e⟩
      | drop =>
        rw [e] at h5
        obtain ⟨n, k⟩ := failB_un f _ _ h5
        exact ⟨_, .dr ⟨h1, h2⟩ ⟨h3, h4⟩ e k⟩
      | bind x t =>
        rw [e] at h5
        simp only [Bool.and_eq_true, decide_eq_true_eq] at h5
        obtain ⟨n, k⟩ := failB_un f _ _ h5.2
        exact ⟨_, .bd ⟨h1, h2⟩ ⟨h3, h4⟩ e h5.1 k⟩
      | more ps =>
        rw [e] at h5
        simp only [Bool.and_eq_true, decide_eq_true_eq] at h5
        obtain ⟨n, k⟩ := failB_un f _ _ h5.2
        exact ⟨_, .mr ⟨h1, h2⟩ ⟨h3, h4⟩ e h5.1 k⟩
def lx : Tr := unk "x"
def ly : Tr := unk "y"
def lz : Tr := unk "z"
def lw : Tr := .am "word" "a"
def ring1 : List (Tr × Tr) := [(lx, .bi "pair" ly lw), (ly, .bi "seal" lx lw)]
def ring2 : List (Tr × Tr) := [(lx, .un "mark" ly), (lz, .un "mark" lx), (ly, .bi "pair" lz lw)]
def ring3 : List (Tr × Tr) := [(lx, .un "open" lx)]
def ring4 : List (Tr × Tr) := [(.bi "pair" lx lw, .bi "pair" ly lx), (ly, .bi "seal" lw lx), (lx, lw)]
theorem ring_un : ∀ W ∈ [ring1, ring2, ring3, ring4], ∃ n, Un 45 n [] W none := by
  have h : ([ring1, ring2, ring3, ring4].all fun W => failB 8 [] W) = true := by decide +kernel
  exact fun W hW => failB_un 8 [] W (List.all_eq_true.mp h W hW)
theorem lx_wf : Wf lx := isUnk_NV (by decide +kernel)
theorem ly_wf : Wf ly := isUnk_NV (by decide +kernel)
theorem lz_wf : Wf lz := isUnk_NV (by decide +kernel)
theorem lw_wf : Wf lw := .am (.inl ⟨rfl, by decide +kernel⟩)
theorem inNV_of {t : Tr} (h : ((t.txt "unknown").all fun x => decide (x ∈ NV)) = true) : inNs NV t := fun x hx => of_decide_eq_true (List.all_eq_true.mp h x (ocU_txt.mpr hx))
theorem ring_ok : ∀ W ∈ [ring1, ring2, ring3, ring4], (∀ p ∈ W, Wf p.1 ∧ Wf p.2) ∧ (∀ p ∈ W, inNs NV p.1 ∧ inNs NV p.2) ∧ W.length ≤ 3 := fun W hW => by
  refine ⟨?_, ?_, ?_⟩
  · have pr : ∀ {s : Str} {a b : Tr}, s ∈ (["pair", "seal"] : List Str) → Wf a → Wf b → Wf (.bi s a b) := fun h => .bi h
    have m1 : ("pair" : Str) ∈ (["pair", "seal"] : List Str) := by decide +kernel
    have m2 : ("seal" : Str) ∈ (["pair", "seal"] : List Str) := by decide +kernel
    have m3 : ("mark" : Str) ∈ (["mark", "open", "own"] : List Str) := by decide +kernel
    have m4 : ("open" : Str) ∈ (["mark", "open", "own"] : List Str) := by decide +kernel
    rcases List.mem_cons.mp hW with rfl | hW
    · intro p hp
      rcases List.mem_cons.mp hp with rfl | hp
      · exact ⟨lx_wf, .bi m1 ly_wf lw_wf⟩
      · rw [List.mem_singleton.mp hp]
        exact ⟨ly_wf, .bi m2 lx_wf lw_wf⟩
    rcases List.mem_cons.mp hW with rfl | hW
    · intro p hp
      rcases List.mem_cons.mp hp with rfl | hp
      · exact ⟨lx_wf, .un m3 ly_wf⟩
      rcases List.mem_cons.mp hp with rfl | hp
      · exact ⟨lz_wf, .un m3 lx_wf⟩
      · rw [List.mem_singleton.mp hp]
        exact ⟨ly_wf, .bi m1 lz_wf lw_wf⟩
    rcases List.mem_cons.mp hW with rfl | hW
    · intro p hp
      rw [List.mem_singleton.mp hp]
      exact ⟨lx_wf, .un m4 lx_wf⟩
    · rw [List.mem_singleton.mp hW]
      intro p hp
      rcases List.mem_cons.mp hp with rfl | hp
      · exact ⟨.bi m1 lx_wf lw_wf, .bi m1 ly_wf lx_wf⟩
      rcases List.mem_cons.mp hp with rfl | hp
      · exact ⟨ly_wf, .bi m2 lw_wf lx_wf⟩
      · rw [List.mem_singleton.mp hp]
        exact ⟨lx_wf, lw_wf⟩
  · have h : ([ring1, ring2, ring3, ring4].all fun W => W.all fun p => ((p.1.txt "unknown").all fun x => decide (x ∈ NV)) && ((p.2.txt "unknown").all fun x => decide (x ∈ NV))) = true := by decide +kernel
    intro p hp
    have := List.all_eq_true.mp (List.all_eq_true.mp h W hW) p hp
    rw [Bool.and_eq_true] at this
    exact ⟨inNV_of this.1, inNV_of this.2⟩
  · have h : ([ring1, ring2, ring3, ring4].all fun W => decide (W.length ≤ 3)) = true := by decide +kernel
    exact of_decide_eq_true (List.all_eq_true.mp h W hW)
section
variable {K : PySem.W.Frag}
theorem PrL.mono {H H' : Hp} {p : Tr × Tr} {v : V} (k : Kp (He.ga K "Letter") H H') (h : PrL K H p v) : PrL K H' p v := by
  obtain ⟨a, b1, b2, u1, u2, e, h1, h2, h3, h4, h5⟩ := h
  exact ⟨a, b1, b2, u1, u2, e, k _ _ rfl h1, h2.mono k, h3.mono k, h4.mono k, h5.mono k⟩
theorem PLs.mono {H H' : Hp} {W : List (Tr × Tr)} {vs : List V} (k : Kp (He.ga K "Letter") H H') (h : PLs K H W vs) : PLs K H' W vs := ⟨h.len, fun i p v a b => (h.get i p v a b).mono k⟩
theorem PLs.same {H H' : Hp} {W : List (Tr × Tr)} {vs : List V} (k : Same H H') (h : PLs K H W vs) : PLs K H' W vs := h.mono (Kp.of_same k)
theorem PLs.nil {H : Hp} : PLs K H [] [] := ⟨rfl, fun i p v h => by simp at h⟩
theorem PLs.snoc {H : Hp} {W : List (Tr × Tr)} {vs : List V} {w : Tr × Tr} {v : V} (h : PLs K H W vs) (g : PrL K H w v) : PLs K H (W ++ [w]) (vs ++ [v]) := by
  have hl := h.len
  refine ⟨by rw [List.length_append, List.length_append, hl]; rfl, fun i p u a b => ?_⟩
  by_cases hi : i < W.length
  · rw [List.getElem?_append_left hi] at a
    rw [List.getElem?_append_left (by omega)] at b
    exact h.get i p u a b
  · rw [List.getElem?_append_right (by omega)] at a
    rw [List.getElem?_append_right (by omega)] at b
    rw [hl] at b
    cases e : i - W.length with
    | zero =>
      rw [e] at a b
      cases a
      cases b
      exact g
    | succ j =>
      rw [e] at a
      simp at a
theorem PrL.of {H : Hp} {q x1 x2 : Addr} {t1 t2 : Tr} (h : H q = some (.tup [.ref x1, .ref x2])) (h1 : IsLet K H t1 (.ref x1)) (h2 : IsLet K H t2 (.ref x2)) : PrL K H (t1, t2) (.ref q) := by
  obtain ⟨a, u, e, i1, j1⟩ := h1
  cases e
  obtain ⟨a, u2, e, i2, j2⟩ := h2
  cases e
  exact ⟨q, x1, x2, u, u2, rfl, h, i1, i2, j1, j2⟩
theorem rd_bin {H : Hp} {t1 t2 : Tr} {x1 x2 : Addr} {s : Str} {Q : VK} {E : XK} (h1 : IsLet K H t1 (.ref x1)) (h2 : IsLet K H t2 (.ref x2)) (k : ∀ x H', Same H H' → IsLet K H' (.bi s t1 t2) (.ref x) → Q (.ref x) H') :
    ∃ a b dx dy fs gs, V.ref x1 = .ref a ∧ V.ref x2 = .ref b ∧ H a = some (.ins (He.ga K "Letter") dx fs) ∧ H b = some (.ins (He.ga K "Letter") dy gs) ∧ sp_bin K s [.ref a, .ref b] H Q E := by
  obtain ⟨a, u, e, ⟨dx, i1⟩, j1⟩ := h1
  cases e
  obtain ⟨b, u2, e, ⟨dy, i2⟩, j2⟩ := h2
  cases e
  exact ⟨x1, x2, dx, dy, _, _, rfl, rfl, i1, i2, x1, x2, u, u2, rfl, ⟨dx, i1⟩, ⟨dy, i2⟩, fun x q H' s' hl hq => k x H' s' ⟨x, _, rfl, hl, q, u, u2, rfl, hq, j1.same s', j2.same s'⟩⟩
theorem rd_uo {H : Hp} {t1 : Tr} {x1 : Addr} {s : Str} {Q : VK} {E : XK} (h1 : IsLet K H t1 (.ref x1)) (k : ∀ x H', Same H H' → IsLet K H' (.un s t1) (.ref x) → Q (.ref x) H') :
    ∃ a dx fs, V.ref x1 = .ref a ∧ H a = some (.ins (He.ga K "Letter") dx fs) ∧ sp_one K s [.ref a] H Q E := by
  obtain ⟨a, u, e, ⟨dx, i1⟩, j1⟩ := h1
  cases e
  exact ⟨x1, dx, _, rfl, i1, x1, u, rfl, ⟨dx, i1⟩, fun x q H' s' hl hq => k x H' s' ⟨x, _, rfl, hl, q, u, rfl, hq, j1.same s'⟩⟩
end
end Rd
namespace Rd
open PySem L2
structure L4 (K : PySem.W.Frag) (ax ay az aw : Addr) (H : Hp) : Prop where
  x : IsLet K H lx (.ref ax)
  y : IsLet K H ly (.ref ay)
  z : IsLet K H lz (.ref az)
  w : IsLet K H lw (.ref aw)
theorem L4.same {K : PySem.W.Frag} {ax ay az aw : Addr} {H H' : Hp} (h : L4 K ax ay az aw H) (s : Same H H') : L4 K ax ay az aw H' := ⟨h.x.same s, h.y.same s, h.z.same s, h.w.same s⟩
theorem rd_mkA2 {K : PySem.W.Frag} {H1 : Hp} {x dx : Addr} {z k y : Str} {R : Hp → Prop} {E : XK} (hz : z.length ≤ 200000) (ha : atomOf z = some (k, y)) (nx : H1 x = none) (ndx : H1 dx = none) (ne : dx ≠ x) (kk : ∀ H', Same H1 H' → IsLet K H' (.am k y) (.ref x) → R H') :
    sp_Linit K (.ref x :: ([.str z] ++ [.non])) (upd (upd H1 dx (.own x)) x (.ins (He.ga K "Letter") dx [])) (fun v H2 => v = .non ∧ R H2) E := by
  refine ⟨x, dx, z, .non, rfl, upd_same, .inr ⟨rfl, hz, fun k' y' p H' b' es np hp hx => ⟨rfl, ?_⟩, fun d H' b' en _ _ => ?_⟩⟩
  · rw [ha] at es
    cases es
    refine kk H' (fun b o e => b' b o (ne_of_none e nx) ?_) ⟨x, .ref p, rfl, ⟨dx, hx⟩, p, rfl, hp⟩
    rw [upd_ne (ne_of_none e nx), upd_ne (ne_of_none e ndx)]
    exact e
  · rw [ha] at en
    cases en
def spLaw (K : PySem.W.Frag) : Sp := fun vs H Q _ => ∃ (a : Addr) (ns : List Int), vs = [.ref a] ∧ SqL K H a (ns.map V.int) ∧ ns.length ≤ 63 ∧ ∀ H', Q (.bl true) H'
section
variable {P : Program} {w : World} {K : PySem.W.Frag} {mg : Str → Option Value} {base : Heap}
abbrev s_law : Stmt := top 48
theorem sc_law : FnScope ["_law_script", "_law_k", "_law_stream_here", "_law_pairs_here", "_law_due", "_law_told", "_law_one", "_law_other", "_law_name_here", "_law_x", "_law_y", "_law_z", "_law_w", "_law_rings", "_law_row"] ["_law_script"] (defScope s_law) := ⟨rfl, rfl, rfl, by decide +kernel, rfl, by decide +kernel, by decide +kernel⟩
theorem ok_law {f : Addr} {fd : FuncData} (F : FunD K "law" "law" (defArgs s_law) (defBody s_law) (defScope s_law) [] [] f fd) (T : Tx w K mg) : FnOk P w K mg base CX0 70 f fd ["_law_script"] (spLaw K) := by
  refine F.ok sc_law (fun vs H Q E h => ?_) (fun cdv A outer s H vs Q E hr h => ?_)
  · obtain ⟨a, ns, rfl, _⟩ := h
    rfl
  · obtain ⟨a, ns, rfl, hS, hn, k⟩ := h
    refine ⟨_, PSs.nox (pss_cons (ps_for PassesOwn.never rfl (pi_range1 rfl T.z_range (pa_cons pe_int pa_nil)) (pg_name (i := 1) sc_law.nd rfl (Or.inl rfl))
  (pss_cons (ps_set (i := 2) sc_law.nd rfl (Or.inl rfl) (pe_fk (ok__law_stream T) (hr.mono (by omega)) rfl pass0 (pa_cons (pv 0) (pa_cons (pv 1) pa_nil))))
  (pss_cons (ps_set (i := 3) sc_law.nd rfl (Or.inl rfl) (pe_fk (ok__law_pairs T) (hr.mono (by omega)) rfl pass0 (pa_cons (pv 2) pa_nil)))
  (pss_cons (ps_set (i := 4) sc_law.nd rfl (Or.inl rfl) (pe_fk (ok__law_unified T 45) (hr.mono (by omega)) rfl pass0 (pa_cons (pv 3) pa_nil)))
  (pss_cons (ps_set (i := 5) sc_law.nd rfl (Or.inr rfl) (pe_fk (ok_narrowest T 45) (hr.mono (by omega)) rfl pass0 (pa_cons (pe_lc (own := [("_law_one", 6), ("_law_other", 7)])  (tt := tYes) (by rfl) sc_law.nd (pi_list (pv 3)) (blkOk_by (own := [("_law_one", 6), ("_law_other", 7)]) (N := ["_law_script", "_law_k", "_law_stream_here", "_law_pairs_here", "_law_due", "_law_told", "_law_one", "_law_other", "_law_name_here", "_law_x", "_law_y", "_law_z", "_law_w", "_law_rings", "_law_row"]) (sc := defScope s_law) (by decide +kernel)) (fun _ _ _ _ _ => (pg_tupk (K := K) (n := 2) rfl rfl (pgs_cons (pg_name (i := 6) sc_law.nd rfl (Or.inl rfl)) (pgs_cons (pg_name (i := 7) sc_law.nd rfl (Or.inl rfl)) pgs_nil)))) (fun _ _ _ _ _ => pts_nil) (fun _ _ _ _ _ => (pe_tup (pa_cons (pe_fk (ok__law_letter T 9) (hr.mono (by omega)) rfl pass0 (pa_cons (pv 6) pa_nil)) (pa_cons (pe_fk (ok__law_letter T 9) (hr.mono (by omega)) rfl pass0 (pa_cons (pv 7) pa_nil)) pa_nil))))) pa_nil)))
  (pss_one (ps_if (PW.pt (pw_or (pt_cmpR op_isN (pv 5) pe_non (nomark _)) (pw_or1 (pt_cmpR op_isN (pv 4) pe_non (nomark _)))))
  (pss_one (ps_if (PW.pt (pw_or (pt_cmpR op_notN (pv 5) pe_non (nomark _)) (pw_or1 (pt_cmpR op_notN (pv 4) pe_non (nomark _)))))
  (pss_one (ps_ret pe_bl))
  pss_nil))
  (pss_one (ps_if (pt_not (pt_val (pe_fk (ok__law_is_narrow T) (hr.mono (by omega)) rfl pass0 (pa_cons (pv 3) (pa_cons (pe_callTy (call_dictP rfl) (by rfl) T.z_dict (by decide +kernel) (pa_cons (pe_lock (pe_lc (own := [("_law_name_here", 8)]) (g := gName 8) (tt := tYes) (by rfl) sc_law.nd (pi_keys (pv 5)) (blkOk_by (own := [("_law_name_here", 8)]) (N := ["_law_script", "_law_k", "_law_stream_here", "_law_pairs_here", "_law_due", "_law_told", "_law_one", "_law_other", "_law_name_here", "_law_x", "_law_y", "_law_z", "_law_w", "_law_rings", "_law_row"]) (sc := defScope s_law) (by decide +kernel)) (fun _ _ _ _ _ => (pg_name (i := 8) sc_law.nd rfl (Or.inl rfl))) (fun _ _ _ _ _ => pts_nil) (fun _ _ _ _ _ => (pe_tup (pa_cons (pv 8) (pa_cons (pe_fm0k (K := K) rfl (pe_dget (hu_of hr) (pv 5) (pv 8) (fun _ _ => rfl)) T.k_Letter (ok_form T) (hr.mono (by omega)) pass0) pa_nil)))))) pa_nil)) (pa_cons (pv 4) pa_nil))))))
  (pss_one (ps_ret pe_bl))
  pss_nil)))))))))
  (pss_cons (ps_asg (pe_tup (pa_cons (pe_mk1 (ok_Letter T) (hr.mono (by omega)) (by rfl) passN (pa_cons pe_str pa_nil)) (pa_cons (pe_mk1 (ok_Letter T) (hr.mono (by omega)) (by rfl) passN (pa_cons pe_str pa_nil)) (pa_cons (pe_mk1 (ok_Letter T) (hr.mono (by omega)) (by rfl) passN (pa_cons pe_str pa_nil)) (pa_cons (pe_mk1 (ok_Letter T) (hr.mono (by omega)) (by rfl) passN (pa_cons pe_str pa_nil)) pa_nil))))) (pg_tup rfl (pgs_cons (pg_name (i := 9) sc_law.nd rfl (Or.inl rfl)) (pgs_cons (pg_name (i := 10) sc_law.nd rfl (Or.inl rfl)) (pgs_cons (pg_name (i := 11) sc_law.nd rfl (Or.inl rfl)) (pgs_cons (pg_name (i := 12) sc_law.nd rfl (Or.inl rfl)) pgs_nil))))))
  (pss_cons (ps_set (i := 13) sc_law.nd rfl (Or.inl rfl) (pe_lst (pa_cons (pe_lst (pa_cons (pe_tup (pa_cons (pv 9) (pa_cons (pe_bo (pv 10) (pv 12) T.f_Letter (ok_Ladd T) (hr.mono (by omega)) (fun _ => at0)) pa_nil))) (pa_cons (pe_tup (pa_cons (pv 10) (pa_cons (pe_bo (pv 9) (pv 12) T.f_Letter (ok_Lmul T) (hr.mono (by omega)) (fun _ => at0)) pa_nil))) pa_nil))) (pa_cons (pe_lst (pa_cons (pe_tup (pa_cons (pv 9) (pa_cons (pe_uo (pv 10) (ok_Linvert T) (hr.mono (by omega)) (fun _ => at0) (.inl ⟨rfl, rfl⟩)) pa_nil))) (pa_cons (pe_tup (pa_cons (pv 11) (pa_cons (pe_uo (pv 9) (ok_Linvert T) (hr.mono (by omega)) (fun _ => at0) (.inl ⟨rfl, rfl⟩)) pa_nil))) (pa_cons (pe_tup (pa_cons (pv 10) (pa_cons (pe_bo (pv 11) (pv 12) T.f_Letter (ok_Ladd T) (hr.mono (by omega)) (fun _ => at0)) pa_nil))) pa_nil)))) (pa_cons (pe_lst (pa_cons (pe_tup (pa_cons (pv 9) (pa_cons (pe_uo (pv 9) (ok_Lpos T) (hr.mono (by omega)) (fun _ => at0) (.inr (.inl ⟨rfl, rfl⟩))) pa_nil))) pa_nil)) pa_nil)))))
  (pss_cons (ps_expr (pe_bm PySem.F.plainAttrs_list PySem.F.slot_list_append PySem.F.type_list_append mt_append (pv 13) (pa_cons (pe_lst (pa_cons (pe_tup (pa_cons (pe_bo (pv 9) (pv 12) T.f_Letter (ok_Ladd T) (hr.mono (by omega)) (fun _ => at0)) (pa_cons (pe_bo (pv 10) (pv 9) T.f_Letter (ok_Ladd T) (hr.mono (by omega)) (fun _ => at0)) pa_nil))) (pa_cons (pe_tup (pa_cons (pv 10) (pa_cons (pe_bo (pv 12) (pv 9) T.f_Letter (ok_Lmul T) (hr.mono (by omega)) (fun _ => at0)) pa_nil))) (pa_cons (pe_tup (pa_cons (pv 9) (pa_cons (pv 12) pa_nil))) pa_nil)))) pa_nil)))
  (pss_one (ps_ret (pe_and (pe_cmpR (op_eqE hr.units65) (pe_fk (ok_narrowest T 45) (hr.mono (by omega)) rfl pass0 (pa_cons (pe_lst pa_nil) pa_nil)) pe_dnewK (nomark _)) (pe_one (pe_callB (cr_all rfl) (by rfl) T.z_all (by decide +kernel) (pa_cons (pe_lc (own := [("_law_row", 14)]) (g := gName 14) (tt := tYes) (by rfl) sc_law.nd (pi_list (pv 13)) (blkOk_by (own := [("_law_row", 14)]) (N := ["_law_script", "_law_k", "_law_stream_here", "_law_pairs_here", "_law_due", "_law_told", "_law_one", "_law_other", "_law_name_here", "_law_x", "_law_y", "_law_z", "_law_w", "_law_rings", "_law_row"]) (sc := defScope s_law) (by decide +kernel)) (fun _ _ _ _ _ => (pg_name (i := 14) sc_law.nd rfl (Or.inl rfl))) (fun _ _ _ _ _ => pts_nil) (fun _ _ _ _ _ => (pe_cmpR op_isN (pe_fk (ok_narrowest T 45) (hr.mono (by omega)) rfl pass0 (pa_cons (pv 14) pa_nil)) pe_non (nomark _)))) pa_nil)))))))))), ?_⟩
    have big : 16777216 ≤ sizeLine := by decide
    refine seqJoin (fun σ' H' => ∃ (t1 t2 t3 t4 t5 t6 t7 t8 : Option V), σ' = [some (.ref a), t1, t2, t3, t4, t5, t6, t7, t8, none, none, none, none, none, none]) (fun KK hK => ?_) ?_
    · refine ⟨((3 : Nat) : Int), rfl, by decide, by decide, for_range (n := 3) (fun i σ H => SqL K H a (ns.map V.int) ∧ ∃ (t1 t2 t3 t4 t5 t6 t7 t8 : Option V), σ = [some (.ref a), t1, t2, t3, t4, t5, t6, t7, t8, none, none, none, none, none, none]) ⟨hS, _, _, _, _, _, _, _, _, rfl⟩ ?_ ?_⟩
      · rintro i σ H2 hi ⟨hS2, t1, t2, t3, t4, t5, t6, t7, t8, rfl⟩
        refine gName_k ?_
        try dsimp only
        refine seqAsg ⟨_, rfl, _, rfl, a, ns, _, rfl, hS2, hn, (by omega), (by omega), fun p xs H3 s3 np hp3 hx3 => ?_⟩
        refine gName_k ?_
        try dsimp only
        refine seqAsg ⟨_, rfl, p, xs, 0, rfl, hp3, hx3.mono (by decide), fun q ws W H4 b4 nq4 hq4 hps4 hwl hW => ?_⟩
        refine gName_k ?_
        try dsimp only
        obtain ⟨n1, o1, n2, o2, U1, U2, hO⟩ := two_runs hW hwl
        have hin := nsW_in hW
        have S4 : Same H2 H4 := But.fresh s3 np b4
        have n4 : (nsW W).length ≤ 4 := List.length_filter_le _ NV
        have wf : ∀ p ∈ W, Wf p.1 ∧ Wf p.2 := fun p hp => ⟨(hW p hp).1.1, (hW p hp).2.1⟩
        have hwsl := hps4.len
        refine seqJoin (fun σ' H' => ∃ v4 : V, σ' = [some (.ref a), some (.int (0 + (i : Int))), some (.ref p), some (.ref q), some v4, t5, t6, t7, t8, none, none, none, none, none, none] ∧ Same H4 H' ∧ ((o1 = none ∧ v4 = .non) ∨ ∃ Bd b kb, o1 = some Bd ∧ v4 = .ref b ∧ H' b = some (.dK kb) ∧ Al IsT H' (Bd.map fun p => (p.1, res Bd p.2)) kb)) (fun KK hK => ?_) ?_
        · refine ⟨_, rfl, q, ws, W, n1, o1, rfl, hq4, hps4, wf, by decide, ⟨nsW W, by omega, hin⟩, U1, by omega, fun e H' s' => ?_, fun Bd e tri wB sz b kb H' s' nb hb al => ?_⟩
          · exact gName_k (hK _ _ ⟨_, rfl, s', .inl ⟨e, rfl⟩⟩)
          · exact gName_k (hK _ _ ⟨_, rfl, s', .inr ⟨Bd, b, kb, e, rfl, hb, al⟩⟩)
        rintro σ' H5 ⟨v4, rfl, s5, h5⟩
        try dsimp only
        have hq5 := s5 _ _ hq4
        have hps5 := hps4.same s5
        refine seqJoin (fun σ' H' => ∃ v5 : V, σ' = [some (.ref a), some (.int (0 + (i : Int))), some (.ref p), some (.ref q), some v4, some v5, t6, t7, t8, none, none, none, none, none, none] ∧ Same H5 H' ∧ ((o2 = none ∧ v5 = .non) ∨ ∃ B m t kt, o2 = some B ∧ Rst B m ∧ v5 = .ref t ∧ H' t = some (.dK kt) ∧ Al (IsLet K) H' m kt)) (fun KK hK => ?_) ?_
        · refine ⟨_, rfl, q, rfl, ⟨_, SqL.of hq5⟩, fun D3 hD3 => ?_⟩
          refine lc_list (K := K) (a := q) (xs := ws) (fun i2 Hc => ∃ us, Same H5 Hc ∧ Hc D3 = some (.lst us) ∧ PLs K Hc (W.take i2) us) ⟨[], Rd.Same.upd hD3, upd_same, PLs.nil⟩ (fun i2 Hc _ ⟨_, sc, _⟩ => SqL.of (sc _ _ hq5)) ?_ ?_
          · rintro i2 x Hc hx ⟨us2, sc, hDc, hpc⟩
            obtain ⟨wp, hwp, pa, u1, u2, rfl, hpa, i1, j2⟩ := (hps5.same sc).at_ hx
            have etk : W.take (i2 + 1) = W.take i2 ++ [wp] := by rw [List.take_succ, hwp]; rfl
            obtain ⟨⟨w1, z1⟩, w2, z2⟩ := hW wp (List.mem_of_getElem? hwp)
            refine ⟨pa, _, rfl, SqT.of hpa, rfl, _, _, rfl, _, _, rfl, rfl, rfl, ?_⟩
            unfold tYes
            refine iteT ⟨_, rfl, _, wp.1, rfl, i1, w1, z1.dp, fun v1 Ha sa il1 => ⟨_, rfl, _, wp.2, rfl, j2.same sa, w2, z2.dp, fun v2 Hb sb il2 => ?_⟩⟩
            obtain ⟨x1, y1, rfl, g1, g2⟩ := il1.same sb
            obtain ⟨x2, y2, rfl, g3, g4⟩ := il2
            refine ⟨(by show 2 ≤ sizeLine; decide), fun q2 hq2 => ?_⟩
            have sq := Rd.Same.upd (o := .tup [.ref x1, .ref x2]) hq2
            have S3 := (sa.trans sb).trans sq
            have hD4 := S3 _ _ hDc
            have hvl2 := hpc.len
            rw [List.length_take] at hvl2
            have kp := Kp.upd_lst (C := He.ga K "Letter") (ys := us2 ++ [.ref q2]) hD4
            refine ⟨us2, hD4, by omega, us2 ++ [.ref q2], fun c o e => ?_, upd_same, ?_⟩
            · rw [upd_ne (ne_of_none e hD3)]
              exact S3 _ _ (sc _ _ e)
            · rw [etk]
              have hpr : PrL K (upd Hb q2 (.tup [.ref x1, .ref x2])) wp (.ref q2) := ⟨q2, x1, x2, y1, y2, rfl, upd_same, g1.same sq, g3.same sq, g2.same sq, g4.same sq⟩
              exact (hpc.mono ((Kp.of_same S3).trans kp)).snoc (hpr.mono kp)
          · rintro H13 ⟨us2, s13, hD13, hpl13⟩
            rw [hwsl, List.take_length] at hpl13
            refine ⟨D3, us2, W, n2, o2, rfl, hD13, hpl13, wf, by decide, ⟨nsW W, by omega, hin⟩, U2, by omega, fun e H' s' => ?_, fun B e tri wB t kt m H' s' nt ht al rst => ?_⟩
            · exact gName_k (hK _ _ ⟨_, rfl, s13.trans s', .inl ⟨e, rfl⟩⟩)
            · exact gName_k (hK _ _ ⟨_, rfl, s13.trans s', .inr ⟨B, m, t, kt, e, rst, rfl, ht, al⟩⟩)
        rintro σ' H6 ⟨v5, rfl, s6, h6⟩
        try dsimp only
        have S6 : Same H2 H6 := (S4.trans s5).trans s6
        rcases hO with ⟨rfl, rfl⟩ | ⟨Bd, B, rfl, rfl, nrw⟩
        · rcases h5 with ⟨_, rfl⟩ | ⟨_, _, _, e, _⟩
          case inr => cases e
          rcases h6 with ⟨_, rfl⟩ | ⟨_, _, _, _, e, _⟩
          case inr => cases e
          refine ⟨_, rfl, rfl, _, rfl, iteP (decide_eq_true rfl) (iteT ?_)⟩
          refine ⟨_, rfl, rfl, _, rfl, iteN (by rw [decide_eq_true rfl]; decide) ?_⟩
          refine ⟨_, rfl, rfl, _, rfl, iteN (by rw [decide_eq_true rfl]; decide) ?_⟩
          exact ⟨SqL.kept hS2 S6, _, _, _, _, _, _, _, _, rfl⟩
        · rcases h5 with ⟨e, _⟩ | ⟨Bd', b, kb, e, rfl, hb5, alb5⟩
          case inl => cases e
          cases e
          rcases h6 with ⟨e, _⟩ | ⟨B', m, t, kt, e, rst, rfl, ht6, alt6⟩
          case inl => cases e
          cases e
          have N := nrw m rst
          have ne1 : ∀ {c : Addr}, ¬ decide (V.ref c = V.non) = true := fun {c} e => by cases (of_decide_eq_true e)
          refine ⟨_, rfl, rfl, _, rfl, iteN ne1 ?_⟩
          refine ⟨_, rfl, rfl, _, rfl, iteN ne1 ?_⟩
          have hmB := rst.1
          have hml : m.length ≤ 1000 := by
            have h1 := nodup_subZ N.rB.tri.nodup (m := nsW W) fun x hx => by
              obtain ⟨p, hp, rfl⟩ := List.mem_map.mp hx
              exact (N.rB.nB p hp).1
            rw [List.length_map] at h1
            omega
          refine ⟨_, rfl, t, _, ht6, trivial, fun od => ?_⟩
          have kf : Kp (He.ga K "Letter") H6 (upd H6 t (.frz od (.dK kt))) := fun c o hi e => by
            rw [upd_ne (fun z => by rw [z, ht6] at e; cases e; cases hi)]
            exact e
          refine ⟨_, rfl, t, od, rfl, .inl ⟨kt, upd_same, fun D hD => ?_⟩⟩
          refine lck (C := He.ga K "Letter") (l := m) (R1 := IsLet K) (R2 := IsT) id (fun _ _ _ _ kp h => h.mono kp) (fun _ _ _ _ kp h => h.mono kp) upd_same (alt6.mono fun t v h => h.mono kf) rst.2.1 hml hD (fun _ => rfl) (fun _ => rfl) (fun j x tr v σ2 H1 Q1 hx s1 r1 dg e k1 => ?_) fun ps kq H1 s1 hD1 pq al1 => ?_
          · subst e
            obtain ⟨a', u', rfl, ⟨dx', ha'⟩, iu'⟩ := r1
            exact ⟨_, rfl, _, rfl, t, _, rfl, dg, a', dx', _, rfl, ha', lookT (by decide +kernel), a', u', rfl, ⟨dx', ha'⟩, k1 _ _ (Same.refl _) iu'⟩
          · have el : (m.map fun p => (p.1, id p.2)) = m := by simp
            rw [el] at al1
            have ha1 := s1 _ _ (upd_same (H := H6) (a := t))
            refine ⟨ha1, ?_⟩
            have sx : Same H6 (upd H1 t (.dK kt)) := fun c o e => by
              by_cases z : c = t
              · subst z
                rw [ht6] at e
                cases e
                exact upd_same
              · rw [upd_ne z]
                exact s1 _ _ (by rw [upd_ne z]; exact e)
            have neD : D ≠ t := fun z => by rw [z, upd_same] at hD; cases hD
            have kx : Kp (He.ga K "Letter") H1 (upd H1 t (.dK kt)) := fun c o hi e => by
              rw [upd_ne (fun z => by rw [z, ha1] at e; cases e; cases hi)]
              exact e
            refine ⟨D, ps, kq, rfl, SqL.of (by rw [upd_ne neD]; exact hD1), (pq.mono kx).paired, fun q7 hq7 => ?_⟩
            rw [al1.merge rst.2.1]
            have s7 := Rd.Same.upd (o := .dK kq) hq7
            have hq71 : upd (upd H1 t (.dK kt)) q7 (.dK kq) q7 = some (.dK kq) := upd_same
            have al7 : Al IsT (upd (upd H1 t (.dK kt)) q7 (.dK kq)) m kq := (al1.mono fun t v h => h.mono kx).mono fun t v h => h.same s7
            have S7 := sx.trans s7
            generalize upd (upd H1 t (.dK kt)) q7 (.dK kq) = H7 at hq71 al7 S7 ⊢
            have S57 := s6.trans S7
            refine ⟨_, rfl, q, q7, b, ws, W, kq, kb, nsW W, B, m, Bd, rfl, S57 _ _ hq5, hps5.same S57, hq71, al7, S57 _ _ hb5, alb5.mono (fun t v h => h.same S57), N, fun H8 s8 => ⟨_, rfl, ?_⟩⟩
            refine iteN (by decide) ?_
            exact ⟨SqL.kept hS2 ((S6.trans S7).trans s8), _, _, _, _, _, _, _, _, rfl⟩
      · rintro σ H2 ⟨hS2, t1, t2, t3, t4, t5, t6, t7, t8, rfl⟩
        exact hK _ _ ⟨_, _, _, _, _, _, _, _, rfl⟩
    rintro σ' H0 ⟨t1, t2, t3, t4, t5, t6, t7, t8, rfl⟩
    try dsimp only
    refine seqAsg fun ax dx nx ndx ne => rd_mkA2 (z := "?x") (k := "unknown") (y := "x") (by decide +kernel) (by decide +kernel) nx ndx ne fun Ha sa la => ?_
    refine fun ay dx nx ndx ne => rd_mkA2 (z := "?y") (k := "unknown") (y := "y") (by decide +kernel) (by decide +kernel) nx ndx ne fun Hb sb lb => ?_
    refine fun az dx nx ndx ne => rd_mkA2 (z := "?z") (k := "unknown") (y := "z") (by decide +kernel) (by decide +kernel) nx ndx ne fun Hc sc lc => ?_
    refine fun aw dx nx ndx ne => rd_mkA2 (z := "a") (k := "word") (y := "a") (by decide +kernel) (by decide +kernel) nx ndx ne fun Hd sd ld => ?_
    refine ⟨(by show 4 ≤ sizeLine; decide), fun qt hqt => ?_⟩
    have st := Rd.Same.upd (o := .tup [.ref ax, .ref ay, .ref az, .ref aw]) hqt
    refine ⟨qt, _, rfl, SqT.of upd_same, rfl, _, _, rfl, _, _, rfl, _, _, rfl, _, _, rfl, rfl, ?_⟩
    try dsimp only
    have L : L4 K ax ay az aw (upd Hd qt (.tup [.ref ax, .ref ay, .ref az, .ref aw])) := ⟨la.same (((sb.trans sc).trans sd).trans st), lb.same ((sc.trans sd).trans st), lc.same (sd.trans st), ld.same st⟩
    clear la lb lc ld
    generalize upd Hd qt (.tup [.ref ax, .ref ay, .ref az, .ref aw]) = H1 at L ⊢
    refine seqAsg ⟨_, rfl, _, rfl, _, rfl, rd_bin L.y L.w fun x1 Hx1 sx1 ix1 => ⟨(by show 2 ≤ sizeLine; decide), fun q1 hq1 => ?_⟩⟩
    have sy1 := Rd.Same.upd (o := .tup [.ref ax, .ref x1]) hq1
    have p10 := PrL.of (H := upd Hx1 q1 (.tup [.ref ax, .ref x1])) upd_same ((L.x.same sx1).same sy1) (ix1.same sy1)
    have ss1 := sx1.trans sy1
    replace L := L.same ss1
    clear sy1
    generalize upd Hx1 q1 (.tup [.ref ax, .ref x1]) = H2 at ss1 L p10 ⊢
    refine ⟨_, rfl, _, rfl, _, rfl, rd_bin L.x L.w fun x2 Hx2 sx2 ix2 => ⟨(by show 2 ≤ sizeLine; decide), fun q2 hq2 => ?_⟩⟩
    have sy2 := Rd.Same.upd (o := .tup [.ref ay, .ref x2]) hq2
    have p11 := PrL.of (H := upd Hx2 q2 (.tup [.ref ay, .ref x2])) upd_same ((L.y.same sx2).same sy2) (ix2.same sy2)
    have ss2 := sx2.trans sy2
    replace L := L.same ss2
    replace p10 := p10.same ss2
    clear sy2
    generalize upd Hx2 q2 (.tup [.ref ay, .ref x2]) = H3 at ss2 L p10 p11 ⊢
    refine ⟨(by show 2 ≤ sizeLine; decide), fun r1 hr1 => ?_⟩
    have ss3 := Rd.Same.upd (o := .lst [.ref q1, .ref q2]) hr1
    have h1 : upd H3 r1 (.lst [.ref q1, .ref q2]) r1 = some (.lst [.ref q1, .ref q2]) := upd_same
    replace L := L.same ss3
    replace p10 := p10.same ss3
    replace p11 := p11.same ss3
    generalize upd H3 r1 (.lst [.ref q1, .ref q2]) = H4 at ss3 L p10 p11 h1 ⊢
    have P1 : PLs K H4 ring1 [.ref q1, .ref q2] := ((PLs.nil.snoc p10).snoc p11)
    clear p10
    clear p11
    refine ⟨_, rfl, _, rfl, rd_uo L.y fun x4 Hx4 sx4 ix4 => ⟨(by show 2 ≤ sizeLine; decide), fun q4 hq4 => ?_⟩⟩
    have sy4 := Rd.Same.upd (o := .tup [.ref ax, .ref x4]) hq4
    have p20 := PrL.of (H := upd Hx4 q4 (.tup [.ref ax, .ref x4])) upd_same ((L.x.same sx4).same sy4) (ix4.same sy4)
    have ss4 := sx4.trans sy4
    replace L := L.same ss4
    replace h1 := ss4 _ _ h1
    replace P1 := P1.same ss4
    clear sy4
    generalize upd Hx4 q4 (.tup [.ref ax, .ref x4]) = H5 at ss4 L h1 P1 p20 ⊢
    refine ⟨_, rfl, _, rfl, rd_uo L.x fun x5 Hx5 sx5 ix5 => ⟨(by show 2 ≤ sizeLine; decide), fun q5 hq5 => ?_⟩⟩
    have sy5 := Rd.Same.upd (o := .tup [.ref az, .ref x5]) hq5
    have p21 := PrL.of (H := upd Hx5 q5 (.tup [.ref az, .ref x5])) upd_same ((L.z.same sx5).same sy5) (ix5.same sy5)
    have ss5 := sx5.trans sy5
    replace L := L.same ss5
    replace h1 := ss5 _ _ h1
    replace P1 := P1.same ss5
    replace p20 := p20.same ss5
    clear sy5
    generalize upd Hx5 q5 (.tup [.ref az, .ref x5]) = H6 at ss5 L h1 P1 p20 p21 ⊢
    refine ⟨_, rfl, _, rfl, _, rfl, rd_bin L.z L.w fun x6 Hx6 sx6 ix6 => ⟨(by show 2 ≤ sizeLine; decide), fun q6 hq6 => ?_⟩⟩
    have sy6 := Rd.Same.upd (o := .tup [.ref ay, .ref x6]) hq6
    have p22 := PrL.of (H := upd Hx6 q6 (.tup [.ref ay, .ref x6])) upd_same ((L.y.same sx6).same sy6) (ix6.same sy6)
    have ss6 := sx6.trans sy6
    replace L := L.same ss6
    replace h1 := ss6 _ _ h1
    replace P1 := P1.same ss6
    replace p20 := p20.same ss6
    replace p21 := p21.same ss6
    clear sy6
    generalize upd Hx6 q6 (.tup [.ref ay, .ref x6]) = H7 at ss6 L h1 P1 p20 p21 p22 ⊢
    refine ⟨(by show 3 ≤ sizeLine; decide), fun r2 hr2 => ?_⟩
    have ss7 := Rd.Same.upd (o := .lst [.ref q4, .ref q5, .ref q6]) hr2
    have h2 : upd H7 r2 (.lst [.ref q4, .ref q5, .ref q6]) r2 = some (.lst [.ref q4, .ref q5, .ref q6]) := upd_same
    replace L := L.same ss7
    replace h1 := ss7 _ _ h1
    replace P1 := P1.same ss7
    replace p20 := p20.same ss7
    replace p21 := p21.same ss7
    replace p22 := p22.same ss7
    generalize upd H7 r2 (.lst [.ref q4, .ref q5, .ref q6]) = H8 at ss7 L h1 P1 p20 p21 p22 h2 ⊢
    have P2 : PLs K H8 ring2 [.ref q4, .ref q5, .ref q6] := (((PLs.nil.snoc p20).snoc p21).snoc p22)
    clear p20
    clear p21
    clear p22
    refine ⟨_, rfl, _, rfl, rd_uo L.x fun x8 Hx8 sx8 ix8 => ⟨(by show 2 ≤ sizeLine; decide), fun q8 hq8 => ?_⟩⟩
    have sy8 := Rd.Same.upd (o := .tup [.ref ax, .ref x8]) hq8
    have p30 := PrL.of (H := upd Hx8 q8 (.tup [.ref ax, .ref x8])) upd_same ((L.x.same sx8).same sy8) (ix8.same sy8)
    have ss8 := sx8.trans sy8
    replace L := L.same ss8
    replace h1 := ss8 _ _ h1
    replace P1 := P1.same ss8
    replace h2 := ss8 _ _ h2
    replace P2 := P2.same ss8
    clear sy8
    generalize upd Hx8 q8 (.tup [.ref ax, .ref x8]) = H9 at ss8 L h1 P1 h2 P2 p30 ⊢
    refine ⟨(by show 1 ≤ sizeLine; decide), fun r3 hr3 => ?_⟩
    have ss9 := Rd.Same.upd (o := .lst [.ref q8]) hr3
    have h3 : upd H9 r3 (.lst [.ref q8]) r3 = some (.lst [.ref q8]) := upd_same
    replace L := L.same ss9
    replace h1 := ss9 _ _ h1
    replace P1 := P1.same ss9
    replace h2 := ss9 _ _ h2
    replace P2 := P2.same ss9
    replace p30 := p30.same ss9
    generalize upd H9 r3 (.lst [.ref q8]) = H10 at ss9 L h1 P1 h2 P2 p30 h3 ⊢
    have P3 : PLs K H10 ring3 [.ref q8] := (PLs.nil.snoc p30)
    clear p30
    refine ⟨(by show 3 ≤ sizeLine; decide), fun qR hqR => ?_⟩
    have ss10 := Rd.Same.upd (o := .lst [.ref r1, .ref r2, .ref r3]) hqR
    have n1 : r1 ≠ qR := ne_of_none h1 hqR
    have n2 : r2 ≠ qR := ne_of_none h2 hqR
    have n3 : r3 ≠ qR := ne_of_none h3 hqR
    have hR : upd H10 qR (.lst [.ref r1, .ref r2, .ref r3]) qR = some (.lst [.ref r1, .ref r2, .ref r3]) := upd_same
    replace L := L.same ss10
    replace h1 := ss10 _ _ h1
    replace P1 := P1.same ss10
    replace h2 := ss10 _ _ h2
    replace P2 := P2.same ss10
    replace h3 := ss10 _ _ h3
    replace P3 := P3.same ss10
    refine gName_k ?_
    try dsimp only
    generalize upd H10 qR (.lst [.ref r1, .ref r2, .ref r3]) = H11 at ss10 L h1 P1 h2 P2 h3 P3 hR ⊢
    refine ⟨_, rfl, .inl ⟨rfl, _, SqL.of hR⟩, ?_⟩
    refine ⟨_, rfl, _, rfl, rd_bin L.x L.w fun x11 Hx11 sx11 ix11 => ⟨_, rfl, _, rfl, rd_bin (L.same sx11).y (L.same sx11).x fun y11 Hy11 sy0 iy11 => ⟨(by show 2 ≤ sizeLine; decide), fun q11 hq11 => ?_⟩⟩⟩
    have sxy := sx11.trans sy0
    have sy11 := Rd.Same.upd (o := .tup [.ref x11, .ref y11]) hq11
    have p40 := PrL.of (H := upd Hy11 q11 (.tup [.ref x11, .ref y11])) upd_same ((ix11.same sy0).same sy11) (iy11.same sy11)
    have ss11 := sxy.trans sy11
    replace L := L.same ss11
    replace h1 := ss11 _ _ h1
    replace P1 := P1.same ss11
    replace h2 := ss11 _ _ h2
    replace P2 := P2.same ss11
    replace h3 := ss11 _ _ h3
    replace P3 := P3.same ss11
    replace hR := ss11 _ _ hR
    clear sy11
    generalize upd Hy11 q11 (.tup [.ref x11, .ref y11]) = H12 at ss11 L h1 P1 h2 P2 h3 P3 hR p40 ⊢
    refine ⟨_, rfl, _, rfl, _, rfl, rd_bin L.w L.x fun x12 Hx12 sx12 ix12 => ⟨(by show 2 ≤ sizeLine; decide), fun q12 hq12 => ?_⟩⟩
    have sy12 := Rd.Same.upd (o := .tup [.ref ay, .ref x12]) hq12
    have p41 := PrL.of (H := upd Hx12 q12 (.tup [.ref ay, .ref x12])) upd_same ((L.y.same sx12).same sy12) (ix12.same sy12)
    have ss12 := sx12.trans sy12
    replace L := L.same ss12
    replace h1 := ss12 _ _ h1
    replace P1 := P1.same ss12
    replace h2 := ss12 _ _ h2
    replace P2 := P2.same ss12
    replace h3 := ss12 _ _ h3
    replace P3 := P3.same ss12
    replace hR := ss12 _ _ hR
    replace p40 := p40.same ss12
    clear sy12
    generalize upd Hx12 q12 (.tup [.ref ay, .ref x12]) = H13 at ss12 L h1 P1 h2 P2 h3 P3 hR p40 p41 ⊢
    refine ⟨_, rfl, _, rfl, ⟨(by show 2 ≤ sizeLine; decide), fun q13 hq13 => ?_⟩⟩
    have sy13 := Rd.Same.upd (o := .tup [.ref ax, .ref aw]) hq13
    have p42 := PrL.of (H := upd H13 q13 (.tup [.ref ax, .ref aw])) upd_same (L.x.same sy13) (L.w.same sy13)
    have ss13 := sy13
    replace L := L.same ss13
    replace h1 := ss13 _ _ h1
    replace P1 := P1.same ss13
    replace h2 := ss13 _ _ h2
    replace P2 := P2.same ss13
    replace h3 := ss13 _ _ h3
    replace P3 := P3.same ss13
    replace hR := ss13 _ _ hR
    replace p40 := p40.same ss13
    replace p41 := p41.same ss13
    clear sy13
    generalize upd H13 q13 (.tup [.ref ax, .ref aw]) = H14 at ss13 L h1 P1 h2 P2 h3 P3 hR p40 p41 p42 ⊢
    refine ⟨(by show 3 ≤ sizeLine; decide), fun r4 hr4 => ?_⟩
    have n4 : r4 ≠ qR := fun z => by rw [z, hR] at hr4; cases hr4
    have ss14 := Rd.Same.upd (o := .lst [.ref q11, .ref q12, .ref q13]) hr4
    have h4 : upd H14 r4 (.lst [.ref q11, .ref q12, .ref q13]) r4 = some (.lst [.ref q11, .ref q12, .ref q13]) := upd_same
    replace L := L.same ss14
    replace h1 := ss14 _ _ h1
    replace P1 := P1.same ss14
    replace h2 := ss14 _ _ h2
    replace P2 := P2.same ss14
    replace h3 := ss14 _ _ h3
    replace P3 := P3.same ss14
    replace hR := ss14 _ _ hR
    replace p40 := p40.same ss14
    replace p41 := p41.same ss14
    replace p42 := p42.same ss14
    generalize upd H14 r4 (.lst [.ref q11, .ref q12, .ref q13]) = H15 at ss14 L h1 P1 h2 P2 h3 P3 hR p40 p41 p42 h4 ⊢
    have P4 : PLs K H15 ring4 [.ref q11, .ref q12, .ref q13] := (((PLs.nil.snoc p40).snoc p41).snoc p42)
    clear p40
    clear p41
    clear p42
    refine ⟨qR, _, _, rfl, rfl, hR, (by show 3 < sizeLine; decide), ?_⟩
    have kp := Kp.upd_lst (C := He.ga K "Letter") (ys := [.ref r1, .ref r2, .ref r3] ++ [V.ref r4]) hR
    have hR2 : upd H15 qR (.lst ([.ref r1, .ref r2, .ref r3] ++ [V.ref r4])) qR = some (.lst [.ref r1, .ref r2, .ref r3, .ref r4]) := upd_same
    have rows : ∀ v ∈ ([.ref r1, .ref r2, .ref r3, .ref r4] : List V), ∃ (r : Addr) (vs : List V) (W : List (Tr × Tr)), v = .ref r ∧ upd H15 qR (.lst ([.ref r1, .ref r2, .ref r3] ++ [V.ref r4])) r = some (.lst vs) ∧ PLs K (upd H15 qR (.lst ([.ref r1, .ref r2, .ref r3] ++ [V.ref r4]))) W vs ∧ W ∈ [ring1, ring2, ring3, ring4] := by
      have off : ∀ {r : Addr} {vs : List V} {W : List (Tr × Tr)}, r ≠ qR → H15 r = some (.lst vs) → PLs K H15 W vs → upd H15 qR (.lst ([.ref r1, .ref r2, .ref r3] ++ [V.ref r4])) r = some (.lst vs) ∧ PLs K (upd H15 qR (.lst ([.ref r1, .ref r2, .ref r3] ++ [V.ref r4]))) W vs := fun ne e p => ⟨by rw [upd_ne ne]; exact e, p.mono kp⟩
      intro v hv
      rcases List.mem_cons.mp hv with rfl | hv
      · obtain ⟨a1, a2⟩ := off n1 h1 P1
        exact ⟨_, _, _, rfl, a1, a2, by simp⟩
      rcases List.mem_cons.mp hv with rfl | hv
      · obtain ⟨a1, a2⟩ := off n2 h2 P2
        exact ⟨_, _, _, rfl, a1, a2, by simp⟩
      rcases List.mem_cons.mp hv with rfl | hv
      · obtain ⟨a1, a2⟩ := off n3 h3 P3
        exact ⟨_, _, _, rfl, a1, a2, by simp⟩
      obtain ⟨a1, a2⟩ := off n4 h4 P4
      rw [List.mem_singleton.mp hv]
      exact ⟨_, _, _, rfl, a1, a2, by simp⟩
    generalize upd H15 qR (.lst ([.ref r1, .ref r2, .ref r3] ++ [V.ref r4])) = Hz at hR2 rows ⊢
    refine ⟨Nat.zero_le _, fun q0 hq0 => ⟨q0, [], [], 0, some [], rfl, upd_same, PLs.nil, (fun p hp => nomatch hp), by decide, ⟨NV, by decide, fun p hp => nomatch hp⟩, .done (fun p hp => nomatch hp) (by decide), by decide, (fun e => by cases e), fun B e tri wB q kq m H' s' nq hq al rst => ?_⟩⟩
    cases e
    have hm0 : m = [] := List.eq_nil_of_length_eq_zero rst.1
    have hk0 : kq = [] := List.eq_nil_of_length_eq_zero (by have := al.len; rw [hm0] at this; exact this)
    have S1 := (Rd.Same.upd (o := .lst []) hq0).trans s'
    refine fun pd hpd => ⟨q, pd, kq, rfl, rfl, Rd.Same.upd hpd _ _ hq, upd_same, _, rfl, iteP (by rw [hk0]; rfl) ?_⟩
    have S2 := S1.trans (Rd.Same.upd (o := .dK []) hpd)
    generalize upd H' pd (.dK []) = Hy at S2 ⊢
    refine ⟨_, rfl, qR, rfl, ⟨_, SqL.of (S2 _ _ hR2)⟩, fun D hD => ?_⟩
    refine lcl (C := 0) (fun i _ v => v = .bl true) (fun _ _ _ _ _ h => h) (SqL.of (S2 _ _ hR2)) (by show 4 ≤ 8000000; decide) hD (fun i y H6 Q6 hy s6 k6 => ?_) fun vs H6 s6 hD6 hlv hvs => ?_
    · obtain ⟨r, vs, W, rfl, hr1, hr2, hr3⟩ := rows y (List.mem_of_getElem? hy)
      have S6 := S2.trans s6
      obtain ⟨o1, o2, o3⟩ := ring_ok W hr3
      obtain ⟨n, U⟩ := ring_un W hr3
      exact ⟨_, rfl, r, vs, W, n, none, rfl, S6 _ _ hr1, hr2.same S6, o1, by decide, ⟨NV, by decide, o2⟩, U, by omega, (fun _ H' s' => ⟨rfl, k6 _ _ s' (by rw [decide_eq_true rfl])⟩), fun B e => by cases e⟩
    · have evs : vs = (List.replicate vs.length true).map V.bl := by
        refine List.ext_getElem? fun j => ?_
        rw [List.getElem?_map, List.getElem?_replicate]
        cases e : vs[j]? with
        | none => rw [if_neg (by have := List.getElem?_eq_none_iff.mp e; omega)]; rfl
        | some v => rw [if_pos (List.getElem?_eq_some_iff.mp e).1, hvs j v e]; rfl
      rw [evs] at hD6
      refine ⟨D, _, rfl, SqL.of hD6, ?_⟩
      have ef : (List.replicate vs.length true).all id = true := by
        rw [List.all_eq_true]
        intro z hz
        rw [List.eq_of_mem_replicate hz]
        rfl
      rw [ef]
      exact k _
end
end Rd
set_option maxHeartbeats 0
namespace Rd
open PySem L2
theorem tx_ok {w : World} {K : PySem.W.Frag} {h : Heap} {mg : Str → Option Value} (X : K.In h) (G : h.Ns mainGlobals mg) (ct : He.SaysT fa fn ts w K) (cc : He.SaysD fa fn K) (cz : He5.SaysA [] fs K) (hx : exq K = true) : Tx w K mg where
  z_len := He.free_ok X G (cc.fact 0 rfl)
  z_all := He.free_ok X G (cc.fact 1 rfl)
  z_any := He.free_ok X G (cc.fact 2 rfl)
  z_abs := He.free_ok X G (cc.fact 3 rfl)
  z_int := He.free_ok X G (cc.fact 4 rfl)
  z_list := He.free_ok X G (cc.fact 5 rfl)
  z_tuple := He.free_ok X G (cc.fact 6 rfl)
  z_range := He.free_ok X G (cc.fact 7 rfl)
  z_max := He.free_ok X G (cc.fact 8 rfl)
  z_sorted := He.free_ok X G (cc.fact 9 rfl)
  z_set := He.free_ok X G (cc.fact 10 rfl)
  z_dict := He.free_ok X G (cc.fact 11 rfl)
  z_zip := He.free_ok X G (cc.fact 12 rfl)
  c_SMALL := He.str_ok X G (cc.fact 13 rfl)
  c_GREAT := He.str_ok X G (cc.fact 14 rfl)
  c_DIGITS := He.str_ok X G (cc.fact 15 rfl)
  D_SIGNS := kd_ok (He.glo_ok X G (cc.fact 16 rfl)) (ct.tab 0 rfl) (exl_ok hx 0 rfl)
  F_is_word := ⟨(cc.def_ 0 (d := d0) rfl), He.glo_ok X G (cc.fact 17 rfl)⟩
  F_is_unknown := ⟨(cc.def_ 1 (d := d1) rfl), He.glo_ok X G (cc.fact 18 rfl)⟩
  F_is_name := ⟨(cc.def_ 2 (d := d2) rfl), He.glo_ok X G (cc.fact 19 rfl)⟩
  F_atom_tree := ⟨(cc.def_ 3 (d := d3) rfl), He.glo_ok X G (cc.fact 20 rfl)⟩
  F_parts_of := ⟨(cc.def_ 4 (d := d4) rfl), He.glo_ok X G (cc.fact 21 rfl)⟩
  F_atoms_of := ⟨(cc.def_ 5 (d := d5) rfl), He.glo_ok X G (cc.fact 22 rfl)⟩
  F_filled_tree := ⟨(cc.def_ 6 (d := d6) rfl), He.glo_ok X G (cc.fact 23 rfl)⟩
  F_resolved := ⟨(cc.def_ 7 (d := d7) rfl), He.glo_ok X G (cc.fact 24 rfl)⟩
  F_narrowest_trees := ⟨(cc.def_ 8 (d := d8) rfl), He.glo_ok X G (cc.fact 25 rfl)⟩
  F_narrowest := ⟨(cc.def_ 9 (d := d9) rfl), He.glo_ok X G (cc.fact 26 rfl)⟩
  F__law_stream := ⟨(cc.def_ 10 (d := d10) rfl), He.glo_ok X G (cc.fact 27 rfl)⟩
  F__law_draw := ⟨(cc.def_ 11 (d := d11) rfl), He.glo_ok X G (cc.fact 28 rfl)⟩
  F__law_pick := ⟨(cc.def_ 12 (d := d12) rfl), He.glo_ok X G (cc.fact 29 rfl)⟩
  F__law_word := ⟨(cc.def_ 13 (d := d13) rfl), He.glo_ok X G (cc.fact 30 rfl)⟩
  F__law_name := ⟨(cc.def_ 14 (d := d14) rfl), He.glo_ok X G (cc.fact 31 rfl)⟩
  F__law_atom := ⟨(cc.def_ 15 (d := d15) rfl), He.glo_ok X G (cc.fact 32 rfl)⟩
  F__law_form := ⟨(cc.def_ 16 (d := d16) rfl), He.glo_ok X G (cc.fact 33 rfl)⟩
  F__law_letter := ⟨(cc.def_ 17 (d := d17) rfl), He.glo_ok X G (cc.fact 34 rfl)⟩
  F__law_parts := ⟨(cc.def_ 18 (d := d18) rfl), He.glo_ok X G (cc.fact 35 rfl)⟩
  F__law_atoms := ⟨(cc.def_ 19 (d := d19) rfl), He.glo_ok X G (cc.fact 36 rfl)⟩
  F__law_filled := ⟨(cc.def_ 20 (d := d20) rfl), He.glo_ok X G (cc.fact 37 rfl)⟩
  F__law_matched := ⟨(cc.def_ 21 (d := d21) rfl), He.glo_ok X G (cc.fact 38 rfl)⟩
  F__law_at_rest := ⟨(cc.def_ 22 (d := d22) rfl), He.glo_ok X G (cc.fact 39 rfl)⟩
  F__law_unified := ⟨(cc.def_ 23 (d := d23) rfl), He.glo_ok X G (cc.fact 40 rfl)⟩
  F__law_plain_forms := ⟨(cc.def_ 24 (d := d24) rfl), He.glo_ok X G (cc.fact 41 rfl)⟩
  F__law_opened_up := ⟨(cc.def_ 25 (d := d25) rfl), He.glo_ok X G (cc.fact 42 rfl)⟩
  F__law_pairs := ⟨(cc.def_ 26 (d := d26) rfl), He.glo_ok X G (cc.fact 43 rfl)⟩
  F__law_is_narrow := ⟨(cc.def_ 27 (d := d27) rfl), He.glo_ok X G (cc.fact 44 rfl)⟩
  g_RoadError := He.glo_ok X G (cc.fact 46 rfl)
  r_RoadError := rexB_ok (exl_ok hx 1 rfl)
  X_BadAtom := ⟨He.glo_ok X G (cc.fact 47 rfl), oexB_ok (exl_ok hx 2 rfl), He.noat_ok (cc.fact 50 rfl), ⟨(cc.def_ 29 (d := d29) rfl), He.meth_ok (cc.fact 49 rfl)⟩, xfB_ok (exl_ok hx 3 rfl), He.exm_ok (cc.fact 48 rfl)⟩
  X_BadKey := ⟨He.glo_ok X G (cc.fact 51 rfl), oexB_ok (exl_ok hx 4 rfl), He.noat_ok (cc.fact 54 rfl), ⟨(cc.def_ 30 (d := d30) rfl), He.meth_ok (cc.fact 53 rfl)⟩, xfB_ok (exl_ok hx 5 rfl), He.exm_ok (cc.fact 52 rfl)⟩
  f_Letter := (exl_ok hx 6 rfl)
  k_Letter := He.cls_ok (cc.fact 56 rfl)
  n_Letter_tree := He.noat_ok (cc.fact 57 rfl)
  I_Letter := ⟨(cc.def_ 31 (d := d31) rfl), He.mkr_ok (cc.fact 58 rfl), He.glo_ok X G (cc.fact 55 rfl), He.cls_ok (cc.fact 56 rfl)⟩
  M_Letter_form := ⟨(cc.def_ 32 (d := d32) rfl), He.meth_ok (cc.fact 59 rfl)⟩
  M_Letter_add := ⟨(cc.def_ 33 (d := d33) rfl), He.meth_ok (cc.fact 60 rfl)⟩
  M_Letter_mul := ⟨(cc.def_ 34 (d := d34) rfl), He.meth_ok (cc.fact 61 rfl)⟩
  M_Letter_xor := ⟨(cc.def_ 35 (d := d35) rfl), He.meth_ok (cc.fact 62 rfl)⟩
  M_Letter_invert := ⟨(cc.def_ 36 (d := d36) rfl), He.meth_ok (cc.fact 63 rfl)⟩
  M_Letter_pos := ⟨(cc.def_ 37 (d := d37) rfl), He.meth_ok (cc.fact 64 rfl)⟩
  M_Letter_neg := ⟨(cc.def_ 38 (d := d38) rfl), He.meth_ok (cc.fact 65 rfl)⟩
theorem facts {P : Program} {w : World} {K : PySem.W.Frag} {h : Heap} {mg : Str → Option Value} {f : Addr} (X : K.In h) (G : h.Ns mainGlobals mg) (hfa : mg ("law" : Str) = some (.ref f)) (c : SaysZ fa fn ts exq fs w K) :
    ∃ fd : FuncData, (∀ (s : Shared) (v : Value), BindsTo s fd ⟨[v], []⟩ [("_law_script", v)]) ∧ ∀ base : Heap, K.In base → base.Ns mainGlobals mg → FnOk P w K mg base CX0 70 f fd ["_law_script"] (spLaw K) := by
  have cc := c.y.t.d
  have T := tx_ok X G c.y.t cc c.s c.y.more
  obtain ⟨fd, F⟩ := cc.def_ 28 (d := d28) rfl
  have e := hfa.symm.trans (He.glo_ok X G (cc.fact 45 (f := .glo "law") rfl))
  cases e
  have b := FunD.bindsA (ps := ["_law_script"]) F fun _ _ _ _ _ _ us hl => match us, hl with | [_], _ => rfl
  exact ⟨fd, fun s v => b s [v] rfl, fun base _ _ => ok_law F T⟩
end Rd
open PySem PySem.W PySem.Calls PyProof.Rows
set_option maxRecDepth 100000 in
set_option maxHeartbeats 0 in
theorem PySem.Challenge.cw_openroads_k11_narrowest_fillings_holds : PySem.Challenge.rw_openroads_k11_narrowest_fillings.Holds := by
  w_on; o_law
  refine HandSHeadRun.head_any (r := OpenLaw.row PySem.Challenge.rw_openroads_k11_narrowest_fillings) (q := Rd.qv) (H := Rd.hk) (ob := Rd.ob) (M := 8000) (loose := Rd.loo) (d := HandSHeadRun.topDef (OpenLaw.row PySem.Challenge.rw_openroads_k11_narrowest_fillings).prog 48) (kwd := []) Rd.ob_eq
    (by kernel_rfl) (fun s => by kernel_rfl) Rd.run (by kernel_rfl) (by kernel_rfl) (by kernel_rfl) (by rfl) (by first | assumption | decide +kernel) (by decide +kernel) ⟨rfl, rfl, rfl, rfl, rfl, by decide +kernel⟩ ?hw ?hc
  case hw => w_witness2
  case hc =>
    refine L2.walk_ofE (l := PySem.Challenge.rw_openroads_k11_narrowest_fillings) (n := 63) (k := 70) (x := "_law_script") (CX := L2.CX0) rfl (by decide) (by kernel_rfl) ⟨rfl, by decide, by decide⟩ ?F (fun _ _ _ _ z => z)
    intro w mg fa h Y G hmg0
    obtain ⟨K, KX, c⟩ := Y
    have hmg : mg ("law" : PySem.Str) = some (.ref fa) := by
      have e : (HandSHeadRun.topDef (OpenLaw.row PySem.Challenge.rw_openroads_k11_narrowest_fillings).prog 48).name = ("law" : PySem.Str) := by kernel_rfl
      rw [← e]
      exact hmg0
    obtain ⟨fd, hb, hF⟩ := Rd.facts (P := (PySem.Challenge.rw_openroads_k11_narrowest_fillings).prog) (w := w) KX G hmg c
    exact ⟨K, fd, Rd.spLaw K, KX, hb, fun H a ns hl _ hS => ⟨a, ns, rfl, hS, hl, fun _ => rfl⟩, hF⟩
