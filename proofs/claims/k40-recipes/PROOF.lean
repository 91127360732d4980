import PyProof.Rows.All
import Wide.All
import OpenK.AllK
import Wide.FinOn
import KE.KStateDown
import Lean
import HandS.ForMost
import HandS.ForExc
import HandS.Flow
import HandS.StrMore
import HandS.Defaults
import HandS.ExcInit
import HandS.ExcField
import HandS.More
import HandS.HeadHook3
import PyProof.ListStr
import HandS.Head0
import HandS.Head1
import HandS.Head2
import HandS.HeadEnd
import HandS.Zip
import HandS.FStr
import HandS.StrMore
import HandS.HotCalls
import HandS.ExcInitHot
import PyProof.InstEq
import HandS.IsInst
import HandS.HeadNt
import HandS.TupLe
import PyProof.Rows.SortShellAny
import HandS.Set
import HandS.SetFor
import HandS.SetBool
import HandS.Deep
import HandS.TupAny
import KE.KEqDict
import HandS.DictComp
import HandS.DeepEq
import HandS.List
import HandS.SetKeys
import KE.GoesNew
import KE.GoesMore
import PyProof.AutoSeq1
import HandS.Sort
import KE.KSortTupAny
import KE.KOpsOwn
import HandS.WordsDict
import KE.KDictList
import PyProof.SetRoads
import HandS.ExcCtx
import HandS.Comp
import KE.GoesRaise
import KE.GoesComp
import KE.KIsAll
import KE.KExcIs
import HandS.Base
import HandS.Call
import HandS.Exc
import HandS.ExcIs
import PySem.Challenge.RW_openroads_k40_recipes_run
set_option Elab.async false
set_option linter.all false
set_option maxRecDepth 100000
set_option maxHeartbeats 4000000
/-! my common layer: functions by name -/
namespace Rd
open PySem PySem.Spec PyProof.Rows L2
/-- a function of the module by its name: promise, binding, place -/
structure Fk (P : Program) (w : World) (K : PySem.W.Frag) (mg : Str → Option Value) (base : Heap) (CX : CXT) (k : Nat) (x : Str) (ps : List Str) (sp : Sp) : Prop where
  ex : ∃ fd, FnOk P w K mg base CX k (He.ga K x) fd ps sp ∧ Binds K fd ps []
  g : mg x = some (.ref (He.ga K x))
  kp : PySem.W.keepIn K (.ref (He.ga K x)) = true
/-- what the head tells of a function of the module -/
structure Fh (K : PySem.W.Frag) (mg : Str → Option Value) (x : Str) (st : Stmt) : Prop where
  ex : ∃ fd, FunD K x x (defArgs st) (defBody st) (defScope st) [] [] (He.ga K x) fd
  g : mg x = some (.ref (He.ga K x))
section
variable {P : Program} {w : World} {K : PySem.W.Frag} {mg : Str → Option Value} {base : Heap} {CX : CXT} {k : Nat} {x : Str} {ps N : List Str} {sp : Sp} {st : Stmt}
theorem Fh.ok (F : Fh K mg x st) (S : FnScope N ps (defScope st))
    (hb : ∀ (kV doc pm : Value) (an : Option Addr) (cdv ct : Value) (us : List Value), us.length = ps.length → bindArgs (PySem.W.fnOf x x (defArgs st) (defBody st) (defScope st) .none kV doc pm an cdv ct) ⟨us, []⟩ = pure (ps.zip us))
    (len : ∀ vs H Q E, sp vs H Q E → vs.length = ps.length)
    (hbody : ∀ (cdv : Value) (A : Around) (outer : List Env) (s : Shared) (H : Hp) (vs : List V) (Q : VK) (E : XK), Room k (A.deeper (envOfC x (defScope st) s.heap.objs.size (He.ga K x) cdv)) → sp vs H Q E →
      ∃ t, PSs (cxOf CX P w K mg base N x (defScope st) (He.ga K x) cdv A outer s H E) (defBody st) t ∧ t { nx := fun _ H' => Q .non H', rt := Q } (start N vs) H) : Fk P w K mg base CX (k + 1) x ps sp := by
  obtain ⟨fd, F'⟩ := F.ex
  exact ⟨⟨fd, F'.ok S len hbody, F'.bindsN hb⟩, F.g, F'.kp⟩
/-- no exception leaves -/
theorem Fh.ok0 (F : Fh K mg x st) (S : FnScope N ps (defScope st))
    (hb : ∀ (kV doc pm : Value) (an : Option Addr) (cdv ct : Value) (us : List Value), us.length = ps.length → bindArgs (PySem.W.fnOf x x (defArgs st) (defBody st) (defScope st) .none kV doc pm an cdv ct) ⟨us, []⟩ = pure (ps.zip us))
    (len : ∀ vs H Q E, sp vs H Q E → vs.length = ps.length)
    (hbody : ∀ (cdv : Value) (A : Around) (outer : List Env) (s : Shared) (H : Hp) (vs : List V) (Q : VK) (E : XK), Room k (A.deeper (envOfC x (defScope st) s.heap.objs.size (He.ga K x) cdv)) → sp vs H Q E →
      ∃ t, PSs (cxOf CX0 P w K mg base N x (defScope st) (He.ga K x) cdv A outer s H E).nox (defBody st) t ∧ t { nx := fun _ H' => Q .non H', rt := Q } (start N vs) H) : Fk P w K mg base CX0 (k + 1) x ps sp :=
  F.ok S hb len fun cdv A outer s H vs Q E hr h => by
    obtain ⟨t, h1, h2⟩ := hbody cdv A outer s H vs Q E hr h
    exact ⟨t, h1.nox, h2⟩
theorem Fk.mono {j : Nat} (F : Fk P w K mg base CX j x ps sp) (h : j ≤ k) : Fk P w K mg base CX k x ps sp := by
  obtain ⟨⟨fd, a, b⟩, c, d⟩ := F
  exact ⟨⟨fd, a.mono h, b⟩, c, d⟩
end
section
variable {X : Cx} {CX : CXT} {k : Nat} {ps : List Str} {sp : Sp} {E : XK} {x : Str} {p pos : Pos} {e : Expr} {es : List Expr} {t : TA}
theorem pe_fk (F : Fk X.prog X.w X.K X.mg X.base CX k x ps sp) (hr : Room k X.A) (hg : Gl X x) (hx : Passes CX X E)
    (ha : PA X (e :: es) t) (hdb : (x == ("__debug__" : Str)) = false := by decide) (he : starEach (e :: es) X.env = (false, eval e X.env) :: starEach es X.env := by rfl) (hpl : (backTo pos (starEach es X.env)).any (·.1) = false := by rfl) :
    PE X (.Call (.Name x p) (e :: es) [] pos) (tCall sp [] E t) := by
  obtain ⟨⟨fd, a, b⟩, c, d⟩ := F
  exact pe_call a hr hg c d b .nil hx ha hdb he hpl
theorem pe_gstr {z : Str} (hm : ∃ t, X.mg x = some (.str z t)) (hg : Gl X x := by rfl) (hd : (x == ("__debug__" : Str)) = false := by decide) : PE X (.Name x pos) (tC (.str z)) := by
  obtain ⟨t, hm⟩ := hm
  exact pe_glob hg hm ⟨t, rfl⟩ hd
/-- list(text) -/
theorem call_list_text (hc : X.calm = true) : CallR X (.type "list") (fun xs H Q => ∃ z : Str, xs = [.str z] ∧ z.length ≤ sizeLine ∧ ∀ l, H l = none → Q (.ref l) (upd H l (.lst (z.cps.toList.map fun c => V.str ⟨#[c]⟩)))) := by
  intro pins s σ H xs us Q I r h
  obtain ⟨z, rfl, hz, q⟩ := h
  obtain ⟨u, rfl, t, rfl⟩ := vals1 r
  refine call_list_str (I.ok.hd hc) z t (fun h' tk acc' c' kp e it => ?_) hz
  have vv : ∀ (n : Nat) (l : List Nat) (m : List Value), l.length = m.length → (∀ (j : Nat) (v : Value), m[j]? = some v → ∃ (c : Nat) (u : Tok), l[j]? = some c ∧ v = Value.str ⟨#[c]⟩ u) → Vals (l.map fun c => V.str ⟨#[c]⟩) m := by
    intro n l
    induction l with
    | nil =>
      intro m hl _
      cases m with
      | nil => exact .nil
      | cons a b => cases hl
    | cons a l ih =>
      intro m hl hm
      cases m with
      | nil => cases hl
      | cons b m =>
        obtain ⟨c, u, e1, e2⟩ := hm 0 b rfl
        have e1' : a = c := Option.some.inj e1
        subst e1' e2
        exact .cons ⟨u, rfl⟩ (ih m (by simpa using hl) fun j v hj => hm (j + 1) v hj)
  have hv : Vals (z.cps.toList.map fun c => V.str ⟨#[c]⟩) acc'.toList := by
    refine vv 0 _ _ (by rw [Array.length_toList, Array.length_toList]; exact it.1.symm) fun j v hj => ?_
    obtain ⟨c, u, h1, h2⟩ := it.2 j v (by simpa using hj)
    exact ⟨c, u, by simpa using h1, h2⟩
  refine ⟨.ref s.heap.objs.size, _, I.laid (t' := tk) kp (Nat.le_refl _) (show ObjOk X.prog X.w _ h' _ (.lst (z.cps.toList.map fun c => V.str ⟨#[c]⟩)) from ⟨?_, acc'.toList, c', hv, by simpa using e⟩), rfl, q _ (I.hok.fresh (Nat.le_refl _))⟩
  rw [List.length_map]
  exact hz
end
end Rd
namespace Rd
open PySem PySem.Spec PyProof.Rows L2
/-- an exception class over ValueError, as OexC wants it -/
def oexB (K : PySem.W.Frag) (x : Str) : Bool := (match K.lookup (He.ga K x) with
  | some ⟨.type c, _, .cls cd, sl⟩ => decide (c = "type") && (match cd.mro, sl.toList with
    | .ref C' :: bm, [_, _, _, _, some (.builtin n), _] => decide (C' = He.ga K x) && (decide (n = "ValueError.__new__") && (!cd.hasDel && (cd.hasDict && PySem.HandSPX.refsVE bm)))
    | _, _ => false)
  | _ => false) && (He.eqO (PySem.W.findIn K (.ref (He.ga K x)) "__setattr__") (some (some (.builtin "object.__setattr__"))) && (decide (PySem.W.subIn K (.ref (He.ga K x)) (.type "BaseException") = some true) && (decide (PySem.W.typeIn K (.ref (He.ga K x)) = some (.type "type")) && PySem.W.keepIn K (.ref (He.ga K x)))))
theorem oexB_ok {K : PySem.W.Frag} {x : Str} (h : oexB K x = true) : OexC K (He.ga K x) := by
  obtain ⟨h1, h⟩ := He.ba h
  obtain ⟨h2, h⟩ := He.ba h
  obtain ⟨h3, h⟩ := He.ba h
  obtain ⟨h4, h5⟩ := He.ba h
  refine ⟨?_, He.eqO_ok h2, of_decide_eq_true h3, of_decide_eq_true h4, h5⟩
  cases e : K.lookup (He.ga K x) with
  | none => rw [e] at h1; cases h1
  | some o =>
    rw [e] at h1
    obtain ⟨oc, od, dt, sl⟩ := o
    cases oc with
    | type c =>
      cases dt with
      | cls cd =>
        obtain ⟨h6, h7⟩ := He.ba (show (decide (c = "type") && (match cd.mro, sl.toList with
          | .ref C' :: bm, [_, _, _, _, some (.builtin n), _] => decide (C' = He.ga K x) && (decide (n = "ValueError.__new__") && (!cd.hasDel && (cd.hasDict && PySem.HandSPX.refsVE bm)))
          | _, _ => false)) = true from h1)
        have ec : c = "type" := of_decide_eq_true h6
        subst ec
        obtain ⟨nm, bs, mro, ns, qn, hd, sn, sb, ab, col, del⟩ := cd
        obtain ⟨sl⟩ := sl
        simp only at h7
        split at h7
        · obtain ⟨h8, h9⟩ := He.ba h7
          obtain ⟨h10, h11⟩ := He.ba h9
          obtain ⟨h12, h13⟩ := He.ba h11
          obtain ⟨h14, h15⟩ := He.ba h13
          rename_i C' bm k0 k1 k2 k3 n k5
          have e1 : C' = He.ga K x := of_decide_eq_true h8
          have e2 : n = "ValueError.__new__" := of_decide_eq_true h10
          have e3 : del = false := by simpa using h12
          subst e2 e3
          have e4 : hd = true := h14
          subst e4
          rw [e1]
          exact ⟨_, _, _, _, bm, _, _, _, _, _, _, _, _, _, _, rfl, h15⟩
        · cases h7
      | _ => cases h1
    | _ => cases dt <;> cases h1
end Rd
namespace Rd
open PySem L2
/-- [f(c) for c in text], f pure -/
theorem lcs {x : Str} {te : TE} {i : Nat} {σ : St} {H1 : Hp} {D : Addr} {Qd : Hp → Prop} (f : Nat → V) (hx : x.length ≤ sizeLine)
    (hte : ∀ c (H : Hp) (Q : VK), c ∈ x.cps.toList → Q (f c) H → te ((wipe σ [i]).set i (some (.str ⟨#[c]⟩))) H Q) (hq : Qd (upd H1 D (.lst (x.cps.toList.map f)))) :
    ∃ W : Nat → Nat → Hp → Prop, (∃ m, W 0 m (upd H1 D (.lst []))) ∧ ∀ j m H, W j m H →
      ((Its x).stop j H ∧ Qd H) ∨ ((Its x).go j H ∧ ∃ Nx : Hp → Prop, (∀ H', Nx H' → ∃ m', m' < m ∧ W (j + 1) m' H') ∧ ∀ v H', (Its x).yld j H v H' → gName i v (wipe σ [i]) H' fun σ2 H2 => wipe σ2 [i] = wipe σ [i] ∧ tYes σ2 H2 fun b H3 =>
        if b = true then te σ2 H3 fun y H4 => ∃ acc, H4 D = some (.lst acc) ∧ acc.length < sizeLine ∧ Nx (upd H4 D (.lst (acc ++ [y]))) else Nx H3) := by
  have hs : x.cps.toList.length = x.cps.size := by simp
  refine ⟨fun j m H => m = x.cps.size - j ∧ j ≤ x.cps.size ∧ H = upd H1 D (.lst ((x.cps.toList.take j).map f)), ⟨_, rfl, Nat.zero_le _, rfl⟩, ?_⟩
  rintro j m H ⟨rfl, hj, rfl⟩
  by_cases hlt : j < x.cps.size
  · refine .inr ⟨hlt, fun H' => H' = upd H1 D (.lst ((x.cps.toList.take (j + 1)).map f)), fun H' e => ⟨x.cps.size - (j + 1), by omega, rfl, hlt, e⟩, ?_⟩
    rintro v H' ⟨rfl, c, hc, rfl⟩
    have hc2 : x.cps.toList[j]? = some c := by simpa using hc
    refine ⟨by simp [wipe], hte c _ _ (List.mem_of_getElem? hc2) ⟨_, upd_same, ?_, ?_⟩⟩
    · rw [List.length_map, List.length_take, hs]
      have : x.cps.size ≤ sizeLine := hx
      omega
    · show upd (upd H1 D _) D _ = _
      rw [upd_upd, List.take_succ, hc2]
      simp
  · have e : j = x.cps.size := by omega
    subst e
    refine .inl ⟨Nat.le_refl _, ?_⟩
    rw [← hs, List.take_length]
    exact hq
theorem Same.upd {H : Hp} {p : Addr} {o : HO} (h : H p = none) : Same H (L2.upd H p o) := fun a u e => by rw [upd_ne (ne_of_none e h)]; exact e
theorem Same.upd' {H H1 : Hp} {p : Addr} {o : HO} (x : Same H H1) (h : H1 p = none) : Same H (L2.upd H1 p o) := x.trans (Rd.Same.upd h)
end Rd
namespace Rd
open PySem L2
theorem seqAsg {te : TE} {g : TG} {u : TS} {D : Ends} {σ : St} {H : Hp} (h : te σ H fun x H1 => g x σ H1 (u D)) : tSeq (tAsg te g) u D σ H := h
theorem gName_k {i : Nat} {v : V} {σ : St} {H : Hp} {R : St → Hp → Prop} (h : R (σ.set i (some v)) H) : gName i v σ H R := h
theorem asgNx {te : TE} {g : TG} {D : Ends} {σ : St} {H : Hp} (h : te σ H fun x H1 => g x σ H1 D.nx) : tAsg te g D σ H := h
theorem retE {te : TE} {D : Ends} {σ : St} {H : Hp} (h : te σ H D.rt) : tRet te D σ H := h
end Rd
namespace Rd
open PySem L2
/-- a test that answers b, the heap may grow -/
def TB (t : TT) (σ : St) (H : Hp) (b : Bool) : Prop := ∀ Q : Bool → Hp → Prop, (∀ H', Same H H' → Q b H') → t σ H Q
theorem tb_and {t u : TT} {σ : St} {H : Hp} {b c : Bool} (h1 : TB t σ H b) (h2 : ∀ H', Same H H' → b = true → TB u σ H' c) : TB (tAnd t u) σ H (b && c) := fun Q k => h1 _ fun H' s => by
  cases b with
  | true => exact h2 H' s rfl Q fun H2 s2 => k H2 (s.trans s2)
  | false => exact k H' s
theorem tb_or {t u : TT} {σ : St} {H : Hp} {b c : Bool} (h1 : TB t σ H b) (h2 : ∀ H', Same H H' → b = false → TB u σ H' c) : TB (tOr t u) σ H (b || c) := fun Q k => h1 _ fun H' s => by
  cases b with
  | true => exact k H' s
  | false => exact h2 H' s rfl Q fun H2 s2 => k H2 (s.trans s2)
theorem tb_not {t : TT} {σ : St} {H : Hp} {b : Bool} (h1 : TB t σ H b) : TB (tNot t) σ H (!b) := fun Q k => h1 _ fun H' s => k H' s
theorem seqIf {c : TT} {t u v : TS} {D : Ends} {σ : St} {H : Hp} {b : Bool} (hc : TB c σ H b) (k : ∀ H', Same H H' → if b = true then t { D with nx := v D } σ H' else u { D with nx := v D } σ H') : tSeq (tIfS c t u) v D σ H := hc _ k
theorem oneIf {c : TT} {t u : TS} {D : Ends} {σ : St} {H : Hp} {b : Bool} (hc : TB c σ H b) (k : ∀ H', Same H H' → if b = true then t D σ H' else u D σ H') : tIfS c t u D σ H := hc _ k
end Rd
namespace Rd
open PySem L2
theorem nxt {D : Ends} {σ : St} {H : Hp} (h : D.nx σ H) : tNext D σ H := h
end Rd
namespace Rd
open PySem L2
/-! ### exceptions -/
/-- C0.__init__ read off the class C0 -/
structure REx (K : PySem.W.Frag) (C0 : Addr) : Prop where
  sga : PySem.W.specialIn K (.ref C0) "__getattribute__" = some (some (.builtin "type.__getattribute__"))
  ty : PySem.W.typeIn K (.ref C0) = some (.type "type")
  rd : PySem.W.readsIn K C0 (.type "type") = true
  fc : PySem.W.findCls K (.ref C0) (.type "type") "__init__" = some (.val (.builtin "ValueError.__init__"))
def rexB (K : PySem.W.Frag) (x : Str) : Bool := He.eqO (PySem.W.specialIn K (.ref (He.ga K x)) "__getattribute__") (some (some (.builtin "type.__getattribute__"))) && (decide (PySem.W.typeIn K (.ref (He.ga K x)) = some (.type "type")) && (PySem.W.readsIn K (He.ga K x) (.type "type") &&
  (match PySem.W.findCls K (.ref (He.ga K x)) (.type "type") "__init__" with
    | some (.val (.builtin n)) => decide (n = "ValueError.__init__")
    | _ => false)))
theorem rexB_ok {K : PySem.W.Frag} {x : Str} (h : rexB K x = true) : REx K (He.ga K x) := by
  obtain ⟨h1, h⟩ := He.ba h
  obtain ⟨h2, h⟩ := He.ba h
  obtain ⟨h3, h4⟩ := He.ba h
  refine ⟨He.eqO_ok h1, of_decide_eq_true h2, h3, ?_⟩
  split at h4
  · rename_i n e
    rw [e, of_decide_eq_true h4]
  · cases h4
section
variable {X : Cx} {e : Expr} {es : List Expr} {ta : TA} {p1 p2 pos : Pos}
theorem pe_reinit {pl : Sem Bool} {x : Str} {C0 : Addr} (hg : Gl X x) (hm : X.mg x = some (.ref C0)) (R0 : REx X.K C0) (ha : PA X (e :: es) ta) (hd : (x == ("__debug__" : Str)) = false := by decide)
    (hc : eval (.Call (.Attribute (.Name x p1) "__init__" p2) (e :: es) [] pos) X.env = (do
      let ov ← eval (.Name x p1) X.env
      standAt p2.atName
      let (f, first) ← holding [ov] (getMethod ov "__init__" pl)
      callWith pos f first (backTo pos (starEach (e :: es) X.env)) (backToKw pos (keywordEach [] X.env))) := by rfl)
    (he : starEach (e :: es) X.env = (false, eval e X.env) :: starEach es X.env := by rfl) (hpl : (backTo pos (starEach es X.env)).any (·.1) = false := by rfl) :
    PE X (.Call (.Attribute (.Name x p1) "__init__" p2) (e :: es) [] pos) (tVeI X.K ta) := by
  refine ⟨fun pins s σ H Q I h => ?_⟩
  refine PySem.W.methodCall_KW (ld_glob I hg hm ?_ hd) hc
  obtain ⟨m, fr⟩ := I.fr
  refine PySem.W.method_of_cls fr I.ok.mod.kin R0.sga (PySem.W.cls_val fr I.ok.mod.kin R0.ty R0.rd R0.fc (by decide +kernel) ?_)
  show wpAny _ _ (callWith pos (Value.builtin "ValueError.__init__") [] (backTo pos (starEach (e :: es) X.env)) []) _ _ _
  refine PyProof.Rows.callWith_method1 (thn (ha.run pos pins _ σ H _ (I.tok _) h) fun us s1 ⟨vs, H1, I1, r1, a, C, ws, ev, hl, T, ea, q⟩ => ?_) he hpl
  subst ev
  cases r1 with
  | @cons _ u0 _ ur ra rw' =>
    obtain rfl : u0 = Value.ref a := ra
    have hlen : ur.length ≤ sizeLine := by
      rw [← Paired.length rw', sizeLine_eq]
      omega
    exact oinit_ok T I1 ea hlen fun s' J => ⟨.non, H1, J, rfl, q⟩
end
/-- the __init__ of an exception with one field -/
def spX1 (K : PySem.W.Frag) (f : Str) : Sp := fun vs H Q _ => ∃ (a C : Addr) (v : V), vs = [.ref a, v] ∧ OexC K C ∧ PySem.W.findIn K (.ref C) f = some none ∧ H a = some (exo a C none) ∧
  ∀ dx, H dx = none → dx ≠ a → Q .non (upd (upd H dx (exd dx [(f, v)])) a (exo a C (some dx)))
/-- reading a raise of such an exception, behind its argument -/
theorem rd_raise1 {K : PySem.W.Frag} {C : Addr} {f : Str} {v : V} {H1 : Hp} {R : XK} (T : OexC K C) (no : PySem.W.findIn K (.ref C) f = some none)
    (k : ∀ d H', Same H1 H' → H1 d = none → H' d = some (.xd [(f, v)]) → R (.ref C) (some d) H') :
    ([v] : List V).length ≤ 1000 ∧ ∀ a, H1 a = none → spX1 K f (.ref a :: ([v] ++ [])) (upd H1 a (exo a C none)) (fun v' H2 => v' = .non ∧ ∃ (d : Addr) (fs : List (Str × V)), H2 a = some (exo a C (some d)) ∧ H2 d = some (exd d fs) ∧ H1 d = none ∧ R (.ref C) (some d) (upd (del H2 a) d (.xd fs))) (fun _ _ _ => False) := by
  refine ⟨by show 1 ≤ 1000; decide, fun a ha => ⟨a, C, v, rfl, T, no, upd_same, fun dx hdx ne => ⟨rfl, dx, [(f, v)], upd_same, ?_, ?_, ?_⟩⟩⟩
  · rw [upd_ne ne, upd_same]
  · rw [upd_ne ne] at hdx
    exact hdx
  · rw [upd_ne ne] at hdx
    refine k dx _ (fun b o e => ?_) hdx upd_same
    rw [upd_ne (ne_of_none e hdx), del_ne (ne_of_none e ha), upd_ne (ne_of_none e ha), upd_ne (ne_of_none e hdx), upd_ne (ne_of_none e ha)]
    exact e
/-! ### methods -/
structure Mh (K : PySem.W.Frag) (c m q : Str) (st : Stmt) : Prop where
  ex : ∃ fd, FunD K m q (defArgs st) (defBody st) (defScope st) [] [] (He.ma K (He.ga K c) m) fd
  me : Meth K (He.ga K c) m (He.ma K (He.ga K c) m)
structure Fm (P : Program) (w : World) (K : PySem.W.Frag) (mg : Str → Option Value) (base : Heap) (CX : CXT) (k : Nat) (c m : Str) (ps : List Str) (sp : Sp) : Prop where
  ex : ∃ fd, FnOk P w K mg base CX k (He.ma K (He.ga K c) m) fd ps sp ∧ Binds K fd ps []
  me : Meth K (He.ga K c) m (He.ma K (He.ga K c) m)
section
variable {P : Program} {w : World} {K : PySem.W.Frag} {mg : Str → Option Value} {base : Heap} {CX : CXT} {k : Nat} {c m q : Str} {ps N : List Str} {sp : Sp} {st : Stmt}
theorem Mh.ok (F : Mh K c m q st) (S : FnScope N ps (defScope st))
    (hb : ∀ (kV doc pm : Value) (an : Option Addr) (cdv ct : Value) (us : List Value), us.length = ps.length → bindArgs (PySem.W.fnOf m q (defArgs st) (defBody st) (defScope st) .none kV doc pm an cdv ct) ⟨us, []⟩ = pure (ps.zip us))
    (len : ∀ vs H Q E, sp vs H Q E → vs.length = ps.length)
    (hbody : ∀ (cdv : Value) (A : Around) (outer : List Env) (s : Shared) (H : Hp) (vs : List V) (Q : VK) (E : XK), Room k (A.deeper (PyProof.Rows.envOfC q (defScope st) s.heap.objs.size (He.ma K (He.ga K c) m) cdv)) → sp vs H Q E →
      ∃ t, PSs (cxOf CX P w K mg base N q (defScope st) (He.ma K (He.ga K c) m) cdv A outer s H E) (defBody st) t ∧ t { nx := fun _ H' => Q .non H', rt := Q } (start N vs) H) : Fm P w K mg base CX (k + 1) c m ps sp := by
  obtain ⟨fd, F'⟩ := F.ex
  exact ⟨⟨fd, F'.ok S len hbody, F'.bindsN hb⟩, F.me⟩
theorem Mh.ok0 (F : Mh K c m q st) (S : FnScope N ps (defScope st))
    (hb : ∀ (kV doc pm : Value) (an : Option Addr) (cdv ct : Value) (us : List Value), us.length = ps.length → bindArgs (PySem.W.fnOf m q (defArgs st) (defBody st) (defScope st) .none kV doc pm an cdv ct) ⟨us, []⟩ = pure (ps.zip us))
    (len : ∀ vs H Q E, sp vs H Q E → vs.length = ps.length)
    (hbody : ∀ (cdv : Value) (A : Around) (outer : List Env) (s : Shared) (H : Hp) (vs : List V) (Q : VK) (E : XK), Room k (A.deeper (PyProof.Rows.envOfC q (defScope st) s.heap.objs.size (He.ma K (He.ga K c) m) cdv)) → sp vs H Q E →
      ∃ t, PSs (cxOf CX0 P w K mg base N q (defScope st) (He.ma K (He.ga K c) m) cdv A outer s H E).nox (defBody st) t ∧ t { nx := fun _ H' => Q .non H', rt := Q } (start N vs) H) : Fm P w K mg base CX0 (k + 1) c m ps sp :=
  F.ok S hb len fun cdv A outer s H vs Q E hr h => by
    obtain ⟨t, h1, h2⟩ := hbody cdv A outer s H vs Q E hr h
    exact ⟨t, h1.nox, h2⟩
end
section
variable {X : Cx} {CX : CXT} {k : Nat} {ps : List Str} {sp : Sp} {E : XK} {x c m : Str} {p pos apos : Pos} {e o : Expr} {es : List Expr} {t : TA} {ta : TE}
theorem pe_fm {pl : Sem Bool} (he : PE X o ta) (cl : Cls X.K (He.ga X.K c)) (F : Fm X.prog X.w X.K X.mg X.base CX k c m ps sp) (hr : Room k X.A) (hx : Passes CX X E) (ha : PA X (e :: es) t)
    (hst : starEach (e :: es) X.env = (false, eval e X.env) :: starEach es X.env := by rfl) (hpl : (backTo pos (starEach es X.env)).any (·.1) = false := by rfl)
    (ht : eval (.Call (.Attribute o m apos) (e :: es) [] pos) X.env = (do
      let ov ← eval o X.env
      standAt apos.atName
      let (f, first) ← holding [ov] (getMethod ov m pl)
      callWith pos f first (backTo pos (starEach (e :: es) X.env)) (backToKw pos (keywordEach [] X.env))) := by rfl) :
    PE X (.Call (.Attribute o m apos) (e :: es) [] pos) (tMeth (He.ga X.K c) m sp [] E ta t) := by
  obtain ⟨⟨fd, a, b⟩, me⟩ := F
  exact pe_meth he cl me a hr b .nil hx ha hst hpl ht
theorem pe_fm0 {pl : Sem Bool} (he : PE X o ta) (cl : Cls X.K (He.ga X.K c)) (F : Fm X.prog X.w X.K X.mg X.base CX k c m ps sp) (hr : Room k X.A) (hx : Passes CX X E)
    (ht : eval (.Call (.Attribute o m apos) [] [] pos) X.env = (do
      let ov ← eval o X.env
      standAt apos.atName
      let (f, first) ← holding [ov] (getMethod ov m pl)
      callWith pos f first (backTo pos (starEach [] X.env)) (backToKw pos (keywordEach [] X.env))) := by rfl) :
    PE X (.Call (.Attribute o m apos) [] [] pos) (tMeth (He.ga X.K c) m sp [] E ta tNil) := by
  obtain ⟨⟨fd, a, b⟩, me⟩ := F
  exact pe_meth0 he cl me a hr b .nil hx ht
end
/-! ### an exception class with one field, as the head tells it -/
structure Xh (K : PySem.W.Frag) (mg : Str → Option Value) (x f q : Str) (st : Stmt) : Prop where
  g : mg x = some (.ref (He.ga K x))
  oex : OexC K (He.ga K x)
  no : PySem.W.findIn K (.ref (He.ga K x)) f = some none
  init : Mh K x "__init__" q st
  xf : XfC K (He.ga K x)
  em : PySem.W.exmOne K (.ref (He.ga K x)) (.ref (He.ga K x)) = some true
section
variable {X : Cx} {k : Nat} {x f : Str} {p pos : Pos} {e : Expr} {te : TE} {ps : List Str} {sp : Sp}
theorem pmk_x {ta : TA} {es : List Expr} {q : Str} {st : Stmt} (T : Xh X.K X.mg x f q st) (F : Fm X.prog X.w X.K X.mg X.base CX0 k x "__init__" ps sp) (hr : Room (k + 1) X.A) (hg : Gl X x) (ha : PA X (e :: es) ta)
    (hdb : (x == ("__debug__" : Str)) = false := by decide) (he : starEach (e :: es) X.env = (false, eval e X.env) :: starEach es X.env := by rfl) (hpl : (backTo pos (starEach es X.env)).any (·.1) = false := by rfl) :
    PMk X (.Call (.Name x p) (e :: es) [] pos) (tMkO (He.ga X.K x) sp [] ta) := by
  obtain ⟨⟨fd, a, b⟩, me⟩ := F
  exact pmk_oex T.oex me.at_ (beq_iff_eq.mp me.fn) a hr b .nil (fun _ _ _ _ _ _ _ h => h.elim) hg T.g ha hdb he hpl
end
/-! ### a class with one default in its __init__ -/
structure Ih (K : PySem.W.Frag) (mg : Str → Option Value) (c q : Str) (st : Stmt) (dvs : List V) : Prop where
  ex : ∃ fd, FunD K "__init__" q (defArgs st) (defBody st) (defScope st) dvs [] (He.ma K (He.ga K c) "__init__") fd
  mkr : Mk K (He.ga K c) (He.ma K (He.ga K c) "__init__")
  g : mg c = some (.ref (He.ga K c))
  cl : Cls K (He.ga K c)
structure Fi (P : Program) (w : World) (K : PySem.W.Frag) (mg : Str → Option Value) (base : Heap) (CX : CXT) (k : Nat) (c : Str) (ps : List Str) (sp : Sp) (v : V) : Prop where
  ex : ∃ fd, FnOk P w K mg base CX k (He.ma K (He.ga K c) "__init__") fd ps sp ∧ Binds K fd ps [] ∧ ∃ ds, Vals [v] ds ∧ Binds K fd ps ds
  mkr : Mk K (He.ga K c) (He.ma K (He.ga K c) "__init__")
  g : mg c = some (.ref (He.ga K c))
section
variable {P : Program} {w : World} {K : PySem.W.Frag} {mg : Str → Option Value} {base : Heap} {CX : CXT} {k : Nat} {c q : Str} {ps N : List Str} {sp : Sp} {st : Stmt} {v : V}
theorem Ih.ok {n : Nat} (F : Ih K mg c q st [v]) (S : FnScope N ps (defScope st)) (hn : ps.length = n + 1)
    (hb1 : ∀ (T : Addr) (kV doc pm : Value) (an : Option Addr) (cdv ct : Value) (us its : List Value), us.length = n → its.length = 1 →
      ∃ k, bindArgs (PySem.W.fnOf "__init__" q (defArgs st) (defBody st) (defScope st) (.ref T) kV doc pm an cdv ct) ⟨us, []⟩ = seqItems? (.ref T) >>= k ∧ k (some its.toArray) = pure (ps.zip (us ++ its.drop 0)))
    (hb2 : ∀ (T : Addr) (kV doc pm : Value) (an : Option Addr) (cdv ct : Value) (us its : List Value), us.length = n + 1 → its.length = 1 →
      ∃ k, bindArgs (PySem.W.fnOf "__init__" q (defArgs st) (defBody st) (defScope st) (.ref T) kV doc pm an cdv ct) ⟨us, []⟩ = seqItems? (.ref T) >>= k ∧ k (some its.toArray) = pure (ps.zip (us ++ its.drop 1)))
    (len : ∀ vs H Q E, sp vs H Q E → vs.length = ps.length)
    (hbody : ∀ (cdv : Value) (A : Around) (outer : List Env) (s : Shared) (H : Hp) (vs : List V) (Q : VK) (E : XK), Room k (A.deeper (PyProof.Rows.envOfC q (defScope st) s.heap.objs.size (He.ma K (He.ga K c) "__init__") cdv)) → sp vs H Q E →
      ∃ t, PSs (cxOf CX P w K mg base N q (defScope st) (He.ma K (He.ga K c) "__init__") cdv A outer s H E) (defBody st) t ∧ t { nx := fun _ H' => Q .non H', rt := Q } (start N vs) H) : Fi P w K mg base CX (k + 1) c ps sp v := by
  obtain ⟨fd, F'⟩ := F.ex
  have b1 := F'.binds1 (ps := ps) n 0 (List.cons_ne_nil _ _) (by rw [hn]; rfl) hb1
  obtain ⟨ds, e, b2⟩ := F'.binds1 (ps := ps) (n + 1) 1 (List.cons_ne_nil _ _) (by rw [hn]; rfl) hb2
  cases e
  exact ⟨⟨fd, F'.ok S len hbody, b2, b1⟩, F.mkr, F.g⟩
end
section
variable {X : Cx} {CX : CXT} {k : Nat} {ps : List Str} {sp : Sp} {E : XK} {c : Str} {p pos : Pos} {e : Expr} {es : List Expr} {t : TA} {v : V}
/-- C(.., ..), every argument written -/
theorem pe_mk2 (F : Fi X.prog X.w X.K X.mg X.base CX k c ps sp v) (hr : Room (k + 1) X.A) (hg : Gl X c) (hx : Passes CX X E)
    (ha : PA X (e :: es) t) (hdb : (c == ("__debug__" : Str)) = false := by decide) (he : starEach (e :: es) X.env = (false, eval e X.env) :: starEach es X.env := by rfl) (hpl : (backTo pos (starEach es X.env)).any (·.1) = false := by rfl) :
    PE X (.Call (.Name c p) (e :: es) [] pos) (tMake (He.ga X.K c) sp [] E t) := by
  obtain ⟨⟨fd, a, b, _⟩, M, g⟩ := F
  exact pe_make M a hr hg g b .nil hx ha hdb he hpl
/-- .. the last by its default -/
theorem pe_mk1 (F : Fi X.prog X.w X.K X.mg X.base CX k c ps sp v) (hr : Room (k + 1) X.A) (hg : Gl X c) (hx : Passes CX X E)
    (ha : PA X (e :: es) t) (hdb : (c == ("__debug__" : Str)) = false := by decide) (he : starEach (e :: es) X.env = (false, eval e X.env) :: starEach es X.env := by rfl) (hpl : (backTo pos (starEach es X.env)).any (·.1) = false := by rfl) :
    PE X (.Call (.Name c p) (e :: es) [] pos) (tMake (He.ga X.K c) sp [v] E t) := by
  obtain ⟨⟨fd, a, _, ds, e1, b⟩, M, g⟩ := F
  exact pe_make M a hr hg g b e1 hx ha hdb he hpl
end
end Rd
namespace Rd
open PySem L2
/-! ### the hook: as the library's, with the statics -/
def frY (n : Nat) (g : Addr → Option Obj) : PySem.W.Frag := He.frG g (cStatics :: He.asD g n)
abbrev AlY : Type := He.AlT × Bool
structure SaysY (fa : List He.Fa) (fn : List He.DefD) (ts : List He.Tab) (ex : PySem.W.Frag → Bool) (w : World) (K : PySem.W.Frag) : Prop where
  t : He.SaysT fa fn ts w K
  more : ex K = true
def obsY (n : Nat) (fa : List He.Fa) (fn : List He.DefD) (ts : List He.Tab) (ex : PySem.W.Frag → Bool) (g : Addr → Option Obj) : AlY := (He.obsT fa fn ts (frY n g), ex (frY n g))
def valY (fn : List He.DefD) (ts : List He.Tab) (w : World) : AlY := (He.valT fn ts w, true)
def hookY (n : Nat) (fa : List He.Fa) (fn : List He.DefD) (ts : List He.Tab) (ex : PySem.W.Frag → Bool) : PySem.W.Hook where
  α := AlY
  obs := fun s => obsY n fa fn ts ex s.heap.get?
  val := fun w => valY fn ts w
  says := fun w h => ∃ K : PySem.W.Frag, K.In h ∧ SaysY fa fn ts ex w K
  of := fun _ _ e => ⟨_, He.frG_in, ⟨congrArg (fun z : AlY => z.1) e, congrArg (fun z : AlY => z.2) e⟩⟩
  keeps := fun _ _ _ ⟨K, hK, c⟩ k => ⟨K, PySem.W.Frag.In.keeps hK k, c⟩
theorem obsY_eq {n : Nat} {fa : List He.Fa} {fn : List He.DefD} {ts : List He.Tab} {ex : PySem.W.Frag → Bool} {g : Addr → Option Obj} {s : Shared} (h : ∀ a, g a = s.heap.get? a) : obsY n fa fn ts ex g = (hookY n fa fn ts ex).obs s := by
  have e : g = s.heap.get? := funext h
  rw [e] <;> rfl
end Rd
namespace Rd
open PySem L2
/-! ### a written dict of the module: text keys, int values -/
structure Kd (w : World) (K : PySem.W.Frag) (mg : Str → Option Value) (x : Str) (kvs : List (Str × Int)) : Prop where
  g : mg x = some (.ref (He.ga K x))
  kd : ∃ es n, KDict K w (He.ga K x) es n
  no : ∀ z, z ∉ kvs.map (·.1) → PySem.W.nsIn K (He.ga K x) z = some none
  ys : ∀ p ∈ kvs, ∃ t, PySem.W.nsIn K (He.ga K x) p.1 = some (some (.int p.2 t))
def kdB (K : PySem.W.Frag) (a : Addr) (kvs : List (Str × Int)) : Bool := (match K.lookup a with
  | some ⟨_, _, .dict es _, _⟩ => es.toList.all fun e => (match e.key with
    | .str x _ => (kvs.map (·.1)).contains x
    | _ => false)
  | _ => false) && kvs.all fun p => (match PySem.W.nsIn K a p.1 with
    | some (some (.int i _)) => decide (i = p.2)
    | _ => false)
theorem kd_ok {w : World} {K : PySem.W.Frag} {mg : Str → Option Value} {x : Str} {kvs : List (Str × Int)} (g : mg x = some (.ref (He.ga K x))) (kd : ∃ es n, KDict K w (He.ga K x) es n) (h : kdB K (He.ga K x) kvs = true) : Kd w K mg x kvs := by
  obtain ⟨h1, h2⟩ := He.ba h
  refine ⟨g, kd, fun z hz => ?_, fun p hp => ?_⟩
  · obtain ⟨es, n, D⟩ := kd
    rw [D.at_] at h1
    have h3 : es.toList.all (fun e => (match e.key with
      | .str x _ => (kvs.map (·.1)).contains x
      | _ => false)) = true := h1
    have h4 := List.all_eq_true.mp h3
    unfold PySem.W.nsIn
    rw [D.at_]
    have e1 : es.toList.find? (·.key.isStr z) = none := by
      rw [List.find?_eq_none]
      intro e he q
      have h5 := h4 e he
      cases ek : e.key with
      | str y t =>
        rw [ek] at h5 q
        have e2 : y = z := eq_of_beq q
        subst e2
        exact hz (List.contains_iff_mem.mp h5)
      | _ =>
        rw [ek] at h5
        cases h5
    have e2 : es.toList.any (·.refKey) = false := by
      rw [List.any_eq_false]
      intro e he q
      have h5 := h4 e he
      unfold DictEntry.refKey at q
      cases ek : e.key with
      | str y t =>
        rw [ek] at q
        cases q
      | _ =>
        rw [ek] at h5
        cases h5
    show (match es.toList.find? (·.key.isStr z) with
      | some e => some (some e.val)
      | none => if es.toList.any (·.refKey) then none else some none) = some none
    rw [e1, e2]
    rfl
  · have h3 := List.all_eq_true.mp h2 p hp
    split at h3
    · rename_i i t e
      rw [e]
      exact ⟨t, by rw [of_decide_eq_true h3]⟩
    · cases h3
section
variable {X : Cx} {x : Str} {kvs : List (Str × Int)} {pos : Pos}
theorem pe_kd (D : Kd X.w X.K X.mg x kvs) (hg : Gl X x := by rfl) (hd : (x == ("__debug__" : Str)) = false := by decide) : PE X (.Name x pos) (tC (.ref (He.ga X.K x))) := pe_glob hg D.g rfl hd
def rInK (K : PySem.W.Frag) (x : Str) (kvs : List (Str × Int)) : R2 := fun a b H Q => ∃ z, a = .str z ∧ b = .ref (He.ga K x) ∧ Q (.bl (decide (z ∈ kvs.map (·.1)))) H
def rNotInK (K : PySem.W.Frag) (x : Str) (kvs : List (Str × Int)) : R2 := fun a b H Q => ∃ z, a = .str z ∧ b = .ref (He.ga K x) ∧ Q (.bl (!decide (z ∈ kvs.map (·.1)))) H
theorem Kd.look {w : World} {K : PySem.W.Frag} {mg : Str → Option Value} (D : Kd w K mg x kvs) (z : Str) : ∃ r, PySem.W.nsIn K (He.ga K x) z = some r ∧ r.isSome = decide (z ∈ kvs.map (·.1)) := by
  by_cases h : z ∈ kvs.map (·.1)
  · obtain ⟨p, hp, rfl⟩ := List.mem_map.mp h
    obtain ⟨t, e⟩ := D.ys p hp
    exact ⟨_, e, by rw [decide_eq_true h]; rfl⟩
  · exact ⟨_, D.no z h, by rw [decide_eq_false h]; rfl⟩
theorem op_inK (D : Kd X.w X.K X.mg x kvs) : OpR X (compareOp .In) (rInK X.K x kvs) := by
  intro pins s σ H a b v u Q I ra rb h
  obtain ⟨z, rfl, rfl, q⟩ := h
  obtain ⟨es, n, kd⟩ := D.kd
  obtain ⟨r, e1, e2⟩ := D.look z
  exact op_in_kd kd pins s σ H _ _ v u Q I ra rb ⟨z, r, rfl, rfl, e1, by rw [e2]; exact q⟩
theorem op_notInK (D : Kd X.w X.K X.mg x kvs) : OpR X (compareOp .NotIn) (rNotInK X.K x kvs) := by
  intro pins s σ H a b v u Q I ra rb h
  obtain ⟨z, rfl, rfl, q⟩ := h
  obtain ⟨es, n, kd⟩ := D.kd
  obtain ⟨r, e1, e2⟩ := D.look z
  exact op_notIn_kd kd pins s σ H _ _ v u Q I ra rb ⟨z, r, rfl, rfl, e1, by rw [e2]; exact q⟩
def rIxK (K : PySem.W.Frag) (x : Str) (kvs : List (Str × Int)) : R2 := fun a b H Q => ∃ p ∈ kvs, a = .ref (He.ga K x) ∧ b = .str p.1 ∧ Q (.int p.2) H
theorem ix_K (D : Kd X.w X.K X.mg x kvs) : IxR X (rIxK X.K x kvs) := by
  intro value slice pins s σ H a b v u Q I ra rb h hs
  obtain ⟨p, hp, rfl, rfl, q⟩ := h
  obtain ⟨es, n, kd⟩ := D.kd
  obtain ⟨t, e⟩ := D.ys p hp
  exact ix_kdict value slice pins s σ H _ _ v u Q I ra rb ⟨_, _, V.int p.2, rfl, rfl, ⟨es, n, _, kd.at_, kd.lit, e, ⟨t, rfl⟩⟩, q⟩ hs
end
end Rd
namespace Rd
open PySem L2
/-! ### calls whose raise is wished for at the caller's slots (in a try's body) -/
def tMakeS (C : Addr) (sp : Sp) (dvs : List V) (E : St → XK) (t : TA) : TE := fun σ H Q => t σ H fun vs H1 => ∀ x dx, H1 x = none → H1 dx = none → dx ≠ x →
  sp (.ref x :: (vs ++ dvs)) (upd (upd H1 dx (.own x)) x (.ins C dx [])) (fun v H2 => v = .non ∧ Q (.ref x) H2) (E σ)
def tMethS (C : Addr) (m : Str) (sp : Sp) (E : St → XK) (ta : TE) (t : TA) : TE := fun σ H Q => ta σ H fun x H1 => ∃ a dx fs, x = .ref a ∧ H1 a = some (.ins C dx fs) ∧ fs.lookup m = none ∧
  t σ H1 fun vs H2 => sp (x :: vs) H2 Q (E σ)
section
variable {X : Cx} {CX : CXT} {k : Nat} {ps : List Str} {sp : Sp} {E : St → XK} {x c m : Str} {p pos apos : Pos} {e o : Expr} {es : List Expr} {t : TA} {ta : TE} {v : V}
theorem run_makeS {C f : Addr} {fd : FuncData} {dvs : List V} {ds : List Value} {pins : List (Addr × Obj)} {σ : St} {H : Hp} {s : Shared} {Q : VK} {us : List Value} {vs : List V} (M : Mk X.K C f) (F : FnOk X.prog X.w X.K X.mg X.base CX k f fd ps sp) (hr : Room (k + 1) X.A) (hb : Binds X.K fd ps ds) (hd : Vals dvs ds)
    (hx : PassesAt CX X σ (E σ)) (I : Inv X pins σ H s) (r : Vals vs us)
    (h : ∀ x dx, H x = none → H dx = none → dx ≠ x → sp (.ref x :: (vs ++ dvs)) (upd (upd H dx (.own x)) x (.ins C dx [])) (fun v H2 => v = .non ∧ Q (.ref x) H2) (E σ)) :
    wpAny (model X.prog X.w) X.A (call (.ref C) us) (EP X pins σ Q) X.xe s := by
  have hq := h (s.heap.objs.size + 1) s.heap.objs.size (I.hok.fresh (Nat.le_succ _)) (I.hok.fresh (Nat.le_refl _)) (Nat.ne_of_lt (Nat.lt_succ_self _))
  have I2 := Inv.made (C := C) I
  have r2 : Vals (V.ref (s.heap.objs.size + 1) :: (vs ++ dvs)) (Value.ref (s.heap.objs.size + 1) :: (us ++ ds)) := .cons rfl (r.append hd)
  have hl : (Value.ref (s.heap.objs.size + 1) :: us ++ ds).length = ps.length := by
    have e := r2.length
    rw [F.len _ _ _ _ hq] at e
    exact e.symm
  refine wpAny_call (make_map (f := f) I.kIn M.makes M.init (beq_iff_eq.mp M.fn) (codeAny_mono (F.run _ X.stack _ _ ⟨Value.ref (s.heap.objs.size + 1) :: us, []⟩ (Value.ref (s.heap.objs.size + 1) :: (us ++ ds)) _ _ (E σ) (hr.make C us [])
    (I2.env0.make C us []) (hb _ (Value.ref (s.heap.objs.size + 1) :: us) I2.kIn hl) r2 hq) fun r s' hq' => ?_))
  cases r with
  | error e => exact hx pins _ _ e s' I2 hq'
  | ok fl =>
    cases fl with
    | ret u =>
      obtain ⟨v, H', I3, rv, ev, q3⟩ := I2.after hq'
      subst ev
      exact ⟨rv, ⟨V.ref (s.heap.objs.size + 1), H', I3, rfl, q3⟩⟩
    | next => exact False.elim hq'
    | brk => exact False.elim hq'
    | cont => exact False.elim hq'
theorem pe_mk1S (F : Fi X.prog X.w X.K X.mg X.base CX k c ps sp v) (hr : Room (k + 1) X.A) (hg : Gl X c) (hx : ∀ σ, PassesAt CX X σ (E σ))
    (ha : PA X (e :: es) t) (hdb : (c == ("__debug__" : Str)) = false := by decide) (he : starEach (e :: es) X.env = (false, eval e X.env) :: starEach es X.env := by rfl) (hpl : (backTo pos (starEach es X.env)).any (·.1) = false := by rfl) :
    PE X (.Call (.Name c p) (e :: es) [] pos) (tMakeS (He.ga X.K c) sp [v] E t) := by
  obtain ⟨⟨fd, a, _, ds, e1, b⟩, M, g⟩ := F
  refine ⟨fun pins s σ H Q I h => ?_⟩
  refine wpAny_Call_Name_kw (ld_glob I hg g ?_ hdb)
  refine PySem.W.callWith_K (h₀ := X.base) I.ok.mod.kin M.kp (thn (ha.run pos pins s σ H _ I h) fun us s1 ⟨vs, H1, I1, r, q⟩ => ⟨I1.kIn, ?_⟩) he hpl
  exact run_makeS M a hr b e1 (hx σ) I1 r q
theorem pe_fkS (F : Fk X.prog X.w X.K X.mg X.base CX k x ps sp) (hr : Room k X.A) (hg : Gl X x) (hx : ∀ σ, PassesAt CX X σ (E σ))
    (ha : PA X (e :: es) t) (hdb : (x == ("__debug__" : Str)) = false := by decide) (he : starEach (e :: es) X.env = (false, eval e X.env) :: starEach es X.env := by rfl) (hpl : (backTo pos (starEach es X.env)).any (·.1) = false := by rfl) :
    PE X (.Call (.Name x p) (e :: es) [] pos) (tCallS sp E t) := by
  obtain ⟨⟨fd, a, b⟩, c, d⟩ := F
  exact pe_callS a hr hg c d b hx ha hdb he hpl
end
end Rd
namespace Rd
open PySem L2
/-! ### own operators -/
theorem at0 {X : Cx} {σ : St} : PassesAt CX0 X σ E0 := fun _ _ _ _ _ _ h => h.elim
theorem back_of {X : Cx} {pins : List (Addr × Obj)} {σ : St} {Q : VK} {v : Value} {s : Shared} (h : EP X pins σ Q v s) : PySem.W.CmpBack (EP X pins σ Q) v s := by
  obtain ⟨x, H', I', r, q⟩ := id h
  cases v with
  | notImplemented =>
    cases x with
    | non => cases r
    | bl b => cases r
    | int i => obtain ⟨t, e⟩ := r; cases e
    | str z => obtain ⟨t, e⟩ := r; cases e
    | byt b => obtain ⟨t, e⟩ := r; cases e
    | flt b => obtain ⟨t, e⟩ := r; cases e
    | ref a => cases r
    | ty n => cases r
  | _ => exact h
def tBo (C : Addr) (sp : Sp) (E : St → XK) (ta tb : TE) : TE := fun σ H Q => ta σ H fun x H1 => tb σ H1 fun y H2 => ∃ a b dx dy fs gs, x = .ref a ∧ y = .ref b ∧ H2 a = some (.ins C dx fs) ∧ H2 b = some (.ins C dy gs) ∧ sp [.ref a, .ref b] H2 Q (E σ)
def tUo (C : Addr) (sp : Sp) (E : St → XK) (ta : TE) : TE := fun σ H Q => ta σ H fun x H1 => ∃ a dx fs, x = .ref a ∧ H1 a = some (.ins C dx fs) ∧ sp [.ref a] H1 Q (E σ)
section
variable {X : Cx} {CX : CXT} {k : Nat} {ps : List Str} {sp : Sp} {E : St → XK} {c m : Str} {pos : Pos} {a b : Expr} {ta tb : TE}
theorem pe_bo {op : Operator} (ha : PE X a ta) (hb : PE X b tb) (sf : PySem.W.selfFirst X.K (He.ga X.K c) = true) (F : Fm X.prog X.w X.K X.mg X.base CX k c m ps sp) (hr : Room k X.A) (hx : ∀ σ, PassesAt CX X σ (E σ)) (hm : PySem.dunder op.info.2 = m := by decide +kernel) :
    PE X (.BinOp a op b pos) (tBo (He.ga X.K c) sp E ta tb) := by
  obtain ⟨⟨fd, f1, b1⟩, me⟩ := F
  refine ⟨fun pins s σ H Q I h => ?_⟩
  refine wpAny_BinOp (binT ha hb I h fun v u s2 x y H2 I2 rx ry q => ?_)
  obtain ⟨p, r, dx, dy, fs, gs, rfl, rfl, hp, hr2, q⟩ := q
  cases rx
  cases ry
  obtain ⟨mA, J, _⟩ := ins_get I2.hok hp
  obtain ⟨mB, J', _⟩ := ins_get I2.hok hr2
  obtain ⟨od, J, _⟩ := J.look
  obtain ⟨od', J', _⟩ := J'.look
  obtain ⟨mm, hF⟩ := I2.fr
  refine PySem.W.binop_K hF I2.ok.mod.kin J J'.type sf (by rw [hm]; exact me.at_) me.fn (thn (run_fnS (vs := [.ref p, .ref r]) (E := E) f1 hr b1 (hx σ) I2 (.cons rfl (.cons rfl .nil)) q) fun v s' hq => back_of hq)
theorem pe_uo {op : UnaryOp} (ha : PE X a ta) (F : Fm X.prog X.w X.K X.mg X.base CX k c m ps sp) (hr : Room k X.A) (hx : ∀ σ, PassesAt CX X σ (E σ))
    (hm : (op = .Invert ∧ m = "__invert__") ∨ (op = .UAdd ∧ m = "__pos__") ∨ (op = .USub ∧ m = "__neg__")) : PE X (.UnaryOp op a pos) (tUo (He.ga X.K c) sp E ta) := by
  obtain ⟨⟨fd, f1, b1⟩, me⟩ := F
  refine ⟨fun pins s σ H Q I h => ?_⟩
  refine PyProof.Rows.UnaryOp_ (thn (ha.run pins s σ H _ I h) fun v s1 ⟨x, H1, I1, r1, q1⟩ => ?_)
  obtain ⟨p, dx, fs, rfl, hp, q⟩ := q1
  cases r1
  obtain ⟨mA, J, _⟩ := ins_get I1.hok hp
  obtain ⟨od, J, _⟩ := J.look
  have go : wpAny (model X.prog X.w) X.A (callSpecial? (.ref p) m) (fun r s' => ∃ v, r = some v ∧ EP X pins σ Q v s') X.xe s1 :=
    PySem.W.special_fn I1.kIn J me.at_ (beq_iff_eq.mp me.fn) (thn (run_fnS (vs := [.ref p]) (E := E) f1 hr b1 (hx σ) I1 (.cons rfl .nil) q) fun v s' hq => ⟨v, rfl, hq⟩)
  unfold unaryOp
  refine wpAny_holding ?_
  rcases hm with ⟨rfl, rfl⟩ | ⟨rfl, rfl⟩ | ⟨rfl, rfl⟩
  · refine wpAny_bind (thn go fun r s' ⟨v, e, hq⟩ => ?_)
    subst e
    exact wpAny_pure hq
  · refine wpAny_bind (thn go fun r s' ⟨v, e, hq⟩ => ?_)
    subst e
    exact wpAny_pure hq
  · refine wpAny_bind (thn go fun r s' ⟨v, e, hq⟩ => ?_)
    subst e
    exact wpAny_pure hq
end
end Rd
namespace Rd
open PySem L2
theorem in_strs (z : Str) : ∀ l : List Str, inV (.str z) (l.map V.str) = decide (z ∈ l)
  | [] => by simp [inV]
  | a :: r => by
    have ih := in_strs z r
    unfold inV at ih ⊢
    rw [List.map_cons, List.any_cons, ih]
    show ((a == z) || _) = _
    by_cases h : a = z
    · subst h
      simp
    · have e : (a == z) = false := by simpa using h
      rw [e, Bool.false_or]
      have h' : z ≠ a := fun q => h q.symm
      simp [h']
theorem flat_strs : ∀ l : List Str, (l.map V.str).all flatV = true
  | [] => rfl
  | a :: r => by rw [List.map_cons, List.all_cons, flat_strs r]; rfl
section
variable {X : Cx}
def rInT (K : PySem.W.Frag) : R2 := fun x y H Q => ∃ (z : Str) (p : Addr) (l : List Str), x = .str z ∧ y = .ref p ∧ SqT K H p (l.map V.str) ∧ Q (.bl (decide (z ∈ l))) H
def rNotInT (K : PySem.W.Frag) : R2 := fun x y H Q => ∃ (z : Str) (p : Addr) (l : List Str), x = .str z ∧ y = .ref p ∧ SqT K H p (l.map V.str) ∧ Q (.bl (!decide (z ∈ l))) H
theorem op_inT : OpR X (compareOp .In) (rInT X.K) := by
  intro pins s σ H x y v u Q I rx ry h
  obtain ⟨z, p, l, rfl, rfl, hs, q⟩ := h
  exact op_in_seq pins s σ H _ _ v u Q I rx ry ⟨p, _, rfl, .inr hs, rfl, flat_strs l, by show Q (.bl (inV _ _)) H; rw [in_strs]; exact q⟩
theorem op_notInT : OpR X (compareOp .NotIn) (rNotInT X.K) := by
  intro pins s σ H x y v u Q I rx ry h
  obtain ⟨z, p, l, rfl, rfl, hs, q⟩ := h
  exact op_notIn_seq pins s σ H _ _ v u Q I rx ry ⟨p, _, rfl, .inr hs, rfl, flat_strs l, by show Q (.bl (!inV _ _)) H; rw [in_strs]; exact q⟩
end
end Rd
namespace Rd
open PySem L2
/-! ### exceptions whose context is known, methods called where one is handled -/
theorem passN {X : Cx} : Passes (L2N.CX X.prog X.w) X E0 := fun _ _ _ _ _ _ _ h => by
  obtain ⟨_, _, _, _, _, _, _, _, _, _, _, _, z⟩ := h
  exact z.elim
theorem atN {X : Cx} {σ : St} : PassesAt (L2N.CX X.prog X.w) X σ E0 := fun _ _ _ _ _ I h => passN _ _ _ _ _ _ I h
theorem takes0N {X : Cx} : L2N.Takes X (fun _ _ _ _ => False) := fun _ _ x => by
  obtain ⟨_, _, _, _, _, _, _, _, _, _, _, _, _, _, _, _, z⟩ := x
  exact z.elim
section
variable {X : Cx} {k : Nat} {x f c m : Str} {p pos apos : Pos} {e o : Expr} {te : TE} {ta : TA} {ps : List Str} {sp : Sp} {CX : CXT} {to : TE}
theorem pmk_xN {es : List Expr} {q : Str} {st : Stmt} (T : Xh X.K X.mg x f q st) (Fq : Fm X.prog X.w X.K X.mg X.base CX0 k x "__init__" ps sp) (hr : Room (k + 1) X.A) (hg : Gl X x) (ha : PA X (e :: es) ta)
    (hdb : (x == ("__debug__" : Str)) = false := by decide) (he : starEach (e :: es) X.env = (false, eval e X.env) :: starEach es X.env := by rfl) (hpl : (backTo pos (starEach es X.env)).any (·.1) = false := by rfl) :
    L2N.PMk X (.Call (.Name x p) (e :: es) [] pos) (tMkO (He.ga X.K x) sp [] ta) := by
  obtain ⟨⟨fd, F1, hb⟩, me⟩ := Fq
  intro pins s σ H Q I h
  obtain ⟨nm, q', N, bs, bm, sn, sub, ab, col, dd, k0, k1, k2, k3, k5, hC, hbm⟩ := T.oex.cls
  refine wpAny_Call_Name_kw (ld_glob I hg T.g ?_ hdb)
  refine PySem.W.callWith_K (h₀ := X.base) I.ok.mod.kin T.oex.kC (thn (ha.run pos pins s σ H _ I h) fun us s1 ⟨vs, H1, I1, r1, hz, q1⟩ => ⟨I1.kIn, ?_⟩) he hpl
  show wpAny _ _ (call (.ref (He.ga X.K x)) us) _ _ _
  obtain ⟨hp, g, dr, tk, os⟩ := s1
  have hsz : hp.objs.size ≤ hp.objs.size + 1 := Nat.le_succ _
  have hn : H1 (hp.objs.size + 1) = none := I1.hok.fresh hsz
  have hq := q1 (hp.objs.size + 1) hn
  rw [List.append_nil] at hq
  have kk : ∀ b o, hp.get? b = some o → ((hp.push (PySem.W.kdv_tup us)).push (PySem.HandSPX.excO (He.ga X.K x) hp.objs.size)).get? b = some o := fun b o e => Heap.get?_push_of_some _ (Heap.get?_push_of_some _ e)
  have hget : ((hp.push (PySem.W.kdv_tup us)).push (PySem.HandSPX.excO (He.ga X.K x) hp.objs.size)).get? (hp.objs.size + 1) = some (PySem.HandSPX.excO (He.ga X.K x) hp.objs.size) := by heap_get
  have I2 : Inv X pins σ (upd H1 (hp.objs.size + 1) (exo (hp.objs.size + 1) (He.ga X.K x) none)) ⟨(hp.push (PySem.W.kdv_tup us)).push (PySem.HandSPX.excO (He.ga X.K x) hp.objs.size), g, dr, tk, os⟩ :=
    I1.laid (t' := tk) (a := hp.objs.size + 1) (o := exo (hp.objs.size + 1) (He.ga X.K x) none) (h' := (hp.push (PySem.W.kdv_tup us)).push (PySem.HandSPX.excO (He.ga X.K x) hp.objs.size)) kk hsz (exo_ok hget)
  have r2 : Vals (V.ref (hp.objs.size + 1) :: vs) (Value.ref (hp.objs.size + 1) :: us) := .cons rfl r1
  have hl : (Value.ref (hp.objs.size + 1) :: us).length = ps.length := by
    have e := r2.length
    rw [F1.len _ _ _ _ hq] at e
    exact e.symm
  have hus : us.length ≤ sizeLine := by
    rw [← Paired.length r1, sizeLine_eq]
    omega
  have hbt := hb ⟨(hp.push (PySem.W.kdv_tup us)).push (PySem.HandSPX.excO (He.ga X.K x) hp.objs.size), g, dr, tk, os⟩ (Value.ref (hp.objs.size + 1) :: us) I2.kIn (by rw [List.append_nil]; exact hl)
  rw [List.append_nil] at hbt
  refine wpAny_call (PySem.HandSPX.call_own PySem.F.excBase_ValueError (fun Y => PySem.HandSPX.refsVE_contains Y bm hbm) (I1.kIn _ _ hC) (PySem.W.looks_findIn I1.kIn me.at_) (fun self => PySem.W.bind_fn I1.kIn self (beq_iff_eq.mp me.fn)) hus
    (codeAny_mono (F1.run _ X.stack _ _ ⟨Value.ref (hp.objs.size + 1) :: us, []⟩ (Value.ref (hp.objs.size + 1) :: us) _ _ (fun _ _ _ => False) (hr.make (He.ga X.K x) us []) (I2.env0.make (He.ga X.K x) us []) hbt r2 hq) fun r s' hq' => ?_))
  cases r with
  | error er => exact hq'.elim
  | ok fl =>
    cases fl with
    | ret u =>
      obtain ⟨v, H2, os2, bare2, un2, hok2, rv, ev, d, fs, ea, ed, hd1, q2⟩ := hq'
      subst ev
      obtain ⟨h2, g2, d2, t2, os'⟩ := s'
      obtain ⟨t0, G, J, kG, ge, hoe, na⟩ := mk_end0 (d2 := d2) (t2 := t2) I1 hsz kk un2 hok2 os2 bare2 ea ed hd1
      exact ⟨rv, _, _, _, ⟨G, g2, d2, t2, os'⟩, _, .ref (He.ga X.K x), some d, rfl, J, kG, ge, hoe, ⟨rfl, rfl, fun vs e => by cases e; rfl⟩, rfl, rfl, na, rfl, bare2, raises_own T.oex.exC T.oex.tyC, q2⟩
    | next => exact False.elim hq'
    | brk => exact False.elim hq'
    | cont => exact False.elim hq'
/-- a method, called where an exception is handled -/
structure FmH (P : Program) (w : World) (K : PySem.W.Frag) (mg : Str → Option Value) (base : Heap) (CX : CXT) (k : Nat) (c m : Str) (ps : List Str) (sp : Sp) : Prop where
  ex : ∃ fd, L2H.FnH P w K mg base CX k (He.ma K (He.ga K c) m) fd ps sp ∧ Binds K fd ps []
  me : Meth K (He.ga K c) m (He.ma K (He.ga K c) m)
theorem Mh.okH {P : Program} {w : World} {K : PySem.W.Frag} {mg : Str → Option Value} {base : Heap} {N : List Str} {q : Str} {st : Stmt} (F : Mh K c m q st) (S : FnScope N ps (defScope st))
    (hb : ∀ (kV doc pm : Value) (an : Option Addr) (cdv ct : Value) (us : List Value), us.length = ps.length → bindArgs (PySem.W.fnOf m q (defArgs st) (defBody st) (defScope st) .none kV doc pm an cdv ct) ⟨us, []⟩ = pure (ps.zip us))
    (len : ∀ vs H Q E, sp vs H Q E → vs.length = ps.length)
    (hbody : ∀ (cdv : Value) (A : Around) (outer : List Env) (s : Shared) (H : Hp) (vs : List V) (Q : VK) (E : XK) (p : Addr × Obj), L2H.Hot1 A p → L2H.RoomH k (A.deeper (PyProof.Rows.envOfC q (defScope st) s.heap.objs.size (He.ma K (He.ga K c) m) cdv)) → sp vs H Q E →
      ∃ t, PSs (L2H.cxH CX P w K mg base N q (defScope st) (He.ma K (He.ga K c) m) cdv A outer s H E p) (defBody st) t ∧ t { nx := fun _ H' => Q .non H', rt := Q } (start N vs) H) : FmH P w K mg base CX (k + 1) c m ps sp := by
  obtain ⟨fd, F'⟩ := F.ex
  have hbn := F'.bindsN hb
  obtain ⟨oc, od, dV, kV, doc, pm, an, cdv, ct, osl, rfl, lk, hcd, _, _⟩ := F'.ex
  exact ⟨⟨_, L2H.fn_ofH lk hcd S len fun A outer s H vs Q E p hp hr hsp => hbody cdv A outer s H vs Q E p hp hr hsp, hbn⟩, F.me⟩
theorem pe_fmH0 {pl : Sem Bool} {E : St → XK} (he : PE X o te) (cl : Cls X.K (He.ga X.K c)) (F : FmH X.prog X.w X.K X.mg X.base CX k c m ps sp) (hr : L2H.RoomH k X.A) (hc : L2H.HotC X) (hx : ∀ σ, PassesAt CX X σ (E σ))
    (ht : eval (.Call (.Attribute o m apos) [] [] pos) X.env = (do
      let ov ← eval o X.env
      standAt apos.atName
      let (f, first) ← holding [ov] (getMethod ov m pl)
      callWith pos f first (backTo pos (starEach [] X.env)) (backToKw pos (keywordEach [] X.env))) := by rfl) :
    PE X (.Call (.Attribute o m apos) [] [] pos) (L2H.tMethH (He.ga X.K c) m sp E te tNil) := by
  obtain ⟨⟨fd, a, b⟩, me⟩ := F
  refine ⟨fun pins s σ H Q I h => ?_⟩
  refine PySem.W.methodCall_KW (pl := pl) (thn (he.run pins s σ H _ I h) fun u s1 ⟨y, H1, I1, rx, i, dx, fs, ex, ea, l, q⟩ => ?_) ht
  subst ex
  obtain rfl : u = Value.ref i := rx
  refine getmeth_ok I1 ea cl me l ?_
  exact PySem.W.callWith_K0 (first := [.ref i]) I1.kIn me.kp (L2H.run_fnH (us := [.ref i]) (vs := [.ref i]) a hr hc b (hx σ) I1 (.cons rfl .nil) q)
theorem hotC {X : Cx} {a : Addr} {oe : Obj} {cls : Value} {d : Option Addr} {pn : List (Addr × Obj)} (hz : L2N.Zn cls d oe) (hf : ∃ vs, oe.data = .fields vs) : L2H.HotC (X.suite a ((a, oe) :: pn)) := by
  obtain ⟨vs, e⟩ := hf
  exact ⟨(a, oe), ⟨rfl, vs, e, hz.2.2 vs e⟩, List.mem_cons_self⟩
end
end Rd
namespace Rd
open PySem L2
/-! ### own comparisons, isinstance of an own class -/
structure IsiC (K : PySem.W.Frag) (C : Addr) : Prop where
  ha : PySem.W.findIn K (.ref C) "__class__" = some (some (.builtin "object.__class__"))
  hn : PySem.W.specialIn K (.builtin "object.__class__") "__get__" = some (some (.builtin "getset_descriptor.__get__"))
  htk : PySem.W.takesIn K (.builtin "object.__class__") = some true
  hm : PySem.W.mroIn K C (.type "object") = some true
  ne : PySem.W.findIn K (.ref C) "__ne__" = some (some (.builtin "object.__ne__"))
def isiB (K : PySem.W.Frag) (C : Addr) : Bool := He.eqO (PySem.W.findIn K (.ref C) "__class__") (some (some (.builtin "object.__class__"))) && (He.eqO (PySem.W.specialIn K (.builtin "object.__class__") "__get__") (some (some (.builtin "getset_descriptor.__get__"))) &&
  (decide (PySem.W.takesIn K (.builtin "object.__class__") = some true) && (decide (PySem.W.mroIn K C (.type "object") = some true) && He.eqO (PySem.W.findIn K (.ref C) "__ne__") (some (some (.builtin "object.__ne__"))))))
theorem isiB_ok {K : PySem.W.Frag} {C : Addr} (h : isiB K C = true) : IsiC K C := by
  obtain ⟨h1, h⟩ := He.ba h
  obtain ⟨h2, h⟩ := He.ba h
  obtain ⟨h3, h⟩ := He.ba h
  obtain ⟨h4, h5⟩ := He.ba h
  exact ⟨He.eqO_ok h1, He.eqO_ok h2, of_decide_eq_true h3, of_decide_eq_true h4, He.eqO_ok h5⟩
theorem IsiC.ty {K : PySem.W.Frag} {C : Addr} (h : IsiC K C) (cl : Cls K C) {H : Hp} {a dx : Addr} {fs : List (Str × V)} (e : H a = some (.ins C dx fs)) : TyX K H (.ref a) (.ref C) := .base (.ins e cl h.ha h.hn h.htk h.hm)
theorem kit_self {K : PySem.W.Frag} {C : Addr} : PySem.W.kitOne K (.ref C) (.ref C) = some true := by
  unfold PySem.W.kitOne
  rw [if_pos (by simp)]
theorem pe_gcls {X : Cx} {x : Str} {pos : Pos} (hg : Gl X x) (hm : X.mg x = some (.ref (He.ga X.K x))) (hd : (x == ("__debug__" : Str)) = false := by decide) : PE X (.Name x pos) (tC (.ref (He.ga X.K x))) := pe_glob hg hm rfl hd
/-- x op y, both of the class at C, its def for op keeps sp -/
def rCmp (C : Addr) (sp : Sp) : R2 := fun x y H Q => ∃ a b dx dy fs gs, x = .ref a ∧ y = .ref b ∧ H a = some (.ins C dx fs) ∧ H b = some (.ins C dy gs) ∧ sp [.ref a, .ref b] H Q E0
/-- x != y, by __eq__'s def -/
def rNeO (C : Addr) (sp : Sp) : R2 := fun x y H Q => ∃ a b dx dy fs gs, x = .ref a ∧ y = .ref b ∧ H a = some (.ins C dx fs) ∧ H b = some (.ins C dy gs) ∧ sp [.ref a, .ref b] H (fun v H' => ∃ k, v = .bl k ∧ Q (.bl (!k)) H') E0
section
variable {X : Cx} {k : Nat} {ps : List Str} {sp : Sp} {c m : Str}
theorem op_cmp {op : CmpOp} (F : Fm X.prog X.w X.K X.mg X.base CX0 k c m ps sp) (hr : Room k X.A) (hop : ∀ a b, compareOp op a b = richCompare op a b) (hm : (cmpInfo op).2.1 = m := by rfl) : OpR X (compareOp op) (rCmp (He.ga X.K c) sp) := by
  obtain ⟨⟨fd, f1, b1⟩, me⟩ := F
  intro pins s σ H x y v u Q I rx ry h
  obtain ⟨a, b, dx, dy, fs, gs, rfl, rfl, ha, hb, q⟩ := h
  cases (show v = Value.ref a from rx)
  cases (show u = Value.ref b from ry)
  obtain ⟨mA, J, _⟩ := ins_get I.hok ha
  obtain ⟨mB, J', _⟩ := ins_get I.hok hb
  obtain ⟨od, J, _⟩ := J.look
  obtain ⟨od', J', _⟩ := J'.look
  obtain ⟨mm, hF⟩ := I.fr
  rw [hop]
  refine PySem.W.cmp_K (op := op) (tb := .ref (He.ga X.K c)) hr.units0 hF I.ok.mod.kin J J'.type (by simp [PySem.W.notFirst]) (by rw [hm]; exact me.at_) me.fn ?_
  exact thn (run_fnS (vs := [.ref a, .ref b]) (E := fun _ => E0) f1 hr b1 at0 I (.cons rfl (.cons rfl .nil)) q) fun v s' hq => back_of hq
theorem op_neO (T : IsiC X.K (He.ga X.K c)) (F : Fm X.prog X.w X.K X.mg X.base CX0 k c "__eq__" ps sp) (hr : Room (k + 1) X.A) : OpR X (compareOp .NotEq) (rNeO (He.ga X.K c) sp) := by
  obtain ⟨⟨fd, f1, b1⟩, me⟩ := F
  intro pins s σ H x y v u Q I rx ry h
  obtain ⟨a, b, dx, dy, fs, gs, rfl, rfl, ha, hb, q⟩ := h
  cases (show v = Value.ref a from rx)
  cases (show u = Value.ref b from ry)
  obtain ⟨mA, J, _⟩ := ins_get I.hok ha
  obtain ⟨mB, J', _⟩ := ins_get I.hok hb
  obtain ⟨od, J, _⟩ := J.look
  obtain ⟨od', J', _⟩ := J'.look
  have hl := f1.len _ _ _ _ q
  have r2 : Vals [V.ref a, V.ref b] [Value.ref a, Value.ref b] := .cons rfl (.cons rfl .nil)
  have bb := b1 s [.ref a, .ref b] I.kIn (by simpa using hl)
  have call : wpAny (model X.prog X.w) X.A.in1 (call (.ref (He.ma X.K (He.ga X.K c) "__eq__")) [.ref a, .ref b]) (fun r s' => ∃ kk : Bool, r = .bool kk ∧ EP X pins σ Q (.bool (!kk)) s') X.xe s := by
    refine wpAny_call (codeAny_mono (f1.run X.A.in1 X.stack s H ⟨[.ref a, .ref b], []⟩ [.ref a, .ref b] [.ref a, .ref b] _ E0 hr.in1 I.env0.in1 (by simpa using bb) r2 q) fun r s' hq => ?_)
    cases r with
    | error e => exact hq.elim
    | ok fl =>
      cases fl with
      | ret u =>
        obtain ⟨v, H', I', rv, kk, rfl, q'⟩ := I.after hq
        cases rv
        exact ⟨kk, rfl, .bl (!kk), H', I', rfl, q'⟩
      | next => exact False.elim hq
      | brk => exact False.elim hq
      | cont => exact False.elim hq
  have hu1 : X.A.in1.units < cLine := (hr.in1).units0
  have body : wpAny (model X.prog X.w) X.A.in1 (Builtin.«object.__ne__» ⟨[.ref a, .ref b], []⟩) (fun fin s' => ∃ v, fin = .done (.ret v) ∧ v ≠ .notImplemented ∧ EP X pins σ Q v s') X.xe s := by
    unfold Builtin.«object.__ne__»
    repeat (first
      | with_reducible refine wpAny_cRoomFor hu1 ?_
      | (refine wpAny_bind (m := callSpecialIfBound? (.ref a) (Str.ofString "__eq__") [.ref b]) (PySem.W.ifBound_K I.kIn J me.at_ me.fn (wpAny_mono call (fun r s' hr => by
          obtain ⟨kk, rfl, hq⟩ := hr
          exact wpAny_bind (wpAny_truthy_bool (wpAny_pure ⟨_, rfl, (fun z => nomatch z), hq⟩))) fun _ _ e => e)))
      | wp_step)
  have nec : wpAny (model X.prog X.w) X.A (PySem.call (.builtin "object.__ne__") [.ref a, .ref b]) (fun v s' => v ≠ .notImplemented ∧ EP X pins σ Q v s') X.xe s := by
    have hi : PySem.W.Looks (model X.prog X.w) s.heap (isInstance (.ref a) (.type "object")) true := J.type.andThen (PySem.W.looks_mroIn I.kIn T.hm)
    refine wpAny_call (codeAny_call_builtin F.cmp_object.ne.plain F.cmpEntry_ne (PySem.W.check_slot F.cmpKind_ne F.cmpSplit_ne hi (F.cmpArgs_ne _ _) (wpAny_mono body (fun fin s' hf => ?_) fun _ _ e => e)))
    obtain ⟨v, rfl, hv⟩ := hf
    exact hv
  have one : wpAny (model X.prog X.w) X.A (tryCompare (.ref a) "__ne__" (.ref b)) (fun r s' => ∃ v, r = some v ∧ EP X pins σ Q v s') X.xe s := by
    have fin : wpAny (model X.prog X.w) X.A (callSpecialIfBound? (.ref a) "__ne__" [.ref b]) (fun r s' => ∃ v, r = some v ∧ v ≠ .notImplemented ∧ EP X pins σ Q v s') X.xe s := by
      simp only [callSpecialIfBound?, bindSpecialIfBound?]
      refine wpAny_holding (wpAny_bind (wpAny_bind (wpAny_bind (J.type.here ((PySem.W.looks_findIn I.kIn T.ne).here ?_)))))
      refine wpAny_bind (wpAny_askSetting (wpAny_ite ?_))
      have e : wpAny (model X.prog X.w) X.A (PySem.call (.builtin "object.__ne__") ([.ref a] ++ [.ref b]) >>= fun v => pure (some v)) (fun r s' => ∃ v, r = some v ∧ v ≠ .notImplemented ∧ EP X pins σ Q v s') X.xe s :=
        wpAny_bind (wpAny_mono nec (fun v s' h' => wpAny_pure ⟨v, rfl, h'⟩) fun _ _ h' => h')
      have bd : PySem.W.Looks (model X.prog X.w) s.heap (bindSpecial (.builtin "object.__ne__") (.ref a)) (.builtin "object.__ne__", [.ref a]) := PySem.W.Looks.of_pure (F.cmp_object.ne.bind _)
      split
      · exact wpAny_bind (bd.here (wpAny_pure (by exact e)))
      · exact wpAny_tryCatch (wpAny_bind (bd.here (wpAny_pure (by exact e))))
    unfold tryCompare
    refine wpAny_bind (wpAny_mono fin (fun r s' hr => ?_) fun _ _ e => e)
    obtain ⟨v, rfl, hv, hq⟩ := hr
    cases v <;> first | exact absurd rfl hv | exact wpAny_pure ⟨_, rfl, hq⟩
  show wpAny _ _ (richCompare .NotEq (.ref a) (.ref b)) _ _ _
  unfold richCompare
  simp only [oneThing_ref]
  refine wpAny_holding (wpAny_bind (wpAny_cRoomFor hr.units0 ?_))
  refine wpAny_bind (J.type.here (wpAny_bind (J'.type.here ?_)))
  rw [show (Value.ref (He.ga X.K c) != Value.ref (He.ga X.K c)) = false from by simp]
  simp only [Bool.false_eq_true, if_false]
  refine wpAny_bind (wpAny_pure ?_)
  simp only [Bool.false_eq_true, if_false]
  refine wpAny_bind (wpAny_mono one (fun r s' z => ?_) fun _ _ e => e)
  obtain ⟨v, rfl, hq⟩ := z
  exact wpAny_pure hq
end
end Rd
namespace Rd
open PySem L2
/-! ### static methods -/
def sfn (K : PySem.W.Frag) (c m : Str) : Addr := He5.wf K (He.ga K c) "staticmethod" m
structure Sh (K : PySem.W.Frag) (mg : Str → Option Value) (c m q : Str) (st : Stmt) : Prop where
  ex : ∃ fd, FunD K m q (defArgs st) (defBody st) (defScope st) [] [] (sfn K c m) fd
  g : mg c = some (.ref (He.ga K c))
  at_ : PySem.W.findCls K (.ref (He.ga K c)) (.type "type") m = some (.get (.builtin "staticmethod.__get__") (.ref (He.ma K (He.ga K c) m)) .none (.ref (He.ga K c)))
  rc : ∃ rest, PySem.W.recIn K (He.ma K (He.ga K c) m) "staticmethod" = some (.ref (sfn K c m) :: rest)
  sga : PySem.W.specialIn K (.ref (He.ga K c)) "__getattribute__" = some (some (.builtin "type.__getattribute__"))
  ty : PySem.W.typeIn K (.ref (He.ga K c)) = some (.type "type")
  rd : PySem.W.readsIn K (He.ga K c) (.type "type") = true
def statB (K : PySem.W.Frag) (c m : Str) : Bool := He5.wrapB K (He.ga K c) "staticmethod" "staticmethod.__get__" m && (He.eqO (PySem.W.specialIn K (.ref (He.ga K c)) "__getattribute__") (some (some (.builtin "type.__getattribute__"))) &&
  (decide (PySem.W.typeIn K (.ref (He.ga K c)) = some (.type "type")) && PySem.W.readsIn K (He.ga K c) (.type "type")))
theorem sh_ok {K : PySem.W.Frag} {mg : Str → Option Value} {c m q : Str} {st : Stmt} (ex : ∃ fd, FunD K m q (defArgs st) (defBody st) (defScope st) [] [] (sfn K c m) fd) (g : mg c = some (.ref (He.ga K c))) (h : statB K c m = true) : Sh K mg c m q st := by
  obtain ⟨h1, h⟩ := He.ba h
  obtain ⟨h2, h⟩ := He.ba h
  obtain ⟨h3, h4⟩ := He.ba h
  obtain ⟨a, b⟩ := He5.wrapB_ok h1
  exact ⟨ex, g, a, b, He.eqO_ok h2, of_decide_eq_true h3, h4⟩
structure Fs (P : Program) (w : World) (K : PySem.W.Frag) (mg : Str → Option Value) (base : Heap) (CX : CXT) (k : Nat) (c m q : Str) (st : Stmt) (ps : List Str) (sp : Sp) : Prop where
  ex : ∃ fd, FnOk P w K mg base CX k (sfn K c m) fd ps sp ∧ Binds K fd ps [] ∧ PySem.W.keepIn K (.ref (sfn K c m)) = true
  sh : Sh K mg c m q st
section
variable {P : Program} {w : World} {K : PySem.W.Frag} {mg : Str → Option Value} {base : Heap} {CX : CXT} {k : Nat} {c m q : Str} {ps N : List Str} {sp : Sp} {st : Stmt}
theorem Sh.ok (F : Sh K mg c m q st) (S : FnScope N ps (defScope st))
    (hb : ∀ (kV doc pm : Value) (an : Option Addr) (cdv ct : Value) (us : List Value), us.length = ps.length → bindArgs (PySem.W.fnOf m q (defArgs st) (defBody st) (defScope st) .none kV doc pm an cdv ct) ⟨us, []⟩ = pure (ps.zip us))
    (len : ∀ vs H Q E, sp vs H Q E → vs.length = ps.length)
    (hbody : ∀ (cdv : Value) (A : Around) (outer : List Env) (s : Shared) (H : Hp) (vs : List V) (Q : VK) (E : XK), Room k (A.deeper (PyProof.Rows.envOfC q (defScope st) s.heap.objs.size (sfn K c m) cdv)) → sp vs H Q E →
      ∃ t, PSs (cxOf CX P w K mg base N q (defScope st) (sfn K c m) cdv A outer s H E) (defBody st) t ∧ t { nx := fun _ H' => Q .non H', rt := Q } (start N vs) H) : Fs P w K mg base CX (k + 1) c m q st ps sp := by
  obtain ⟨fd, F'⟩ := F.ex
  exact ⟨⟨fd, F'.ok S len hbody, F'.bindsN hb, F'.kp⟩, F⟩
end
section
variable {X : Cx} {CX : CXT} {k : Nat} {c m q : Str} {ps : List Str} {sp : Sp} {st : Stmt} {e : Expr} {es : List Expr} {ta : TA} {p1 p2 pos : Pos} {E : St → XK}
theorem pe_fs {pl : Sem Bool} (F : Fs X.prog X.w X.K X.mg X.base CX k c m q st ps sp) (hr : Room k X.A) (hg : Gl X c) (hx : ∀ σ, PassesAt CX X σ (E σ)) (ha : PA X (e :: es) ta) (hd : (c == ("__debug__" : Str)) = false := by decide)
    (hc : eval (.Call (.Attribute (.Name c p1) m p2) (e :: es) [] pos) X.env = (do
      let ov ← eval (.Name c p1) X.env
      standAt p2.atName
      let (f, first) ← holding [ov] (getMethod ov m pl)
      callWith pos f first (backTo pos (starEach (e :: es) X.env)) (backToKw pos (keywordEach [] X.env))) := by rfl)
    (he : starEach (e :: es) X.env = (false, eval e X.env) :: starEach es X.env := by rfl) (hpl : (backTo pos (starEach es X.env)).any (·.1) = false := by rfl) :
    PE X (.Call (.Attribute (.Name c p1) m p2) (e :: es) [] pos) (tCallS sp E ta) := by
  obtain ⟨⟨fd, f1, b1, kp⟩, S⟩ := F
  refine ⟨fun pins s σ H Q I h => ?_⟩
  refine PySem.W.methodCall_KW (ld_glob I hg S.g ?_ hd) hc
  obtain ⟨mm, fr⟩ := I.fr
  obtain ⟨rest, rc⟩ := S.rc
  refine PySem.W.method_of_cls fr I.ok.mod.kin S.sga (PySem.W.cls_sm fr I.ok.mod.kin S.ty S.rd S.at_ rc rfl ?_)
  refine PySem.W.callWith_K (first := []) (h₀ := X.base) I.ok.mod.kin kp (thn (ha.run pos pins _ σ H _ (I.tok _) h) fun us s1 ⟨vs, H1, I1, r1, q1⟩ => ⟨I1.kIn, ?_⟩) he hpl
  exact run_fnS (E := E) f1 hr b1 (hx σ) I1 r1 q1
end
/-! ### the hook, with defs at any address -/
abbrev AlZ : Type := AlY × He.AlD
structure SaysZ (fa : List He.Fa) (fn : List He.DefD) (ts : List He.Tab) (ex : PySem.W.Frag → Bool) (fs : List He5.DefA) (w : World) (K : PySem.W.Frag) : Prop where
  y : SaysY fa fn ts ex w K
  s : He5.SaysA [] fs K
def obsZ (n : Nat) (fa : List He.Fa) (fn : List He.DefD) (ts : List He.Tab) (ex : PySem.W.Frag → Bool) (fs : List He5.DefA) (g : Addr → Option Obj) : AlZ := (obsY n fa fn ts ex g, He5.obsA [] fs (frY n g))
def valZ (fn : List He.DefD) (ts : List He.Tab) (fs : List He5.DefA) (w : World) : AlZ := (valY fn ts w, He5.valA fs)
def hookZ (n : Nat) (fa : List He.Fa) (fn : List He.DefD) (ts : List He.Tab) (ex : PySem.W.Frag → Bool) (fs : List He5.DefA) : PySem.W.Hook where
  α := AlZ
  obs := fun s => obsZ n fa fn ts ex fs s.heap.get?
  val := fun w => valZ fn ts fs w
  says := fun w h => ∃ K : PySem.W.Frag, K.In h ∧ SaysZ fa fn ts ex fs w K
  of := fun _ _ e => ⟨_, He.frG_in, ⟨⟨congrArg (fun z : AlZ => z.1.1) e, congrArg (fun z : AlZ => z.1.2) e⟩, congrArg (fun z : AlZ => z.2) e⟩⟩
  keeps := fun _ _ _ ⟨K, hK, c⟩ k => ⟨K, PySem.W.Frag.In.keeps hK k, c⟩
theorem obsZ_eq {n : Nat} {fa : List He.Fa} {fn : List He.DefD} {ts : List He.Tab} {ex : PySem.W.Frag → Bool} {fs : List He5.DefA} {g : Addr → Option Obj} {s : Shared} (h : ∀ a, g a = s.heap.get? a) : obsZ n fa fn ts ex fs g = (hookZ n fa fn ts ex fs).obs s := by
  have e : g = s.heap.get? := funext h
  rw [e] <;> rfl
end Rd
/-! ### order of tuples, by the first pair that differs alone -/
namespace Rd
open PySem PySem.SeqAt
open PySem.AutoSeq1 (wpAny_loadPart')
open PySem.MeetsSeq PySem.MeetsSeq2 PySem.MeetsSeq3
open Ob (RcOp lexAt lexAt_succ lexAt_zero)
/-- the pairs ahead of j are equal -/
def Ahead (e : Nat → Bool) (j : Nat) : Prop := ∀ i, i < j → e i = true
theorem Ahead.more {e : Nat → Bool} {j : Nat} (h : Ahead e j) (q : e j = true) : Ahead e (j + 1) := fun i hi => by
  rcases Nat.lt_succ_iff_lt_or_eq.mp hi with z | z
  · exact h i z
  · rw [z]; exact q
theorem first_lt (l b : Addr) (xs ys : Array Value) (n m : Nat) (d1 d2 : Option Addr) (sl1 sl2 : Array (Option Value)) (e r : Nat → Bool) :
    Meets (Builtin.«tuple.__lt__» ⟨[.ref l, .ref b], []⟩)
      (fun A R s => s.heap.get? l = some { cls := .type "tuple", dict := d1, data := .seq xs n, slots := sl1 } ∧ s.heap.get? b = some { cls := .type "tuple", dict := d2, data := .seq ys m, slots := sl2 } ∧
        (∀ j (h1 : j < xs.size) (h2 : j < ys.size), EqAt A.in1 s xs[j] ys[j] (e j)) ∧
        (∀ j (h1 : j < xs.size) (h2 : j < ys.size), Ahead e j → e j = false → RcOp .Lt A.in1 s xs[j] ys[j] (r j)) ∧
        R (.ok (.ret (.bool (lexAt e r (decide (xs.size < ys.size)) 0 (min xs.size ys.size))))) s) :=
  .of_wp fun prog w A R s h => by
    obtain ⟨hp, g, dr, tk, os⟩ := s; obtain ⟨hl, hb, he, hr, h⟩ := h
    have sub := AutoSeq1.sub_tuple_tuple
    have len : (xs.toList.zip ys.toList).length = min xs.size ys.size := by simp
    wp_walk using wpAny_loadPart' hl, wpAny_loadPart' hb, wpAny_forIn_list _ (fun rest b s' => b.1 = none ∧ s' = ⟨hp, g, dr, tk, os⟩ ∧ ∃ i, Ahead e i ∧ rest = (xs.toList.zip ys.toList).drop i ∧
      R (.ok (.ret (.bool (lexAt e r (decide (xs.size < ys.size)) i (min xs.size ys.size - i))))) ⟨hp, g, dr, tk, os⟩) _
    case turn =>
      rintro ⟨y, x⟩ rest b s' ⟨hb', rfl, i, ah, hz, hR⟩
      have lt : i < (xs.toList.zip ys.toList).length := by
        rcases Nat.lt_or_ge i (xs.toList.zip ys.toList).length with q | q
        · exact q
        · rw [List.drop_of_length_le q] at hz; cases hz
      have hm : i < min xs.size ys.size := len ▸ lt
      have h1 : i < xs.size := by omega
      have h2 : i < ys.size := by omega
      rw [List.drop_eq_getElem_cons lt] at hz
      injection hz with hyx hrest
      have hy : y = xs[i] := by have := congrArg Prod.fst hyx; simpa using this
      have hx : x = ys[i] := by have := congrArg Prod.snd hyx; simpa using this
      subst hy hx
      rw [show min xs.size ys.size - i = (min xs.size ys.size - (i + 1)) + 1 by omega, lexAt_succ] at hR
      refine wpAny_bind (he i h1 h2 prog w _ _ ?_)
      cases hei : e i with
      | true =>
        rw [hei, if_pos rfl] at hR
        wp_walk
        exact ⟨rfl, rfl, i + 1, ah.more hei, hrest, hR⟩
      | false =>
        rw [hei, if_neg Bool.false_ne_true] at hR
        have hri := hr i h1 h2 ah hei prog w
        wp_walk using hri
        exact ⟨_, rfl, by simpa using hR⟩
    case fin =>
      rintro ⟨b1, b2⟩ s' ⟨hb', rfl, i, ah, hz, hR⟩
      simp only at hb'
      subst hb'
      have ge : min xs.size ys.size ≤ i := by
        rcases Nat.lt_or_ge i (xs.toList.zip ys.toList).length with q | q
        · rw [List.drop_eq_getElem_cons q] at hz; cases hz
        · exact len ▸ q
      rw [Nat.sub_eq_zero_of_le ge, lexAt_zero] at hR
      wp_walk
      exact ⟨_, rfl, by simpa [Builtin.Tuple.tupleCompareSizes] using hR⟩
    case h =>
      exact ⟨rfl, rfl, 0, (fun i hi => absurd hi (Nat.not_lt_zero _)), rfl, by simpa using h⟩
theorem tup_lt {A : Around} {s : Shared} {l b : Addr} {xs ys : Array Value} {e r : Nat → Bool} (hl : s.heap.IsTuple l xs) (hb : s.heap.IsTuple b ys) (hu : A.units < cLine)
    (he : ∀ j (h1 : j < xs.size) (h2 : j < ys.size), EqAt A.in1 s xs[j] ys[j] (e j))
    (hr : ∀ j (h1 : j < xs.size) (h2 : j < ys.size), Ahead e j → e j = false → RcOp .Lt A.in1 s xs[j] ys[j] (r j)) :
    RcOp .Lt A s (.ref l) (.ref b) (lexAt e r (decide (xs.size < ys.size)) 0 (min xs.size ys.size)) := fun prog w E Q h => by
  obtain ⟨⟨c1, d1, dt1, sl1⟩, ho, hc, n, hd⟩ := id hl
  obtain ⟨⟨c2, d2, dt2, sl2⟩, ho2, hc2, m, hd2⟩ := id hb
  simp only at hc hd hc2 hd2
  subst hc hd hc2 hd2
  exact richCompare_meets_room (op := .Lt) ⟨_, ho, rfl⟩ ⟨_, ho2, rfl⟩ F.slot_tuple_lt F.entry_tuple_lt (F.args_tuple_lt_2 _ _) (first_lt l b xs ys n m d1 d2 sl1 sl2 e r)
    ⟨ho, ho2, he, hr, ⟨(fun x => nomatch x), h⟩⟩ hu
theorem first_le (l b : Addr) (xs ys : Array Value) (n m : Nat) (d1 d2 : Option Addr) (sl1 sl2 : Array (Option Value)) (e r : Nat → Bool) :
    Meets (Builtin.«tuple.__le__» ⟨[.ref l, .ref b], []⟩)
      (fun A R s => s.heap.get? l = some { cls := .type "tuple", dict := d1, data := .seq xs n, slots := sl1 } ∧ s.heap.get? b = some { cls := .type "tuple", dict := d2, data := .seq ys m, slots := sl2 } ∧
        (∀ j (h1 : j < xs.size) (h2 : j < ys.size), EqAt A.in1 s xs[j] ys[j] (e j)) ∧
        (∀ j (h1 : j < xs.size) (h2 : j < ys.size), Ahead e j → e j = false → RcOp .LtE A.in1 s xs[j] ys[j] (r j)) ∧
        R (.ok (.ret (.bool (lexAt e r (decide (xs.size ≤ ys.size)) 0 (min xs.size ys.size))))) s) :=
  .of_wp fun prog w A R s h => by
    obtain ⟨hp, g, dr, tk, os⟩ := s; obtain ⟨hl, hb, he, hr, h⟩ := h
    have sub := AutoSeq1.sub_tuple_tuple
    have len : (xs.toList.zip ys.toList).length = min xs.size ys.size := by simp
    wp_walk using wpAny_loadPart' hl, wpAny_loadPart' hb, wpAny_forIn_list _ (fun rest b s' => b.1 = none ∧ s' = ⟨hp, g, dr, tk, os⟩ ∧ ∃ i, Ahead e i ∧ rest = (xs.toList.zip ys.toList).drop i ∧
      R (.ok (.ret (.bool (lexAt e r (decide (xs.size ≤ ys.size)) i (min xs.size ys.size - i))))) ⟨hp, g, dr, tk, os⟩) _
    case turn =>
      rintro ⟨y, x⟩ rest b s' ⟨hb', rfl, i, ah, hz, hR⟩
      have lt : i < (xs.toList.zip ys.toList).length := by
        rcases Nat.lt_or_ge i (xs.toList.zip ys.toList).length with q | q
        · exact q
        · rw [List.drop_of_length_le q] at hz; cases hz
      have hm : i < min xs.size ys.size := len ▸ lt
      have h1 : i < xs.size := by omega
      have h2 : i < ys.size := by omega
      rw [List.drop_eq_getElem_cons lt] at hz
      injection hz with hyx hrest
      have hy : y = xs[i] := by have := congrArg Prod.fst hyx; simpa using this
      have hx : x = ys[i] := by have := congrArg Prod.snd hyx; simpa using this
      subst hy hx
      rw [show min xs.size ys.size - i = (min xs.size ys.size - (i + 1)) + 1 by omega, lexAt_succ] at hR
      refine wpAny_bind (he i h1 h2 prog w _ _ ?_)
      cases hei : e i with
      | true =>
        rw [hei, if_pos rfl] at hR
        wp_walk
        exact ⟨rfl, rfl, i + 1, ah.more hei, hrest, hR⟩
      | false =>
        rw [hei, if_neg Bool.false_ne_true] at hR
        have hri := hr i h1 h2 ah hei prog w
        wp_walk using hri
        exact ⟨_, rfl, by simpa using hR⟩
    case fin =>
      rintro ⟨b1, b2⟩ s' ⟨hb', rfl, i, ah, hz, hR⟩
      simp only at hb'
      subst hb'
      have ge : min xs.size ys.size ≤ i := by
        rcases Nat.lt_or_ge i (xs.toList.zip ys.toList).length with q | q
        · rw [List.drop_eq_getElem_cons q] at hz; cases hz
        · exact len ▸ q
      rw [Nat.sub_eq_zero_of_le ge, lexAt_zero] at hR
      wp_walk
      exact ⟨_, rfl, by simpa [Builtin.Tuple.tupleCompareSizes] using hR⟩
    case h =>
      exact ⟨rfl, rfl, 0, (fun i hi => absurd hi (Nat.not_lt_zero _)), rfl, by simpa using h⟩
theorem tup_le {A : Around} {s : Shared} {l b : Addr} {xs ys : Array Value} {e r : Nat → Bool} (hl : s.heap.IsTuple l xs) (hb : s.heap.IsTuple b ys) (hu : A.units < cLine)
    (he : ∀ j (h1 : j < xs.size) (h2 : j < ys.size), EqAt A.in1 s xs[j] ys[j] (e j))
    (hr : ∀ j (h1 : j < xs.size) (h2 : j < ys.size), Ahead e j → e j = false → RcOp .LtE A.in1 s xs[j] ys[j] (r j)) :
    RcOp .LtE A s (.ref l) (.ref b) (lexAt e r (decide (xs.size ≤ ys.size)) 0 (min xs.size ys.size)) := fun prog w E Q h => by
  obtain ⟨⟨c1, d1, dt1, sl1⟩, ho, hc, n, hd⟩ := id hl
  obtain ⟨⟨c2, d2, dt2, sl2⟩, ho2, hc2, m, hd2⟩ := id hb
  simp only at hc hd hc2 hd2
  subst hc hd hc2 hd2
  exact richCompare_meets_room (op := .LtE) ⟨_, ho, rfl⟩ ⟨_, ho2, rfl⟩ F.slot_tuple_le F.entry_tuple_le (F.args_tuple_le_2 _ _) (first_le l b xs ys n m d1 d2 sl1 sl2 e r)
    ⟨ho, ho2, he, hr, ⟨(fun x => nomatch x), h⟩⟩ hu
theorem first_gt (l b : Addr) (xs ys : Array Value) (n m : Nat) (d1 d2 : Option Addr) (sl1 sl2 : Array (Option Value)) (e r : Nat → Bool) :
    Meets (Builtin.«tuple.__gt__» ⟨[.ref l, .ref b], []⟩)
      (fun A R s => s.heap.get? l = some { cls := .type "tuple", dict := d1, data := .seq xs n, slots := sl1 } ∧ s.heap.get? b = some { cls := .type "tuple", dict := d2, data := .seq ys m, slots := sl2 } ∧
        (∀ j (h1 : j < xs.size) (h2 : j < ys.size), EqAt A.in1 s xs[j] ys[j] (e j)) ∧
        (∀ j (h1 : j < xs.size) (h2 : j < ys.size), Ahead e j → e j = false → RcOp .Gt A.in1 s xs[j] ys[j] (r j)) ∧
        R (.ok (.ret (.bool (lexAt e r (decide (xs.size > ys.size)) 0 (min xs.size ys.size))))) s) :=
  .of_wp fun prog w A R s h => by
    obtain ⟨hp, g, dr, tk, os⟩ := s; obtain ⟨hl, hb, he, hr, h⟩ := h
    have sub := AutoSeq1.sub_tuple_tuple
    have len : (xs.toList.zip ys.toList).length = min xs.size ys.size := by simp
    wp_walk using wpAny_loadPart' hl, wpAny_loadPart' hb, wpAny_forIn_list _ (fun rest b s' => b.1 = none ∧ s' = ⟨hp, g, dr, tk, os⟩ ∧ ∃ i, Ahead e i ∧ rest = (xs.toList.zip ys.toList).drop i ∧
      R (.ok (.ret (.bool (lexAt e r (decide (xs.size > ys.size)) i (min xs.size ys.size - i))))) ⟨hp, g, dr, tk, os⟩) _
    case turn =>
      rintro ⟨y, x⟩ rest b s' ⟨hb', rfl, i, ah, hz, hR⟩
      have lt : i < (xs.toList.zip ys.toList).length := by
        rcases Nat.lt_or_ge i (xs.toList.zip ys.toList).length with q | q
        · exact q
        · rw [List.drop_of_length_le q] at hz; cases hz
      have hm : i < min xs.size ys.size := len ▸ lt
      have h1 : i < xs.size := by omega
      have h2 : i < ys.size := by omega
      rw [List.drop_eq_getElem_cons lt] at hz
      injection hz with hyx hrest
      have hy : y = xs[i] := by have := congrArg Prod.fst hyx; simpa using this
      have hx : x = ys[i] := by have := congrArg Prod.snd hyx; simpa using this
      subst hy hx
      rw [show min xs.size ys.size - i = (min xs.size ys.size - (i + 1)) + 1 by omega, lexAt_succ] at hR
      refine wpAny_bind (he i h1 h2 prog w _ _ ?_)
      cases hei : e i with
      | true =>
        rw [hei, if_pos rfl] at hR
        wp_walk
        exact ⟨rfl, rfl, i + 1, ah.more hei, hrest, hR⟩
      | false =>
        rw [hei, if_neg Bool.false_ne_true] at hR
        have hri := hr i h1 h2 ah hei prog w
        wp_walk using hri
        exact ⟨_, rfl, by simpa using hR⟩
    case fin =>
      rintro ⟨b1, b2⟩ s' ⟨hb', rfl, i, ah, hz, hR⟩
      simp only at hb'
      subst hb'
      have ge : min xs.size ys.size ≤ i := by
        rcases Nat.lt_or_ge i (xs.toList.zip ys.toList).length with q | q
        · rw [List.drop_eq_getElem_cons q] at hz; cases hz
        · exact len ▸ q
      rw [Nat.sub_eq_zero_of_le ge, lexAt_zero] at hR
      wp_walk
      exact ⟨_, rfl, by simpa [Builtin.Tuple.tupleCompareSizes] using hR⟩
    case h =>
      exact ⟨rfl, rfl, 0, (fun i hi => absurd hi (Nat.not_lt_zero _)), rfl, by simpa using h⟩
theorem tup_gt {A : Around} {s : Shared} {l b : Addr} {xs ys : Array Value} {e r : Nat → Bool} (hl : s.heap.IsTuple l xs) (hb : s.heap.IsTuple b ys) (hu : A.units < cLine)
    (he : ∀ j (h1 : j < xs.size) (h2 : j < ys.size), EqAt A.in1 s xs[j] ys[j] (e j))
    (hr : ∀ j (h1 : j < xs.size) (h2 : j < ys.size), Ahead e j → e j = false → RcOp .Gt A.in1 s xs[j] ys[j] (r j)) :
    RcOp .Gt A s (.ref l) (.ref b) (lexAt e r (decide (xs.size > ys.size)) 0 (min xs.size ys.size)) := fun prog w E Q h => by
  obtain ⟨⟨c1, d1, dt1, sl1⟩, ho, hc, n, hd⟩ := id hl
  obtain ⟨⟨c2, d2, dt2, sl2⟩, ho2, hc2, m, hd2⟩ := id hb
  simp only at hc hd hc2 hd2
  subst hc hd hc2 hd2
  exact richCompare_meets_room (op := .Gt) ⟨_, ho, rfl⟩ ⟨_, ho2, rfl⟩ F.slot_tuple_gt F.entry_tuple_gt (F.args_tuple_gt_2 _ _) (first_gt l b xs ys n m d1 d2 sl1 sl2 e r)
    ⟨ho, ho2, he, hr, ⟨(fun x => nomatch x), h⟩⟩ hu
theorem first_ge (l b : Addr) (xs ys : Array Value) (n m : Nat) (d1 d2 : Option Addr) (sl1 sl2 : Array (Option Value)) (e r : Nat → Bool) :
    Meets (Builtin.«tuple.__ge__» ⟨[.ref l, .ref b], []⟩)
      (fun A R s => s.heap.get? l = some { cls := .type "tuple", dict := d1, data := .seq xs n, slots := sl1 } ∧ s.heap.get? b = some { cls := .type "tuple", dict := d2, data := .seq ys m, slots := sl2 } ∧
        (∀ j (h1 : j < xs.size) (h2 : j < ys.size), EqAt A.in1 s xs[j] ys[j] (e j)) ∧
        (∀ j (h1 : j < xs.size) (h2 : j < ys.size), Ahead e j → e j = false → RcOp .GtE A.in1 s xs[j] ys[j] (r j)) ∧
        R (.ok (.ret (.bool (lexAt e r (decide (xs.size ≥ ys.size)) 0 (min xs.size ys.size))))) s) :=
  .of_wp fun prog w A R s h => by
    obtain ⟨hp, g, dr, tk, os⟩ := s; obtain ⟨hl, hb, he, hr, h⟩ := h
    have sub := AutoSeq1.sub_tuple_tuple
    have len : (xs.toList.zip ys.toList).length = min xs.size ys.size := by simp
    wp_walk using wpAny_loadPart' hl, wpAny_loadPart' hb, wpAny_forIn_list _ (fun rest b s' => b.1 = none ∧ s' = ⟨hp, g, dr, tk, os⟩ ∧ ∃ i, Ahead e i ∧ rest = (xs.toList.zip ys.toList).drop i ∧
      R (.ok (.ret (.bool (lexAt e r (decide (xs.size ≥ ys.size)) i (min xs.size ys.size - i))))) ⟨hp, g, dr, tk, os⟩) _
    case turn =>
      rintro ⟨y, x⟩ rest b s' ⟨hb', rfl, i, ah, hz, hR⟩
      have lt : i < (xs.toList.zip ys.toList).length := by
        rcases Nat.lt_or_ge i (xs.toList.zip ys.toList).length with q | q
        · exact q
        · rw [List.drop_of_length_le q] at hz; cases hz
      have hm : i < min xs.size ys.size := len ▸ lt
      have h1 : i < xs.size := by omega
      have h2 : i < ys.size := by omega
      rw [List.drop_eq_getElem_cons lt] at hz
      injection hz with hyx hrest
      have hy : y = xs[i] := by have := congrArg Prod.fst hyx; simpa using this
      have hx : x = ys[i] := by have := congrArg Prod.snd hyx; simpa using this
      subst hy hx
      rw [show min xs.size ys.size - i = (min xs.size ys.size - (i + 1)) + 1 by omega, lexAt_succ] at hR
      refine wpAny_bind (he i h1 h2 prog w _ _ ?_)
      cases hei : e i with
      | true =>
        rw [hei, if_pos rfl] at hR
        wp_walk
        exact ⟨rfl, rfl, i + 1, ah.more hei, hrest, hR⟩
      | false =>
        rw [hei, if_neg Bool.false_ne_true] at hR
        have hri := hr i h1 h2 ah hei prog w
        wp_walk using hri
        exact ⟨_, rfl, by simpa using hR⟩
    case fin =>
      rintro ⟨b1, b2⟩ s' ⟨hb', rfl, i, ah, hz, hR⟩
      simp only at hb'
      subst hb'
      have ge : min xs.size ys.size ≤ i := by
        rcases Nat.lt_or_ge i (xs.toList.zip ys.toList).length with q | q
        · rw [List.drop_eq_getElem_cons q] at hz; cases hz
        · exact len ▸ q
      rw [Nat.sub_eq_zero_of_le ge, lexAt_zero] at hR
      wp_walk
      exact ⟨_, rfl, by simpa [Builtin.Tuple.tupleCompareSizes] using hR⟩
    case h =>
      exact ⟨rfl, rfl, 0, (fun i hi => absurd hi (Nat.not_lt_zero _)), rfl, by simpa using h⟩
theorem tup_ge {A : Around} {s : Shared} {l b : Addr} {xs ys : Array Value} {e r : Nat → Bool} (hl : s.heap.IsTuple l xs) (hb : s.heap.IsTuple b ys) (hu : A.units < cLine)
    (he : ∀ j (h1 : j < xs.size) (h2 : j < ys.size), EqAt A.in1 s xs[j] ys[j] (e j))
    (hr : ∀ j (h1 : j < xs.size) (h2 : j < ys.size), Ahead e j → e j = false → RcOp .GtE A.in1 s xs[j] ys[j] (r j)) :
    RcOp .GtE A s (.ref l) (.ref b) (lexAt e r (decide (xs.size ≥ ys.size)) 0 (min xs.size ys.size)) := fun prog w E Q h => by
  obtain ⟨⟨c1, d1, dt1, sl1⟩, ho, hc, n, hd⟩ := id hl
  obtain ⟨⟨c2, d2, dt2, sl2⟩, ho2, hc2, m, hd2⟩ := id hb
  simp only at hc hd hc2 hd2
  subst hc hd hc2 hd2
  exact richCompare_meets_room (op := .GtE) ⟨_, ho, rfl⟩ ⟨_, ho2, rfl⟩ F.slot_tuple_ge F.entry_tuple_ge (F.args_tuple_ge_2 _ _) (first_ge l b xs ys n m d1 d2 sl1 sl2 e r)
    ⟨ho, ho2, he, hr, ⟨(fun x => nomatch x), h⟩⟩ hu
end Rd
namespace Rd
open PySem PySem.Spec PyProof.Rows L2
/-! ### sets of texts -/
def kt (e : Int × Value) : Str := match e.2 with | .str x _ => x | _ => Str.empty
/-- a row of such a set -/
def GT (w : World) (e : Int × Value) : Prop := ∃ x t, e.2 = Value.str x t ∧ e.1 = hashStr w x
def addS (l : List Str) (x : Str) : List Str := if x ∈ l then l else x :: l
/-- what a table must be so that it can be walked -/
structure Tb (w : World) (n : Nat) (t : SetTable) : Prop where
  sm : n < scanBound
  ft : t.fits n = true
  ri : Ris t.place.toList
  ld : w.params.followText "set-order" = true ∨ t.led = true
/-- a set of the texts l (in any order) at a -/
structure SetS (w : World) (h : Heap) (a : Addr) (l : List Str) : Prop where
  nd : l.Nodup
  ex : ∃ o es ep t, h.get? a = some o ∧ o.ExactSet ∧ o.data = .set es ep t ∧ (∀ e ∈ es.toList, GT w e) ∧ (es.toList.map kt).Perm l ∧ Tb w es.size t
theorem SetS.at {w : World} {h h' : Heap} {a : Addr} {l : List Str} (R : SetS w h a l) (k : ∀ o, h.get? a = some o → h'.get? a = some o) : SetS w h' a l := by
  obtain ⟨nd, o, es, ep, t, ho, r⟩ := R
  exact ⟨nd, o, es, ep, t, k o ho, r⟩
section
variable {P : Program} {w : World}
theorem gt_is {e : Int × Value} (g : GT w e) (x : Str) : (PySem.strKind P w).is x e.2 = true ↔ kt e = x := by
  obtain ⟨y, t, h1, _⟩ := g
  unfold kt
  rw [h1]
  show ((y == x) = true) ↔ y = x
  exact beq_iff_eq
theorem gt_elems {l : List (Int × Value)} (g : ∀ e ∈ l, GT w e) : ElemsOf (PySem.strKind P w) l := fun e he => by
  obtain ⟨x, t, h1, h2⟩ := g e he
  exact ⟨⟨x, by rw [h1]; exact strKind_is P w x t, h2⟩, by rw [h1] <;> rfl⟩
theorem gt_mem {l : List (Int × Value)} (g : ∀ e ∈ l, GT w e) (x : Str) : x ∈ l.map kt ↔ ∃ e ∈ l, (PySem.strKind P w).is x e.2 = true := by
  constructor
  · intro h
    obtain ⟨e, he, q⟩ := List.mem_map.mp h
    exact ⟨e, he, (gt_is (g e he) x).2 q⟩
  · rintro ⟨e, he, q⟩
    exact List.mem_map.mpr ⟨e, he, (gt_is (g e he) x).1 q⟩
theorem SetS.setOf {h : Heap} {a : Addr} {l : List Str} (R : SetS w h a l) : h.SetOf (PySem.strKind P w) a (fun x => decide (x ∈ l)) l.length := by
  obtain ⟨nd, o, es, ep, t, ho, hx, hd, g, pm, T⟩ := R
  refine ⟨o, es, ep, t, ho, hx, hd, gt_elems g, fun x => ?_, T.sm, T.ft, ?_⟩
  · rw [decide_eq_true_eq, ← pm.mem_iff]
    exact gt_mem g x
  · rw [← pm.length_eq, List.length_map, Array.length_toList]
theorem setS_fresh {h : Heap} {a : Addr} (ho : h.get? a = some { cls := .type "set", dict := none, data := .set #[] 0 (.fresh 0 0 (!w.params.followText "set-order")) }) : SetS w h a [] := by
  refine ⟨List.nodup_nil, _, #[], 0, _, ho, ⟨rfl, rfl, rfl⟩, rfl, (fun e he => by simp at he), List.Perm.refl _, (by decide), (by rfl), List.Pairwise.nil, ?_⟩
  show _ ∨ (!w.params.followText "set-order") = true
  cases w.params.followText "set-order" with
  | false => exact .inr rfl
  | true => exact .inl rfl
end
section
variable {P : Program} {w : World} {A : Around} {E : Value → Shared → Prop} {s : Shared} {a : Addr} {l : List Str}
theorem setS_tail {g : Bool → Sem Unit} (hg : ∀ (b : Bool) (s₁ : Shared) (Q' : Unit → Shared → Prop), Q' () s₁ → wpAny (model P w) A (g b) Q' E s₁)
    {o : Obj} {es e1 : Array (Int × Value)} {ep : Nat} {t t2 : SetTable} {m : List Str} (ho : s.heap.get? a = some o) (hx : o.ExactSet) (hd : o.data = .set es ep t)
    (g1 : ∀ e ∈ e1.toList, GT w e) (p1 : (e1.toList.map kt).Perm m) (nm : m.Nodup) (T : Tb w e1.size t2) {old : Bool} {R : Option Bool → Shared → Prop} (hR : ∀ h', Heap.SameBut a s.heap h' → SetS w h' a m → R (some true) { s with heap := h' }) :
    wpAny (model P w) A (do
        storeSet a e1 t2
        if (!old && t2.tooFull) = true then do
            g (relayAll t2 e1 (SetTable.grown e1.size)).2.2
            storeSet a (relayAll t2 e1 (SetTable.grown e1.size)).1 (relayAll t2 e1 (SetTable.grown e1.size)).2.1
            pure (some true)
          else pure (some true)) R E s := by
  refine wpAny_bind (wpAny_storeSet_of ho hd ?_ (fits_of_scanBound T.sm))
  have o1 := store_at (es' := e1) (t' := t2) ho hd
  have b1 := Heap.SameBut.update s.heap a (Obj.putSet e1 t2)
  split
  · have pm := relayAll_perm t2 e1 (SetTable.grown e1.size)
    have f3 := relayAll_fits t2 e1 (SetTable.grown e1.size)
    have r3 := relayAll_ris t2 e1 (SetTable.grown e1.size)
    have l3 := relayAll_led t2 e1 (SetTable.grown e1.size)
    generalize relayAll t2 e1 (SetTable.grown e1.size) = Z at pm f3 r3 l3 ⊢
    obtain ⟨e2, t3, gave⟩ := Z
    dsimp only at pm f3 r3 l3 ⊢
    have z2 : e2.size = e1.size := by rw [← Array.length_toList, pm.length_eq, Array.length_toList]
    have T3 : Tb w e2.size t3 := ⟨by rw [z2]; exact T.sm, f3, r3, T.ld.imp id fun z => by rw [l3]; exact z⟩
    refine wpAny_bind (hg _ _ _ ?_)
    refine wpAny_bind (wpAny_storeSet_of o1 rfl ?_ (fits_of_scanBound T3.sm))
    exact wpAny_pure (hR _ (b1.trans (Heap.SameBut.update _ a _)) ⟨nm, _, e2, _, t3, store_at (es' := e2) (t' := t3) o1 rfl, hx, rfl, fun e he => g1 e (pm.mem_iff.mp he), (pm.map kt).trans p1, T3⟩)
  · exact wpAny_pure (hR _ b1 ⟨nm, _, e1, _, t2, o1, hx, rfl, g1, p1, T⟩)
theorem setS_addH {x : Str} {tk : Tok} {Q : Bool → Shared → Prop} (R : SetS w s.heap a l) (room : l.length + 1 < scanBound)
    (hQ : ∀ b h', Heap.SameBut a s.heap h' → SetS w h' a (addS l x) → Q b { s with heap := h' }) : wpAny (model P w) A (setAddHashed a (.str x tk) ((PySem.strKind P w).hash x)) Q E s := by
  obtain ⟨nd, o, es, ep, t, ho, hx, hd, g, pm, T⟩ := R
  have sc : (Value.str x tk).scannable = true := rfl
  have el : ElemsOf (PySem.strKind P w) es.toList := gt_elems g
  have zl : es.size = l.length := by rw [← pm.length_eq, List.length_map, Array.length_toList]
  unfold setAddHashed setAddHashedIn
  refine wpAny_holding (wpAny_bind (wpAny_setState_of ho hd T.ft ?_))
  dsimp only
  rw [byScan_of sc T.sm el]
  simp only [↓reduceIte]
  unfold setAddByScan
  refine wpAny_bind ?_
  refine wpAny_bind (wpAny_rule ?_)
  refine wpAny_bind (wpAny_setScan_of (strKind_is P w x tk) ho hd T.ft el ?_)
  cases fi : List.findIdx? (fun e => (PySem.strKind P w).is x e.2) es.toList with
  | some j =>
    dsimp only
    obtain ⟨hj, pj, _⟩ := List.findIdx?_eq_some_iff_getElem.mp fi
    have inl : x ∈ l := pm.mem_iff.mp ((gt_mem (P := P) g x).2 ⟨es.toList[j], List.getElem_mem hj, pj⟩)
    have e : addS l x = l := if_pos inl
    exact wpAny_pure (wpAny_pure (hQ _ s.heap (Heap.SameBut.refl a s.heap) (by rw [e]; exact ⟨nd, o, es, ep, t, ho, hx, hd, g, pm, T⟩)))
  | none =>
    dsimp only
    have nin : x ∉ l := fun z => by
      obtain ⟨e, he, q⟩ := (gt_mem (P := P) g x).1 (pm.mem_iff.mpr z)
      have c := List.findIdx?_eq_none_iff.mp fi e he
      rw [q] at c
      cases c
    have ea : addS l x = x :: l := if_neg nin
    rw [ea] at hQ
    have nm : (x :: l).Nodup := List.nodup_cons.mpr ⟨nin, nd⟩
    have gw : ∀ (b : Bool) {s₁ : Shared} {Q' : Unit → Shared → Prop}, Q' () s₁ → wpAny (model P w) A (match b with | true => rule "set.scan.the-table-gave-way" | false => pure ()) Q' E s₁ :=
      fun b s₁ Q' q => by cases b <;> first | exact wpAny_pure q | exact wpAny_rule q
    have pq := layNew_perm t es ((PySem.strKind P w).hash x) (.str x tk)
    have f1 := layNew_fits t es ((PySem.strKind P w).hash x) (.str x tk)
    have r1 := layNew_ris t es ((PySem.strKind P w).hash x) (.str x tk) T.ri
    have l1 := layNew_led t es ((PySem.strKind P w).hash x) (.str x tk)
    generalize layNew t es ((PySem.strKind P w).hash x) (.str x tk) = Z at pq f1 r1 l1 ⊢
    obtain ⟨e1, t1, old, gave⟩ := Z
    dsimp only at pq f1 r1 l1 ⊢
    rw [Array.toList_push] at pq
    have pc : e1.toList.Perm (((PySem.strKind P w).hash x, Value.str x tk) :: es.toList) := pq.trans (List.perm_append_singleton _ _)
    have p1 : (e1.toList.map kt).Perm (x :: l) := (pc.map kt).trans (pm.cons x)
    have g1 : ∀ e ∈ e1.toList, GT w e := fun e he => by
      rcases List.mem_cons.mp (pc.mem_iff.mp he) with z | z
      · rw [z]; exact ⟨x, tk, rfl, rfl⟩
      · exact g e z
    have z1 : e1.size = l.length + 1 := by rw [← Array.length_toList, pc.length_eq, List.length_cons, Array.length_toList, zl]
    have s1 : e1.size < scanBound := by rw [z1]; exact room
    have ld : w.params.followText "set-order" = true ∨ t1.led = true := T.ld.imp id fun z => by rw [l1]; exact z
    refine wpAny_bind (gw _ ?_)
    split
    · refine wpAny_bind ?_
      rw [hashByValue_scannable 8 sc]
      refine wpAny_pure ?_
      refine setS_tail ?_ ho hx hd g1 p1 nm ⟨s1, ?_, ?_, ?_⟩ ?_
      · intro b s₁ Q' q; cases b <;> first | exact wpAny_pure q | exact wpAny_rule q
      · first | (split <;> first | exact f1 | exact SetTable.fits_plain_off f1) | exact f1
      · first | (split <;> exact r1) | exact r1
      · first | (split <;> exact ld) | exact ld
      · intro h' sb r; dsimp only; exact wpAny_pure (hQ _ h' sb r)
    · refine wpAny_bind (wpAny_pure ?_)
      simp only [↓reduceIte]
      refine setS_tail ?_ ho hx hd g1 p1 nm ⟨s1, f1, r1, ld⟩ ?_
      · intro b s₁ Q' q; cases b <;> first | exact wpAny_pure q | exact wpAny_rule q
      · intro h' sb r; dsimp only; exact wpAny_pure (hQ _ h' sb r)
/-- found.add(x) -/
theorem setS_add {x : Str} {tk : Tok} {Q : Value → Shared → Prop} (R : SetS w s.heap a l) (room : l.length + 1 < scanBound)
    (hQ : ∀ h', Heap.SameBut a s.heap h' → SetS w h' a (addS l x) → Q .none { s with heap := h', toks := s.toks + 1 }) : wpAny (model P w) A (call (.builtin "set.add") [.ref a, .str x tk]) Q E s := by
  refine wpAny_call_entry F.slot_set_add (R.setOf (P := P)).typeIs F.entry_set_add ?_ (F.args_set_add_2 _ _)
  unfold Builtin.«set.add» Builtin.Frozenset.oneOther
  simp only [List.isEmpty_nil, bind_assoc]
  unfold Builtin.Frozenset.addrOf setAdd
  refine wpAny_bind (wpAny_pure ?_)
  try dsimp only
  refine wpAny_bind (wpAny_pure ?_)
  try dsimp only
  refine wpAny_bind (wpAny_holding (wpAny_bind ((PySem.strKind P w).pyHash (strKind_is P w x tk) ?_)))
  refine setS_addH (s := { s with toks := s.toks + 1 }) R room fun b h' sb r => ?_
  show wpAny _ _ (ret Value.none) _ _ _
  exact wpAny_pure ⟨_, rfl, hQ h' sb r⟩
end
/-! ### as tracked things -/
def SetSO (w : World) (a : Addr) (l : List Str) : HO := .ext fun h => SetS w h a l
theorem setSO_new {w : World} {P : Program} {H : Hp} {h : Heap} {a : Addr} {l : List Str} (R : SetS w h a l) : ObjOk P w H h a (SetSO w a l) := by
  have ⟨_, o, _, _, _, ho, _⟩ := R
  exact ⟨R, ⟨o, ho⟩, fun h1 h2 p k => SetS.at p k⟩
section
variable {X : Cx}
theorem setSO_get {pins : List (Addr × Obj)} {σ : L2.St} {H : Hp} {s : Shared} {a : Addr} {l : List Str} (I : Inv X pins σ H s) (ha : H a = some (SetSO X.w a l)) : SetS X.w s.heap a l := (I.hok a _ ha).1
theorem addS_ok {pins : List (Addr × Obj)} {σ : L2.St} {H : Hp} {s : Shared} {E : Value → Shared → Prop} {D : Addr} {l : List Str} {x : Str} {tk : Tok} {Q : Value → Shared → Prop} (I : Inv X pins σ H s) (hD : H D = some (SetSO X.w D l)) (room : l.length + 1 < scanBound)
    (h : ∀ s', Inv X pins σ (upd H D (SetSO X.w D (addS l x))) s' → Q .none s') : wpAny (model X.prog X.w) X.A (call (.builtin "set.add") [.ref D, .str x tk]) Q E s := by
  refine setS_add (setSO_get I hD) room fun h' sb new => ?_
  have he : ∃ u, h'.get? D = some u := by
    have ⟨_, o, _, _, _, ho, _⟩ := new
    exact ⟨o, ho⟩
  exact h _ (I.write (e := D) (t' := s.toks + 1) (by rw [hD]; trivial) (.inl rfl) (fun b u hb hu => (sb.2 b hb).trans hu) he (setSO_new new))
end
end Rd
namespace Rd
open PySem PySem.Spec PyProof.Rows L2
/-! ### {text for ..} -/
def tScS (w : World) (wi : TI) (g : TG) (tt : TT) (te : TE) (vs : List Nat) : TE := fun σ H Q => wi σ H fun J H1 => ∀ D, H1 D = none → ∃ W : Nat → Nat → Hp → Prop, (∃ m, W 0 m (upd H1 D (SetSO w D []))) ∧ ∀ i m H, W i m H →
  (J.stop i H ∧ Q (.ref D) H) ∨ (J.go i H ∧ ∃ Nx : Hp → Prop, (∀ H', Nx H' → ∃ m', m' < m ∧ W (i + 1) m' H') ∧ ∀ x H', J.yld i H x H' → g x (wipe σ vs) H' fun σ2 H2 => wipe σ2 vs = wipe σ vs ∧ tt σ2 H2 fun b H3 =>
    if b = true then te σ2 H3 fun y H4 => ∃ (c : Str) (l : List Str), y = .str c ∧ H4 D = some (SetSO w D l) ∧ l.length + 1 < scanBound ∧ Nx (upd H4 D (SetSO w D (addS l c))) else Nx H3)
section
variable {X : Cx}
theorem pe_scS {elt tg iter : Expr} {ifs : List Expr} {scope : Scope} {own : List (PySem.Str × Nat)} {pos : Pos} {wi : TI} {g : TG} {tt : TT} {te : TE} (hc : X.calm = true) (hN : X.N.Nodup) (hi : PI X tg iter wi) (ok : BlkOk X.N X.env.scope scope own)
    (hg : ∀ (s : Shared) (H : Hp) (C : Addr) (cl : List (PySem.Str × Addr)) (fp : List Addr), PG (X.blk s H scope (compEnvC scope cl C X.env) fp) tg g) (ht : ∀ (s : Shared) (H : Hp) (C : Addr) (cl : List (PySem.Str × Addr)) (fp : List Addr), PTs (X.blk s H scope (compEnvC scope cl C X.env) fp) ifs tt)
    (he : ∀ (s : Shared) (H : Hp) (C : Addr) (cl : List (PySem.Str × Addr)) (fp : List Addr), PE (X.blk s H scope (compEnvC scope cl C X.env) fp) elt te) (hs : ∀ x, foldedSetIterable iter X.env x = pure x := by intro _; rfl) :
    PE X (.SetComp elt [⟨tg, iter, ifs, 0⟩] scope pos) (tScS X.w wi g tt te (own.map (·.2))) := by
  refine ⟨fun pins s σ H Q I h => ?_⟩
  rw [PpSet.eval_SetComp]
  have hfree : ∀ y ∈ scope.names, y.2 = .free → ∃ c, X.env.cells.lookup y.1 = some c := fun y hy e => (ok.free y hy e).elim (fun k => I.ok.has _ (.inl k)) fun k => I.ok.has _ (.inr k)
  refine wpAny_comprehension_free (use := none) rfl hs (closure_ok hfree) ok.kind (fun y hy e => by rw [ok.uniq y hy, e]) (thn (hi.run pins s σ H _ I h) fun xv s1 hx => thn hx fun itv s2 h2 => ?_)
  obtain ⟨it, fp, tn, J, H2, e, I2, T, st2, f2, q⟩ := h2
  subst e
  refine PpSet.newSet_ok (newEnv_comp ?_)
  generalize hD : s2.heap.objs.size = D
  have Dn : H2 D = none := I2.hok.fresh (Nat.le_of_eq hD)
  obtain ⟨W, ⟨m0, w0⟩, turn⟩ := q D Dn
  generalize hO : ({ cls := .type "set", dict := none, data := .set #[] 0 (.fresh 0 0 (!X.w.params.followText "set-order")) } : Obj) = ob
  generalize e3 : ({ s2 with heap := s2.heap.push ob } : Shared) = s3
  have h3 : s3.heap = s2.heap.push ob := by rw [← e3]
  have I3 : Inv X pins σ (upd H2 D (SetSO X.w D [])) s3 := by
    rw [← e3]
    refine I2.laid (t' := s2.toks) (fun b o e => Heap.get?_push_of_some _ e) (Nat.le_of_eq hD) (setSO_new (setS_fresh ?_))
    rw [← hD, ← hO]
    exact Heap.get?_push_size _ rfl
  have f3 : ∀ b ∈ fp, FpOk X pins (upd H2 D (SetSO X.w D [])) b ∧ b < s3.heap.objs.size := fun b hb => by
    obtain ⟨o, e, _⟩ := T.obj _ _ st2 b hb
    have lt := Heap.lt_size e
    refine ⟨⟨?_, (f2 b hb).2⟩, by rw [h3, Heap.size_push]; exact Nat.lt_succ_of_lt lt⟩
    rw [upd_ne (by rw [← hD]; exact Nat.ne_of_lt lt)]
    exact (f2 b hb).1
  have st3 : tn 0 s3.heap := T.keep _ _ _ st2 fun b _ o e => by rw [h3]; exact Heap.get?_push_of_some _ e
  have I4 := block_start I3 ok hN f3
  have pg := hg s3 (upd H2 D (SetSO X.w D [])) s3.heap.objs.size (cellsFrom (s3.heap.objs.size + 1) scope.names (cloFrom X.env.cells scope.names [])) fp
  have pt := ht s3 (upd H2 D (SetSO X.w D [])) s3.heap.objs.size (cellsFrom (s3.heap.objs.size + 1) scope.names (cloFrom X.env.cells scope.names [])) fp
  have pe := he s3 (upd H2 D (SetSO X.w D [])) s3.heap.objs.size (cellsFrom (s3.heap.objs.size + 1) scope.names (cloFrom X.env.cells scope.names [])) fp
  show codeAny _ _ (.compStart (.SetComp elt [⟨tg, iter, ifs, 0⟩] scope pos) 0 (.ref it) (.ref D) (compEnvC scope (cellsFrom (s3.heap.objs.size + 1) scope.names (cloFrom X.env.cells scope.names [])) s3.heap.objs.size X.env)) _ { s3 with heap := pushCells (s3.heap.push { cls := .type "dict", data := .dict #[] }) scope.names }
  have nfp : ∀ b ∈ fp, (upd H2 D (SetSO X.w D [])) b = none := fun b hb => (f3 b hb).1.1
  generalize hce : compEnvC scope (cellsFrom (s3.heap.objs.size + 1) scope.names (cloFrom X.env.cells scope.names [])) s3.heap.objs.size X.env = ce at I4 pg pt pe ⊢
  have cL : ce.locals = s3.heap.objs.size := by subst hce; rfl
  generalize hH3 : upd H2 D (SetSO X.w D []) = H3 at I3 I4 pg pt pe w0 nfp f3
  generalize hs4 : ({ s3 with heap := pushCells (s3.heap.push { cls := .type "dict", data := .dict #[] }) scope.names } : Shared) = s4 at I4 ⊢
  have st4 : tn 0 s4.heap := T.keep _ _ _ st3 fun b _ o e => by rw [← hs4]; exact pushCells_keeps _ _ _ _ (Heap.get?_push_of_some _ e)
  have stat : ∀ {σ' : L2.St} {H' : Hp} {s' : Shared}, Inv (X.blk s3 H3 scope ce fp) [] σ' H' s' → (∀ b ∈ fp, H' b = none) → ∀ b ∈ fp, FpOk (X.blk s3 H3 scope ce fp) [] H' b := fun {σ' H' s'} I' hn b hb =>
    ⟨hn b hb, (I'.ok.exf b hb).1, I'.ok.exfs b hb, .inl hb, fun x c e => (I'.ok.exf b hb).2 x c e, fun p hp => absurd (show p ∈ ([] : List (Addr × Obj)) ++ [] from hp) (by simp)⟩
  have loop : codeAny (model X.prog X.w) X.A (.compLoop (.SetComp elt [⟨tg, iter, ifs, 0⟩] scope pos) 0 (.ref it) (.ref D) ce) (compPost (model X.prog X.w) X.A X.xe none (EP X pins σ Q) (.ref D) s3.heap.objs.size) s4 := by
    refine PpSet.compLoopS_any (fun n s' => ∃ i H', Inv (X.blk s3 H3 scope ce fp) [] (wipe σ (own.map (·.2))) H' s' ∧ tn i s'.heap ∧ (∀ b ∈ fp, H' b = none) ∧ W i n H') ?_ m0 ⟨0, H3, I4, st4, nfp, w0⟩
    rintro n s5 ⟨i, H5, I5, st5, n5, w5⟩
    rcases turn i n H5 w5 with ⟨stop, qq⟩ | ⟨go, Nx, hNx, step⟩
    · refine thnF (T.done (X.blk s3 H3 scope ce fp) rfl rfl rfl hc i [] s5 _ H5 (fun _ _ => False) I5 (stat I5 n5) st5 stop) fun r s6 ⟨hr, I6⟩ => ?_
      subst hr
      have I7 : Inv X pins σ H5 s6 := I3.call' (ch := fp) I6.os I6.base I6.hok I6.bare fun b hb => ⟨(f3 b hb).1.2.2.2.1, (f3 b hb).1.2.1, (f3 b hb).1.2.2.2.2.1, (f3 b hb).1.2.2.2.2.2⟩
      have nC : H5 s3.heap.objs.size = none := by
        have z : H5 ce.locals = none := I6.free
        rw [cL] at z
        exact z
      obtain ⟨m, hn, _⟩ := I6.loc
      have hn : s6.heap.Ns ce.locals m := hn
      rw [cL] at hn
      refine ⟨m, hn, fun h'' sb => ?_⟩
      obtain ⟨g0, g1, g2, g3, g4, g5⟩ := I3.fpOk (Nat.le_refl _) nC
      exact ⟨.ref D, H5, I7.turned (t' := s6.toks) (fun b o hb e => (sb.2 b hb).trans e) g0 g1 g3 g4 g5, rfl, qq⟩
    · refine thnF (T.item (X.blk s3 H3 scope ce fp) rfl rfl rfl hc i [] s5 _ H5 (fun _ _ => False) I5 (stat I5 n5) st5 go) fun r s6 ⟨u, hr, h6⟩ => ?_
      subst hr
      refine thnF h6 fun _ s7 ⟨x, H7, I7, r7, y7, st7, n7⟩ => ?_
      refine thnF (pg.run _ s7 _ H7 x u _ (I7.pinned (stat I7 n7) (T.obj _ _ st7)) r7 (step x H7 y7)) fun _ s8 ⟨σ8, H8, I8, hw8, q8⟩ => ?_
      refine thnF (pt.run _ s8 σ8 H8 _ I8 q8) fun b s9 ⟨H9, I9, q9⟩ => ?_
      have fin : ∀ {s' : Shared} {H' : Hp}, Inv (X.blk s3 H3 scope ce fp) ([] ++ pinsAt fp s7.heap) σ8 H' s' → Nx H' → ∃ m, m < n ∧ ∃ i H', Inv (X.blk s3 H3 scope ce fp) [] (wipe σ (own.map (·.2))) H' s' ∧ tn i s'.heap ∧ (∀ b ∈ fp, H' b = none) ∧ W i m H' := fun {s' H'} I' nx => by
        obtain ⟨m', hm, w'⟩ := hNx H' nx
        have pin' : ∀ b ∈ fp, ∀ o, s7.heap.get? b = some o → s'.heap.get? b = some o ∧ H' b = none := fun b hb o e => by
          have z := I'.pin (b, o) (List.mem_append_right _ (List.mem_append_right _ (mem_pinsAt hb e)))
          exact ⟨z.1, z.2.1⟩
        refine ⟨m', hm, i + 1, H', (I'.unpinned (pins := [])).weak (by rw [← hw8, wipe_length]) (fun j v e => by rw [← hw8] at e; exact (wipe_some e).1), T.keep _ _ _ st7 fun b hb o e => (pin' b hb o e).1, fun b hb => ?_, w'⟩
        obtain ⟨o, e, _⟩ := T.obj _ _ st7 b hb
        exact (pin' b hb o e).2
      cases b with
      | false =>
        simp only [Bool.false_eq_true, if_false] at q9 ⊢
        exact fin I9 q9
      | true =>
        simp only [if_true] at q9 ⊢
        refine thnF (pe.run _ s9 σ8 H9 _ I9 q9) fun z s10 ⟨yv, H10, I10, r10, c, l, ey, hD10, hz10, nx⟩ => ?_
        subst ey
        obtain ⟨tk, rfl⟩ := r10
        exact addS_ok (X := X.blk s3 H3 scope ce fp) I10 hD10 hz10 fun s11 I11 => fin I11 nx
  exact PpSet.codeAny_compStart_set loop (T.self X.A 0 _ _ _ st4 loop)
end
/-! ### set(list of texts), sorted(set of texts) -/
section
variable {P : Program} {w : World} {A : Around} {E : Value → Shared → Prop} {s : Shared}
theorem strs_of : ∀ (l : List Value), (∀ v ∈ l, ∃ x t, v = Value.str x t) → ∃ xs, StrsAre l xs
  | [], _ => ⟨[], .nil⟩
  | v :: l, h => by
    obtain ⟨x, t, rfl⟩ := h v List.mem_cons_self
    obtain ⟨xs, g⟩ := strs_of l fun u hu => h u (List.mem_cons_of_mem _ hu)
    exact ⟨x :: xs, .cons x t g⟩
theorem strs_kt {es : List (Int × Value)} (g : ∀ e ∈ es, GT w e) : StrsAre (es.map (·.2)) (es.map kt) := by
  induction es with
  | nil => exact .nil
  | cons e r ih =>
    obtain ⟨x, t, h1, _⟩ := g e List.mem_cons_self
    have hk : kt e = x := by unfold kt; rw [h1]
    rw [List.map_cons, List.map_cons, h1, hk]
    exact .cons x t (ih fun e he => g e (List.mem_cons_of_mem _ he))
def rawS : Value → Str
  | .str x _ => x
  | _ => Str.empty
theorem strs_raw {l : List Value} {xs : List Str} (h : StrsAre l xs) : l.map rawS = xs := by
  induction h with
  | nil => rfl
  | cons x t _ ih => rw [List.map_cons, ih]; rfl
theorem sorted_setS {a : Addr} {l : List Str} {Q : Value → Shared → Prop} (R : SetS w s.heap a l) (hh : A.handled = none)
    (hQ : ∀ s' p (out : Array Value) (c : Nat) (ys : List Str), (∀ b o, s.heap.get? b = some o → s'.heap.get? b = some o) → s'.gens = s.gens → s'.os = s.os → s.heap.objs.size ≤ p →
      s'.heap.get? p = some (seqObj "list" out c) → StrsAre out.toList ys → ys.Perm l → sortedS ys = true → Q (.ref p) s') :
    wpAny (model P w) A (call (.builtin "sorted") [.ref a]) Q E s := by
  obtain ⟨nd, o, es, ep, t, ho, hx, hd, g, pm, T⟩ := R
  refine Calls.call_function_entry kind_sorted plain_sorted entry_sorted (args_sorted1 _) ?_
  unfold Builtin.«sorted»
  refine wpAny_bind (m := checkCount "sorted" 1 1 _) (wpAny_pure ?_)
  refine wpAny_bind (collect_set (A := A.in1) hh ⟨o, ho, hx.1, hd⟩ T.ft T.sm T.ri T.ld fun s1 vs k1 hz g1 o1 pv => ?_)
  have hvl : vs.length = es.size := by rw [pv.length_eq, List.length_map, Array.length_toList]
  obtain ⟨xs, hxs⟩ := strs_of vs fun v hv => by
    obtain ⟨e, he, q⟩ := List.mem_map.mp (pv.mem_iff.mp hv)
    obtain ⟨x, tk, h1, _⟩ := g e he
    exact ⟨x, tk, by rw [← q]; exact h1⟩
  have px : xs.Perm l := by
    rw [← strs_raw hxs]
    refine ((pv.map rawS).trans ?_).trans pm
    rw [strs_raw (strs_kt g)]
  have hvs : vs.length ≤ sizeLine := by rw [hvl]; exact fits_of_scanBound T.sm
  refine wpAny_bind (wpAny_newList ?_ hvs)
  have hoL : (s1.heap.push (seqObj "list" vs.toArray 0)).get? s1.heap.objs.size = some (seqObj "list" vs.toArray 0) := Heap.get?_push_size _ rfl
  refine wpAny_bind (wpAny_holding (wpAny_call_entry slot_list_sort ⟨_, hoL, rfl⟩ entry_list_sort (list_sort_treeKAny strKind_oneLt hoL hxs.keysOf (fun v₁ v₂ rest e => keyKind_strs (by rw [← e]; exact hxs)) hvs fun st' hp hs => ⟨_, rfl, ?_⟩) (args_list_sort _)))
  obtain ⟨ys, h1, h2, h3⟩ := sorted_out_str hxs hp hs
  obtain ⟨c, hc⟩ := sortedHeap_at (vs := vs) hoL
  refine wpAny_pure ⟨_, rfl, hQ _ s1.heap.objs.size _ c ys (fun b u e => ?_) g1 o1 hz hc h1 (h2.trans px) h3⟩
  have q := k1 b u e
  have hlt := Heap.lt_size q
  rw [sortedHeap_old (Nat.ne_of_lt hlt) (by rw [size_push']; exact Nat.lt_succ_of_lt hlt)]
  exact Heap.get?_push_of_some _ q
end
section
variable {X : Cx}
def rSortedSS (w : World) : List V → Hp → VK → Prop := fun vs H Q => ∃ (a : Addr) (l : List Str), vs = [V.ref a] ∧ H a = some (SetSO w a l) ∧
  ∀ (ys : List Str) (p : Addr), ys.Perm l → ys.Nodup → sortedS ys = true → H p = none → Q (.ref p) (upd H p (.lst (ys.map V.str)))
theorem cr_sortedSS (hc : X.calm = true) : CallR X (.builtin "sorted") (rSortedSS X.w) := by
  intro pins s σ H vs us Q I r h
  obtain ⟨a, l, rfl, ha, q⟩ := h
  have R := setSO_get I ha
  rw [Vals.ref1 r]
  have hl : l.length ≤ sizeLine := by
    have ⟨_, o, es, ep, t, _, _, _, _, pm, T⟩ := R
    rw [← pm.length_eq, List.length_map, Array.length_toList]
    exact fits_of_scanBound T.sm
  refine sorted_setS R (I.ok.hd hc) fun s' p out c ys k g o hp hgt hi pm hs => ?_
  have hlen : (ys.map V.str).length ≤ sizeLine := by rw [List.length_map, pm.length_eq]; exact hl
  have hn : H p = none := I.hok.fresh hp
  obtain ⟨h2, g2, d2, t2, o2⟩ := s'
  obtain rfl : o2 = s.os := o
  obtain rfl : g2 = s.gens := g
  have J : Inv X pins σ (upd H p (.lst (ys.map V.str))) ⟨h2, s.gens, d2, t2, s.os⟩ := I.call (d' := d2) (t' := t2) (g' := s.gens) (ch := []) (Un.laid k hp hn) (I.hok.laid k hp ⟨hlen, out.toList, c, vals_of_strs hi, hgt⟩) I.bare (fun _ z => nomatch z)
  exact ⟨.ref p, _, J, rfl, q ys p pm (pm.nodup_iff.mpr R.nd) hs hn⟩
end
end Rd
namespace Rd
open PySem PySem.Spec PyProof.Rows L2
/-- texts put into a set one behind another -/
def putS (l : List Str) : List Str → List Str
  | [] => l
  | x :: r => putS (addS l x) r
theorem addS_mem {l : List Str} {x y : Str} : y ∈ addS l x ↔ y ∈ l ∨ y = x := by
  unfold addS
  split
  · exact ⟨.inl, fun h => h.elim id fun e => by rw [e]; assumption⟩
  · rw [List.mem_cons]
    exact Or.comm
theorem addS_nd {l : List Str} {x : Str} (h : l.Nodup) : (addS l x).Nodup := by
  unfold addS
  split
  · exact h
  · exact List.nodup_cons.mpr ⟨by assumption, h⟩
theorem addS_len {l : List Str} {x : Str} : (addS l x).length ≤ l.length + 1 := by
  unfold addS
  split
  · exact Nat.le_succ _
  · exact Nat.le_refl _
theorem putS_mem {y : Str} : ∀ {r l : List Str}, y ∈ putS l r ↔ y ∈ l ∨ y ∈ r
  | [], l => by simp [putS]
  | x :: r, l => by
    rw [putS, putS_mem, addS_mem, List.mem_cons, or_assoc]
theorem putS_nd : ∀ {r l : List Str}, l.Nodup → (putS l r).Nodup
  | [], _, h => h
  | _ :: r, _, h => putS_nd (r := r) (addS_nd h)
theorem putS_len : ∀ {r l : List Str}, (putS l r).length ≤ l.length + r.length
  | [], l => Nat.le_refl _
  | x :: r, l => by
    have h := putS_len (r := r) (l := addS l x)
    have := addS_len (l := l) (x := x)
    rw [putS, List.length_cons]
    omega
theorem putS_app : ∀ {r q l : List Str}, putS l (r ++ q) = putS (putS l r) q
  | [], _, _ => rfl
  | x :: r, q, l => putS_app (r := r) (q := q) (l := addS l x)
section
variable {P : Program} {w : World} {A : Around} {E : Value → Shared → Prop} {s : Shared}
theorem fillS {I : Addr} {fp wr : List Addr} {G : Array GenState → Array GenState → Prop} {n : Nat} {Pv : Nat → Value → Prop} {St : Nat → Shared → Prop} {R : Result → Shared → Prop}
    (W : WalksS P w A.in1 I fp wr G n Pv St) (S : Addr) (nS : S ∉ fp) (xs : List Str) (hn : n = xs.length) (hb : xs.length + 1 < scanBound) (hv : ∀ i v, Pv i v → ∃ x t, xs[i]? = some x ∧ v = .str x t) :
    ∀ (k i : Nat) (s : Shared), n - i = k → i ≤ n → St i s → SetS w s.heap S (putS [] (xs.take i)) →
      (∀ s', Moved (S :: wr) G s s' → SetS w s'.heap S (putS [] xs) → R (.ok (.ret .none)) s') → codeAny (model P w) A (.builtin "set.update.loop" ⟨[.ref S, .ref I], []⟩) R s := by
  have nw : S ∉ wr := fun h => nS (W.sub _ h)
  have su : ∀ b ∈ wr, b ∈ S :: wr := fun b hb => List.mem_cons_of_mem _ hb
  intro k
  induction k with
  | zero =>
    intro i s hk hi hst hS hR
    obtain rfl : i = n := by omega
    refine codeAny_builtin F.entry_set_update_loop ?_
    rw [Around.under_plainId F.plain_set_update_loop _]
    show wpAny _ A.in1 (pyNext (.ref I) >>= _) _ _ s
    refine wpAny_bind (W.done s _ _ hst fun s' hm => ?_)
    show wpAny _ A.in1 (ret Value.none) _ _ s'
    rw [List.take_of_length_le (by omega)] at hS
    exact wpAny_pure (hR s' (hm.mono su) (hS.at fun o e => hm.heap S o nw e))
  | succ k ih =>
    intro i s hk hi hst hS hR
    have lt : i < n := by omega
    refine codeAny_builtin F.entry_set_update_loop ?_
    rw [Around.under_plainId F.plain_set_update_loop _]
    show wpAny _ A.in1 (pyNext (.ref I) >>= _) _ _ s
    refine wpAny_bind (W.item i s _ _ lt hst fun v s' hP hst' hm => ?_)
    obtain ⟨x, t, hx, rfl⟩ := hv i v hP
    show wpAny _ A.in1 (holding [Value.str x t] (setAdd S (.str x t)) >>= _) _ _ s'
    refine wpAny_bind (wpAny_holding ?_)
    unfold setAdd
    refine wpAny_holding (wpAny_bind ((PySem.strKind P w).pyHash (k := x) (strKind_is _ _ _ _) ?_))
    have len : (putS [] (xs.take i)).length + 1 < scanBound := by
      have := putS_len (r := xs.take i) (l := [])
      rw [List.length_take, List.length_nil] at this
      omega
    refine setS_addH (s := { s' with toks := s'.toks + 1 }) (hS.at fun o e => hm.heap S o nw e) len fun b h' sb hS2 => ?_
    have hS3 : SetS w h' S (putS [] (xs.take (i + 1))) := by
      rw [List.take_add_one, hx, putS_app]
      exact hS2
    refine wpAny_pure ⟨plainId_quiet F.plain_set_update_loop _, ih (i + 1) _ (by omega) lt (W.frame _ s' _ _ hst' (Nat.le_succ _) fun b hb o e => ?_) hS3 fun s'' hm2 hS4 => ?_⟩
    · rw [sb.2 b (fun h : b = S => nS (by rw [← h]; exact hb))]; exact e
    · refine hR s'' (Moved.trans W.gtrans ((hm.mono su).then_heap (Nat.le_succ _) fun b o hb e => ?_) hm2) hS4
      rw [sb.2 b (fun h : b = S => hb (by rw [h]; exact List.mem_cons_self))]; exact e
theorem strs_val : ∀ {us : List Value} {xs : List Str}, StrsAre us xs → ∀ (i : Nat) (v : Value), us[i]? = some v → ∃ x t, xs[i]? = some x ∧ v = .str x t
  | _, _, .nil, i, v, h => by simp at h
  | _, _, .cons n t hr, 0, v, h => by simp at h; exact ⟨n, t, rfl, h.symm⟩
  | _, _, .cons n t hr, i + 1, v, h => by
    rw [List.getElem?_cons_succ] at h ⊢
    exact strs_val hr i v h
/-- the new set -/
abbrev newO (w : World) : Obj := { cls := .type "set", dict := none, data := .set #[] 0 (.fresh 0 0 (!w.params.followText "set-order")) }
theorem set_of_list {l : Addr} {items : Array Value} (xs : List Str) {Q : Value → Shared → Prop} (hh : A.handled = none) (hl : s.heap.IsList l items) (hit : StrsAre items.toList xs) (hb : xs.length + 1 < scanBound)
    (h : ∀ (h' : Heap) (tk : Nat), SetS w h' s.heap.objs.size (putS [] xs) → (∀ b o, s.heap.get? b = some o → h'.get? b = some o) → Q (.ref s.heap.objs.size) { s with heap := h', toks := tk }) :
    wpAny (model P w) A (call (.type "set") [.ref l]) Q E s := by
  have isz : items.size = xs.length := by
    have q := StrsAre.length hit
    rw [Array.length_toList] at q
    exact q
  obtain ⟨c, tl, hmro⟩ := F.called_set.mro
  have hmade := F.called_set.made
  have hsub := F.called_set.sub
  refine wpAny_call (codeAny_of_tree ?_)
  show wpAny _ _ (callAny (.type "set") _) _ _ _
  refine wpAny_pure ⟨Code.quiet_builtin _ (by decide +kernel), codeAny_builtin F.entry_type_call ?_⟩
  rw [Around.under_plain (weight_type_call_type "set" [.ref l] []) rfl]
  have h1 := F.called_set.notType
  have h2 := F.called_set.canCreate
  have hct := F.typeCall_set_1 (.ref l)
  repeat (any_goals (first | assumption | wp_step))
  refine codeAny_mono (code_set_led1 (.ref l) (E := E) (Q₁ := fun obj s₁ => obj = .ref s.heap.objs.size ∧ s₁ = { s with heap := s.heap.push (newO w) }) ⟨rfl, rfl⟩) fun r s₁ hr => ?_
  cases r with
  | error e => exact hr
  | ok fl =>
    cases fl with
    | ret obj =>
      obtain ⟨rfl, rfl⟩ := hr
      have hS : (s.heap.push (newO w)).get? s.heap.objs.size = some (newO w) := Heap.get?_push_size _ rfl
      have hT : Shared.TypeIs { s with heap := s.heap.push (newO w) } (.ref s.heap.objs.size) "set" := ⟨_, hS, rfl⟩
      have hli := F.called_set.init.lookup
      have hbi := F.called_set.init.bind (.ref s.heap.objs.size)
      repeat (any_goals (first | assumption | wp_step))
      refine codeAny_mono (codeAny_call_builtin (R := wants (fun r s₂ => r = .none ∧ ∃ h' tk, s₂ = { s with heap := h', toks := tk } ∧ SetS w h' s.heap.objs.size (putS [] xs) ∧ (∀ b o, s.heap.get? b = some o → h'.get? b = some o)) E) F.called_set.init.plain F.entry_set_init (check_set_init_1 hT ?_)) fun r₂ s₂ hr₂ => ?_
      · obtain ⟨ol, hol, hcl, nl, hdl⟩ := hl
        obtain ⟨ocls, odict, odata, oslots⟩ := ol
        simp only at hcl hdl
        subst hcl; subst hdl
        have hol' : (s.heap.push (newO w)).get? l = some { cls := .type "list", dict := odict, data := .seq items nl, slots := oslots } := Heap.get?_push_of_some _ hol
        have hsls := F.sub_list_set
        have hslf := F.sub_list_frozenset
        have hne : (Value.type "list" == Value.type "dict") = false := by decide
        have hl1 : (s.heap.push (newO w)).IsList l items := ⟨_, hol', rfl, nl, rfl⟩
        unfold Builtin.«set.__init__» noKeywords Builtin.Frozenset.updateFrom
        generalize hPI : pyIter = PI
        wp_walk
        subst hPI
        refine wpAny_pyIter_list hl1 ?_
        refine wpAny_bind (wpAny_runValue ?_)
        have lS : l < s.heap.objs.size := Heap.lt_size hol
        have hh3 : A.in1.in1.in1.handled = none := by simp [hh]
        have nI : l ≠ (s.heap.push (newO w)).objs.size := by
          rw [Heap.size_push]; exact Nat.ne_of_lt (Nat.lt_succ_of_lt lS)
        have nSf : s.heap.objs.size ∉ [(s.heap.push (newO w)).objs.size, l] := by
          rw [Heap.size_push]
          simp only [List.mem_cons, List.mem_singleton, List.not_mem_nil, or_false, not_or]
          exact ⟨Nat.ne_of_lt (Nat.lt_succ_self _), Nat.ne_of_gt lS⟩
        refine fillS ((Walks.list hh3 _ l nI items).toS) s.heap.objs.size nSf xs isz hb (fun i v hv => strs_val hit i v (by rw [Array.getElem?_toList]; exact hv)) (items.size - 0) 0 _ (by omega) (Nat.zero_le _)
          ⟨⟨_, Heap.get?_push_size _ rfl, rfl, rfl⟩, (hl1.push _)⟩ (setS_fresh (Heap.get?_push_of_some _ hS)) ?_
        intro s' hm hS'
        obtain ⟨h', g2, d', tk', os'⟩ := s'
        have eg : g2 = s.gens := hm.gens
        have ed : d' = s.drawn := hm.drawn
        have eo : os' = s.os := hm.os
        subst eg; subst ed; subst eo
        show wpAny _ _ _ _ _ _
        refine wpAny_pure ?_
        show wpAny _ _ (ret Value.none) _ _ _
        refine wpAny_pure ⟨rfl, h', tk', rfl, hS', fun b o e => ?_⟩
        have hb0 : b < s.heap.objs.size := Heap.lt_size e
        have hb2 : b ≠ (s.heap.push (newO w)).objs.size := by
          rw [Heap.size_push]; exact Nat.ne_of_lt (Nat.lt_succ_of_lt hb0)
        exact hm.heap b o (by simp only [List.mem_cons, List.mem_singleton, List.not_mem_nil, or_false, not_or]; exact ⟨Nat.ne_of_lt hb0, hb2⟩) (Heap.get?_push_of_some _ (Heap.get?_push_of_some _ e))
      · cases r₂ with
        | error e => exact hr₂
        | ok fl₂ =>
          cases fl₂ with
          | ret r =>
            obtain ⟨rfl, h', tk, rfl, hS', hk'⟩ := hr₂
            repeat (any_goals (first | assumption | wp_step))
            exact h _ _ hS' hk'
          | _ => exact hr₂.elim
    | _ => exact hr.elim
end
section
variable {X : Cx}
def rSetOfS (K : PySem.W.Frag) (w : World) : List V → Hp → VK → Prop := fun vs H Q => ∃ (l : Addr) (xs : List Str), vs = [V.ref l] ∧ SqL K H l (xs.map V.str) ∧ xs.length + 1 < scanBound ∧ ∀ a, H a = none → Q (.ref a) (upd H a (SetSO w a (putS [] xs)))
theorem cr_setOfS (hc : X.calm = true) : CallR X (.type "set") (rSetOfS X.K X.w) := by
  intro pins s σ H vs us Q I r h
  obtain ⟨l, xs, rfl, hl, hb, q⟩ := h
  rw [Vals.ref1 r]
  obtain ⟨its, rv, pl, hz⟩ := I.list hl
  exact set_of_list xs (I.ok.hd hc) pl.isList (by simpa using rv.strs) hb fun h' tk R k =>
    ⟨.ref s.heap.objs.size, upd H s.heap.objs.size (SetSO X.w s.heap.objs.size (putS [] xs)), I.laid (t' := tk) k (Nat.le_refl _) (setSO_new R), rfl, q _ (I.hok.fresh (Nat.le_refl _))⟩
/-- len(a set of texts) -/
def rLenSS (w : World) : List V → Hp → VK → Prop := fun vs H Q => ∃ (a : Addr) (l : List Str), vs = [V.ref a] ∧ H a = some (SetSO w a l) ∧ Q (.int l.length) H
end
end Rd
namespace Rd
open PySem L2
/-! ### own in, own len -/
def rInO (C : Addr) (sp : Sp) (f : Bool → Bool) : R2 := fun x y H Q => ∃ b dy gs, y = .ref b ∧ H b = some (.ins C dy gs) ∧ sp [.ref b, x] H (fun v H' => ∃ k, v = .bl k ∧ Q (.bl (f k)) H') E0
def rLenO (C : Addr) (sp : Sp) : List V → Hp → VK → Prop := fun vs H Q => ∃ a dx fs, vs = [.ref a] ∧ H a = some (.ins C dx fs) ∧ sp [.ref a] H (fun v H' => ∃ n : Nat, v = .int n ∧ n < 2 ^ 62 ∧ Q (.int n) H') E0
section
variable {X : Cx} {k : Nat} {ps : List Str} {sp : Sp} {c : Str}
theorem op_inO (F : Fm X.prog X.w X.K X.mg X.base CX0 k c "__contains__" ps sp) (hr : Room k X.A) : OpR X (compareOp .In) (rInO (He.ga X.K c) sp id) := by
  obtain ⟨⟨fd, f1, b1⟩, me⟩ := F
  intro pins s σ H x y v u Q I rx ry h
  obtain ⟨b, dy, gs, rfl, hb, q⟩ := h
  cases (show u = Value.ref b from ry)
  obtain ⟨mA, J, _⟩ := ins_get I.hok hb
  obtain ⟨od, J, _⟩ := J.look
  obtain ⟨mm, hF⟩ := I.fr
  refine PySem.W.in_K hF I.ok.mod.kin J me.at_ me.fn (thn (run_fnS (vs := [.ref b, x]) (E := fun _ => E0) f1 hr b1 at0 I (.cons rfl (.cons rx .nil)) q) fun r s' hq => ?_)
  obtain ⟨z, H', I', rz, kk, rfl, q'⟩ := hq
  cases rz
  exact wpAny_truthy_bool ⟨.bl kk, H', I', rfl, q'⟩
theorem op_notInO (F : Fm X.prog X.w X.K X.mg X.base CX0 k c "__contains__" ps sp) (hr : Room k X.A) : OpR X (compareOp .NotIn) (rInO (He.ga X.K c) sp not) := by
  obtain ⟨⟨fd, f1, b1⟩, me⟩ := F
  intro pins s σ H x y v u Q I rx ry h
  obtain ⟨b, dy, gs, rfl, hb, q⟩ := h
  cases (show u = Value.ref b from ry)
  obtain ⟨mA, J, _⟩ := ins_get I.hok hb
  obtain ⟨od, J, _⟩ := J.look
  obtain ⟨mm, hF⟩ := I.fr
  refine PySem.W.notIn_K hF I.ok.mod.kin J me.at_ me.fn (thn (run_fnS (vs := [.ref b, x]) (E := fun _ => E0) f1 hr b1 at0 I (.cons rfl (.cons rx .nil)) q) fun r s' hq => ?_)
  obtain ⟨z, H', I', rz, kk, rfl, q'⟩ := hq
  cases rz
  exact wpAny_truthy_bool ⟨.bl (!kk), H', I', rfl, q'⟩
theorem call_lenO (F : Fm X.prog X.w X.K X.mg X.base CX0 k c "__len__" ps sp) (hr : Room (k + 1) X.A) : CallR X (.builtin "len") (rLenO (He.ga X.K c) sp) := by
  obtain ⟨⟨fd, f1, b1⟩, me⟩ := F
  intro pins s σ H vs us Q I r h
  obtain ⟨a, dx, fs, rfl, ha, q⟩ := h
  rw [Vals.ref1 r]
  obtain ⟨mA, J, _⟩ := ins_get I.hok ha
  obtain ⟨od, J, _⟩ := J.look
  obtain ⟨mm, hF⟩ := I.fr
  have hl := f1.len _ _ _ _ q
  have r2 : Vals [V.ref a] [Value.ref a] := .cons rfl .nil
  have bb := b1 s [.ref a] I.kIn (by simpa using hl)
  refine PySem.W.len_K hF I.ok.mod.kin J me.at_ me.fn (wpAny_call (codeAny_mono (f1.run X.A.in1 X.stack s H ⟨[.ref a], []⟩ [.ref a] [.ref a] _ E0 hr.in1 I.env0.in1 (by simpa using bb) r2 q) fun r s' hq => ?_))
  cases r with
  | error e => exact hq.elim
  | ok fl =>
    cases fl with
    | ret u =>
      obtain ⟨v, H', I', rv, n, rfl, hn, q'⟩ := I.after hq
      obtain ⟨t, rfl⟩ := rv
      exact ⟨⟨by omega, by omega⟩, .int n, H', I'.tok _, ⟨_, rfl⟩, q'⟩
    | next => exact False.elim hq
    | brk => exact False.elim hq
    | cont => exact False.elim hq
end
end Rd
namespace Rd
open PySem L2
theorem _root_.L2.Room.units65 {k : Nat} {A : Around} (r : Room k A) : A.units + 65 < cLine := by have := r.un; omega
end Rd
namespace Rd
open PySem L2
/-! ### rules with the written part named: for comprehensions -/
section
variable {X : Cx} {K : PySem.W.Frag}
theorem kIx {r : PySem.W.Frag → R2} (hK : X.K = K) (h : IxR X (r X.K)) : IxR X (r K) := hK ▸ h
theorem kOp {o : Value → Value → Sem Value} {r : PySem.W.Frag → R2} (hK : X.K = K) (h : OpR X o (r X.K)) : OpR X o (r K) := hK ▸ h
theorem kE {e : Expr} {t : PySem.W.Frag → TE} (hK : X.K = K) (h : PE X e (t X.K)) : PE X e (t K) := hK ▸ h
theorem kSl {r : PySem.W.Frag → _} (hK : X.K = K) (h : SlR X (r X.K)) : SlR X (r K) := hK ▸ h
theorem kCall {f : Value} {r : PySem.W.Frag → List V → Hp → VK → Prop} (hK : X.K = K) (h : CallR X f (r X.K)) : CallR X f (r K) := hK ▸ h
def rLenSq (K : PySem.W.Frag) : List V → Hp → VK → Prop := fun xs H Q => ∃ p ys, xs = [.ref p] ∧ (SqL K H p ys ∨ SqT K H p ys) ∧ Q (.int ys.length) H
theorem call_lenk (hK : X.K = K) : CallR X (.builtin "len") (rLenSq K) := by subst hK; exact call_len_seq
theorem pe_kdk {x : Str} {kvs : List (Str × Int)} {pos : Pos} (hK : X.K = K) (D : Kd X.w X.K X.mg x kvs) (hg : Gl X x := by rfl) (hd : (x == ("__debug__" : Str)) = false := by decide) : PE X (.Name x pos) (tC (.ref (He.ga K x))) := by subst hK; exact pe_kd D hg hd
theorem op_inKk {x : Str} {kvs : List (Str × Int)} (hK : X.K = K) (D : Kd X.w X.K X.mg x kvs) : OpR X (compareOp .In) (rInK K x kvs) := by subst hK; exact op_inK D
theorem op_notInKk {x : Str} {kvs : List (Str × Int)} (hK : X.K = K) (D : Kd X.w X.K X.mg x kvs) : OpR X (compareOp .NotIn) (rNotInK K x kvs) := by subst hK; exact op_notInK D
theorem op_inOk {k : Nat} {ps : List Str} {sp : Sp} {c : Str} (hK : X.K = K) (F : Fm X.prog X.w X.K X.mg X.base CX0 k c "__contains__" ps sp) (hr : Room k X.A) : OpR X (compareOp .In) (rInO (He.ga K c) sp id) := by subst hK; exact op_inO F hr
end
end Rd
namespace Rd
open PySem L2
/-! ### e(..): what e tells is one of some functions of the module -/
def tCallE (K : PySem.W.Frag) (L : List (Str × Sp)) (tf : TE) (t : TA) : TE := fun σ H Q => tf σ H fun x H1 => ∃ p ∈ L, x = .ref (He.ga K p.1) ∧ t σ H1 fun vs H2 => p.2 vs H2 Q E0
section
variable {X : Cx} {k : Nat} {e f : Expr} {es : List Expr} {tf : TE} {t : TA} {pos : Pos}
theorem pe_callE (L : List (Str × Sp)) (hL : ∀ p ∈ L, ∃ ps, Fk X.prog X.w X.K X.mg X.base CX0 k p.1 ps p.2) (hr : Room k X.A) (hf : PE X f tf) (ha : PA X (e :: es) t)
    (hc : eval (.Call f (e :: es) [] pos) X.env = (do callWith pos (← eval f X.env) [] (backTo pos (starEach (e :: es) X.env)) (backToKw pos (keywordEach [] X.env))) := by rfl)
    (he : starEach (e :: es) X.env = (false, eval e X.env) :: starEach es X.env := by rfl) (hpl : (backTo pos (starEach es X.env)).any (·.1) = false := by rfl) :
    PE X (.Call f (e :: es) [] pos) (tCallE X.K L tf t) := by
  refine ⟨fun pins s σ H Q I h => ?_⟩
  rw [hc]
  refine wpAny_bind (thn (hf.run pins s σ H _ I h) fun u s1 ⟨x, H1, I1, rx, p, hp, ex, q⟩ => ?_)
  subst ex
  obtain rfl : u = Value.ref (He.ga X.K p.1) := rx
  obtain ⟨ps, ⟨fd, F, b⟩, g, kp⟩ := hL p hp
  refine PySem.W.callWith_K (first := []) (h₀ := X.base) I1.ok.mod.kin kp (thn (ha.run pos pins _ σ H1 _ I1 q) fun us s2 ⟨vs, H2, I2, r2, q2⟩ => ⟨I2.kIn, ?_⟩) he hpl
  exact run_fnS (E := fun _ => E0) F hr b at0 I2 r2 q2
end
end Rd
namespace Rd
open PySem L2
section
variable {X : Cx}
/-- x in a tuple, data of any depth -/
def rInDT (K : PySem.W.Frag) : R2 := fun x y H Q => ∃ d ds, Dp K H x d ∧ Dp K H y (.tuple ds) ∧ SeqAt.shaped d = true ∧ SeqAt.shaped (.tuple ds) = true ∧ Q (.bl (ds.any fun z => PyData.eqv z d)) H
theorem op_inDT (hu : X.A.units + 65 < cLine) : OpR X (compareOp .In) (rInDT X.K) := by
  intro pins s σ H x y v u Q I rx ry h
  obtain ⟨d, ds, hd, he, sd, se, q⟩ := h
  obtain ⟨as, r1⟩ := Dp.reads I d x v hd rx
  obtain ⟨bs, r2⟩ := Dp.reads I (.tuple ds) y u he ry
  exact SeqAt.in_tuple_reads r2 r1 (SeqAt.canLay_of_shaped se) (SeqAt.canLay_of_shaped sd) (PyProof.Rows.room_in_shaped sd hu) ⟨.bl _, H, I, rfl, q⟩
end
end Rd
/-! Rl: == and != of two dicts with texts or ints as keys and data of any depth as values, where they are equal -/
namespace Rd
open PySem PySem.Spec L2
def DEq (K : PySem.W.Frag) (H : Hp) (x y : V) : Prop := ∃ d e, Dp K H x d ∧ Dp K H y e ∧ SeqAt.shaped d = true ∧ SeqAt.shaped e = true ∧ PyData.eqv d e = true
section
variable {X : Cx} {pins : List (Addr × Obj)} {σ : St} {H : Hp} {s : Shared}
theorem hits_dat (I : Inv X pins σ H s) {A : Around} (hu : A.units + 65 < cLine) {ls : List (Key × V)} {vb : List (Key × Value)} (rb : KV ls vb) {ks : List (Key × V)} {va : List (Key × Value)}
    (ra : KV ks va) : (∀ p ∈ ks, ∃ u, valV ls p.1 = some u ∧ DEq X.K H p.2 u) → PySem.W.KeqHits A.in1 s vb va true := by
  unfold KV at ra
  induction ra with
  | nil => intro _; exact .nil
  | @cons p q ps qs h t k =>
    intro hp
    obtain ⟨h1, h2⟩ := h
    obtain ⟨u, e, d, d', hd, he, sd, se, ev⟩ := hp p List.mem_cons_self
    have rr : RelO (some u) (valueAt vb p.1) := by rw [← e]; exact rb.val p.1
    obtain ⟨y, hy, ry⟩ := rr.some_of
    obtain ⟨key, v⟩ := q
    have h1' : p.1 = key := h1
    rw [h1'] at hy
    obtain ⟨as, r1⟩ := Dp.reads I d _ _ hd h2
    obtain ⟨bs, r2⟩ := Dp.reads I d' _ _ he ry
    have e := PySem.W.keq_at (A := A) r1 r2 sd se (by show A.units + 1 + 64 < cLine; omega)
    rw [ev] at e
    show PySem.W.KeqHits A.in1 s vb ((key, v) :: qs) (true && true)
    exact .hit hy e (k fun p' hm => hp p' (List.mem_cons_of_mem _ hm))
end
section
variable {X : Cx}
def rEqDD (K : PySem.W.Frag) : R2 := fun x y H Q => ∃ a b ks ls, x = .ref a ∧ y = .ref b ∧ H a = some (.dK ks) ∧ H b = some (.dK ls) ∧ ks.length = ls.length ∧ (∀ p ∈ ks, ∃ u, valV ls p.1 = some u ∧ DEq K H p.2 u) ∧ Q (.bl true) H
def rNeDD (K : PySem.W.Frag) : R2 := fun x y H Q => ∃ a b ks ls, x = .ref a ∧ y = .ref b ∧ H a = some (.dK ks) ∧ H b = some (.dK ls) ∧ ks.length = ls.length ∧ (∀ p ∈ ks, ∃ u, valV ls p.1 = some u ∧ DEq K H p.2 u) ∧ Q (.bl false) H
theorem op_eqDD (hu : X.A.units + 65 < cLine) : OpR X (compareOp .Eq) (rEqDD X.K) := by
  intro pins s σ H x y v u Q I rx ry h
  obtain ⟨a, b, ks, ls, rfl, rfl, ea, eb, hlen, hp, q⟩ := h
  obtain rfl : v = Value.ref a := rx
  obtain rfl : u = Value.ref b := ry
  obtain ⟨_, ya, va, ra, da⟩ := (show ObjOk X.prog X.w H s.heap a (.dK ks) from I.hok a _ ea)
  obtain ⟨_, yb, vb, rb, db⟩ := (show ObjOk X.prog X.w H s.heap b (.dK ls) from I.hok b _ eb)
  have hl : va.length = vb.length := by rw [← ra.length, ← rb.length]; exact hlen
  exact PySem.W.keq_eq (knd := mixKind X.prog X.w) (r := true) ya yb da db (by omega) (fun _ => hits_dat I hu rb ra hp) (fin_bl I q (by simp [hl]))
theorem op_neDD (hu : X.A.units + 65 < cLine) : OpR X (compareOp .NotEq) (rNeDD X.K) := by
  intro pins s σ H x y v u Q I rx ry h
  obtain ⟨a, b, ks, ls, rfl, rfl, ea, eb, hlen, hp, q⟩ := h
  obtain rfl : v = Value.ref a := rx
  obtain rfl : u = Value.ref b := ry
  obtain ⟨_, ya, va, ra, da⟩ := (show ObjOk X.prog X.w H s.heap a (.dK ks) from I.hok a _ ea)
  obtain ⟨_, yb, vb, rb, db⟩ := (show ObjOk X.prog X.w H s.heap b (.dK ls) from I.hok b _ eb)
  have hl : va.length = vb.length := by rw [← ra.length, ← rb.length]; exact hlen
  exact PySem.W.keq_ne (knd := mixKind X.prog X.w) (r := true) ya yb da db (by omega) (fun _ => hits_dat I hu rb ra hp) (fin_bl I q (by simp [hl]))
end
/-! ### rules with the written part named, for comprehensions -/
section
variable {X : Cx} {K : PySem.W.Frag}
theorem pg_tupk {es : List Expr} {k : Nat} {pos : Pos} {t : TGs} {n : Nat} (hK : X.K = K) (hc : X.calm = true) (h : PGs X es t)
    (hn : (assignEach es X.env).length = n := by rfl) (hst : (assignEach es X.env).findIdx? (·.1) = none := by rfl) : PG X (.Tuple es k pos) (gTup K n t) := by subst hK; exact pg_tup hc h hn hst
theorem pe_fldk {e : Expr} {f : Str} {pos : Pos} {ta : TE} (hK : X.K = K) (he : PE X e ta) (hb : attributeBase e f X.env (eval e X.env) = eval e X.env) : PE X (.Attribute e f pos) (tFld K ta f) := by subst hK; exact pe_fld he hb
end
/-! ### y = {..: .. for ..} -/
section
variable {X : Cx}
theorem ps_setDc {i : Nat} {y : Str} {py : Pos} {kx vx tg iter : Expr} {ifs : List Expr} {scope : Scope} {own : List (Str × Nat)} {pos spos : Pos} {wi : TI} {g : TG} {tt : TT} {tk tv : TE} (hc : X.calm = true) (hN : X.N.Nodup) (hy : X.N[i]? = some y) (hyl : X.env.scope.names.lookup y = some .local)
    (hsw : swapsWith (.DictComp kx vx [⟨tg, iter, ifs, 0⟩] scope pos) (some (.Name y py)) spos.line X.env = pure true) (hi : PI X tg iter wi) (ok : BlkOk X.N X.env.scope scope own)
    (hg : ∀ (s : Shared) (H : Hp) (C : Addr) (cl : List (Str × Addr)) (fp : List Addr), PG (X.blk s H scope (compEnvC scope cl C X.env) fp) tg g) (ht : ∀ (s : Shared) (H : Hp) (C : Addr) (cl : List (Str × Addr)) (fp : List Addr), PTs (X.blk s H scope (compEnvC scope cl C X.env) fp) ifs tt)
    (hk : ∀ (s : Shared) (H : Hp) (C : Addr) (cl : List (Str × Addr)) (fp : List Addr), PE (X.blk s H scope (compEnvC scope cl C X.env) fp) kx tk)
    (he : ∀ (s : Shared) (H : Hp) (C : Addr) (cl : List (Str × Addr)) (fp : List Addr), PE (X.blk s H scope (compEnvC scope cl C X.env) fp) vx tv) (hs : ∀ x, foldedSetIterable iter X.env x = pure x := by intro _; rfl) :
    PS X (.Assign [.Name y py] (.DictComp kx vx [⟨tg, iter, ifs, 0⟩] scope pos) spos) (tAsg (tDc wi g tt tk tv (own.map (·.2))) (gName i)) := by
  refine ⟨fun pins s σ H D I h => ?_⟩
  rw [exec_Assign_Name_used _ _ _ _ hsw]
  refine wpAny_bind (wpAny_standAt (wpAny_bind ?_))
  show wpAny _ X.A (do let _ ← comprehension (.DictComp kx vx [⟨tg, iter, ifs, 0⟩] scope pos) scope X.env (firstIterPos [⟨tg, iter, ifs, 0⟩] pos) newDict false (eval iter X.env) (some (assign (.Name y py) X.env))) _ _ s
  have h : tDc wi g tt tk tv (own.map (·.2)) σ H (fun x H1 => gName i x σ H1 D.nx) := h
  refine wpAny_bind (thn (dc_core (Qf := fun _ s' => SP X pins D .next s') hc hN I hi ok hg ht hk he hs h fun L C s' m H' I' q hn f => ?_) fun _ s' hq => wpAny_pure (wpAny_pure hq))
  show wpAny _ _ (assign (.Name y py) X.env (.ref L)) _ _ _
  refine wpAny_assign_Name (store_ok2 (v := V.ref L) I' hN hy (.inl hyl) rfl (fun s2 I2 ⟨a, sb, ha⟩ => ?_) (.inr hyl))
  obtain ⟨f0, f1, f2, f3, f4, f5⟩ := f
  have haC : C ≠ a := by
    rcases ha with z | z
    · rw [z]; exact f1
    · exact fun e => f4 y a z e.symm
  refine ⟨m, hn.sameBut sb haC, fun h3 sb3 => ?_⟩
  exact ⟨_, H', I2.turned (t' := s2.toks) (fun b o hb e => (sb3.2 b hb).trans e) f0 f1 f3 f4 f5, q⟩
theorem sw_trueD {kx vx : Expr} {gs : List Comprehension} {scope : Scope} {pos py : Pos} {y : Str} {l : Nat} {env : Env} (hk : env.scope.kind = .function) (hy : env.scope.names.lookup y = some .local) (hl : (py.line == pos.line) = true)
    (ha : (scope.names.any fun (n, k) => n == y && (k == .local || k == .cell)) = false) : swapsWith (.DictComp kx vx gs scope pos) (some (.Name y py)) l env = pure true := by
  have ky : env.kindOf y = some .local := hy
  have hb : env.blockKind = .function := by unfold Env.blockKind; rw [hk]; rfl
  unfold swapsWith
  simp only [hb, ky, ha, Expr.pos, hl]
  rfl
end
end Rd
namespace Rd
open PySem PySem.Spec PyProof.Rows L2
/-- the tuples at a and b, the items in new pairs -/
def Itzt (K : PySem.W.Frag) (a b : Addr) : It :=
  ⟨fun i H => ∃ (xs ys : List V) (x y : V), SqT K H a xs ∧ SqT K H b ys ∧ xs[i]? = some x ∧ ys[i]? = some y,
    fun i H v H' => ∃ T x y, v = .ref T ∧ H T = none ∧ H' = L2.upd H T (.tup [x, y]) ∧ (∀ xs, SqT K H a xs → xs[i]? = some x) ∧ ∀ ys, SqT K H b ys → ys[i]? = some y,
    fun i H => ∃ xs ys : List V, SqT K H a xs ∧ SqT K H b ys ∧ i = min xs.length ys.length⟩
theorem turn_zipT {P : Program} {w : World} {K : PySem.W.Frag} {elts : List Expr} {kk : Nat} {tpos : Pos} {a b z TI TO i1 i2 : Addr} (S : ZipSep2 z TI TO i1 i2 [i1, a] [i2, b]) (hia : a ≠ i1) (hib : b ≠ i2) :
    Turn P w K (.Tuple elts kk tpos) (Itzt K a b) [z, TI, TO, i1, i2] z (fun i h => IsZip h z TI TO .none ∧ IsTupOf2 h TI (.ref i1) (.ref i2) ∧ (∃ x y, IsTupOf2 h TO x y) ∧ h.IsTupleIter i1 a i ∧ h.IsTupleIter i2 b i) where
  mem := by simp
  obj := fun i h st c hc => by
    obtain ⟨hz, hTI, ⟨x, y, hTO⟩, ⟨o1, e1, _, d1⟩, ⟨o2, e2, _, d2⟩⟩ := st
    have e' : c = z ∨ c = TI ∨ c = TO ∨ c = i1 ∨ c = i2 := by simpa using hc
    rcases e' with q | q | q | q | q
    · rw [q]; exact ⟨_, hz, fun v q => nomatch q⟩
    · rw [q]; exact ⟨_, hTI, fun v q => nomatch q⟩
    · rw [q]; exact ⟨_, hTO, fun v q => nomatch q⟩
    · rw [q]; exact ⟨o1, e1, fun v q => by rw [d1] at q; cases q⟩
    · rw [q]; exact ⟨o2, e2, fun v q => by rw [d2] at q; cases q⟩
  keep := fun i h h' st k => by
    obtain ⟨hz, hTI, ⟨x, y, hTO⟩, h1, h2⟩ := st
    exact ⟨k z (by simp) _ hz, k TI (by simp) _ hTI, ⟨x, y, k TO (by simp) _ hTO⟩, h1.at fun o q => k i1 (by simp) o q, h2.at fun o q => k i2 (by simp) o q⟩
  item := by
    intro X hP hw hK hc i pins s σ H E I hf st hg
    subst hP hw hK
    obtain ⟨hz, hTI, hTO, h1, h2⟩ := st
    obtain ⟨xs, ys, x, y, hqx, hqy, hx, hy⟩ := hg
    obtain ⟨its, rv, p, _⟩ := I.tuple hqx
    obtain ⟨its2, rv2, p2, _⟩ := I.tuple hqy
    obtain ⟨u, hu, ru⟩ := rv.get hx
    obtain ⟨u2, hu2, ru2⟩ := rv2.get hy
    have l1 : i < its.length := by
      obtain ⟨q, _⟩ := List.getElem?_eq_some_iff.mp hu
      exact q
    have l2 : i < its2.length := by
      obtain ⟨q, _⟩ := List.getElem?_eq_some_iff.mp hu2
      exact q
    have G := GoesN.zip2 (elts := elts) (x1 := kk) (pos := tpos) (A := X.A) S (Draws.tuple (prog := X.prog) (w := X.w) (A := X.A.in1) (I.ok.hd hc) i1 a hia its.toArray) (Draws.tuple (prog := X.prog) (w := X.w) (A := X.A.in1) (I.ok.hd hc) i2 b hib its2.toArray)
    refine G.goes i s (fun v s2 => ∃ x H', Inv X pins σ H' s2 ∧ RelV x v ∧ (Itzt X.K a b).yld i H x H' ∧ (IsZip s2.heap z TI TO .none ∧ IsTupOf2 s2.heap TI (.ref i1) (.ref i2) ∧ (∃ x y, IsTupOf2 s2.heap TO x y) ∧ s2.heap.IsTupleIter i1 a (i + 1) ∧ s2.heap.IsTupleIter i2 b (i + 1)) ∧ ∀ b ∈ [z, TI, TO, i1, i2], H' b = none) E (by simp; omega) ⟨hz, hTI, hTO, ⟨h1, p⟩, ⟨h2, p2⟩⟩ fun v h' tk hY st' hk htk => ?_
    obtain ⟨T, x', y', rfl, hnew, ex, ey, hT⟩ := hY
    have ex' : x' = u := by
      have : its[i]? = some x' := by simpa using ex
      rw [hu] at this
      exact (Option.some.inj this).symm
    have ey' : y' = u2 := by
      have : its2[i]? = some y' := by simpa using ey
      rw [hu2] at this
      exact (Option.some.inj this).symm
    subst ex' ey'
    obtain ⟨z', hTI', hTO', ⟨h1', _⟩, ⟨h2', _⟩⟩ := st'
    have new : ObjOk X.prog X.w (L2.upd H T (.tup [x, y])) h' T (.tup [x, y]) :=
      ⟨by show 2 ≤ sizeLine; decide, [x', y'], .cons ru (.cons ru2 .nil), hT⟩
    have I1 : Inv X pins σ (L2.upd H T (.tup [x, y])) { s with heap := h', toks := tk } :=
      I.turnedNew (t' := tk) (ch := [z, TI, TO, i1, i2]) (fun c o hb q => hk c o (fun q' => hb (by
        have e' : c = z ∨ c = TO ∨ c = i1 ∨ c = i2 := by simpa using q'
        rcases e' with q | q | q | q <;> simp [q])) q) hf hnew new
    refine ⟨.ref T, _, I1, rfl, ⟨T, x, y, rfl, I.hok.fresh hnew, rfl, fun l hl => by rw [I.tuple_inj hl hqx]; exact hx, fun l hl => by rw [I.tuple_inj hl hqy]; exact hy⟩, ⟨z', hTI', hTO', h1', h2'⟩, fun c hcm => ?_⟩
    have hlt : c < s.heap.objs.size := by
      have e' : c = z ∨ c = TI ∨ c = TO ∨ c = i1 ∨ c = i2 := by simpa using hcm
      obtain ⟨_, _, hTO⟩ := hTO
      rcases e' with q | q | q | q | q
      · rw [q]; exact Heap.lt_size hz
      · rw [q]; exact Heap.lt_size hTI
      · rw [q]; exact Heap.lt_size hTO
      · rw [q]; obtain ⟨_, e1, _⟩ := h1; exact Heap.lt_size e1
      · rw [q]; obtain ⟨_, e2, _⟩ := h2; exact Heap.lt_size e2
    rw [upd_ne (Nat.ne_of_lt (Nat.lt_of_lt_of_le hlt hnew))]
    exact (hf c hcm).1
  done := by
    intro X hP hw hK hc i pins s σ H E I hf st hg
    subst hP hw hK
    obtain ⟨hz, hTI, hTO, h1, h2⟩ := st
    obtain ⟨xs, ys, hqx, hqy, hend⟩ := hg
    obtain ⟨its, rv, p, _⟩ := I.tuple hqx
    obtain ⟨its2, rv2, p2, _⟩ := I.tuple hqy
    have l1 := rv.length
    have l2 := rv2.length
    have G := GoesN.zip2 (elts := elts) (x1 := kk) (pos := tpos) (A := X.A) S (Draws.tuple (prog := X.prog) (w := X.w) (A := X.A.in1) (I.ok.hd hc) i1 a hia its.toArray) (Draws.tuple (prog := X.prog) (w := X.w) (A := X.A.in1) (I.ok.hd hc) i2 b hib its2.toArray)
    have hi : i = min its.toArray.size its2.toArray.size := by simp; omega
    subst hi
    exact G.stops s (fun s1 => Inv X pins σ H s1) E ⟨hz, hTI, hTO, ⟨h1, p⟩, ⟨h2, p2⟩⟩ fun h' tk hk htk => I.turnedL (t' := tk) (ch := [z, TI, TO, i1, i2]) (fun c o hb q => hk c o (fun q' => hb (by
        have e' : c = z ∨ c = TO ∨ c = i1 ∨ c = i2 := by simpa using q'
        rcases e' with q | q | q | q <;> simp [q])) q) hf
  self := fun A i s Q E st h => wpAny_pyIter_zip st.1 h
def iZipT (K : PySem.W.Frag) (ta : TA) : TI := fun σ H R => ta σ H fun vs H1 => ∃ a b xs ys, vs = [.ref a, .ref b] ∧ SqT K H1 a xs ∧ SqT K H1 b ys ∧ R (Itzt K a b) H1
theorem pi_zipT {X : Cx} {e e2 : Expr} {ta : TA} {p pos tpos : Pos} {elts : List Expr} {kk : Nat} (hg : Gl X "zip") (hm : X.mg "zip" = none) (ha : PA X [e, e2] ta)
    (hs : starEach [e, e2] X.env = (false, eval e X.env) :: starEach [e2] X.env := by rfl) (hpl : (backTo pos (starEach [e2] X.env)).any (·.1) = false := by rfl) :
    PI X (.Tuple elts kk tpos) (.Call (.Name "zip" p) [e, e2] [] pos) (iZipT X.K ta) := by
  refine ⟨fun pins s σ H R I h => ?_⟩
  refine Call_ (ld_blt I hg hm PyProof.Rows.boot_zip (PyProof.Rows.callWith_type1 (thn (ha.run pos pins s σ H _ I h) fun us s1 ⟨vs, H1, I1, r1, q1⟩ => ?_) hs hpl))
  obtain ⟨a, b, xs, ys, ex, hqx, hqy, q⟩ := q1
  subst ex
  cases r1 with
  | cons r rr =>
    cases rr with
    | cons r' rr =>
      cases rr
      cases r
      cases r'
      obtain ⟨its, rv, p1, _⟩ := I1.tuple hqx
      obtain ⟨its2, rv2, p2, _⟩ := I1.tuple hqy
      have la : a < s1.heap.objs.size := by obtain ⟨_, e1, _⟩ := p1; exact Heap.lt_size e1
      have lb : b < s1.heap.objs.size := by obtain ⟨_, e1, _⟩ := p2; exact Heap.lt_size e1
      refine zip_begins2 (begins_tuple a its.toArray) (begins_tuple b its2.toArray) p1 p2 fun h' hz hTI hTO h1 h2 hsz hk => wpAny_pyIter_zip hz ?_
      have I2 : Inv X pins σ H1 { s1 with heap := h' } := I1.kept (t' := s1.toks) hk
      refine ⟨s1.heap.objs.size + 4, [s1.heap.objs.size + 4, s1.heap.objs.size + 2, s1.heap.objs.size + 3, s1.heap.objs.size, s1.heap.objs.size + 1], _, _, H1, rfl, I2, turn_zipT (zip_sep2 (fp1 := [a]) (fp2 := [b]) (by simpa using la) (by simpa using lb)) (Nat.ne_of_lt la) (Nat.ne_of_lt (Nat.lt_succ_of_lt lb)), ⟨hz, hTI, ⟨_, _, hTO⟩, ⟨_, h1, rfl, rfl⟩, ⟨_, h2, rfl, rfl⟩⟩, fun c hcm => ?_, q⟩
      have e' : c = s1.heap.objs.size + 4 ∨ c = s1.heap.objs.size + 2 ∨ c = s1.heap.objs.size + 3 ∨ c = s1.heap.objs.size ∨ c = s1.heap.objs.size + 1 := by simpa using hcm
      have hle : s1.heap.objs.size ≤ c := by
        rcases e' with z | z | z | z | z
        · rw [z]; exact Nat.le_add_right _ _
        · rw [z]; exact Nat.le_add_right _ _
        · rw [z]; exact Nat.le_add_right _ _
        · rw [z]; exact Nat.le_refl _
        · rw [z]; exact Nat.le_add_right _ _
      exact I1.fpOk hle (I1.hok.fresh hle)
end Rd
namespace Rd
open PySem L2
theorem pi_zipTk {X : Cx} {K : PySem.W.Frag} {e e2 : Expr} {ta : TA} {p pos tpos : Pos} {elts : List Expr} {kk : Nat} (hK : X.K = K) (hg : Gl X "zip") (hm : X.mg "zip" = none) (ha : PA X [e, e2] ta)
    (hs : starEach [e, e2] X.env = (false, eval e X.env) :: starEach [e2] X.env := by rfl) (hpl : (backTo pos (starEach [e2] X.env)).any (·.1) = false := by rfl) :
    PI X (.Tuple elts kk tpos) (.Call (.Name "zip" p) [e, e2] [] pos) (iZipT K ta) := by subst hK; exact pi_zipT hg hm ha hs hpl
end Rd
/-! Rp: a written tuple of texts of the module -/
namespace Rd
open PySem L2
def strsB : List Value → List Str → Bool
  | [], [] => true
  | .str z _ :: r, x :: s => decide (z = x) && strsB r s
  | _, _ => false
def ktB (K : PySem.W.Frag) (a : Addr) (xs : List Str) : Bool := match K.lookup a with
  | some ⟨.type "tuple", _, .seq its _, _⟩ => strsB its.toList xs && decide (its.size ≤ sizeLine)
  | _ => false
theorem strsB_ok : ∀ {us : List Value} {xs : List Str}, strsB us xs = true → Vals (xs.map V.str) us
  | [], [], _ => .nil
  | .str z t :: r, x :: s, h => by
    obtain ⟨h1, h2⟩ := He.ba h
    cases of_decide_eq_true h1
    exact .cons ⟨t, rfl⟩ (strsB_ok h2)
structure Ktu (K : PySem.W.Frag) (mg : Str → Option Value) (x : Str) (xs : List Str) : Prop where
  g : mg x = some (.ref (He.ga K x))
  tp : ∀ H, SqT K H (He.ga K x) (xs.map V.str)
theorem ktB_ok {K : PySem.W.Frag} {mg : Str → Option Value} {x : Str} {xs : List Str} (g : mg x = some (.ref (He.ga K x))) (h : ktB K (He.ga K x) xs = true) : Ktu K mg x xs := by
  refine ⟨g, fun H => .inr ?_⟩
  unfold ktB at h
  split at h
  · rename_i d its n sl e
    obtain ⟨h1, h2⟩ := He.ba h
    exact ⟨_, its, n, e, rfl, rfl, of_decide_eq_true h2, strsB_ok h1⟩
  · cases h
theorem pe_ktk {X : Cx} {K : PySem.W.Frag} {x : Str} {xs : List Str} {pos : Pos} (hK : X.K = K) (D : Ktu X.K X.mg x xs) (hg : Gl X x := by rfl) (hd : (x == ("__debug__" : Str)) = false := by decide) : PE X (.Name x pos) (tC (.ref (He.ga K x))) := by subst hK; exact pe_glob hg D.g rfl hd
end Rd
/-! Rq: list.extend by a tuple -/
namespace PySem
namespace AutoSeq1
theorem extend_list_tupleG (l : Addr) (items : Array Value) (n : Nat) (b : Addr) (dc : Option Addr) (sl : Array (Option Value)) (items2 : Array Value) (n2 : Nat) (hs0 : ¬(!items.isEmpty && Builtin.List.listTooLong (items.size + items2.size)) = true) (hs1 : items.size ≤ sizeLine) (hs2 : items.size + items2.size ≤ sizeLine + 1) :
    Meets (Builtin.«list.extend» ⟨[.ref l, .ref b], []⟩) (fun _ R s => s.heap.get? l = some { cls := .type "list", dict := none, data := .seq items n, slots := #[] } ∧ s.heap.get? b = some { cls := .type "tuple", dict := dc, data := .seq items2 n2, slots := sl } ∧ R (.ok (.ret Value.none)) { s with heap := s.heap.update l (Obj.mapSeq fun x => x ++ items2), toks := s.toks }) :=
  .of_wp fun prog w A R s h => by
    obtain ⟨hp, g, d, tk, os⟩ := s; obtain ⟨hl, hb, h⟩ := h; have f1 := idx_int; have f2 := sub_tuple_tuple; have f3 := sub_list_list; have f4 := sub_tuple_list; have f5 := sub_list_tuple;
    have hz' : (items ++ items2).size ≤ sizeLine + 1 := by rw [Array.size_append]; exact hs2
    wp_walk using (wpAny_updateSeq hl rfl (hz := hs1) (_hz' := hz')), wpAny_loadPart' hl, wpAny_loadPart' hb; exact ⟨_, rfl, h⟩
end AutoSeq1
end PySem
namespace Rd
open PySem PySem.Spec PyProof.Rows L2
section
variable {X : Cx}
def rExtT (K : PySem.W.Frag) : V → List V → Hp → VK → Prop := fun x vs H Q => ∃ l b xs zs, x = .ref l ∧ vs = [.ref b] ∧ H l = some (.lst xs) ∧ SqT K H b zs ∧ xs.length + zs.length ≤ sizeLine ∧ Q .non (L2.upd H l (.lst (xs ++ zs)))
theorem mt_extT : MtM X "list.extend" (rExtT X.K) := by
  intro pins s σ H x vs v us Q I rx rv h
  obtain ⟨l, b, xs, zs, rfl, rfl, hH, hB, hz, q⟩ := h
  cases rx
  obtain ⟨u, rfl, ru⟩ := rv.one
  cases ru
  obtain ⟨z, its, n, r, hl, e⟩ := I.lstM hH
  obtain ⟨its2, r2, ⟨⟨c2, d2, dt2, sl2⟩, e2, ec, n2, ed⟩, z2⟩ := I.tuple hB
  cases ec
  cases ed
  have hl2 := r2.length
  have hsz : its.toArray.size + its2.toArray.size ≤ sizeLine := by rw [List.size_toArray, List.size_toArray]; omega
  have hlong : ¬ (!its.toArray.isEmpty && Builtin.List.listTooLong (its.toArray.size + its2.toArray.size)) = true := by
    rw [notLongL hsz, Bool.and_false]
    exact Bool.false_ne_true
  refine call_meets F.slot_list_extend ⟨_, e, rfl⟩ F.entry_list_extend (F.args_list_extend_2 _ _)
    (AutoSeq1.extend_list_tupleG l its.toArray n b d2 sl2 its2.toArray n2 hlong (by rw [List.size_toArray]; omega) (by omega)) ⟨e, e2, ?_⟩
  refine ⟨.non, _, I.lset (its' := its ++ its2) hH e (by simp) (r.append r2) ?_, rfl, q⟩
  rw [List.length_append]
  omega
end
end Rd
/-! Rr: an own operator whose right operand is an instance of another own class -/
namespace PySem.W
open Lean Elab Tactic Meta PySem PySem.Calls PyProof.Rows
section
variable {prog : Program} {w : World} {M : Model} {A : Around} {E : Value → Shared → Prop} {s : Shared} {K : Frag} {x C D L f f' : Addr} {h₀ : Heap} {m : Str → Option Value} {ox : Obj} {od : Option Obj}
theorem ksp_binD {op : Operator} {b : Value} {Q : Value → Shared → Prop} (F : Fr h₀ L s.heap m) (X₀ : K.In h₀) (I : InstAt s.heap x ox C od) (hb : Looks (model prog w) s.heap (typeOf b) (.ref D)) (hc : selfFirst K C = true) (hc' : selfFirst K D = true) (hne : C ≠ D)
    (hs : findIn K (.ref C) (PySem.dunder op.info.2) = some (some (.ref f))) (hf : isFn K (.ref f) = true) (hr : findIn K (.ref C) (dunderR op.info.2) = some none)
    (h1 : findIn K (.ref D) (PySem.dunder op.info.2) = some (some (.ref f'))) (h2 : findIn K (.ref D) (dunderR op.info.2) = some none) (hsub : subIn K (.ref D) (.ref C) = some false)
    (h : wpAny (model prog w) A (call (.ref f) [.ref x, b]) (CmpBack Q) E s) : wpAny (model prog w) A (binaryOp op (.ref x) b) Q E s := by
  have X := X₀.keeps F.keep
  obtain ⟨cd, rest, hcd, hm⟩ := ksp_first hc
  obtain ⟨cd', rest', hcd', hm'⟩ := ksp_first hc'
  rcases hi : op.info with ⟨sym, nm'⟩
  rw [hi] at hs hr h1 h2
  dsimp only at hs hr h1 h2
  have one := ksp_try X I hs hf h
  obtain ⟨hh, g, d, tt, os⟩ := s
  have L1 : Looks (model prog w) hh (typeOf (.ref x)) (.ref C) := I.type
  have L2 : Looks (model prog w) hh (typeOf b) (.ref D) := hb
  have L3 : Looks (model prog w) hh (fillsNumberSlot (.ref C) nm') true := fills_K X hcd hm hs
  have L4 : Looks (model prog w) hh (fillsNumberSlot (.ref D) nm') true := fills_K X hcd' hm' h1
  have L5 : Looks (model prog w) hh (isSubtype (.ref D) (.ref C)) false := looks_subIn X hsub
  have L6 : Looks (model prog w) hh (numberSlotInPython (.ref C) nm') true := ksp_inPy X hs hr (.inl rfl)
  have L7 : Looks (model prog w) hh (numberSlotInPython (.ref D) nm') true := ksp_inPy X h1 h2 (.inl rfl)
  have hne' : (Value.ref C == Value.ref D) = false := Bool.eq_false_iff.mpr fun q => hne (by cases beq_iff_eq.mp q; rfl)
  simp only [binaryOp, hi]
  refine wpAny_holding (wpAny_bind ?_)
  unfold binaryOp1
  refine wpAny_bind (L1.at (wpAny_bind (L2.at (wpAny_bind (L3.at ?_)))))
  simp only [hne', Bool.false_eq_true, if_false]
  ksp_lk
  refine wpAny_mono one (fun r s' hr' => ?_) fun _ _ e => e
  obtain ⟨v, rfl, hq⟩ := hr'
  ksp_lk
  exact hq
end
end PySem.W
namespace Rd
open PySem L2
structure BoD (K : PySem.W.Frag) (c d : Str) (m r : Str) : Prop where
  ne : He.ga K c ≠ He.ga K d
  rc : PySem.W.findIn K (.ref (He.ga K c)) r = some none
  rd : PySem.W.findIn K (.ref (He.ga K d)) r = some none
  sub : PySem.W.subIn K (.ref (He.ga K d)) (.ref (He.ga K c)) = some false
def noneB : Option (Option Value) → Bool
  | some none => true
  | _ => false
theorem noneB_ok {o : Option (Option Value)} (h : noneB o = true) : o = some none := by
  unfold noneB at h
  split at h
  · rfl
  · cases h
def boB (K : PySem.W.Frag) (c d r : Str) : Bool := decide (He.ga K c ≠ He.ga K d) && (noneB (PySem.W.findIn K (.ref (He.ga K c)) r) && (noneB (PySem.W.findIn K (.ref (He.ga K d)) r) && decide (PySem.W.subIn K (.ref (He.ga K d)) (.ref (He.ga K c)) = some false)))
theorem boB_ok {K : PySem.W.Frag} {c d m r : Str} (h : boB K c d r = true) : BoD K c d m r := by
  obtain ⟨h1, h⟩ := He.ba h
  obtain ⟨h2, h⟩ := He.ba h
  obtain ⟨h3, h4⟩ := He.ba h
  exact ⟨of_decide_eq_true h1, noneB_ok h2, noneB_ok h3, of_decide_eq_true h4⟩
def tBoD (C D : Addr) (sp : Sp) (E : St → XK) (ta tb : TE) : TE := fun σ H Q => ta σ H fun x H1 => tb σ H1 fun y H2 => ∃ a b dx dy fs gs, x = .ref a ∧ y = .ref b ∧ H2 a = some (.ins C dx fs) ∧ H2 b = some (.ins D dy gs) ∧ sp [.ref a, .ref b] H2 Q (E σ)
section
variable {X : Cx} {CX CX' : CXT} {k k' : Nat} {ps ps' : List Str} {sp sp' : Sp} {E : St → XK} {c d m r : Str} {pos : Pos} {a b : Expr} {ta tb : TE}
theorem pe_boD {op : Operator} (ha : PE X a ta) (hb : PE X b tb) (sf : PySem.W.selfFirst X.K (He.ga X.K c) = true) (sf' : PySem.W.selfFirst X.K (He.ga X.K d) = true) (B : BoD X.K c d m r) (F : Fm X.prog X.w X.K X.mg X.base CX k c m ps sp) (F' : Fm X.prog X.w X.K X.mg X.base CX' k' d m ps' sp') (hr : Room k X.A) (hx : ∀ σ, PassesAt CX X σ (E σ)) (hm : PySem.dunder op.info.2 = m := by decide +kernel) (hm' : dunderR op.info.2 = r := by decide +kernel) :
    PE X (.BinOp a op b pos) (tBoD (He.ga X.K c) (He.ga X.K d) sp E ta tb) := by
  obtain ⟨⟨fd, f1, b1⟩, me⟩ := F
  obtain ⟨_, me'⟩ := F'
  refine ⟨fun pins s σ H Q I h => ?_⟩
  refine wpAny_BinOp (binT ha hb I h fun v u s2 x y H2 I2 rx ry q => ?_)
  obtain ⟨p, r, dx, dy, fs, gs, rfl, rfl, hp, hr2, q⟩ := q
  cases rx
  cases ry
  obtain ⟨mA, J, _⟩ := ins_get I2.hok hp
  obtain ⟨mB, J', _⟩ := ins_get I2.hok hr2
  obtain ⟨od, J, _⟩ := J.look
  obtain ⟨od', J', _⟩ := J'.look
  obtain ⟨mm, hF⟩ := I2.fr
  refine PySem.W.ksp_binD hF I2.ok.mod.kin J J'.type sf sf' B.ne (by rw [hm]; exact me.at_) me.fn (by rw [hm']; exact B.rc) (by rw [hm]; exact me'.at_) (by rw [hm']; exact B.rd) B.sub (thn (run_fnS (vs := [.ref p, .ref r]) (E := E) f1 hr b1 (hx σ) I2 (.cons rfl (.cons rfl .nil)) q) fun v s' hq => back_of hq)
end
end Rd
namespace Rd
open PySem PySem.Spec PyProof.Rows L2
/-! ### a written dict of the module: text keys, text values -/
structure KdS (w : World) (K : PySem.W.Frag) (mg : Str → Option Value) (x : Str) (kvs : List (Str × Str)) : Prop where
  g : mg x = some (.ref (He.ga K x))
  kd : ∃ es n, KDict K w (He.ga K x) es n
  ys : ∀ p ∈ kvs, ∃ t, PySem.W.nsIn K (He.ga K x) p.1 = some (some (.str p.2 t))
def kdsB (K : PySem.W.Frag) (a : Addr) (kvs : List (Str × Str)) : Bool := kvs.all fun p => (match PySem.W.nsIn K a p.1 with
    | some (some (.str i _)) => decide (i = p.2)
    | _ => false)
theorem kds_ok {w : World} {K : PySem.W.Frag} {mg : Str → Option Value} {x : Str} {kvs : List (Str × Str)} (g : mg x = some (.ref (He.ga K x))) (kd : ∃ es n, KDict K w (He.ga K x) es n) (h : kdsB K (He.ga K x) kvs = true) : KdS w K mg x kvs := by
  refine ⟨g, kd, fun p hp => ?_⟩
  have h3 := List.all_eq_true.mp h p hp
  split at h3
  · rename_i i t e
    rw [e]
    exact ⟨t, by rw [of_decide_eq_true h3]⟩
  · cases h3
section
variable {X : Cx} {x : Str} {kvs : List (Str × Str)} {pos : Pos}
theorem pe_kdS (D : KdS X.w X.K X.mg x kvs) (hg : Gl X x := by rfl) (hd : (x == ("__debug__" : Str)) = false := by decide) : PE X (.Name x pos) (tC (.ref (He.ga X.K x))) := pe_glob hg D.g rfl hd
def rIxKS (K : PySem.W.Frag) (x : Str) (kvs : List (Str × Str)) : R2 := fun a b H Q => ∃ p ∈ kvs, a = .ref (He.ga K x) ∧ b = .str p.1 ∧ Q (.str p.2) H
theorem ix_KS (D : KdS X.w X.K X.mg x kvs) : IxR X (rIxKS X.K x kvs) := by
  intro value slice pins s σ H a b v u Q I ra rb h hs
  obtain ⟨p, hp, rfl, rfl, q⟩ := h
  obtain ⟨es, n, kd⟩ := D.kd
  obtain ⟨t, e⟩ := D.ys p hp
  exact ix_kdict value slice pins s σ H _ _ v u Q I ra rb ⟨_, _, V.str p.2, rfl, rfl, ⟨es, n, _, kd.at_, kd.lit, e, ⟨t, rfl⟩⟩, q⟩ hs
/-- None in a list of data of any depth -/
def rInNone (K : PySem.W.Frag) : R2 := fun x y H Q => ∃ ds, x = .non ∧ Dp K H y (.list ds) ∧ PyData.canLayAll0 ds = true ∧ Q (.bl (ds.any fun z => PyData.eqv z .none)) H
theorem op_inNone (hu : X.A.units + 65 < cLine) : OpR X (compareOp .In) (rInNone X.K) := by
  intro pins s σ H x y v u Q I rx ry h
  obtain ⟨ds, rfl, he, se, q⟩ := h
  obtain ⟨as, r1⟩ := Dp.reads I .none .non v .non rx
  obtain ⟨bs, r2⟩ := Dp.reads I (.list ds) y u he ry
  exact SeqAt.in_list_reads r2 r1 se (by rfl) (by show X.A.units + 1 + min (PyData.depthAll ds) 0 < cLine; omega) ⟨.bl _, H, I, rfl, q⟩
end
end Rd
namespace Rd
open PySem PySem.Spec PyProof.Rows L2
section
variable {X : Cx}
theorem kv_vals {κ : Type} {kvs : List (κ × V)} {vs : List (κ × Value)} (r : KV kvs vs) : Vals (kvs.map (·.2)) (vs.map (·.2)) := by
  unfold KV at r
  induction r with
  | nil => exact .nil
  | cons r t ih => exact .cons r.2 ih
/-- list(o.values()) -/
def tListVals (td : TE) : TE := fun σ H Q => td σ H fun x H1 => ∃ a kvs, x = V.ref a ∧ H1 a = some (.dK kvs) ∧ ∀ p, H1 p = none → Q (.ref p) (L2.upd H1 p (.lst (kvs.map (·.2))))
variable {o : Expr} {p pos apos mpos : Pos} {td : TE}
theorem pe_listVals (hc : X.calm = true) (hg : Gl X "list") (hm : X.mg "list" = none) (hd : PE X o td) (hbase : attributeBase o "values" X.env (eval o X.env) = eval o X.env := by rfl) (hline : (apos.endLine == mpos.line) = true := by rfl)
    (hse : starEach [Expr.Call (.Attribute o "values" apos) [] [] mpos] X.env = [(false, eval (Expr.Call (.Attribute o "values" apos) [] [] mpos) X.env)] := by rfl) :
    PE X (.Call (.Name "list" p) [.Call (.Attribute o "values" apos) [] [] mpos] [] pos) (tListVals td) := by
  refine ⟨fun pins s σ H Q I h => ?_⟩
  refine wpAny_Call_Name_kw (ld_blt I hg hm (u := .type "list") (by first | rfl | decide +kernel) ?_ (by first | decide +kernel | decide) (by first | decide +kernel | decide))
  rw [hse]
  refine PySem.callWith_type1 (wpAny_Call_method0_late hbase hline (thn (hd.run pins s σ H _ I h) fun v s1 ⟨x, H1, I1, r1, a, kvs, ex, ha, q⟩ => ?_))
  subst ex
  obtain rfl : v = Value.ref a := r1
  obtain ⟨z, hsys, vs, rel, dof⟩ := dk_of I1.hok ha
  obtain ⟨ep, dat⟩ := dof.dictAt
  have dat' := dat
  obtain ⟨ob, es, ho, ex, hdat, hko, hpr, hnd⟩ := dat'
  refine ⟨"dict", "dict.values", F.plainAttrs_dict, F.slot_dict_values, F.type_dict_values, ⟨ob, ho, ex.1⟩, fun b e => ?_, Calls.callWith_builtin rfl (PySem.evalArgs_none ?_)⟩
  · cases e
    exact ⟨ob, ho, ex.2.1⟩
  refine call_meetsIn F.slot_dict_values ⟨ob, ho, ex.1⟩ F.entry_dict_values (F.args_dict_values_1 _) (meets_dict_values (mixKind X.prog X.w) a hsys) ⟨⟨vs, dof⟩, ?_⟩
  have k1 : ∀ b u, s1.heap.get? b = some u → (s1.heap.push { cls := .type "dict_values", data := .fields #[.ref a] }).get? b = some u := fun b u e => Heap.get?_push_of_some _ e
  have dat1 : (s1.heap.push { cls := .type "dict_values", data := .fields #[.ref a] }).DictAt (mixKind X.prog X.w) a vs ep := dat.keep k1
  have I2 : Inv X pins σ H1 { s1 with heap := s1.heap.push { cls := .type "dict_values", data := .fields #[.ref a] } } := I1.kept (t' := s1.toks) k1
  have hl : kvs.length ≤ sizeLine := z
  refine PySem.W.kdl_call (PySem.W.kdl_values (knd := mixKind X.prog X.w) (kvs := vs) (ep := ep)) (I.ok.hd hc) ⟨⟨_, Heap.get?_push_size _ rfl, rfl, rfl⟩, dat1⟩ (by rw [← rel.length]; exact hl) fun h' tk acc c' hk hD hacc => ?_
  have ev : acc.toList = vs.map (·.2) := PySem.W.kdl_vals_eq acc.toList (by rw [Array.length_toList]; exact hacc.1) fun j v e => hacc.2 j v (by rw [← Array.getElem?_toList]; exact e)
  refine ⟨.ref _, L2.upd H1 _ (.lst (kvs.map (·.2))), I2.laid (t' := tk) hk (Nat.le_refl _)
    (show ObjOk X.prog X.w _ _ _ (.lst (kvs.map (·.2))) from ⟨by rw [List.length_map]; exact hl, acc.toList, c', by rw [ev]; exact kv_vals rel, by rw [Array.toArray_toList]; exact hD⟩), rfl, q _ (I2.hok.fresh (Nat.le_refl _))⟩
end
end Rd
namespace Rd
open PySem PySem.Spec PyProof.Rows L2
section
variable {X : Cx}
/-- == and != of data of any depth up to 500 -/
def LayW (d : PyData) : Prop := d.canLay0 = true ∧ d.depth ≤ 500
def rEqW (K : PySem.W.Frag) : R2 := fun x y H Q => ∃ d e, Dp K H x d ∧ Dp K H y e ∧ LayW d ∧ LayW e ∧ Q (.bl (PyData.eqv d e)) H
def rNeW (K : PySem.W.Frag) : R2 := fun x y H Q => ∃ d e, Dp K H x d ∧ Dp K H y e ∧ LayW d ∧ LayW e ∧ Q (.bl (!PyData.eqv d e)) H
theorem op_eqW (hu : X.A.units + 500 < cLine) : OpR X (compareOp .Eq) (rEqW X.K) := by
  intro pins s σ H x y v u Q I rx ry h
  obtain ⟨d, e, hd, he, sd, se, q⟩ := h
  obtain ⟨as, r1⟩ := Dp.reads I d x v hd rx
  obtain ⟨bs, r2⟩ := Dp.reads I e y u he ry
  exact SeqAt.compareEq_reads r1 r2 sd.1 se.1 (by have := sd.2; omega) ⟨.bl _, H, I, rfl, q⟩
theorem op_neW (hu : X.A.units + 500 < cLine) : OpR X (compareOp .NotEq) (rNeW X.K) := by
  intro pins s σ H x y v u Q I rx ry h
  obtain ⟨d, e, hd, he, sd, se, q⟩ := h
  obtain ⟨as, r1⟩ := Dp.reads I d x v hd rx
  obtain ⟨bs, r2⟩ := Dp.reads I e y u he ry
  exact SeqAt.compareNe_reads r1 r2 sd.1 se.1 (by have := sd.2; omega) ⟨.bl _, H, I, rfl, q⟩
end
theorem units500 {k : Nat} {A : Around} (r : Room k A) (h : 20 ≤ k) : A.units + 500 < cLine := by have := r.un; omega
end Rd
/-! an exception out of a list comprehension -/
namespace Rd
open PySem PySem.Spec PyProof.Rows L2
theorem tracedZ_sameBut {h h' base : Heap} {e L : Addr} {Z : Obj → Prop} {fl : Value} {m : Str → Option Value} (x : HandSPX.TracedZ h base e Z fl) (hn : h.Ns L m) (hs : Heap.SameBut L h h') : HandSPX.TracedZ h' base e Z fl := by
  obtain ⟨oe, vs, T, oT, ts, he, hc, hd, h1, hnT, hTe, hT, hdT, h3⟩ := x
  obtain ⟨oL, es, ep, hoL, hdL, _⟩ := hn
  have neE : e ≠ L := fun q => by
    rw [q, hoL] at he
    have z := Option.some.inj he
    rw [← z, hdL] at hd
    cases hd
  have neT : T ≠ L := fun q => by
    rw [q, hoL] at hT
    have z := Option.some.inj hT
    rw [← z, hdL] at hdT
    cases hdT
  exact ⟨oe, vs, T, oT, ts, (hs.2 e neE).trans he, hc, hd, h1, hnT, hTe, (hs.2 T neT).trans hT, hdT, h3⟩
theorem compFails_heldZ {M : Model} {A : Around} {E : Value → Shared → Prop} {s' : Shared} {base : Heap} {cenv : Env} {l : List Env} {e L : Addr} {Z : Obj → Prop} {m : Str → Option Value}
    (hf : cenv.frame = some L) (hbC : base.get? cenv.locals = none) (hn : s'.heap.Ns cenv.locals m) (hh : HandSPX.HeldZ base l e Z L s'.heap)
    (hQ : ∀ h' h₂, HandSPX.HeldZ base l e Z L h' → Heap.SameBut cenv.locals s'.heap h₂ → h₂.UpToSlots h' → E (.ref e) { s' with heap := h' }) : CompFails M A E cenv (.ref e) s' := by
  refine ⟨m, hn, fun h₂ m₂ hn₂ hs₂ => ?_⟩
  obtain ⟨b1, b0, f1, t1⟩ := hh
  have b2 : base.StaysIn h₂ := fun b o hb => (hs₂.2 b fun q => by rw [q, hbC] at hb; cases hb).trans (b1 b o hb)
  have f2 : h₂.FunFrames base l := Heap.FunFrames.sameBut hs₂ hn₂ f1
  have t2 := tracedZ_sameBut t1 hn hs₂
  obtain ⟨oe, vs, T, oT, ts, he, hz, hd, h1, r⟩ := t2
  unfold PySem.passOn
  refine wpAny_bind (wpAny_field he hd h1 ?_)
  rw [if_neg (show ¬ ((Value.ref T == Value.none) = true) from by simp)]
  rw [hf]
  refine wpAny_bind (HandSPX.setFlight_anyZ (fr := some L) b2 f2 ⟨oe, vs, T, oT, ts, he, hz, hd, h1, r⟩ fun h₃ b3 f3 t3 k3 => ?_)
  refine wpAny_throw ?_
  exact hQ h₃ h₂ ⟨b3, b0, f3, t3⟩ hs₂ k3
section
variable {X : Cx} {pins : List (Addr × Obj)} {σ : L2.St} {H : Hp} {s s' : Shared} {E : XK}
theorem call_parts (I : Inv X pins σ H s) {u : Value} (c : L2N.CX X.prog X.w X.stack H s E u s') : ∃ (a : Addr) (B : Heap) (sI : Shared) (H' : Hp) (cls : Value) (d : Option Addr), u = .ref a ∧ Inv X pins σ H' sI ∧ (∀ b o, sI.heap.get? b = some o → b ∉ frs X.stack → B.get? b = some o) ∧ sI.heap.UpToSlots s'.heap ∧
    HandSPX.FlyingZ B X.stack a (L2N.Zn cls d) s'.heap ∧ H' a = none ∧ s'.os = sI.os ∧ AllBare s'.gens ∧ E cls d H' := by
  obtain ⟨a, B, H', cls, d, rfl, fl, hok, ub, na, os, ag, hE⟩ := c
  obtain ⟨G, g1, g2⟩ := L2.restrict s'.heap fun b => (B.get? b).isSome || decide (b ∈ frs X.stack)
  have st : B.StaysIn s'.heap := fl.1
  have gB : ∀ b o, B.get? b = some o → G.get? b = some o := fun b o e => by
    rw [g1 b (by simp [e])]
    exact st b o e
  have gF : ∀ b, b ∈ frs X.stack → G.get? b = s'.heap.get? b := fun b hb => g1 b (by simp [hb])
  have og : ∀ b o, G.get? b = some o → s'.heap.get? b = some o ∧ ((B.get? b).isSome = true ∨ b ∈ frs X.stack) := fun b o e => by
    cases q : ((B.get? b).isSome || decide (b ∈ frs X.stack)) with
    | false => rw [g2 b q] at e; cases e
    | true =>
      rw [g1 b q] at e
      exact ⟨e, by simpa [Bool.or_eq_true] using q⟩
  refine ⟨a, B, { s with heap := G, gens := s'.gens, drawn := s'.drawn, toks := s'.toks }, H', cls, d, rfl, ?_, fun b o e hb => ?_, Heap.UpToSlots.of_keeps fun b o e => (og b o e).1, fl, na, os, ag, hE⟩
  · refine I.call (ch := []) ⟨fun b o e n hb _ => gB b o (ub.keep b o e n hb), fun b o e n hb _ => ?_, fun b o e n _ => ub.free b o e n, fun b o e _ => ?_, ub.tups, ub.frzs, ub.tbls⟩ (hok.kept gB) ag (fun _ z => nomatch z)
    · obtain ⟨sl, q⟩ := ub.slot b o e hb
      exact ⟨sl, by rw [gF b hb]; exact q⟩
    · by_cases hb : b ∈ frs X.stack
      · obtain ⟨sl, q⟩ := ub.slot b o e hb
        exact ⟨_, by rw [gF b hb]; exact q⟩
      · obtain ⟨o', q⟩ := ub.there b o e hb
        exact ⟨o', gB b o' q⟩
  · obtain ⟨e', h⟩ := og b o e
    rcases h with h | h
    · obtain ⟨o', q⟩ := Option.isSome_iff_exists.mp h
      have z := st b o' q
      rw [e'] at z; cases z
      exact q
    · exact absurd h hb
theorem funFrames_less {h B B2 : Heap} (hb : ∀ b, B.get? b = none → B2.get? b = none) : ∀ {l : List Env}, h.FunFrames B l → h.FunFrames B2 l
  | [], _ => trivial
  | _ :: _, ⟨hk, ⟨L, o, hf, h0, h1, h2⟩, r⟩ => ⟨hk, ⟨L, o, hf, hb L h0, h1, h2⟩, funFrames_less hb r⟩
/-- an exception of a call within a comprehension's block leaves the comprehension -/
theorem blk_fails {W : L2.WX} (hs : X.stack = X.env :: X.outer) (hfX : X.env.frame = some X.env.locals) (tk : L2N.Takes X W) {H3 : Hp} {s3 : Shared} (I3 : Inv X pins σ H3 s3) {scope : Scope} {ce : Env} {fp : List Addr} (hce : ce.frame = X.env.frame) (cL : ce.locals = s3.heap.objs.size)
    (f3 : ∀ b ∈ fp, FpOk X pins H3 b ∧ b < s3.heap.objs.size) (hW : ∀ cls d H', E cls d H' → W cls d σ H') {xe : Value → Shared → Prop} {pinsB : List (Addr × Obj)} {σB : L2.St} {H9 : Hp} {s9 : Shared} (I9 : Inv ((X.blk s3 H3 scope ce fp).tr [] xe) pinsB σB H9 s9) {u : Value} (c : L2N.CX X.prog X.w X.stack H9 s9 E u s') :
    notedBy (model X.prog X.w) X.A ce (CompFails (model X.prog X.w) X.A X.xe ce) u s' := by
  obtain ⟨a, B, sI, H', cls, d, rfl, J, nb, up, fl, na, os, ag, hE⟩ := call_parts I9 c
  have hfr : X.A.frames = some (X.env :: X.outer) := by rw [I3.ok.frames, hs]
  have fl : HandSPX.FlyingZ B (X.env :: X.outer) a (L2N.Zn cls d) s'.heap := by rw [← hs]; exact fl
  show wpAny _ _ (noteFrame (.ref a) ce) _ _ s'
  rw [noteFrame_env _ hce]
  refine PXN.looks_onZ L2N.Zn.steady hfr hfX fl fun h1 hH1 up1 => ?_
  obtain ⟨B2, g1, g2⟩ := L2.restrict B fun b => decide (b ≠ ce.locals)
  have gC : B2.get? ce.locals = none := g2 _ (by simp)
  have gN : ∀ b, b ≠ ce.locals → B2.get? b = B.get? b := fun b hb => g1 b (by simp [hb])
  have gsub : ∀ b o, B2.get? b = some o → B.get? b = some o := fun b o e => by
    by_cases hb : b = ce.locals
    · rw [hb, gC] at e; cases e
    · rw [gN b hb] at e; exact e
  have gnone : ∀ b, B.get? b = none → B2.get? b = none := fun b e => by
    by_cases hb : b = ce.locals
    · rw [hb]; exact gC
    · rw [gN b hb]; exact e
  obtain ⟨k1, k2, k3, oe, vs, T, oT, ts, he, hz, hd, hv1, hnT, r⟩ := hH1
  have hH2 : HandSPX.HeldZ B2 (X.env :: X.outer) a (L2N.Zn cls d) X.env.locals h1 := ⟨fun b o e => k1 b o (gsub b o e), gnone _ k2, funFrames_less gnone k3, oe, vs, T, oT, ts, he, hz, hd, hv1, gnone _ hnT, r⟩
  obtain ⟨m, hn, _⟩ := J.loc
  have hn : sI.heap.Ns ce.locals m := hn
  have hk1 : ∀ b o, sI.heap.get? b = some o → (∀ vs, o.data ≠ .fields vs) → ∃ sl, h1.get? b = some { o with slots := sl } := fun b o e hnf => by
    obtain ⟨sl, e1⟩ := up b o e hnf
    obtain ⟨sl2, e2⟩ := up1 b _ e1 hnf
    exact ⟨sl2, e2⟩
  have nC : H' s3.heap.objs.size = none := by
    have z : H' ce.locals = none := J.free
    rw [cL] at z
    exact z
  have IX : Inv X pins σ H' sI := I3.call' (ch := fp) J.os J.base J.hok J.bare fun b hb => ⟨(f3 b hb).1.2.2.2.1, (f3 b hb).1.2.1, (f3 b hb).1.2.2.2.2.1, (f3 b hb).1.2.2.2.2.2⟩
  obtain ⟨f0, f1, f2, f4, f5, f6⟩ := I3.fpOk (Nat.le_refl _) nC
  refine compFails_heldZ (s' := { s' with heap := h1 }) (hce.trans hfX) gC (hn.upToSlots hk1) hH2 fun h3 h2 hh sb up3 => ?_
  obtain ⟨G2, q1, q2⟩ := L2.restrict sI.heap fun b => decide (b ≠ ce.locals)
  have G2n : ∀ b o, G2.get? b = some o → b ≠ ce.locals ∧ sI.heap.get? b = some o := fun b o e => by
    by_cases hb : b = ce.locals
    · rw [q2 b (by simp [hb])] at e; cases e
    · rw [q1 b (by simp [hb])] at e; exact ⟨hb, e⟩
  have IX2 : Inv X pins σ H' { sI with heap := G2, toks := sI.toks } := IX.turned (it := s3.heap.objs.size) (fun b o hb e => by rw [q1 b (by simp [cL, hb])]; exact e) f0 f1 f4 f5 f6
  refine tk _ _ ⟨a, B2, { sI with heap := G2, toks := sI.toks }, pins, σ, H', cls, d, rfl, IX2, fun b o e hb => ?_, fun b o e hnf => ?_, .inr (.inr (by rw [hs]; exact hh)), na, os, ag, hW _ _ _ hE⟩
  · obtain ⟨hb2, e2⟩ := G2n b o e
    rw [gN b hb2]
    exact nb b o e2 hb
  · obtain ⟨hb2, e2⟩ := G2n b o e
    obtain ⟨sl, e3⟩ := hk1 b o e2 hnf
    have e4 : h2.get? b = some { o with slots := sl } := (sb.2 b hb2).trans e3
    obtain ⟨sl2, e5⟩ := up3 b _ e4 hnf
    exact ⟨sl2, e5⟩
end
section
variable {X : Cx}
theorem lcx_core {W0 : XK} {pins : List (Addr × Obj)} {s : Shared} {σ : L2.St} {H : Hp} {Q : VK} {elt tg iter : Expr} {ifs : List Expr} {scope : Scope} {own : List (Str × Nat)} {pos pos' : Pos} {wi : TI} {g : TG} {tt : TT} {te : TE} {use : Option (Value → Sem Unit)} {Qf : Value → Shared → Prop}
    (hst : X.stack = X.env :: X.outer) (hfX : X.env.frame = some X.env.locals) (tk : L2N.Takes X fun cls d _ H => W0 cls d H) (hc : X.calm = true) (hN : X.N.Nodup) (I : Inv X pins σ H s) (hi : PI X tg iter wi) (ok : BlkOk X.N X.env.scope scope own)
    (hg : ∀ (s : Shared) (H : Hp) (C : Addr) (cl : List (Str × Addr)) (fp : List Addr) (xe : Value → Shared → Prop), PG ((X.blk s H scope (compEnvC scope cl C X.env) fp).tr [] xe) tg g) (ht : ∀ (s : Shared) (H : Hp) (C : Addr) (cl : List (Str × Addr)) (fp : List Addr) (xe : Value → Shared → Prop), PTs ((X.blk s H scope (compEnvC scope cl C X.env) fp).tr [] xe) ifs tt)
    (he : ∀ (s : Shared) (H : Hp) (C : Addr) (cl : List (Str × Addr)) (fp : List Addr) (xe : Value → Shared → Prop), (∀ E : XK, (∀ cls d H', E cls d H' → W0 cls d H') → Passes (L2N.CX X.prog X.w) ((X.blk s H scope (compEnvC scope cl C X.env) fp).tr [] xe) E) → PE ((X.blk s H scope (compEnvC scope cl C X.env) fp).tr [] xe) elt te) (hs : ∀ x, foldedSetIterable iter X.env x = pure x)
    (h : tLc wi g tt te (own.map (·.2)) σ H Q)
    (hRR : ∀ D (ce : Env) s' m H', Inv X pins σ H' s' → Q (.ref D) H' → s'.heap.Ns ce.locals m → FpOk X pins H' ce.locals → compEnds (model X.prog X.w) X.A X.xe use Qf (.ref D) ce (.ok .next) s') :
    wpAny (model X.prog X.w) X.A (comprehension (.ListComp elt [⟨tg, iter, ifs, 0⟩] scope pos) scope X.env pos' (newList []) false (eval iter X.env) use) Qf X.xe s := by
  have hfree : ∀ y ∈ scope.names, y.2 = .free → ∃ c, X.env.cells.lookup y.1 = some c := fun y hy e => by
    rcases ok.free y hy e with k | k
    · exact I.ok.has _ (.inl k)
    · exact I.ok.has _ (.inr k)
  refine comprehension_at (use := use) rfl hs (closure_ok hfree) ok.kind (fun y hy e => by rw [ok.uniq y hy, e])
    (thn (hi.run pins s σ H _ I h) fun xv s1 hx => thn hx fun itv s2 h2 => ?_)
  obtain ⟨it, fp, tn, J, H2, e, I2, T, st2, f2, q⟩ := h2
  subst e
  refine wpAny_newObj_type (newEnv_comp ?_) (by show 0 ≤ sizeLine; decide)
  generalize hD : s2.heap.objs.size = D
  have hDn : H2 D = none := I2.hok.fresh (Nat.le_of_eq hD)
  obtain ⟨W, ⟨m0, w0⟩, turn⟩ := q D hDn
  -- the new list
  generalize hs3 : ({ s2 with heap := s2.heap.push { cls := .type "list", data := .seq ([] : List Value).toArray } } : Shared) = s3
  have I3 : Inv X pins σ (upd H2 D (.lst [])) s3 := by
    rw [← hs3]
    refine I2.laid (t' := s2.toks) (fun b o e => Heap.get?_push_of_some _ e) (Nat.le_of_eq hD) ⟨Nat.zero_le _, [], 0, .nil, ?_⟩
    rw [← hD]
    exact Heap.get?_push_size _ rfl
  have h3 : s3.heap = s2.heap.push { cls := .type "list", data := .seq ([] : List Value).toArray } := by rw [← hs3]
  have sz : ∀ b ∈ fp, b < s2.heap.objs.size := fun b hb => by
    obtain ⟨o, e, _⟩ := T.obj _ _ st2 b hb
    exact Heap.lt_size e
  have f3 : ∀ b ∈ fp, FpOk X pins (upd H2 D (.lst [])) b ∧ b < s3.heap.objs.size := fun b hb => by
    have hlt := sz b hb
    refine ⟨⟨?_, (f2 b hb).2⟩, by rw [h3, Heap.size_push]; exact Nat.lt_succ_of_lt hlt⟩
    rw [upd_ne (by rw [← hD]; exact Nat.ne_of_lt hlt)]
    exact (f2 b hb).1
  have st3 : tn 0 s3.heap := T.keep _ _ _ st2 fun b _ o e => by rw [h3]; exact Heap.get?_push_of_some _ e
  have I4 := block_start I3 ok hN f3
  have hcf : (compEnvC scope (cellsFrom (s3.heap.objs.size + 1) scope.names (cloFrom X.env.cells scope.names [])) s3.heap.objs.size X.env).frame = X.env.frame := rfl
  have pg := hg s3 (upd H2 D (.lst [])) s3.heap.objs.size (cellsFrom (s3.heap.objs.size + 1) scope.names (cloFrom X.env.cells scope.names [])) fp
  have pt := ht s3 (upd H2 D (.lst [])) s3.heap.objs.size (cellsFrom (s3.heap.objs.size + 1) scope.names (cloFrom X.env.cells scope.names [])) fp
  have pe := he s3 (upd H2 D (.lst [])) s3.heap.objs.size (cellsFrom (s3.heap.objs.size + 1) scope.names (cloFrom X.env.cells scope.names [])) fp
  show codeAny _ _ (.compStart (.ListComp elt [⟨tg, iter, ifs, 0⟩] scope pos) 0 (.ref it) (.ref D) (compEnvC scope (cellsFrom (s3.heap.objs.size + 1) scope.names (cloFrom X.env.cells scope.names [])) s3.heap.objs.size X.env)) (compEnds (model X.prog X.w) X.A X.xe use Qf (.ref D) (compEnvC scope (cellsFrom (s3.heap.objs.size + 1) scope.names (cloFrom X.env.cells scope.names [])) s3.heap.objs.size X.env)) { s3 with heap := pushCells (s3.heap.push { cls := .type "dict", data := .dict #[] }) scope.names }
  have nfp : ∀ b ∈ fp, (upd H2 D (.lst [])) b = none := fun b hb => (f3 b hb).1.1
  generalize hce : compEnvC scope (cellsFrom (s3.heap.objs.size + 1) scope.names (cloFrom X.env.cells scope.names [])) s3.heap.objs.size X.env = ce at I4 pg pt pe hcf ⊢
  have cL : ce.locals = s3.heap.objs.size := by subst hce; rfl
  generalize hH3 : upd H2 D (.lst []) = H3 at I3 I4 pg pt pe w0 nfp f3
  generalize hs4 : ({ s3 with heap := pushCells (s3.heap.push { cls := .type "dict", data := .dict #[] }) scope.names } : Shared) = s4 at I4 ⊢
  have st4 : tn 0 s4.heap := T.keep _ _ _ st3 fun b _ o e => by rw [← hs4]; exact pushCells_keeps _ _ _ _ (Heap.get?_push_of_some _ e)
  obtain ⟨xe0, hxe0⟩ : ∃ xe0 : Value → Shared → Prop, xe0 = notedBy (model X.prog X.w) X.A ce fun e s' => compEnds (model X.prog X.w) X.A X.xe use Qf (.ref D) ce (.error e) s' := ⟨_, rfl⟩
  have I4 : Inv ((X.blk s3 H3 scope ce fp).tr [] xe0) [] (wipe σ (own.map (·.2))) H3 s4 := I4.toTry xe0
  have pass : ∀ E : XK, (∀ cls d H', E cls d H' → W0 cls d H') → Passes (L2N.CX X.prog X.w) ((X.blk s3 H3 scope ce fp).tr [] xe0) E := fun E hE pinsB σB H9 s9 e s' I9 c => by
    have z := blk_fails (W := fun cls d _ H => W0 cls d H) hst hfX tk I3 hcf cL f3 (fun cls d H' h => hE cls d H' h) I9 c
    show xe0 e s'
    rw [hxe0]
    cases use <;> exact z
  have stat : ∀ {σ' : L2.St} {H' : Hp} {s' : Shared}, Inv ((X.blk s3 H3 scope ce fp).tr [] xe0) [] σ' H' s' → (∀ b ∈ fp, H' b = none) → ∀ b ∈ fp, FpOk ((X.blk s3 H3 scope ce fp).tr [] xe0) [] H' b := fun {σ' H' s'} I' hn b hb =>
    ⟨hn b hb, (I'.ok.exf b hb).1, I'.ok.exfs b hb, .inl hb, fun x c e => (I'.ok.exf b hb).2 x c e, fun p hp => absurd (show p ∈ ([] : List (Addr × Obj)) ++ [] from hp) (by simp)⟩
  have loop : codeAny (model X.prog X.w) X.A (.compLoop (.ListComp elt [⟨tg, iter, ifs, 0⟩] scope pos) 0 (.ref it) (.ref D) ce) (compEnds (model X.prog X.w) X.A X.xe use Qf (.ref D) ce) s4 := by
    refine compLoop_any (fun n s' => ∃ i H', Inv ((X.blk s3 H3 scope ce fp).tr [] xe0) [] (wipe σ (own.map (·.2))) H' s' ∧ tn i s'.heap ∧ (∀ b ∈ fp, H' b = none) ∧ W i n H') ?_ m0 ⟨0, H3, I4, st4, nfp, w0⟩
    rintro n s5 ⟨i, H5, I5, st5, n5, w5⟩
    rcases turn i n H5 w5 with ⟨stop, qq⟩ | ⟨go, Nx, hNx, step⟩
    · have td := T.done ((X.blk s3 H3 scope ce fp).tr [] xe0) rfl rfl rfl hc i [] s5 _ H5 (fun _ _ => False) I5 (stat I5 n5) st5 stop
      refine thnF td fun r s6 ⟨hr, I6⟩ => ?_
      subst hr
      -- back in the def's context
      have I7 : Inv X pins σ H5 s6 := I3.call' (ch := fp) I6.os I6.base I6.hok I6.bare fun b hb => ⟨(f3 b hb).1.2.2.2.1, (f3 b hb).1.2.1, (f3 b hb).1.2.2.2.2.1, (f3 b hb).1.2.2.2.2.2⟩
      have nC : H5 s3.heap.objs.size = none := by
        have z : H5 ce.locals = none := I6.free
        rw [cL] at z
        exact z
      obtain ⟨m, hn, _⟩ := I6.loc
      have hn : s6.heap.Ns ce.locals m := hn
      exact hRR D ce s6 m H5 I7 qq hn (by rw [cL]; exact I3.fpOk (Nat.le_refl _) nC)
    · have ti := T.item ((X.blk s3 H3 scope ce fp).tr [] xe0) rfl rfl rfl hc i [] s5 _ H5 (fun _ _ => False) I5 (stat I5 n5) st5 go
      refine thnF ti fun r s6 ⟨u, hr, h6⟩ => ?_
      subst hr
      refine thnF h6 fun _ s7 ⟨x, H7, I7, r7, y7, st7, n7⟩ => ?_
      have I7' := I7.pinned (stat I7 n7) (T.obj _ _ st7)
      rw [← hxe0]
      refine thn ((pg _).run _ s7 _ H7 x u _ I7' r7 (step x H7 y7)) fun _ s8 ⟨σ8, H8, I8, hw8, q8⟩ => ?_
      refine thn ((pt _).run _ s8 σ8 H8 _ I8 q8) fun b s9 ⟨H9, I9, q9⟩ => ?_
      -- the turn's end
      have fin : ∀ {s' : Shared} {H' : Hp}, Inv ((X.blk s3 H3 scope ce fp).tr [] xe0) ([] ++ pinsAt fp s7.heap) σ8 H' s' → Nx H' → ∃ m, m < n ∧ ∃ i H', Inv ((X.blk s3 H3 scope ce fp).tr [] xe0) [] (wipe σ (own.map (·.2))) H' s' ∧ tn i s'.heap ∧ (∀ b ∈ fp, H' b = none) ∧ W i m H' := fun {s' H'} I' nx => by
        obtain ⟨m', hm, w'⟩ := hNx H' nx
        have pin' : ∀ b ∈ fp, ∀ o, s7.heap.get? b = some o → s'.heap.get? b = some o ∧ H' b = none := fun b hb o e =>
          let z := I'.pin (b, o) (List.mem_append_right _ (List.mem_append_right _ (mem_pinsAt hb e)))
          ⟨z.1, z.2.1⟩
        have hl : (wipe σ (own.map (·.2))).length = σ8.length := by rw [← hw8, wipe_length]
        refine ⟨m', hm, i + 1, H', (I'.unpinned (pins := [])).weak hl (fun j v e => ?_), T.keep _ _ _ st7 fun b hb o e => (pin' b hb o e).1, fun b hb => ?_, w'⟩
        · rw [← hw8] at e
          exact (wipe_some e).1
        · obtain ⟨o, e, _⟩ := T.obj _ _ st7 b hb
          exact (pin' b hb o e).2
      cases b with
      | false =>
        simp only [Bool.false_eq_true, if_false] at q9 ⊢
        exact fin I9 q9
      | true =>
        simp only [if_true] at q9 ⊢
        refine thn ((pe _ pass).run _ s9 σ8 H9 _ I9 q9) fun z s10 ⟨yv, H10, I10, r10, acc, hD10, hz10, nx⟩ => ?_
        exact app_ok (X := (X.blk s3 H3 scope ce fp).tr [] xe0) I10 hD10 hz10 r10 fun s11 I11 => fin I11 nx
  exact codeAny_compStart_list loop (T.self X.A 0 _ _ _ st4 loop)
theorem pe_lcx {W0 : XK} {elt tg iter : Expr} {ifs : List Expr} {scope : Scope} {own : List (Str × Nat)} {pos : Pos} {wi : TI} {g : TG} {tt : TT} {te : TE} (hst : X.stack = X.env :: X.outer) (hfX : X.env.frame = some X.env.locals) (tk : L2N.Takes X fun cls d _ H => W0 cls d H) (hc : X.calm = true) (hN : X.N.Nodup) (hi : PI X tg iter wi) (ok : BlkOk X.N X.env.scope scope own)
    (hg : ∀ (s : Shared) (H : Hp) (C : Addr) (cl : List (Str × Addr)) (fp : List Addr) (xe : Value → Shared → Prop), PG ((X.blk s H scope (compEnvC scope cl C X.env) fp).tr [] xe) tg g) (ht : ∀ (s : Shared) (H : Hp) (C : Addr) (cl : List (Str × Addr)) (fp : List Addr) (xe : Value → Shared → Prop), PTs ((X.blk s H scope (compEnvC scope cl C X.env) fp).tr [] xe) ifs tt)
    (he : ∀ (s : Shared) (H : Hp) (C : Addr) (cl : List (Str × Addr)) (fp : List Addr) (xe : Value → Shared → Prop), (∀ E : XK, (∀ cls d H', E cls d H' → W0 cls d H') → Passes (L2N.CX X.prog X.w) ((X.blk s H scope (compEnvC scope cl C X.env) fp).tr [] xe) E) → PE ((X.blk s H scope (compEnvC scope cl C X.env) fp).tr [] xe) elt te) (hs : ∀ x, foldedSetIterable iter X.env x = pure x := by intro _; rfl) :
    PE X (.ListComp elt [⟨tg, iter, ifs, 0⟩] scope pos) (tLc wi g tt te (own.map (·.2))) := by
  refine ⟨fun pins s σ H Q I h => ?_⟩
  rw [eval_ListComp]
  refine lcx_core hst hfX tk hc hN I hi ok hg ht he hs h fun D ce s' m H' I' q hn f => ⟨m, hn, fun h'' sb => ?_⟩
  obtain ⟨f0, f1, f2, f3, f4, f5⟩ := f
  exact ⟨.ref D, H', I'.turned (t' := s'.toks) (fun b o hb e => (sb.2 b hb).trans e) f0 f1 f3 f4 f5, rfl, q⟩
theorem ps_setLcx {W0 : XK} {i : Nat} {y : Str} {py : Pos} {elt tg iter : Expr} {ifs : List Expr} {scope : Scope} {own : List (Str × Nat)} {pos spos : Pos} {wi : TI} {g : TG} {tt : TT} {te : TE} (hst : X.stack = X.env :: X.outer) (hfX : X.env.frame = some X.env.locals) (tk : L2N.Takes X fun cls d _ H => W0 cls d H) (hc : X.calm = true) (hN : X.N.Nodup) (hy : X.N[i]? = some y) (hyl : X.env.scope.names.lookup y = some .local)
    (hsw : swapsWith (.ListComp elt [⟨tg, iter, ifs, 0⟩] scope pos) (some (.Name y py)) spos.line X.env = pure true) (hi : PI X tg iter wi) (ok : BlkOk X.N X.env.scope scope own)
    (hg : ∀ (s : Shared) (H : Hp) (C : Addr) (cl : List (Str × Addr)) (fp : List Addr) (xe : Value → Shared → Prop), PG ((X.blk s H scope (compEnvC scope cl C X.env) fp).tr [] xe) tg g) (ht : ∀ (s : Shared) (H : Hp) (C : Addr) (cl : List (Str × Addr)) (fp : List Addr) (xe : Value → Shared → Prop), PTs ((X.blk s H scope (compEnvC scope cl C X.env) fp).tr [] xe) ifs tt)
    (he : ∀ (s : Shared) (H : Hp) (C : Addr) (cl : List (Str × Addr)) (fp : List Addr) (xe : Value → Shared → Prop), (∀ E : XK, (∀ cls d H', E cls d H' → W0 cls d H') → Passes (L2N.CX X.prog X.w) ((X.blk s H scope (compEnvC scope cl C X.env) fp).tr [] xe) E) → PE ((X.blk s H scope (compEnvC scope cl C X.env) fp).tr [] xe) elt te) (hs : ∀ x, foldedSetIterable iter X.env x = pure x := by intro _; rfl) :
    PS X (.Assign [.Name y py] (.ListComp elt [⟨tg, iter, ifs, 0⟩] scope pos) spos) (tAsg (tLc wi g tt te (own.map (·.2))) (gName i)) := by
  refine ⟨fun pins s σ H D I h => ?_⟩
  rw [exec_Assign_Name_used _ _ _ _ hsw]
  refine wpAny_bind (wpAny_standAt (wpAny_bind ?_))
  show wpAny _ X.A (do let _ ← comprehension (.ListComp elt [⟨tg, iter, ifs, 0⟩] scope pos) scope X.env (firstIterPos [⟨tg, iter, ifs, 0⟩] pos) (newList []) false (eval iter X.env) (some (assign (.Name y py) X.env))) _ _ s
  have h : tLc wi g tt te (own.map (·.2)) σ H (fun x H1 => gName i x σ H1 D.nx) := h
  refine wpAny_bind (thn (lcx_core (Qf := fun _ s' => SP X pins D .next s') hst hfX tk hc hN I hi ok hg ht he hs h fun L ce s' m H' I' q hn f => ?_) fun _ s' hq => wpAny_pure (wpAny_pure hq))
  show wpAny _ _ (assign (.Name y py) X.env (.ref L)) _ _ _
  refine wpAny_assign_Name (store_ok2 (v := V.ref L) I' hN hy (.inl hyl) rfl (fun s2 I2 ⟨a, sb, ha⟩ => ?_) (.inr hyl))
  obtain ⟨f0, f1, f2, f3, f4, f5⟩ := f
  have haC : ce.locals ≠ a := by
    rcases ha with z | z
    · rw [z]; exact f1
    · exact fun e => f4 y a z e.symm
  refine ⟨m, hn.sameBut sb haC, fun h3 sb3 => ?_⟩
  exact ⟨_, H', I2.turned (t' := s2.toks) (fun b o hb e => (sb3.2 b hb).trans e) f0 f1 f3 f4 f5, q⟩
end
end Rd
/-! isinstance of a caught exception with an own dict -/
namespace Rd
open PySem PySem.Spec PyProof.Rows L2
theorem excC_kit {K : PySem.W.Frag} {D x : Addr} {ox : Obj} {od : Option Obj} (C : ExcC K D) : PySem.W.KitX K (.ref x) (.ref D) (fun h => PySem.W.InstAt h x ox D od) := by
  have hcl : (PySem.W.clsIn K D).isSome = true := by
    have h := C.hd
    obtain ⟨cd, hc, _⟩ := PySem.W.any_some h
    rw [hc]; rfl
  exact PySem.W.kitx_exc hcl C.hg C.hk C.hs C.ha C.hn C.ht C.hm
/-- isinstance(e, c): e the exception that the suite holds, with a dict -/
def rIsX (K : PySem.W.Frag) (a : Addr) (cls : Value) (d : Option Addr) : List V → Hp → VK → Prop := fun xs H Q => ∃ (D dd : Addr) (fs : List (Str × V)) (c : V) (cv : Value) (b : Bool), xs = [.ref a, c] ∧ cls = .ref D ∧ d = some dd ∧ H dd = some (.xd fs) ∧ ExcC K D ∧ (∀ u, RelV c u → u = cv) ∧ PySem.W.kitOne K (.ref D) cv = some b ∧ Q (.bl b) H
theorem instX {X : Cx} {a D dd : Addr} {oe : Obj} {pn pins : List (Addr × Obj)} {σ : L2.St} {H : Hp} {s : Shared} {fs : List (Str × V)} (I : Inv (X.suite a ((a, oe) :: pn)) pins σ H s) (hz : Zc (.ref D) (some dd) oe) (hf : ∃ vs, oe.data = .fields vs) (ea : H dd = some (.xd fs)) : ∃ od, PySem.W.InstAt s.heap a oe D (some od) := by
  obtain ⟨ha, _⟩ := I.pin (a, oe) (List.mem_append_left _ List.mem_cons_self)
  obtain ⟨vs, hd⟩ := hf
  have hx : ObjOk X.prog X.w H s.heap dd (.xd fs) := I.hok dd _ ea
  obtain ⟨mA, hns, hr⟩ := hx
  obtain ⟨od, ho, hl⟩ := lookIn_ns hns
  exact ⟨od, ha, hz.1, by unfold PySem.W.notCls; rw [hd] <;> rfl, by rw [hz.2]; exact ho⟩
theorem call_isX {X : Cx} {a : Addr} {cls : Value} {d : Option Addr} {oe : Obj} {pn : List (Addr × Obj)} (hz : Zc cls d oe) (hf : ∃ vs, oe.data = .fields vs) : CallR (X.suite a ((a, oe) :: pn)) (.builtin "isinstance") (rIsX X.K a cls d) := by
  intro pins s σ H xs us Q I r h
  obtain ⟨D, dd, fs, c, cv, b, rfl, rfl, rfl, ea, C, hcv, e, q⟩ := h
  cases r with
  | cons rx rr =>
    cases rr with
    | cons rt rr =>
      cases rr
      cases rx
      have ec := hcv _ rt
      subst ec
      obtain ⟨od, J⟩ := instX I hz hf ea
      exact PySem.W.kia_one (excC_kit C) I.kIn J e (fun z => nomatch z) fun tk => ⟨.bl b, H, I.kept (t' := tk) fun _ _ z => z, rfl, q⟩
/-- isinstance(e, (c, c')) -/
def rIsXt (K : PySem.W.Frag) (a : Addr) (cls : Value) (d : Option Addr) : List V → Hp → VK → Prop := fun xs H Q => ∃ (D dd tp : Addr) (fs : List (Str × V)) (cs : List V) (cvs : List Value) (b : Bool), xs = [.ref a, .ref tp] ∧ cls = .ref D ∧ d = some dd ∧ H dd = some (.xd fs) ∧ ExcC K D ∧ H tp = some (.tup cs) ∧ (∀ us, Vals cs us → us = cvs) ∧ PySem.W.kitAny K (.ref D) cvs = some b ∧ Q (.bl b) H
theorem call_isXt {X : Cx} {a : Addr} {cls : Value} {d : Option Addr} {oe : Obj} {pn : List (Addr × Obj)} (hz : Zc cls d oe) (hf : ∃ vs, oe.data = .fields vs) : CallR (X.suite a ((a, oe) :: pn)) (.builtin "isinstance") (rIsXt X.K a cls d) := by
  intro pins s σ H xs us Q I r h
  obtain ⟨D, dd, tp, fs, cs, cvs, b, rfl, rfl, rfl, ea, C, etp, hcv, e, q⟩ := h
  cases r with
  | cons rx rr =>
    cases rr with
    | cons rt rr =>
      cases rr
      cases rx
      cases rt
      obtain ⟨od, J⟩ := instX I hz hf ea
      obtain ⟨_, its, hv, htp⟩ := (show ObjOk X.prog X.w H s.heap tp (.tup cs) from I.hok tp _ etp)
      have ei := hcv _ hv
      subst ei
      obtain ⟨⟨oc, od', oda, osl⟩, ht, hc, n, hd⟩ := htp
      dsimp only at hc hd
      subst hc hd
      exact PySem.W.kia_tup (excC_kit C) I.kIn J ht e (fun z => nomatch z) fun tk => ⟨.bl b, H, I.kept (t' := tk) fun _ _ z => z, rfl, q⟩
def excB (K : PySem.W.Frag) (D : Addr) : Bool := xfB K D && (He.eqO (PySem.W.findIn K (.ref D) "__class__") (some (some (.builtin "object.__class__"))) && (decide (PySem.W.specialIn K (.builtin "object.__class__") "__get__" = some (some (.builtin "getset_descriptor.__get__"))) && (decide (PySem.W.takesIn K (.builtin "object.__class__") = some true) && decide (PySem.W.mroIn K D (.type "object") = some true))))
theorem excB_ok {K : PySem.W.Frag} {D : Addr} (h : excB K D = true) : ExcC K D := by
  obtain ⟨h1, h⟩ := He.ba h
  obtain ⟨h2, h⟩ := He.ba h
  obtain ⟨h3, h⟩ := He.ba h
  obtain ⟨h4, h5⟩ := He.ba h
  have x := xfB_ok h1
  exact ⟨x.ga, x.gg, x.exC, x.hdC, He.eqO_ok h2, of_decide_eq_true h3, of_decide_eq_true h4, of_decide_eq_true h5⟩
/-- the class NoWay as the law asks of it -/
structure Xi (K : PySem.W.Frag) : Prop where
  c : ExcC K (He.ga K "NoWay")
  up : PySem.W.exmOne K (.ref (He.ga K "NoWay")) (.ref (He.ga K "RoadError")) = some true
  one : PySem.W.kitOne K (.ref (He.ga K "NoWay")) (.ref (He.ga K "NoWay")) = some true
  any : PySem.W.kitAny K (.ref (He.ga K "NoWay")) [.ref (He.ga K "BadRecipe"), .ref (He.ga K "BadHeap")] = some false
def xiB (K : PySem.W.Frag) : Bool := excB K (He.ga K "NoWay") && (decide (PySem.W.exmOne K (.ref (He.ga K "NoWay")) (.ref (He.ga K "RoadError")) = some true) && (decide (PySem.W.kitOne K (.ref (He.ga K "NoWay")) (.ref (He.ga K "NoWay")) = some true) && decide (PySem.W.kitAny K (.ref (He.ga K "NoWay")) [.ref (He.ga K "BadRecipe"), .ref (He.ga K "BadHeap")] = some false)))
theorem xiB_ok {K : PySem.W.Frag} (h : xiB K = true) : Xi K := by
  obtain ⟨h1, h⟩ := He.ba h
  obtain ⟨h2, h⟩ := He.ba h
  obtain ⟨h3, h4⟩ := He.ba h
  exact ⟨excB_ok h1, of_decide_eq_true h2, of_decide_eq_true h3, of_decide_eq_true h4⟩
end Rd
namespace Rd
open PySem L2
def top (i : Nat) : Stmt := PySem.Challenge.pw_openroads_k40_recipes_run.main.body.getD i (.Pass ⟨0, 0, 0, 0⟩)
structure Tx (w : World) (K : PySem.W.Frag) (mg : Str → Option Value) : Prop where
  z_len : mg "len" = none
  z_all : mg "all" = none
  z_any : mg "any" = none
  z_abs : mg "abs" = none
  z_int : mg "int" = none
  z_list : mg "list" = none
  z_tuple : mg "tuple" = none
  z_range : mg "range" = none
  z_max : mg "max" = none
  z_min : mg "min" = none
  z_isinstance : mg "isinstance" = none
  z_sorted : mg "sorted" = none
  z_str : mg "str" = none
  z_set : mg "set" = none
  z_dict : mg "dict" = none
  z_enumerate : mg "enumerate" = none
  z_zip : mg "zip" = none
  z_ValueError : mg "ValueError" = none
  z_NotImplemented : mg "NotImplemented" = none
  z_sum : mg "sum" = none
  z_bool : mg "bool" = none
  c_SMALL : ∃ t, mg "SMALL" = some (.str "abcdefghijklmnopqrstuvwxyz" t)
  c_GREAT : ∃ t, mg "GREAT" = some (.str "ABCDEFGHIJKLMNOPQRSTUVWXYZ" t)
  c_DIGITS : ∃ t, mg "DIGITS" = some (.str "0123456789" t)
  D_SIGNS : Kd w K mg "SIGNS" [("pair", 2), ("seal", 2), ("lock", 2), ("mark", 1), ("open", 1), ("own", 1)]
  U_MAKEABLE : Ktu K mg "MAKEABLE" ["pair", "seal", "lock", "mark", "open"]
  U_SHUT : Ktu K mg "SHUT" ["seal", "lock"]
  D_LENGTHS : Kd w K mg "LENGTHS" [("first", 2), ("second", 2), ("mark", 2), ("open", 2), ("unseal", 3), ("unlock", 3), ("pair", 3), ("seal", 3), ("lock", 3)]
  D_OPENERS : KdS w K mg "OPENERS" [("seal", "unseal"), ("lock", "unlock")]
  F_is_word : Fh K mg "is_word" (top 15)
  F_is_unknown : Fh K mg "is_unknown" (top 16)
  F_is_name : Fh K mg "is_name" (top 17)
  F_atom_tree : Fh K mg "atom_tree" (top 18)
  F_is_atom_form : Fh K mg "is_atom_form" (top 19)
  F_check_form : Fh K mg "check_form" (top 20)
  F_parts_of : Fh K mg "parts_of" (top 21)
  F_atoms_of : Fh K mg "atoms_of" (top 22)
  F_tree_text : Fh K mg "tree_text" (top 23)
  F_made_tree : Fh K mg "made_tree" (top 24)
  F_is_plain : Fh K mg "is_plain" (top 27)
  F_partner : Fh K mg "partner" (top 31)
  F_undoing_key : Fh K mg "undoing_key" (top 32)
  F_is_made : Fh K mg "is_made" (top 33)
  F_halves_of : Fh K mg "halves_of" (top 34)
  F_opened_parts : Fh K mg "opened_parts" (top 35)
  F_is_recipe : Fh K mg "is_recipe" (top 39)
  F_run_recipe : Fh K mg "run_recipe" (top 40)
  F_worked : Fh K mg "worked" (top 41)
  F_made_recipe : Fh K mg "made_recipe" (top 42)
  F_built_recipe : Fh K mg "built_recipe" (top 43)
  F_add_way : Fh K mg "add_way" (top 44)
  F_ways_of : Fh K mg "ways_of" (top 45)
  F_check_plain : Fh K mg "check_plain" (top 47)
  F__law_cell_at : Fh K mg "_law_cell_at" (top 50)
  F__law_mixed : Fh K mg "_law_mixed" (top 51)
  F__law_row : Fh K mg "_law_row" (top 52)
  F__law_atoms : Fh K mg "_law_atoms" (top 53)
  F__law_form : Fh K mg "_law_form" (top 54)
  F__law_forms : Fh K mg "_law_forms" (top 55)
  F__law_partner : Fh K mg "_law_partner" (top 56)
  F__law_undoing : Fh K mg "_law_undoing" (top 57)
  F__law_heap : Fh K mg "_law_heap" (top 58)
  F__law_told : Fh K mg "_law_told" (top 59)
  F__law_run : Fh K mg "_law_run" (top 60)
  F__law_step : Fh K mg "_law_step" (top 61)
  F__law_recipe : Fh K mg "_law_recipe" (top 62)
  F__law_apart : Fh K mg "_law_apart" (top 63)
  F__law_way : Fh K mg "_law_way" (top 64)
  F__law_built : Fh K mg "_law_built" (top 65)
  F__law_openings : Fh K mg "_law_openings" (top 66)
  F__law_all_ways : Fh K mg "_law_all_ways" (top 67)
  F__law_drawn_heap : Fh K mg "_law_drawn_heap" (top 68)
  F__law_text : Fh K mg "_law_text" (top 69)
  F__law_tuples : Fh K mg "_law_tuples" (top 70)
  F__law_tried : Fh K mg "_law_tried" (top 71)
  F__law_longer : Fh K mg "_law_longer" (top 72)
  g_RoadError : mg "RoadError" = some (.ref (He.ga K "RoadError"))
  r_RoadError : REx K (He.ga K "RoadError")
  X_BadAtom : Xh K mg "BadAtom" "text" "BadAtom.__init__" (inClass (top 3) 0)
  X_BadForm : Xh K mg "BadForm" "path" "BadForm.__init__" (inClass (top 4) 0)
  X_BadKey : Xh K mg "BadKey" "key" "BadKey.__init__" (inClass (top 5) 0)
  X_BadText : Xh K mg "BadText" "line" "BadText.__init__" (inClass (top 6) 0)
  X_BadHeap : Xh K mg "BadHeap" "index" "BadHeap.__init__" (inClass (top 7) 0)
  g_BadRecipe : mg "BadRecipe" = some (.ref (He.ga K "BadRecipe"))
  X_NoWay : Xh K mg "NoWay" "step" "NoWay.__init__" (inClass (top 9) 0)
  f_Reader : PySem.W.selfFirst K (He.ga K "Reader") = true
  Y_Reader : IsiC K (He.ga K "Reader")
  k_Reader : Cls K (He.ga K "Reader")
  g_Reader : mg "Reader" = some (.ref (He.ga K "Reader"))
  n_Reader_signs : NoAttr K (He.ga K "Reader") "signs"
  n_Reader_at : NoAttr K (He.ga K "Reader") "at"
  n_Reader_begun : NoAttr K (He.ga K "Reader") "begun"
  J_Reader : Mk K (He.ga K "Reader") (He.ma K (He.ga K "Reader") "__init__")
  M_Reader_init : Mh K "Reader" "__init__" "Reader.__init__" (inClass (top 25) 0)
  M_Reader_takes : Mh K "Reader" "takes" "Reader.takes" (inClass (top 25) 1)
  M_Reader_word_here : Mh K "Reader" "word_here" "Reader.word_here" (inClass (top 25) 2)
  M_Reader_next_atom : Mh K "Reader" "next_atom" "Reader.next_atom" (inClass (top 25) 3)
  M_Reader_closed : Mh K "Reader" "closed" "Reader.closed" (inClass (top 25) 4)
  M_Reader_whole : Mh K "Reader" "whole" "Reader.whole" (inClass (top 25) 5)
  f_Letter : PySem.W.selfFirst K (He.ga K "Letter") = true
  Y_Letter : IsiC K (He.ga K "Letter")
  k_Letter : Cls K (He.ga K "Letter")
  g_Letter : mg "Letter" = some (.ref (He.ga K "Letter"))
  n_Letter_tree : NoAttr K (He.ga K "Letter") "tree"
  I_Letter : Ih K mg "Letter" "Letter.__init__" (inClass (top 26) 0) [.non]
  S_Letter_of : Sh K mg "Letter" "of" "Letter.of" (inClass (top 26) 1)
  S_Letter_read : Sh K mg "Letter" "read" "Letter.read" (inClass (top 26) 2)
  M_Letter_form : Mh K "Letter" "form" "Letter.form" (inClass (top 26) 3)
  M_Letter_written : Mh K "Letter" "written" "Letter.written" (inClass (top 26) 4)
  M_Letter_unknowns : Mh K "Letter" "unknowns" "Letter.unknowns" (inClass (top 26) 5)
  M_Letter_add : Mh K "Letter" "__add__" "Letter.__add__" (inClass (top 26) 8)
  M_Letter_mul : Mh K "Letter" "__mul__" "Letter.__mul__" (inClass (top 26) 9)
  M_Letter_xor : Mh K "Letter" "__xor__" "Letter.__xor__" (inClass (top 26) 10)
  M_Letter_invert : Mh K "Letter" "__invert__" "Letter.__invert__" (inClass (top 26) 11)
  M_Letter_pos : Mh K "Letter" "__pos__" "Letter.__pos__" (inClass (top 26) 12)
  M_Letter_neg : Mh K "Letter" "__neg__" "Letter.__neg__" (inClass (top 26) 13)
  M_Letter_eq : Mh K "Letter" "__eq__" "Letter.__eq__" (inClass (top 26) 14)
  M_Letter_lt : Mh K "Letter" "__lt__" "Letter.__lt__" (inClass (top 26) 15)
  M_Letter_le : Mh K "Letter" "__le__" "Letter.__le__" (inClass (top 26) 16)
  M_Letter_gt : Mh K "Letter" "__gt__" "Letter.__gt__" (inClass (top 26) 17)
  M_Letter_ge : Mh K "Letter" "__ge__" "Letter.__ge__" (inClass (top 26) 18)
  M_Letter_contains : Mh K "Letter" "__contains__" "Letter.__contains__" (inClass (top 26) 19)
  M_Letter_len : Mh K "Letter" "__len__" "Letter.__len__" (inClass (top 26) 20)
  f_Heap : PySem.W.selfFirst K (He.ga K "Heap") = true
  Y_Heap : IsiC K (He.ga K "Heap")
  k_Heap : Cls K (He.ga K "Heap")
  g_Heap : mg "Heap" = some (.ref (He.ga K "Heap"))
  n_Heap_trees : NoAttr K (He.ga K "Heap") "trees"
  J_Heap : Mk K (He.ga K "Heap") (He.ma K (He.ga K "Heap") "__init__")
  M_Heap_init : Mh K "Heap" "__init__" "Heap.__init__" (inClass (top 48) 0)
  M_Heap_letters : Mh K "Heap" "letters" "Heap.letters" (inClass (top 48) 1)
  M_Heap_parts : Mh K "Heap" "parts" "Heap.parts" (inClass (top 48) 2)
  M_Heap_recipe : Mh K "Heap" "recipe" "Heap.recipe" (inClass (top 48) 3)
  M_Heap_run : Mh K "Heap" "run" "Heap.run" (inClass (top 48) 4)
  M_Heap_add : Mh K "Heap" "__add__" "Heap.__add__" (inClass (top 48) 5)
  M_Heap_iadd : Mh K "Heap" "__iadd__" "Heap.__iadd__" (inClass (top 48) 6)
  M_Heap_getitem : Mh K "Heap" "__getitem__" "Heap.__getitem__" (inClass (top 48) 7)
  M_Heap_iter : Mh K "Heap" "__iter__" "Heap.__iter__" (inClass (top 48) 8)
  M_Heap_len : Mh K "Heap" "__len__" "Heap.__len__" (inClass (top 48) 9)
  M_Heap_contains : Mh K "Heap" "__contains__" "Heap.__contains__" (inClass (top 48) 10)
  M_Heap_eq : Mh K "Heap" "__eq__" "Heap.__eq__" (inClass (top 48) 11)
  W_NoWay : Xi K
  B_Heap : BoD K "Heap" "Letter" "__add__" "__radd__"
section
set_option maxHeartbeats 0
def d0 : He.DefD := ⟨("is_word", none), "is_word", "is_word", defArgs (top 15), defBody (top 15), defScope (top 15), [], []⟩
def d1 : He.DefD := ⟨("is_unknown", none), "is_unknown", "is_unknown", defArgs (top 16), defBody (top 16), defScope (top 16), [], []⟩
def d2 : He.DefD := ⟨("is_name", none), "is_name", "is_name", defArgs (top 17), defBody (top 17), defScope (top 17), [], []⟩
def d3 : He.DefD := ⟨("atom_tree", none), "atom_tree", "atom_tree", defArgs (top 18), defBody (top 18), defScope (top 18), [], []⟩
def d4 : He.DefD := ⟨("is_atom_form", none), "is_atom_form", "is_atom_form", defArgs (top 19), defBody (top 19), defScope (top 19), [], []⟩
def d5 : He.DefD := ⟨("check_form", none), "check_form", "check_form", defArgs (top 20), defBody (top 20), defScope (top 20), [], []⟩
def d6 : He.DefD := ⟨("parts_of", none), "parts_of", "parts_of", defArgs (top 21), defBody (top 21), defScope (top 21), [], []⟩
def d7 : He.DefD := ⟨("atoms_of", none), "atoms_of", "atoms_of", defArgs (top 22), defBody (top 22), defScope (top 22), [], []⟩
def d8 : He.DefD := ⟨("tree_text", none), "tree_text", "tree_text", defArgs (top 23), defBody (top 23), defScope (top 23), [], []⟩
def d9 : He.DefD := ⟨("made_tree", none), "made_tree", "made_tree", defArgs (top 24), defBody (top 24), defScope (top 24), [], []⟩
def d10 : He.DefD := ⟨("is_plain", none), "is_plain", "is_plain", defArgs (top 27), defBody (top 27), defScope (top 27), [], []⟩
def d11 : He.DefD := ⟨("partner", none), "partner", "partner", defArgs (top 31), defBody (top 31), defScope (top 31), [], []⟩
def d12 : He.DefD := ⟨("undoing_key", none), "undoing_key", "undoing_key", defArgs (top 32), defBody (top 32), defScope (top 32), [], []⟩
def d13 : He.DefD := ⟨("is_made", none), "is_made", "is_made", defArgs (top 33), defBody (top 33), defScope (top 33), [], []⟩
def d14 : He.DefD := ⟨("halves_of", none), "halves_of", "halves_of", defArgs (top 34), defBody (top 34), defScope (top 34), [], []⟩
def d15 : He.DefD := ⟨("opened_parts", none), "opened_parts", "opened_parts", defArgs (top 35), defBody (top 35), defScope (top 35), [], []⟩
def d16 : He.DefD := ⟨("is_recipe", none), "is_recipe", "is_recipe", defArgs (top 39), defBody (top 39), defScope (top 39), [], []⟩
def d17 : He.DefD := ⟨("run_recipe", none), "run_recipe", "run_recipe", defArgs (top 40), defBody (top 40), defScope (top 40), [], []⟩
def d18 : He.DefD := ⟨("worked", none), "worked", "worked", defArgs (top 41), defBody (top 41), defScope (top 41), [], []⟩
def d19 : He.DefD := ⟨("made_recipe", none), "made_recipe", "made_recipe", defArgs (top 42), defBody (top 42), defScope (top 42), [], []⟩
def d20 : He.DefD := ⟨("built_recipe", none), "built_recipe", "built_recipe", defArgs (top 43), defBody (top 43), defScope (top 43), [], []⟩
def d21 : He.DefD := ⟨("add_way", none), "add_way", "add_way", defArgs (top 44), defBody (top 44), defScope (top 44), [], []⟩
def d22 : He.DefD := ⟨("ways_of", none), "ways_of", "ways_of", defArgs (top 45), defBody (top 45), defScope (top 45), [], []⟩
def d23 : He.DefD := ⟨("check_plain", none), "check_plain", "check_plain", defArgs (top 47), defBody (top 47), defScope (top 47), [], []⟩
def d24 : He.DefD := ⟨("_law_cell_at", none), "_law_cell_at", "_law_cell_at", defArgs (top 50), defBody (top 50), defScope (top 50), [], []⟩
def d25 : He.DefD := ⟨("_law_mixed", none), "_law_mixed", "_law_mixed", defArgs (top 51), defBody (top 51), defScope (top 51), [], []⟩
def d26 : He.DefD := ⟨("_law_row", none), "_law_row", "_law_row", defArgs (top 52), defBody (top 52), defScope (top 52), [], []⟩
def d27 : He.DefD := ⟨("_law_atoms", none), "_law_atoms", "_law_atoms", defArgs (top 53), defBody (top 53), defScope (top 53), [], []⟩
def d28 : He.DefD := ⟨("_law_form", none), "_law_form", "_law_form", defArgs (top 54), defBody (top 54), defScope (top 54), [], []⟩
def d29 : He.DefD := ⟨("_law_forms", none), "_law_forms", "_law_forms", defArgs (top 55), defBody (top 55), defScope (top 55), [], []⟩
def d30 : He.DefD := ⟨("_law_partner", none), "_law_partner", "_law_partner", defArgs (top 56), defBody (top 56), defScope (top 56), [], []⟩
def d31 : He.DefD := ⟨("_law_undoing", none), "_law_undoing", "_law_undoing", defArgs (top 57), defBody (top 57), defScope (top 57), [], []⟩
def d32 : He.DefD := ⟨("_law_heap", none), "_law_heap", "_law_heap", defArgs (top 58), defBody (top 58), defScope (top 58), [], []⟩
def d33 : He.DefD := ⟨("_law_told", none), "_law_told", "_law_told", defArgs (top 59), defBody (top 59), defScope (top 59), [], []⟩
def d34 : He.DefD := ⟨("_law_run", none), "_law_run", "_law_run", defArgs (top 60), defBody (top 60), defScope (top 60), [], []⟩
def d35 : He.DefD := ⟨("_law_step", none), "_law_step", "_law_step", defArgs (top 61), defBody (top 61), defScope (top 61), [], []⟩
def d36 : He.DefD := ⟨("_law_recipe", none), "_law_recipe", "_law_recipe", defArgs (top 62), defBody (top 62), defScope (top 62), [], []⟩
def d37 : He.DefD := ⟨("_law_apart", none), "_law_apart", "_law_apart", defArgs (top 63), defBody (top 63), defScope (top 63), [], []⟩
def d38 : He.DefD := ⟨("_law_way", none), "_law_way", "_law_way", defArgs (top 64), defBody (top 64), defScope (top 64), [], []⟩
def d39 : He.DefD := ⟨("_law_built", none), "_law_built", "_law_built", defArgs (top 65), defBody (top 65), defScope (top 65), [], []⟩
def d40 : He.DefD := ⟨("_law_openings", none), "_law_openings", "_law_openings", defArgs (top 66), defBody (top 66), defScope (top 66), [], []⟩
def d41 : He.DefD := ⟨("_law_all_ways", none), "_law_all_ways", "_law_all_ways", defArgs (top 67), defBody (top 67), defScope (top 67), [], []⟩
def d42 : He.DefD := ⟨("_law_drawn_heap", none), "_law_drawn_heap", "_law_drawn_heap", defArgs (top 68), defBody (top 68), defScope (top 68), [], []⟩
def d43 : He.DefD := ⟨("_law_text", none), "_law_text", "_law_text", defArgs (top 69), defBody (top 69), defScope (top 69), [], []⟩
def d44 : He.DefD := ⟨("_law_tuples", none), "_law_tuples", "_law_tuples", defArgs (top 70), defBody (top 70), defScope (top 70), [], []⟩
def d45 : He.DefD := ⟨("_law_tried", none), "_law_tried", "_law_tried", defArgs (top 71), defBody (top 71), defScope (top 71), [], []⟩
def d46 : He.DefD := ⟨("_law_longer", none), "_law_longer", "_law_longer", defArgs (top 72), defBody (top 72), defScope (top 72), [], []⟩
def d47 : He.DefD := ⟨("law", none), "law", "law", defArgs (top 73), defBody (top 73), defScope (top 73), [], []⟩
def d48 : He.DefD := ⟨("BadAtom", some "__init__"), "__init__", "BadAtom.__init__", defArgs (inClass (top 3) 0), defBody (inClass (top 3) 0), defScope (inClass (top 3) 0), [], []⟩
def d49 : He.DefD := ⟨("BadForm", some "__init__"), "__init__", "BadForm.__init__", defArgs (inClass (top 4) 0), defBody (inClass (top 4) 0), defScope (inClass (top 4) 0), [], []⟩
def d50 : He.DefD := ⟨("BadKey", some "__init__"), "__init__", "BadKey.__init__", defArgs (inClass (top 5) 0), defBody (inClass (top 5) 0), defScope (inClass (top 5) 0), [], []⟩
def d51 : He.DefD := ⟨("BadText", some "__init__"), "__init__", "BadText.__init__", defArgs (inClass (top 6) 0), defBody (inClass (top 6) 0), defScope (inClass (top 6) 0), [], []⟩
def d52 : He.DefD := ⟨("BadHeap", some "__init__"), "__init__", "BadHeap.__init__", defArgs (inClass (top 7) 0), defBody (inClass (top 7) 0), defScope (inClass (top 7) 0), [], []⟩
def d53 : He.DefD := ⟨("BadRecipe", some "__init__"), "__init__", "BadRecipe.__init__", defArgs (inClass (top 8) 0), defBody (inClass (top 8) 0), defScope (inClass (top 8) 0), [], []⟩
def d54 : He.DefD := ⟨("NoWay", some "__init__"), "__init__", "NoWay.__init__", defArgs (inClass (top 9) 0), defBody (inClass (top 9) 0), defScope (inClass (top 9) 0), [], []⟩
def d55 : He.DefD := ⟨("Reader", some "__init__"), "__init__", "Reader.__init__", defArgs (inClass (top 25) 0), defBody (inClass (top 25) 0), defScope (inClass (top 25) 0), [], []⟩
def d56 : He.DefD := ⟨("Reader", some "takes"), "takes", "Reader.takes", defArgs (inClass (top 25) 1), defBody (inClass (top 25) 1), defScope (inClass (top 25) 1), [], []⟩
def d57 : He.DefD := ⟨("Reader", some "word_here"), "word_here", "Reader.word_here", defArgs (inClass (top 25) 2), defBody (inClass (top 25) 2), defScope (inClass (top 25) 2), [], []⟩
def d58 : He.DefD := ⟨("Reader", some "next_atom"), "next_atom", "Reader.next_atom", defArgs (inClass (top 25) 3), defBody (inClass (top 25) 3), defScope (inClass (top 25) 3), [], []⟩
def d59 : He.DefD := ⟨("Reader", some "closed"), "closed", "Reader.closed", defArgs (inClass (top 25) 4), defBody (inClass (top 25) 4), defScope (inClass (top 25) 4), [], []⟩
def d60 : He.DefD := ⟨("Reader", some "whole"), "whole", "Reader.whole", defArgs (inClass (top 25) 5), defBody (inClass (top 25) 5), defScope (inClass (top 25) 5), [], []⟩
def d61 : He.DefD := ⟨("Letter", some "__init__"), "__init__", "Letter.__init__", defArgs (inClass (top 26) 0), defBody (inClass (top 26) 0), defScope (inClass (top 26) 0), [.non], []⟩
def d62 : He.DefD := ⟨("Letter", some "form"), "form", "Letter.form", defArgs (inClass (top 26) 3), defBody (inClass (top 26) 3), defScope (inClass (top 26) 3), [], []⟩
def d63 : He.DefD := ⟨("Letter", some "written"), "written", "Letter.written", defArgs (inClass (top 26) 4), defBody (inClass (top 26) 4), defScope (inClass (top 26) 4), [], []⟩
def d64 : He.DefD := ⟨("Letter", some "unknowns"), "unknowns", "Letter.unknowns", defArgs (inClass (top 26) 5), defBody (inClass (top 26) 5), defScope (inClass (top 26) 5), [], []⟩
def d65 : He.DefD := ⟨("Letter", some "__add__"), "__add__", "Letter.__add__", defArgs (inClass (top 26) 8), defBody (inClass (top 26) 8), defScope (inClass (top 26) 8), [], []⟩
def d66 : He.DefD := ⟨("Letter", some "__mul__"), "__mul__", "Letter.__mul__", defArgs (inClass (top 26) 9), defBody (inClass (top 26) 9), defScope (inClass (top 26) 9), [], []⟩
def d67 : He.DefD := ⟨("Letter", some "__xor__"), "__xor__", "Letter.__xor__", defArgs (inClass (top 26) 10), defBody (inClass (top 26) 10), defScope (inClass (top 26) 10), [], []⟩
def d68 : He.DefD := ⟨("Letter", some "__invert__"), "__invert__", "Letter.__invert__", defArgs (inClass (top 26) 11), defBody (inClass (top 26) 11), defScope (inClass (top 26) 11), [], []⟩
def d69 : He.DefD := ⟨("Letter", some "__pos__"), "__pos__", "Letter.__pos__", defArgs (inClass (top 26) 12), defBody (inClass (top 26) 12), defScope (inClass (top 26) 12), [], []⟩
def d70 : He.DefD := ⟨("Letter", some "__neg__"), "__neg__", "Letter.__neg__", defArgs (inClass (top 26) 13), defBody (inClass (top 26) 13), defScope (inClass (top 26) 13), [], []⟩
def d71 : He.DefD := ⟨("Letter", some "__eq__"), "__eq__", "Letter.__eq__", defArgs (inClass (top 26) 14), defBody (inClass (top 26) 14), defScope (inClass (top 26) 14), [], []⟩
def d72 : He.DefD := ⟨("Letter", some "__lt__"), "__lt__", "Letter.__lt__", defArgs (inClass (top 26) 15), defBody (inClass (top 26) 15), defScope (inClass (top 26) 15), [], []⟩
def d73 : He.DefD := ⟨("Letter", some "__le__"), "__le__", "Letter.__le__", defArgs (inClass (top 26) 16), defBody (inClass (top 26) 16), defScope (inClass (top 26) 16), [], []⟩
def d74 : He.DefD := ⟨("Letter", some "__gt__"), "__gt__", "Letter.__gt__", defArgs (inClass (top 26) 17), defBody (inClass (top 26) 17), defScope (inClass (top 26) 17), [], []⟩
def d75 : He.DefD := ⟨("Letter", some "__ge__"), "__ge__", "Letter.__ge__", defArgs (inClass (top 26) 18), defBody (inClass (top 26) 18), defScope (inClass (top 26) 18), [], []⟩
def d76 : He.DefD := ⟨("Letter", some "__contains__"), "__contains__", "Letter.__contains__", defArgs (inClass (top 26) 19), defBody (inClass (top 26) 19), defScope (inClass (top 26) 19), [], []⟩
def d77 : He.DefD := ⟨("Letter", some "__len__"), "__len__", "Letter.__len__", defArgs (inClass (top 26) 20), defBody (inClass (top 26) 20), defScope (inClass (top 26) 20), [], []⟩
def d78 : He.DefD := ⟨("Heap", some "__init__"), "__init__", "Heap.__init__", defArgs (inClass (top 48) 0), defBody (inClass (top 48) 0), defScope (inClass (top 48) 0), [], []⟩
def d79 : He.DefD := ⟨("Heap", some "letters"), "letters", "Heap.letters", defArgs (inClass (top 48) 1), defBody (inClass (top 48) 1), defScope (inClass (top 48) 1), [], []⟩
def d80 : He.DefD := ⟨("Heap", some "parts"), "parts", "Heap.parts", defArgs (inClass (top 48) 2), defBody (inClass (top 48) 2), defScope (inClass (top 48) 2), [], []⟩
def d81 : He.DefD := ⟨("Heap", some "recipe"), "recipe", "Heap.recipe", defArgs (inClass (top 48) 3), defBody (inClass (top 48) 3), defScope (inClass (top 48) 3), [], []⟩
def d82 : He.DefD := ⟨("Heap", some "run"), "run", "Heap.run", defArgs (inClass (top 48) 4), defBody (inClass (top 48) 4), defScope (inClass (top 48) 4), [], []⟩
def d83 : He.DefD := ⟨("Heap", some "__add__"), "__add__", "Heap.__add__", defArgs (inClass (top 48) 5), defBody (inClass (top 48) 5), defScope (inClass (top 48) 5), [], []⟩
def d84 : He.DefD := ⟨("Heap", some "__iadd__"), "__iadd__", "Heap.__iadd__", defArgs (inClass (top 48) 6), defBody (inClass (top 48) 6), defScope (inClass (top 48) 6), [], []⟩
def d85 : He.DefD := ⟨("Heap", some "__getitem__"), "__getitem__", "Heap.__getitem__", defArgs (inClass (top 48) 7), defBody (inClass (top 48) 7), defScope (inClass (top 48) 7), [], []⟩
def d86 : He.DefD := ⟨("Heap", some "__iter__"), "__iter__", "Heap.__iter__", defArgs (inClass (top 48) 8), defBody (inClass (top 48) 8), defScope (inClass (top 48) 8), [], []⟩
def d87 : He.DefD := ⟨("Heap", some "__len__"), "__len__", "Heap.__len__", defArgs (inClass (top 48) 9), defBody (inClass (top 48) 9), defScope (inClass (top 48) 9), [], []⟩
def d88 : He.DefD := ⟨("Heap", some "__contains__"), "__contains__", "Heap.__contains__", defArgs (inClass (top 48) 10), defBody (inClass (top 48) 10), defScope (inClass (top 48) 10), [], []⟩
def d89 : He.DefD := ⟨("Heap", some "__eq__"), "__eq__", "Heap.__eq__", defArgs (inClass (top 48) 11), defBody (inClass (top 48) 11), defScope (inClass (top 48) 11), [], []⟩
def fa0 : List He.Fa := [.free "len", .free "all", .free "any", .free "abs", .free "int", .free "list", .free "tuple", .free "range", .free "max", .free "min", .free "isinstance", .free "sorted", .free "str", .free "set", .free "dict", .free "enumerate", .free "zip", .free "ValueError", .free "NotImplemented", .free "sum", .free "bool", .str "SMALL" "abcdefghijklmnopqrstuvwxyz", .str "GREAT" "ABCDEFGHIJKLMNOPQRSTUVWXYZ", .str "DIGITS" "0123456789", .glo "SIGNS", .glo "MAKEABLE", .glo "SHUT", .glo "LENGTHS", .glo "OPENERS", .glo "is_word"]
def fa1 : List He.Fa := [.glo "is_unknown", .glo "is_name", .glo "atom_tree", .glo "is_atom_form", .glo "check_form", .glo "parts_of", .glo "atoms_of", .glo "tree_text", .glo "made_tree", .glo "is_plain", .glo "partner", .glo "undoing_key", .glo "is_made", .glo "halves_of", .glo "opened_parts", .glo "is_recipe", .glo "run_recipe", .glo "worked", .glo "made_recipe", .glo "built_recipe", .glo "add_way", .glo "ways_of", .glo "check_plain", .glo "_law_cell_at", .glo "_law_mixed", .glo "_law_row", .glo "_law_atoms", .glo "_law_form", .glo "_law_forms", .glo "_law_partner"]
def fa2 : List He.Fa := [.glo "_law_undoing", .glo "_law_heap", .glo "_law_told", .glo "_law_run", .glo "_law_step", .glo "_law_recipe", .glo "_law_apart", .glo "_law_way", .glo "_law_built", .glo "_law_openings", .glo "_law_all_ways", .glo "_law_drawn_heap", .glo "_law_text", .glo "_law_tuples", .glo "_law_tried", .glo "_law_longer", .glo "law", .glo "RoadError", .exm "RoadError" "RoadError" true, .glo "BadAtom", .exm "BadAtom" "BadAtom" true, .meth "BadAtom" "__init__", .noat "BadAtom" "text", .glo "BadForm", .exm "BadForm" "BadForm" true, .meth "BadForm" "__init__", .noat "BadForm" "path", .glo "BadKey", .exm "BadKey" "BadKey" true, .meth "BadKey" "__init__"]
def fa3 : List He.Fa := [.noat "BadKey" "key", .glo "BadText", .exm "BadText" "BadText" true, .meth "BadText" "__init__", .noat "BadText" "line", .glo "BadHeap", .exm "BadHeap" "BadHeap" true, .meth "BadHeap" "__init__", .noat "BadHeap" "index", .glo "BadRecipe", .exm "BadRecipe" "BadRecipe" true, .meth "BadRecipe" "__init__", .glo "NoWay", .exm "NoWay" "NoWay" true, .meth "NoWay" "__init__", .noat "NoWay" "step", .glo "Reader", .cls "Reader", .noat "Reader" "signs", .noat "Reader" "at", .noat "Reader" "begun", .meth "Reader" "__init__", .mkr "Reader", .meth "Reader" "takes", .meth "Reader" "word_here", .meth "Reader" "next_atom", .meth "Reader" "closed", .meth "Reader" "whole", .glo "Letter", .cls "Letter"]
def fa4 : List He.Fa := [.noat "Letter" "tree", .meth "Letter" "__init__", .mkr "Letter", .meth "Letter" "form", .meth "Letter" "written", .meth "Letter" "unknowns", .meth "Letter" "__add__", .meth "Letter" "__mul__", .meth "Letter" "__xor__", .meth "Letter" "__invert__", .meth "Letter" "__pos__", .meth "Letter" "__neg__", .meth "Letter" "__eq__", .meth "Letter" "__lt__", .meth "Letter" "__le__", .meth "Letter" "__gt__", .meth "Letter" "__ge__", .meth "Letter" "__contains__", .meth "Letter" "__len__", .glo "Heap", .cls "Heap", .noat "Heap" "trees", .meth "Heap" "__init__", .mkr "Heap", .meth "Heap" "letters", .meth "Heap" "parts", .meth "Heap" "recipe", .meth "Heap" "run", .meth "Heap" "__add__", .meth "Heap" "__iadd__"]
def fa5 : List He.Fa := [.meth "Heap" "__getitem__", .meth "Heap" "__iter__", .meth "Heap" "__len__", .meth "Heap" "__contains__", .meth "Heap" "__eq__"]
def fa : List He.Fa := fa0 ++ fa1 ++ fa2 ++ fa3 ++ fa4 ++ fa5
def fn0 : List He.DefD := [d0, d1, d2, d3, d4, d5, d6, d7, d8, d9, d10, d11, d12, d13, d14, d15, d16, d17, d18, d19, d20, d21, d22, d23, d24, d25, d26, d27, d28, d29]
def fn1 : List He.DefD := [d30, d31, d32, d33, d34, d35, d36, d37, d38, d39, d40, d41, d42, d43, d44, d45, d46, d47, d48, d49, d50, d51, d52, d53, d54, d55, d56, d57, d58, d59]
def fn2 : List He.DefD := [d60, d61, d62, d63, d64, d65, d66, d67, d68, d69, d70, d71, d72, d73, d74, d75, d76, d77, d78, d79, d80, d81, d82, d83, d84, d85, d86, d87, d88, d89]
def fn : List He.DefD := fn0 ++ fn1 ++ fn2
def loo0 : List PySem.Str := ["_wall", "RoadError", "BadAtom", "BadForm", "BadKey", "BadText", "BadHeap", "BadRecipe", "NoWay", "SMALL", "GREAT", "DIGITS", "SIGNS", "is_word", "is_unknown", "is_name", "atom_tree", "is_atom_form", "check_form", "parts_of", "atoms_of", "tree_text", "made_tree", "Reader", "Letter", "is_plain", "MAKEABLE", "SHUT", "partner", "undoing_key"]
def loo1 : List PySem.Str := ["is_made", "halves_of", "opened_parts", "LENGTHS", "OPENERS", "is_recipe", "run_recipe", "worked", "made_recipe", "built_recipe", "add_way", "ways_of", "check_plain", "Heap", "_law_cell_at", "_law_mixed", "_law_row", "_law_atoms", "_law_form", "_law_forms", "_law_partner", "_law_undoing", "_law_heap", "_law_told", "_law_run", "_law_step", "_law_recipe", "_law_apart", "_law_way", "_law_built"]
def loo2 : List PySem.Str := ["_law_openings", "_law_all_ways", "_law_drawn_heap", "_law_text", "_law_tuples", "_law_tried", "_law_longer"]
def loo : List PySem.Str := loo0 ++ loo1 ++ loo2
def e0 : He5.DefA := ⟨fun K => sfn K "Letter" "of", "of", "Letter.of", defArgs (inClass (top 26) 1), defBody (inClass (top 26) 1), defScope (inClass (top 26) 1), [], []⟩
def e1 : He5.DefA := ⟨fun K => sfn K "Letter" "read", "read", "Letter.read", defArgs (inClass (top 26) 2), defBody (inClass (top 26) 2), defScope (inClass (top 26) 2), [], []⟩
def fs : List He5.DefA := [e0, e1]
def ts : List He.Tab := [(fun K => He.ga K "SIGNS", ["pair", "seal", "lock", "mark", "open", "own"]), (fun K => He.ga K "LENGTHS", ["first", "second", "mark", "open", "unseal", "unlock", "pair", "seal", "lock"]), (fun K => He.ga K "OPENERS", ["seal", "lock"])]
def exl (K : PySem.W.Frag) : List Bool := [kdB K (He.ga K "SIGNS") [("pair", 2), ("seal", 2), ("lock", 2), ("mark", 1), ("open", 1), ("own", 1)], ktB K (He.ga K "MAKEABLE") ["pair", "seal", "lock", "mark", "open"], ktB K (He.ga K "SHUT") ["seal", "lock"], kdB K (He.ga K "LENGTHS") [("first", 2), ("second", 2), ("mark", 2), ("open", 2), ("unseal", 3), ("unlock", 3), ("pair", 3), ("seal", 3), ("lock", 3)], kdsB K (He.ga K "OPENERS") [("seal", "unseal"), ("lock", "unlock")], oexB K "RoadError", xfB K (He.ga K "RoadError"), rexB K "RoadError", oexB K "BadAtom", xfB K (He.ga K "BadAtom"), oexB K "BadForm", xfB K (He.ga K "BadForm"), oexB K "BadKey", xfB K (He.ga K "BadKey"), oexB K "BadText", xfB K (He.ga K "BadText"), oexB K "BadHeap", xfB K (He.ga K "BadHeap"), oexB K "BadRecipe", xfB K (He.ga K "BadRecipe"), oexB K "NoWay", xfB K (He.ga K "NoWay"), PySem.W.selfFirst K (He.ga K "Reader"), isiB K (He.ga K "Reader"), PySem.W.selfFirst K (He.ga K "Letter"), isiB K (He.ga K "Letter"), statB K "Letter" "of", statB K "Letter" "read", PySem.W.selfFirst K (He.ga K "Heap"), isiB K (He.ga K "Heap"), xiB K, boB K "Heap" "Letter" "__radd__"]
def exq : PySem.W.Frag → Bool := fun K => (exl K).all id
theorem exl_ok {K : PySem.W.Frag} (h : exq K = true) (i : Nat) {b : Bool} (e : (exl K)[i]? = some b) : b = true := List.all_eq_true.mp h b (List.mem_of_getElem? e)
abbrev R : PySem.W.OpenRow := PySem.W.OpenLaw.row PySem.Challenge.rw_openroads_k40_recipes_run
abbrev hk : PySem.W.Hook := hookZ 5 fa fn ts exq fs
def ob (s : PySem.W.SharedT) : AlZ := obsZ 5 fa fn ts exq fs (HandSHeadRun.getT s)
theorem ob_eq (s : PySem.W.SharedT) : ob s = hk.obs s.abs := obsZ_eq (HandSHeadRun.getT_eq s)
abbrev qv : Program := PySem.W.view R.prog [73]
theorem join3 {α β γ δ : Type _} {o : Option α} {f : α → β} {g : α → γ} {h : α → δ} {a : β} {b : γ} {c : δ} (e1 : o.map f = some a) (e2 : o.map g = some b) (e3 : o.map h = some c) : o.map (fun s => (f s, g s, h s)) = some (a, b, c) := by
  cases o with
  | none => cases e1
  | some s =>
    cases e1
    cases e2
    cases e3
    rfl
theorem joinB {α β : Type _} {o : Option α} {l1 l2 : List β} {p : α → β → Bool} (h1 : o.map (fun s => l1.all (p s)) = some true) (h2 : o.map (fun s => l2.all (p s)) = some true) : o.map (fun s => (l1 ++ l2).all (p s)) = some true := by
  cases o with
  | none => cases h1
  | some s =>
    have h1 : l1.all (p s) = true := Option.some.inj h1
    have h2 : l2.all (p s) = true := Option.some.inj h2
    show some ((l1 ++ l2).all (p s)) = some true
    rw [List.all_append, h1, h2]
    rfl
theorem join5 {α β γ δ : Type _} {o : Option α} {fA fB fE : α → Bool} {fV : α → β} {fT : α → γ} {fS : α → δ} {b : β} {t : γ} {d : δ} (hA : o.map fA = some true) (hB : o.map fB = some true) (hV : o.map (fun s => (fV s, fT s)) = some (b, t)) (hE : o.map fE = some true) (hS : o.map fS = some d) : o.map (fun s => ((((fA s && fB s, fV s), fT s), fE s), fS s)) = some ((((true, b), t), true), d) := by
  cases o with
  | none => cases hA
  | some s =>
    have hA : fA s = true := Option.some.inj hA
    have hB : fB s = true := Option.some.inj hB
    have hV : (fV s, fT s) = (b, t) := Option.some.inj hV
    have hE : fE s = true := Option.some.inj hE
    have hS : fS s = d := Option.some.inj hS
    show some ((((fA s && fB s, fV s), fT s), fE s), fS s) = _
    cases hV
    rw [hA, hB, hE, hS]
    rfl
open PySem PySem.W PySem.Calls PyProof.Rows HandSHeadRun in
theorem run0a (w : World) (os : OsState) : (HandSHeadRun.endF (HandSHeadRun.stepQ (HandSHeadRun.denQ HandSHeadRun.tabQ) R.prog (w.withFollow "special-get-raises" false)) 6000 R.prog (w.withFollow "special-get-raises" false) os).map (fun s => looksF R.prog (boot_heap (w.withFollow "special-get-raises" false).params) s.abs) = some true := by
  kernel_rfl
open PySem PySem.W PySem.Calls PyProof.Rows HandSHeadRun in
theorem run0b (w : World) (os : OsState) : (HandSHeadRun.endF (HandSHeadRun.stepQ (HandSHeadRun.denQ HandSHeadRun.tabQ) R.prog (w.withFollow "special-get-raises" false)) 6000 R.prog (w.withFollow "special-get-raises" false) os).map (fun s => seenQ qv loo (importedModules R.prog.main.body) (fun s => xlAt qv [] s && recOk R.toRowW.records s) s.abs) = some (openGood qv loo) := by
  kernel_rfl
open PySem PySem.W PySem.Calls PyProof.Rows HandSHeadRun in
theorem run0A (w : World) (os : OsState) : (HandSHeadRun.endF (HandSHeadRun.stepQ (HandSHeadRun.denQ HandSHeadRun.tabQ) R.prog (w.withFollow "special-get-raises" false)) 6000 R.prog (w.withFollow "special-get-raises" false) os).map (fun s => fa.all fun f => f.ok (frY 5 (HandSHeadRun.getT s))) = some true := by
  kernel_rfl
open PySem PySem.W PySem.Calls PyProof.Rows HandSHeadRun in
theorem run0B0 (w : World) (os : OsState) : (HandSHeadRun.endF (HandSHeadRun.stepQ (HandSHeadRun.denQ HandSHeadRun.tabQ) R.prog (w.withFollow "special-get-raises" false)) 6000 R.prog (w.withFollow "special-get-raises" false) os).map (fun s => fn0.all fun f => f.ok (frY 5 (HandSHeadRun.getT s))) = some true := by
  kernel_rfl
open PySem PySem.W PySem.Calls PyProof.Rows HandSHeadRun in
theorem run0B1 (w : World) (os : OsState) : (HandSHeadRun.endF (HandSHeadRun.stepQ (HandSHeadRun.denQ HandSHeadRun.tabQ) R.prog (w.withFollow "special-get-raises" false)) 6000 R.prog (w.withFollow "special-get-raises" false) os).map (fun s => fn1.all fun f => f.ok (frY 5 (HandSHeadRun.getT s))) = some true := by
  kernel_rfl
open PySem PySem.W PySem.Calls PyProof.Rows HandSHeadRun in
theorem run0B2 (w : World) (os : OsState) : (HandSHeadRun.endF (HandSHeadRun.stepQ (HandSHeadRun.denQ HandSHeadRun.tabQ) R.prog (w.withFollow "special-get-raises" false)) 6000 R.prog (w.withFollow "special-get-raises" false) os).map (fun s => fn2.all fun f => f.ok (frY 5 (HandSHeadRun.getT s))) = some true := by
  kernel_rfl
open PySem PySem.W PySem.Calls PyProof.Rows HandSHeadRun in
theorem run0B (w : World) (os : OsState) : (HandSHeadRun.endF (HandSHeadRun.stepQ (HandSHeadRun.denQ HandSHeadRun.tabQ) R.prog (w.withFollow "special-get-raises" false)) 6000 R.prog (w.withFollow "special-get-raises" false) os).map (fun s => fn.all fun f => f.ok (frY 5 (HandSHeadRun.getT s))) = some true := joinB (l1 := (fn0 ++ fn1)) (l2 := fn2) (joinB (l1 := fn0) (l2 := fn1) (run0B0 w os) (run0B1 w os)) (run0B2 w os)
open PySem PySem.W PySem.Calls PyProof.Rows HandSHeadRun in
theorem run0V (w : World) (os : OsState) : (HandSHeadRun.endF (HandSHeadRun.stepQ (HandSHeadRun.denQ HandSHeadRun.tabQ) R.prog (w.withFollow "special-get-raises" false)) 6000 R.prog (w.withFollow "special-get-raises" false) os).map (fun s => (fn.map fun d => He.fnW (frY 5 (HandSHeadRun.getT s)) d.at_, ts.map fun t => He.dicW (frY 5 (HandSHeadRun.getT s)) (t.1 (frY 5 (HandSHeadRun.getT s))))) = some (fn.map He.DefD.val, ts.map fun t => some (He.keysIn (w.withFollow "special-get-raises" false).params t.2)) := by
  kernel_rfl
open PySem PySem.W PySem.Calls PyProof.Rows HandSHeadRun in
theorem run0E (w : World) (os : OsState) : (HandSHeadRun.endF (HandSHeadRun.stepQ (HandSHeadRun.denQ HandSHeadRun.tabQ) R.prog (w.withFollow "special-get-raises" false)) 6000 R.prog (w.withFollow "special-get-raises" false) os).map (fun s => exq (frY 5 (HandSHeadRun.getT s))) = some true := by
  kernel_rfl
open PySem PySem.W PySem.Calls PyProof.Rows HandSHeadRun in
theorem run0S (w : World) (os : OsState) : (HandSHeadRun.endF (HandSHeadRun.stepQ (HandSHeadRun.denQ HandSHeadRun.tabQ) R.prog (w.withFollow "special-get-raises" false)) 6000 R.prog (w.withFollow "special-get-raises" false) os).map (fun s => He5.obsA [] fs (frY 5 (HandSHeadRun.getT s))) = some (He5.valA fs) := by
  kernel_rfl
open PySem PySem.W PySem.Calls PyProof.Rows HandSHeadRun in
theorem run0c (w : World) (os : OsState) : (HandSHeadRun.endF (HandSHeadRun.stepQ (HandSHeadRun.denQ HandSHeadRun.tabQ) R.prog (w.withFollow "special-get-raises" false)) 6000 R.prog (w.withFollow "special-get-raises" false) os).map ob = some (hk.val (w.withFollow "special-get-raises" false)) := join5 (run0A w os) (run0B w os) (run0V w os) (run0E w os) (run0S w os)
theorem run0 (w : World) : HandSHeadRun.RunEq R qv hk ob 6000 loo (w.withFollow "special-get-raises" false) := fun os => join3 (run0a w os) (run0b w os) (run0c w os)
open PySem PySem.W PySem.Calls PyProof.Rows HandSHeadRun in
theorem run1a (w : World) (os : OsState) : (HandSHeadRun.endF (HandSHeadRun.stepQ (HandSHeadRun.denQ HandSHeadRun.tabQ) R.prog (w.withFollow "special-get-raises" true)) 6000 R.prog (w.withFollow "special-get-raises" true) os).map (fun s => looksF R.prog (boot_heap (w.withFollow "special-get-raises" true).params) s.abs) = some true := by
  kernel_rfl
open PySem PySem.W PySem.Calls PyProof.Rows HandSHeadRun in
theorem run1b (w : World) (os : OsState) : (HandSHeadRun.endF (HandSHeadRun.stepQ (HandSHeadRun.denQ HandSHeadRun.tabQ) R.prog (w.withFollow "special-get-raises" true)) 6000 R.prog (w.withFollow "special-get-raises" true) os).map (fun s => seenQ qv loo (importedModules R.prog.main.body) (fun s => xlAt qv [] s && recOk R.toRowW.records s) s.abs) = some (openGood qv loo) := by
  kernel_rfl
open PySem PySem.W PySem.Calls PyProof.Rows HandSHeadRun in
theorem run1A (w : World) (os : OsState) : (HandSHeadRun.endF (HandSHeadRun.stepQ (HandSHeadRun.denQ HandSHeadRun.tabQ) R.prog (w.withFollow "special-get-raises" true)) 6000 R.prog (w.withFollow "special-get-raises" true) os).map (fun s => fa.all fun f => f.ok (frY 5 (HandSHeadRun.getT s))) = some true := by
  kernel_rfl
open PySem PySem.W PySem.Calls PyProof.Rows HandSHeadRun in
theorem run1B0 (w : World) (os : OsState) : (HandSHeadRun.endF (HandSHeadRun.stepQ (HandSHeadRun.denQ HandSHeadRun.tabQ) R.prog (w.withFollow "special-get-raises" true)) 6000 R.prog (w.withFollow "special-get-raises" true) os).map (fun s => fn0.all fun f => f.ok (frY 5 (HandSHeadRun.getT s))) = some true := by
  kernel_rfl
open PySem PySem.W PySem.Calls PyProof.Rows HandSHeadRun in
theorem run1B1 (w : World) (os : OsState) : (HandSHeadRun.endF (HandSHeadRun.stepQ (HandSHeadRun.denQ HandSHeadRun.tabQ) R.prog (w.withFollow "special-get-raises" true)) 6000 R.prog (w.withFollow "special-get-raises" true) os).map (fun s => fn1.all fun f => f.ok (frY 5 (HandSHeadRun.getT s))) = some true := by
  kernel_rfl
open PySem PySem.W PySem.Calls PyProof.Rows HandSHeadRun in
theorem run1B2 (w : World) (os : OsState) : (HandSHeadRun.endF (HandSHeadRun.stepQ (HandSHeadRun.denQ HandSHeadRun.tabQ) R.prog (w.withFollow "special-get-raises" true)) 6000 R.prog (w.withFollow "special-get-raises" true) os).map (fun s => fn2.all fun f => f.ok (frY 5 (HandSHeadRun.getT s))) = some true := by
  kernel_rfl
open PySem PySem.W PySem.Calls PyProof.Rows HandSHeadRun in
theorem run1B (w : World) (os : OsState) : (HandSHeadRun.endF (HandSHeadRun.stepQ (HandSHeadRun.denQ HandSHeadRun.tabQ) R.prog (w.withFollow "special-get-raises" true)) 6000 R.prog (w.withFollow "special-get-raises" true) os).map (fun s => fn.all fun f => f.ok (frY 5 (HandSHeadRun.getT s))) = some true := joinB (l1 := (fn0 ++ fn1)) (l2 := fn2) (joinB (l1 := fn0) (l2 := fn1) (run1B0 w os) (run1B1 w os)) (run1B2 w os)
open PySem PySem.W PySem.Calls PyProof.Rows HandSHeadRun in
theorem run1V (w : World) (os : OsState) : (HandSHeadRun.endF (HandSHeadRun.stepQ (HandSHeadRun.denQ HandSHeadRun.tabQ) R.prog (w.withFollow "special-get-raises" true)) 6000 R.prog (w.withFollow "special-get-raises" true) os).map (fun s => (fn.map fun d => He.fnW (frY 5 (HandSHeadRun.getT s)) d.at_, ts.map fun t => He.dicW (frY 5 (HandSHeadRun.getT s)) (t.1 (frY 5 (HandSHeadRun.getT s))))) = some (fn.map He.DefD.val, ts.map fun t => some (He.keysIn (w.withFollow "special-get-raises" true).params t.2)) := by
  kernel_rfl
open PySem PySem.W PySem.Calls PyProof.Rows HandSHeadRun in
theorem run1E (w : World) (os : OsState) : (HandSHeadRun.endF (HandSHeadRun.stepQ (HandSHeadRun.denQ HandSHeadRun.tabQ) R.prog (w.withFollow "special-get-raises" true)) 6000 R.prog (w.withFollow "special-get-raises" true) os).map (fun s => exq (frY 5 (HandSHeadRun.getT s))) = some true := by
  kernel_rfl
open PySem PySem.W PySem.Calls PyProof.Rows HandSHeadRun in
theorem run1S (w : World) (os : OsState) : (HandSHeadRun.endF (HandSHeadRun.stepQ (HandSHeadRun.denQ HandSHeadRun.tabQ) R.prog (w.withFollow "special-get-raises" true)) 6000 R.prog (w.withFollow "special-get-raises" true) os).map (fun s => He5.obsA [] fs (frY 5 (HandSHeadRun.getT s))) = some (He5.valA fs) := by
  kernel_rfl
open PySem PySem.W PySem.Calls PyProof.Rows HandSHeadRun in
theorem run1c (w : World) (os : OsState) : (HandSHeadRun.endF (HandSHeadRun.stepQ (HandSHeadRun.denQ HandSHeadRun.tabQ) R.prog (w.withFollow "special-get-raises" true)) 6000 R.prog (w.withFollow "special-get-raises" true) os).map ob = some (hk.val (w.withFollow "special-get-raises" true)) := join5 (run1A w os) (run1B w os) (run1V w os) (run1E w os) (run1S w os)
theorem run1 (w : World) : HandSHeadRun.RunEq R qv hk ob 6000 loo (w.withFollow "special-get-raises" true) := fun os => join3 (run1a w os) (run1b w os) (run1c w os)
theorem run (w : World) : HandSHeadRun.RunEq R qv hk ob 6000 loo w := PySem.W.byRow2 "special-get-raises" (P := fun w => HandSHeadRun.RunEq R qv hk ob 6000 loo w) run0 run1 w
end
end Rd
namespace Rd
open PySem L2
def SMALL : Str := "abcdefghijklmnopqrstuvwxyz"
def GREAT : Str := "ABCDEFGHIJKLMNOPQRSTUVWXYZ"
def DIGITS : Str := "0123456789"
def inS (s : Str) (c : Nat) : Bool := decide (c ∈ s.cps.toList)
def isWord (z : Str) : Bool := decide (1 ≤ z.length) && (decide (z.length ≤ 8) && z.cps.toList.all (inS SMALL))
def isUnk (z : Str) : Bool := isWord z && decide (z.length ≤ 7)
def isName (z : Str) : Bool := decide (1 ≤ (Txt.rstripChars z DIGITS).length) && (decide (z.length ≤ 8) && (Txt.rstripChars z DIGITS).cps.toList.all (inS GREAT))
theorem lineBig : 200000 ≤ sizeLine := by decide
theorem allId (l : List Nat) (p : Nat → Bool) : (l.map p).all id = l.all p := by simp [List.all_map]
theorem decNat {a b : Nat} : decide ((a : Int) ≤ (b : Int)) = decide (a ≤ b) := by
  by_cases h : a ≤ b
  · rw [decide_eq_true h, decide_eq_true (by omega)]
  · rw [decide_eq_false h, decide_eq_false (by omega)]
def spTB (f : Str → Bool) : Sp := fun vs H Q _ => ∃ z : Str, vs = [.str z] ∧ z.length ≤ 200000 ∧ ∀ H', Same H H' → Q (.bl (f z)) H'
section
variable {P : Program} {w : World} {K : PySem.W.Frag} {mg : Str → Option Value} {base : Heap}
abbrev s_is_word : Stmt := top 15
theorem sc_is_word : FnScope ["text", "sign"] ["text"] (defScope s_is_word) := ⟨rfl, rfl, rfl, by decide +kernel, rfl, by decide +kernel, by decide +kernel⟩
theorem ok_is_word (T : Tx w K mg) : Fk P w K mg base CX0 1 "is_word" ["text"] (spTB isWord) := by
  refine T.F_is_word.ok0 sc_is_word (fun _ _ _ _ _ _ us hl => match us, hl with | [_], _ => rfl)
    (fun vs H Q E h => ?_) (fun cdv A outer s H vs Q E hr h => ?_)
  · obtain ⟨z, rfl, _⟩ := h
    rfl
  · obtain ⟨z, rfl, hz, k⟩ := h
    have hl : z.length ≤ sizeLine := Nat.le_trans hz lineBig
    refine ⟨_, (pss_one (ps_ret (pe_and (pe_chain op_le op_le pe_int (pe_callB call_len_str (by rfl) T.z_len (by decide +kernel) (pa_cons (pv 0) pa_nil)) pe_int) (pe_one (pe_callB (cr_all rfl) (by rfl) T.z_all (by decide +kernel) (pa_cons (pe_lc (own := [("sign", 1)]) (g := gName 1) (tt := tYes) (by rfl) sc_is_word.nd (pi_str (pv 0)) (blkOk_by (own := [("sign", 1)]) (N := ["text", "sign"]) (sc := defScope s_is_word) (by decide +kernel)) (fun _ _ _ _ _ => (pg_name (i := 1) sc_is_word.nd rfl (Or.inl rfl))) (fun _ _ _ _ _ => pts_nil) (fun _ _ _ _ _ => (pe_cmpR op_in_sign (pv 1) (pe_gstr T.c_SMALL) (by rfl)))) pa_nil)))))), ?_⟩
    refine ⟨_, rfl, z, rfl, hl, _, _, rfl, rfl, _, rfl, ?_⟩
    refine ite2 (fun h1 => ?_) (fun h1 => ⟨false, rfl, ?_⟩)
    · refine ⟨_, _, rfl, rfl, _, rfl, ?_⟩
      refine ite2 (fun h2 => ?_) (fun h2 => ?_)
      · refine ⟨_, rfl, z, rfl, fun D hD => lcs (f := fun c => V.bl (inS SMALL c)) hl (fun c H Q hc q => ⟨_, rfl, _, _, rfl, rfl, q⟩) ?_⟩
        refine ⟨D, z.cps.toList.map (inS SMALL), rfl, SqL.of (by rw [upd_same, List.map_map]; rfl), ?_⟩
        have e : isWord z = (z.cps.toList.map (inS SMALL)).all id := by
          have a1 : decide (1 ≤ z.length) = true := decide_eq_true (by have := of_decide_eq_true h1; omega)
          have a2 : decide (z.length ≤ 8) = true := decide_eq_true (by have := of_decide_eq_true h2; omega)
          rw [isWord, a1, a2, allId] <;> rfl
        show Q (V.bl ((z.cps.toList.map (inS SMALL)).all id)) _
        rw [← e]
        exact k _ (Rd.Same.upd hD)
      · have e : isWord z = false := by
          have a2 : decide (z.length ≤ 8) = false := decide_eq_false (fun q => h2 (decide_eq_true (by omega)))
          rw [isWord, a2] <;> simp
        show Q (V.bl false) _
        rw [← e]
        exact k _ (Same.refl _)
    · have e : isWord z = false := by
        have a1 : decide (1 ≤ z.length) = false := decide_eq_false (fun q => h1 (decide_eq_true (by omega)))
        rw [isWord, a1] <;> rfl
      show Q (V.bl false) _
      rw [← e]
      exact k _ (Same.refl _)
abbrev s_is_unknown : Stmt := top 16
theorem sc_is_unknown : FnScope ["text"] ["text"] (defScope s_is_unknown) := ⟨rfl, rfl, rfl, by decide +kernel, rfl, by decide +kernel, by decide +kernel⟩
theorem ok_is_unknown (T : Tx w K mg) : Fk P w K mg base CX0 2 "is_unknown" ["text"] (spTB isUnk) := by
  refine T.F_is_unknown.ok0 sc_is_unknown (fun _ _ _ _ _ _ us hl => match us, hl with | [_], _ => rfl)
    (fun vs H Q E h => ?_) (fun cdv A outer s H vs Q E hr h => ?_)
  · obtain ⟨z, rfl, _⟩ := h
    rfl
  · obtain ⟨z, rfl, hz, k⟩ := h
    have hl : z.length ≤ sizeLine := Nat.le_trans hz lineBig
    refine ⟨_, (pss_one (ps_ret (pe_and (pe_fk (ok_is_word T) (hr.mono (by omega)) rfl pass0 (pa_cons (pv 0) pa_nil)) (pe_one (pe_cmpR op_le (pe_callB call_len_str (by rfl) T.z_len (by decide +kernel) (pa_cons (pv 0) pa_nil)) pe_int (nomark _)))))), ?_⟩
    refine ⟨_, rfl, z, rfl, hz, fun H1 s1 => ⟨_, rfl, ?_⟩⟩
    refine ite2 (fun h1 => ?_) (fun h1 => ?_)
    · refine ⟨_, rfl, z, rfl, hl, _, _, rfl, rfl, ?_⟩
      have e : isUnk z = decide ((z.length : Int) ≤ 7) := by
        rw [isUnk, h1]
        exact (decNat (b := 7)).symm
      show Q (V.bl (decide ((z.length : Int) ≤ 7))) _
      rw [← e]
      exact k _ s1
    · have e : isUnk z = false := by
        rw [isUnk, Bool.eq_false_iff.mpr h1] <;> rfl
      show Q (V.bl false) _
      rw [← e]
      exact k _ s1
abbrev s_is_name : Stmt := top 17
theorem sc_is_name : FnScope ["text", "letters", "sign"] ["text"] (defScope s_is_name) := ⟨rfl, rfl, rfl, by decide +kernel, rfl, by decide +kernel, by decide +kernel⟩
theorem ok_is_name (T : Tx w K mg) : Fk P w K mg base CX0 1 "is_name" ["text"] (spTB isName) := by
  refine T.F_is_name.ok0 sc_is_name (fun _ _ _ _ _ _ us hl => match us, hl with | [_], _ => rfl)
    (fun vs H Q E h => ?_) (fun cdv A outer s H vs Q E hr h => ?_)
  · obtain ⟨z, rfl, _⟩ := h
    rfl
  · obtain ⟨z, rfl, hz, k⟩ := h
    have hl : z.length ≤ sizeLine := Nat.le_trans hz lineBig
    refine ⟨_, (pss_cons (ps_set (i := 1) sc_is_name.nd rfl (Or.inl rfl) (pe_bm PySem.F.plainAttrs_str PySem.F.slot_str_rstrip PySem.F.type_str_rstrip mt_rstripChars (pv 0) (pa_cons (pe_gstr T.c_DIGITS) pa_nil)))
  (pss_one (ps_ret (pe_and (pe_cmpR op_le pe_int (pe_callB call_len_str (by rfl) T.z_len (by decide +kernel) (pa_cons (pv 1) pa_nil)) (nomark _)) (pe_and (pe_cmpR op_le (pe_callB call_len_str (by rfl) T.z_len (by decide +kernel) (pa_cons (pv 0) pa_nil)) pe_int (nomark _)) (pe_one (pe_callB (cr_all rfl) (by rfl) T.z_all (by decide +kernel) (pa_cons (pe_lc (own := [("sign", 2)]) (g := gName 2) (tt := tYes) (by rfl) sc_is_name.nd (pi_str (pv 1)) (blkOk_by (own := [("sign", 2)]) (N := ["text", "letters", "sign"]) (sc := defScope s_is_name) (by decide +kernel)) (fun _ _ _ _ _ => (pg_name (i := 2) sc_is_name.nd rfl (Or.inl rfl))) (fun _ _ _ _ _ => pts_nil) (fun _ _ _ _ _ => (pe_cmpR op_in_sign (pv 2) (pe_gstr T.c_GREAT) (by rfl)))) pa_nil)))))))), ?_⟩
    have hl2 : (Txt.rstripChars z DIGITS).length ≤ sizeLine := Nat.le_trans (PyProof.Rows.len_rstripChars z DIGITS) hl
    refine ⟨_, rfl, rfl, z, DIGITS, rfl, rfl, hl, ?_⟩
    refine ⟨_, rfl, _, rfl, hl2, _, _, rfl, rfl, _, rfl, ?_⟩
    refine ite2 (fun h1 => ?_) (fun h1 => ?_)
    · refine ⟨_, rfl, z, rfl, hl, _, _, rfl, rfl, _, rfl, ?_⟩
      refine ite2 (fun h2 => ?_) (fun h2 => ?_)
      · refine ⟨_, rfl, _, rfl, fun D hD => lcs (f := fun c => V.bl (inS GREAT c)) hl2 (fun c H Q hc q => ⟨_, rfl, _, _, rfl, rfl, q⟩) ?_⟩
        refine ⟨D, (Txt.rstripChars z DIGITS).cps.toList.map (inS GREAT), rfl, SqL.of (by rw [upd_same, List.map_map]; rfl), ?_⟩
        have e : isName z = ((Txt.rstripChars z DIGITS).cps.toList.map (inS GREAT)).all id := by
          have a1 : decide (1 ≤ (Txt.rstripChars z DIGITS).length) = true := decide_eq_true (by have := of_decide_eq_true h1; omega)
          have a2 : decide (z.length ≤ 8) = true := decide_eq_true (by have := of_decide_eq_true h2; omega)
          rw [isName, a1, a2, allId] <;> rfl
        show Q (V.bl (((Txt.rstripChars z DIGITS).cps.toList.map (inS GREAT)).all id)) _
        rw [← e]
        exact k _ (Rd.Same.upd hD)
      · have e : isName z = false := by
          have a2 : decide (z.length ≤ 8) = false := decide_eq_false (fun q => h2 (decide_eq_true (by omega)))
          rw [isName, a2] <;> simp
        show Q (V.bl false) _
        rw [← e]
        exact k _ (Same.refl _)
    · have e : isName z = false := by
        have a1 : decide (1 ≤ (Txt.rstripChars z DIGITS).length) = false := decide_eq_false (fun q => h1 (decide_eq_true (by omega)))
        rw [isName, a1] <;> rfl
      show Q (V.bl false) _
      rw [← e]
      exact k _ (Same.refl _)
/-- text[1:] -/
def tailS (z : Str) : Str := cutS z (some 1) none
theorem cutS_nat (z : Str) (a b : Nat) (ha : a ≤ z.length) (hb : b ≤ z.length) : (cutS z (some (a : Int)) (some (b : Int))).cps.toList = (z.cps.toList.take b).drop a := by
  show ((z.cps.toList.drop (HT.sIx z.length 0 (some (a : Int)))).take (HT.sIx z.length z.length (some (b : Int)) - HT.sIx z.length 0 (some (a : Int)))) = _
  rw [HT.sIx_nat, HT.sIx_nat, Nat.min_eq_left ha, Nat.min_eq_left hb, List.drop_take]
theorem cutS_from (z : Str) (a : Nat) : (cutS z (some (a : Int)) none).cps.toList = z.cps.toList.drop a := by
  show ((z.cps.toList.drop (HT.sIx z.length 0 (some (a : Int)))).take (z.length - HT.sIx z.length 0 (some (a : Int)))) = _
  have hs : z.cps.toList.length = z.length := by rw [Array.length_toList]; rfl
  rw [HT.sIx_nat, List.take_of_length_le (by rw [List.length_drop, hs]; exact Nat.le_refl _)]
  rcases Nat.le_total a z.length with h | h
  · rw [Nat.min_eq_left h]
  · rw [Nat.min_eq_right h, List.drop_of_length_le (by omega), List.drop_of_length_le (by omega)]
theorem cutS_to (z : Str) (b : Nat) : (cutS z none (some (b : Int))).cps.toList = z.cps.toList.take b := by
  show ((z.cps.toList.drop 0).take (HT.sIx z.length z.length (some (b : Int)) - 0)) = _
  have hs : z.cps.toList.length = z.length := by rw [Array.length_toList]; rfl
  rw [HT.sIx_nat, List.drop_zero, Nat.sub_zero]
  rcases Nat.le_total b z.length with h | h
  · rw [Nat.min_eq_left h]
  · rw [Nat.min_eq_right h, List.take_of_length_le (by omega), List.take_of_length_le (by omega)]
theorem len_list (z : Str) : z.length = z.cps.toList.length := by rw [Array.length_toList]; rfl
theorem tailS_list (z : Str) : (tailS z).cps.toList = z.cps.toList.drop 1 := cutS_from z 1
theorem tailS_len (z : Str) : (tailS z).length ≤ z.length := by
  rw [len_list, len_list, tailS_list, List.length_drop]
  omega
def atomOf (z : Str) : Option (Str × Str) := if isWord z = true then some ("word", z) else if isName z = true then some ("name", z) else if (Txt.startswith z "?" && isUnk (tailS z)) = true then some ("unknown", tailS z) else none
def sp_atom_tree : Sp := fun vs H Q _ => ∃ z : Str, vs = [.str z] ∧ z.length ≤ 200000 ∧ (∀ H', Same H H' → atomOf z = none → Q .non H') ∧ ∀ k x p H', Same H H' → atomOf z = some (k, x) → H p = none → H' p = some (.tup [.str k, .str x]) → Q (.ref p) H'
abbrev s_atom_tree : Stmt := top 18
theorem sc_atom_tree : FnScope ["text"] ["text"] (defScope s_atom_tree) := ⟨rfl, rfl, rfl, by decide +kernel, rfl, by decide +kernel, by decide +kernel⟩
theorem ok_atom_tree (T : Tx w K mg) : Fk P w K mg base CX0 3 "atom_tree" ["text"] sp_atom_tree := by
  refine T.F_atom_tree.ok0 sc_atom_tree (fun _ _ _ _ _ _ us hl => match us, hl with | [_], _ => rfl)
    (fun vs H Q E h => ?_) (fun cdv A outer s H vs Q E hr h => ?_)
  · obtain ⟨z, rfl, _⟩ := h
    rfl
  · obtain ⟨z, rfl, hz, k0, k1⟩ := h
    have hl : z.length ≤ sizeLine := Nat.le_trans hz lineBig
    have hz2 : (tailS z).length ≤ 200000 := Nat.le_trans (tailS_len z) hz
    refine ⟨_, (pss_cons (ps_if (pt_val (pe_fk (ok_is_word T) (hr.mono (by omega)) rfl pass0 (pa_cons (pv 0) pa_nil)))
  (pss_one (ps_ret (pe_tup (pa_cons pe_str (pa_cons (pv 0) pa_nil)))))
  pss_nil)
  (pss_cons (ps_if (pt_val (pe_fk (ok_is_name T) (hr.mono (by omega)) rfl pass0 (pa_cons (pv 0) pa_nil)))
  (pss_one (ps_ret (pe_tup (pa_cons pe_str (pa_cons (pv 0) pa_nil)))))
  pss_nil)
  (pss_cons (ps_if (PW.pt (pw_and (pt_val (pe_bm PySem.F.plainAttrs_str PySem.F.slot_str_startswith PySem.F.type_str_startswith mt_startswith (pv 0) (pa_cons pe_str pa_nil))) (pw_and1 (pt_val (pe_fk (ok_is_unknown T) (hr.mono (by omega)) rfl pass0 (pa_cons (pe_slice sl_str (pv 0) (po_some pe_int) po_none) pa_nil))))))
  (pss_one (ps_ret (pe_tup (pa_cons pe_str (pa_cons (pe_slice sl_str (pv 0) (po_some pe_int) po_none) pa_nil)))))
  pss_nil)
  (pss_one (ps_ret pe_non))))), ?_⟩
    refine ⟨_, rfl, z, rfl, hz, fun H1 s1 => ⟨_, rfl, ite2 (fun h1 => ?_) (fun h1 => ?_)⟩⟩
    · refine ⟨_, rfl, (by show 2 ≤ sizeLine; decide), fun p hp => ?_⟩
      exact k1 _ _ p _ (Rd.Same.upd' s1 hp) (by rw [atomOf, if_pos h1]) (s1.free hp) upd_same
    · refine ⟨_, rfl, z, rfl, hz, fun H2 s2 => ⟨_, rfl, ite2 (fun h2 => ?_) (fun h2 => ?_)⟩⟩
      · refine ⟨_, rfl, (by show 2 ≤ sizeLine; decide), fun p hp => ?_⟩
        exact k1 _ _ p _ (Rd.Same.upd' (s1.trans s2) hp) (by rw [atomOf, if_neg h1, if_pos h2]) ((s1.trans s2).free hp) upd_same
      · refine ⟨_, rfl, rfl, z, "?", rfl, rfl, _, rfl, ite2 (fun h3 => ?_) (fun h3 => ?_)⟩
        · refine ⟨_, rfl, _, rfl, z, rfl, hl, tailS z, rfl, hz2, fun H3 s3 => ⟨_, rfl, ite2 (fun h4 => ?_) (fun h4 => ?_)⟩⟩
          · refine ⟨_, rfl, _, rfl, z, rfl, hl, (by show 2 ≤ sizeLine; decide), fun p hp => ?_⟩
            exact k1 _ _ p _ (Rd.Same.upd' ((s1.trans s2).trans s3) hp) (by rw [atomOf, if_neg h1, if_neg h2, if_pos (by rw [h3, h4]; rfl)]; rfl) (((s1.trans s2).trans s3).free hp) upd_same
          · exact k0 _ ((s1.trans s2).trans s3) (by rw [atomOf, if_neg h1, if_neg h2, if_neg (by rw [Bool.eq_false_iff.mpr h4]; simp)])
        · exact k0 _ (s1.trans s2) (by rw [atomOf, if_neg h1, if_neg h2, if_neg (by rw [Bool.eq_false_iff.mpr h3]; simp)])
end
end Rd
namespace Rd
open PySem L2
theorem str_ext {a b : Str} (h : a.cps.toList = b.cps.toList) : a = b := by
  obtain ⟨⟨a⟩⟩ := a
  obtain ⟨⟨b⟩⟩ := b
  have e : a = b := h
  rw [e]
theorem app_list (a b : Str) : (a ++ b).cps.toList = a.cps.toList ++ b.cps.toList := by
  show (a.cps ++ b.cps).toList = _
  rw [Array.toList_append]
theorem contains_in (s : Str) (c : Nat) : s.cps.contains c = inS s c := by
  unfold inS
  rw [Bool.eq_iff_iff, decide_eq_true_iff, Array.contains_iff_mem]
  exact Array.mem_def
theorem rstrip_list (z s : Str) : (Txt.rstripChars z s).cps.toList = (z.cps.toList.reverse.dropWhile (inS s)).reverse := by
  have e0 : s.cps.contains = inS s := funext (contains_in s)
  show (Txt.stripBy s.cps.contains false true z).cps.toList = _
  rw [PyProof.Rows.stripBy_eq, e0]
  show (z.cps.extract 0 (z.length - ((z.cps.toList.drop 0).reverse.takeWhile (inS s)).length)).toList = _
  rw [List.drop_zero, len_list]
  generalize z.cps = a
  obtain ⟨l⟩ := a
  rw [List.extract_toArray]
  show (l.extract 0 (l.length - (l.reverse.takeWhile (inS s)).length)) = (l.reverse.dropWhile (inS s)).reverse
  rw [List.extract_eq_drop_take, List.drop_zero, Nat.sub_zero]
  have e1 : l.reverse = l.reverse.takeWhile (inS s) ++ l.reverse.dropWhile (inS s) := (List.takeWhile_append_dropWhile).symm
  have e2 : l = (l.reverse.dropWhile (inS s)).reverse ++ (l.reverse.takeWhile (inS s)).reverse := by
    have := congrArg List.reverse e1
    rw [List.reverse_reverse, List.reverse_append] at this
    exact this
  have e3 : l.length = (l.reverse.dropWhile (inS s)).length + (l.reverse.takeWhile (inS s)).length := by
    have := congrArg List.length e2
    rw [List.length_append, List.length_reverse, List.length_reverse] at this
    exact this
  rw [e3, Nat.add_sub_cancel]
  have key : ∀ (A B : List Nat), l = A.reverse ++ B.reverse → l.take A.length = A.reverse := fun A B q => by
    rw [q, List.take_append_of_le_length (by rw [List.length_reverse]; exact Nat.le_refl _), List.take_of_length_le (by rw [List.length_reverse]; exact Nat.le_refl _)]
  exact key _ _ e2
theorem starts_q (z : Str) : Txt.startswith z "?" = true ↔ ∃ r, z.cps.toList = 63 :: r := by
  show (decide (0 + ("?" : Str).length ≤ z.length) && (z.cps.extract 0 (0 + ("?" : Str).length) == ("?" : Str).cps)) = true ↔ _
  have e1 : ("?" : Str).length = 1 := by decide
  have e2 : ("?" : Str).cps = #[63] := by decide +kernel
  rw [e1, e2, len_list]
  generalize z.cps = a
  obtain ⟨l⟩ := a
  cases l with
  | nil => simp
  | cons c r =>
    constructor
    · intro h
      obtain ⟨_, h2⟩ := He.ba h
      have h3 : (⟨c :: r⟩ : Array Nat).extract 0 1 = #[63] := eq_of_beq h2
      have h4 := congrArg Array.toList h3
      simp at h4
      exact ⟨r, by rw [h4]⟩
    · rintro ⟨r', e⟩
      have e' : c :: r = 63 :: r' := e
      injection e' with e3 e4
      subst e3
      simp
theorem q_tail {z : Str} (h : Txt.startswith z "?" = true) : "?" ++ tailS z = z := by
  obtain ⟨r, e⟩ := (starts_q z).mp h
  refine str_ext ?_
  rw [app_list, tailS_list, e]
  have e2 : ("?" : Str).cps.toList = [63] := by decide +kernel
  rw [e2]
  rfl
theorem disj {c : Nat} (h : inS GREAT c = true) : inS DIGITS c = false := by
  have h1 : c ∈ GREAT.cps.toList := of_decide_eq_true h
  have h2 : GREAT.cps.toList.all (fun c => !inS DIGITS c) = true := by decide +kernel
  have h3 := List.all_eq_true.mp h2 c h1
  simpa using h3
theorem disj2 {c : Nat} (h : inS DIGITS c = true) : inS GREAT c = false := by
  cases e : inS GREAT c with
  | false => rfl
  | true => rw [disj e] at h; cases h
theorem dropAll {p : Nat → Bool} : ∀ (l : List Nat), (∀ c ∈ l, p c = true) → l.dropWhile p = []
  | [], _ => rfl
  | a :: r, h => by
    rw [List.dropWhile_cons, if_pos (h a List.mem_cons_self)]
    exact dropAll r fun c hc => h c (List.mem_cons_of_mem _ hc)
theorem name_iff (l : List Nat) : (1 ≤ ((l.reverse.dropWhile (inS DIGITS)).reverse).length ∧ ((l.reverse.dropWhile (inS DIGITS)).reverse).all (inS GREAT) = true) ↔
    ((0 < (l.filter (inS GREAT)).length ∧ (l.take (l.filter (inS GREAT)).length).all (inS GREAT) = true) ∧ (l.drop (l.filter (inS GREAT)).length).all (inS DIGITS) = true) := by
  have e1 : l.reverse = l.reverse.takeWhile (inS DIGITS) ++ l.reverse.dropWhile (inS DIGITS) := (List.takeWhile_append_dropWhile).symm
  have e2 : l = (l.reverse.dropWhile (inS DIGITS)).reverse ++ (l.reverse.takeWhile (inS DIGITS)).reverse := by
    have := congrArg List.reverse e1
    rw [List.reverse_reverse, List.reverse_append] at this
    exact this
  have hD : ∀ c ∈ (l.reverse.takeWhile (inS DIGITS)).reverse, inS DIGITS c = true := fun c hc => by
    rw [List.mem_reverse] at hc
    have := List.all_takeWhile (p := inS DIGITS) (l := l.reverse)
    exact List.all_eq_true.mp this c hc
  constructor
  · rintro ⟨h1, h2⟩
    generalize (l.reverse.dropWhile (inS DIGITS)).reverse = A at e2 h1 h2
    generalize (l.reverse.takeWhile (inS DIGITS)).reverse = B at e2 hD
    subst e2
    have fA : A.filter (inS GREAT) = A := List.filter_eq_self.mpr fun c hc => List.all_eq_true.mp h2 c hc
    have fB : B.filter (inS GREAT) = [] := List.filter_eq_nil_iff.mpr fun c hc q => by rw [disj2 (hD c hc)] at q; cases q
    rw [List.filter_append, fA, fB, List.append_nil]
    refine ⟨⟨h1, ?_⟩, ?_⟩
    · rw [List.take_append_of_le_length (Nat.le_refl _), List.take_length]
      exact h2
    · rw [List.drop_append_of_le_length (Nat.le_refl _), List.drop_length, List.nil_append]
      exact List.all_eq_true.mpr hD
  · rintro ⟨⟨h1, h2⟩, h3⟩
    have hle := List.length_filter_le (inS GREAT) l
    generalize (l.filter (inS GREAT)).length = n at h1 h2 h3 hle
    have el : l = l.take n ++ l.drop n := (List.take_append_drop n l).symm
    have key : l.reverse.dropWhile (inS DIGITS) = (l.take n).reverse := by
      conv => lhs; rw [el]
      rw [List.reverse_append, List.dropWhile_append]
      have z1 : (l.drop n).reverse.dropWhile (inS DIGITS) = [] := by
        exact dropAll _ fun c hc => by
          rw [List.mem_reverse] at hc
          exact List.all_eq_true.mp h3 c hc
      rw [z1]
      simp only [List.isEmpty_nil, if_true]
      cases hr : (l.take n).reverse with
      | nil => rfl
      | cons c r =>
        have hc : c ∈ l.take n := by
          rw [← List.mem_reverse, hr]
          exact List.mem_cons_self
        rw [List.dropWhile_cons, if_neg]
        rw [disj (List.all_eq_true.mp h2 c hc)]
        decide
    rw [key, List.reverse_reverse, List.length_take]
    exact ⟨by omega, h2⟩
theorem isName_first {z : Str} (h : isName z = true) (q : Txt.startswith z "?" = true) : False := by
  obtain ⟨h1, h2⟩ := He.ba h
  obtain ⟨h3, h4⟩ := He.ba h2
  obtain ⟨r, e⟩ := (starts_q z).mp q
  have h1' := of_decide_eq_true h1
  rw [len_list, rstrip_list] at h1'
  rw [rstrip_list] at h4
  obtain ⟨⟨a1, a2⟩, a3⟩ := (name_iff z.cps.toList).mp ⟨h1', h4⟩
  rw [e] at a1 a2
  have hg : inS GREAT 63 = false := by decide +kernel
  generalize ((63 :: r).filter (inS GREAT)).length = n at a1 a2
  cases n with
  | zero => cases a1
  | succ n =>
    have := List.all_eq_true.mp a2 63 (by rw [List.take_succ_cons]; exact List.mem_cons_self)
    rw [hg] at this
    cases this
end Rd
namespace Rd
open PySem L2
/-- a stream's list, with n draws still in the bound -/
def StL (n : Nat) (xs : List V) : Prop := ∃ a b c : Int, xs = [.int a, .int b, .int c] ∧ 0 ≤ a ∧ 0 ≤ b ∧ b ≤ 1099511627776 ∧ 0 ≤ c ∧ c + n ≤ 1099511627776
theorem StL.mono {n m : Nat} {xs : List V} (h : StL n xs) (hm : m ≤ n) : StL m xs := by
  obtain ⟨a, b, c, e, h1, h2, h3, h4, h5⟩ := h
  exact ⟨a, b, c, e, h1, h2, h3, h4, by omega⟩
def sp_stream (K : PySem.W.Frag) : Sp := fun vs H Q _ => ∃ (a : Addr) (ns : List Int) (k : Int), vs = [.ref a, .int k] ∧ SqL K H a (ns.map V.int) ∧ ns.length ≤ 63 ∧ 0 ≤ k ∧ k ≤ 100 ∧
  ∀ p xs H', Same H H' → H p = none → H' p = some (.lst xs) → StL 1000000000 xs → Q (.ref p) H'
def sp_draw : Sp := fun vs H Q _ => ∃ (p : Addr) (xs : List V) (n : Nat) (m : Int), vs = [.ref p, .int m] ∧ H p = some (.lst xs) ∧ StL (n + 1) xs ∧ 0 < m ∧ m < 1073741824 ∧
  ∀ d ys, 0 ≤ d → d < m → StL n ys → Q (.int d) (upd H p (.lst ys))
def sp_pick (K : PySem.W.Frag) : Sp := fun vs H Q _ => ∃ (p a : Addr) (xs us : List V) (n : Nat), vs = [.ref p, .ref a] ∧ H p = some (.lst xs) ∧ StL (n + 1) xs ∧ SqL K H a us ∧ SqL K (upd H p (.lst [])) a us ∧ 0 < us.length ∧ us.length < 1073741824 ∧
  ∀ (j : Nat) v ys, us[j]? = some v → StL n ys → Q v (upd H p (.lst ys))
section
variable {P : Program} {w : World} {K : PySem.W.Frag} {mg : Str → Option Value} {base : Heap}
end
end Rd
namespace Rd
open PySem L2
/-- all but p stays -/
def But (p : Addr) (H H' : Hp) : Prop := ∀ b o, b ≠ p → H b = some o → H' b = some o
theorem But.refl {p : Addr} {H : Hp} : But p H H := fun _ _ _ e => e
theorem But.trans {p : Addr} {H H1 H2 : Hp} (a : But p H H1) (b : But p H1 H2) : But p H H2 := fun c o hc h => b c o hc (a c o hc h)
theorem But.of_same {p : Addr} {H H' : Hp} (s : Same H H') : But p H H' := fun b o _ e => s b o e
theorem But.upd {p : Addr} {H : Hp} {o : HO} : But p H (L2.upd H p o) := fun b u hb e => by rw [upd_ne hb]; exact e
theorem But.new {p q : Addr} {H : Hp} {o : HO} (h : H q = none) : But p H (L2.upd H q o) := fun b u hb e => by rw [upd_ne (ne_of_none e h)]; exact e
theorem But.free {p q : Addr} {H H' : Hp} {xs : List V} (s : But p H H') (hp : H' p = some (.lst xs)) (h : H' q = none) : H q = none := by
  cases e : H q with
  | none => rfl
  | some o =>
    have hq : q ≠ p := fun z => by rw [z, hp] at h; cases h
    rw [s q o hq e] at h
    cases h
def imm (C : Addr) : HO → Bool
  | .tup _ => true
  | .ins C' _ _ => C' == C
  | _ => false
/-- tuples and instances of C stay -/
def Kp (C : Addr) (H H' : Hp) : Prop := ∀ b o, imm C o = true → H b = some o → H' b = some o
theorem Kp.refl {C : Addr} {H : Hp} : Kp C H H := fun _ _ _ e => e
theorem Kp.trans {C : Addr} {H H1 H2 : Hp} (a : Kp C H H1) (b : Kp C H1 H2) : Kp C H H2 := fun c o hc h => b c o hc (a c o hc h)
theorem Kp.of_same {C : Addr} {H H' : Hp} (s : Same H H') : Kp C H H' := fun b o _ e => s b o e
theorem But.kp {C p : Addr} {H H' : Hp} {xs : List V} (s : But p H H') (hp : H p = some (.lst xs)) : Kp C H H' := fun b o hi e => s b o (fun z => by
  rw [z, hp] at e
  cases e
  cases hi) e
theorem Kp.upd_lst {C D : Addr} {H : Hp} {xs ys : List V} (h : H D = some (.lst xs)) : Kp C H (L2.upd H D (.lst ys)) := fun b o hi e => by
  have hb : b ≠ D := fun z => by
    rw [z, h] at e
    cases e
    cases hi
  rw [upd_ne hb]
  exact e
/-- [.. for _ in range(..)] with draws -/
theorem lcr_draw {C p D : Addr} {σ : St} {i0 m r n : Nat} {lo : Int} {te : TE} {H1 : Hp} {xs0 : List V} {Qd : Hp → Prop} (good : Hp → V → Prop) (gm : ∀ H H' v, Kp C H H' → good H v → good H' v)
    (hp : H1 p = some (.lst xs0)) (hx : StL (n + r * m) xs0) (hD : H1 D = none) (hm : m ≤ 100000)
    (hte : ∀ (i : Nat) (H : Hp) (xs : List V) (n' : Nat) (Q : VK), i < m → But p H1 H → H p = some (.lst xs) → StL (n' + r) xs → (∀ v H' ys, But p H H' → H' p = some (.lst ys) → StL n' ys → good H' v → Q v H') → te ((wipe σ [i0]).set i0 (some (.int (lo + i)))) H Q)
    (hq : ∀ vs H' ys, But p H1 H' → H' p = some (.lst ys) → StL n ys → H' D = some (.lst vs) → vs.length = m → (∀ v ∈ vs, good H' v) → Qd H') :
    ∃ W : Nat → Nat → Hp → Prop, (∃ k, W 0 k (L2.upd H1 D (.lst []))) ∧ ∀ i k H, W i k H →
      ((Itr lo m).stop i H ∧ Qd H) ∨ ((Itr lo m).go i H ∧ ∃ Nx : Hp → Prop, (∀ H', Nx H' → ∃ k', k' < k ∧ W (i + 1) k' H') ∧ ∀ x H', (Itr lo m).yld i H x H' → gName i0 x (wipe σ [i0]) H' fun σ2 H2 => wipe σ2 [i0] = wipe σ [i0] ∧ tYes σ2 H2 fun b H3 =>
        if b = true then te σ2 H3 fun y H4 => ∃ acc, H4 D = some (.lst acc) ∧ acc.length < sizeLine ∧ Nx (L2.upd H4 D (.lst (acc ++ [y]))) else Nx H3) := by
  have nDp : D ≠ p := fun z => by rw [z, hp] at hD; cases hD
  refine lc_range (fun i H => ∃ vs ys, But p H1 H ∧ H p = some (.lst ys) ∧ StL (n + r * (m - i)) ys ∧ H D = some (.lst vs) ∧ vs.length = i ∧ (∀ v ∈ vs, good H v)) ?_ ?_ ?_
  · refine ⟨[], xs0, But.new hD, by rw [upd_ne (Ne.symm nDp)]; exact hp, hx, upd_same, rfl, fun v hv => by cases hv⟩
  · rintro i H hi ⟨vs, ys, b, hpy, hy, hDv, hl, hg⟩
    have hr : n + r * (m - i) = (n + r * (m - (i + 1))) + r := by
      rw [show m - i = (m - (i + 1)) + 1 by omega, Nat.mul_succ, Nat.add_assoc]
    rw [hr] at hy
    refine ⟨by simp [wipe], hte i H ys _ _ hi b hpy hy fun v H' zs b' hpz hz hv => ⟨vs, b' D _ nDp hDv, ?_, ?_⟩⟩
    · have : 100000 < sizeLine := by decide
      omega
    · have hDv' := b' D _ nDp hDv
      refine ⟨vs ++ [v], zs, fun c o hc e => ?_, by rw [upd_ne (Ne.symm nDp)]; exact hpz, hz, upd_same, by rw [List.length_append, hl]; rfl, fun v' hv' => ?_⟩
      · rw [upd_ne (ne_of_none e hD)]
        exact b' c o hc (b c o hc e)
      · rcases List.mem_append.mp hv' with q | q
        · exact gm _ _ _ ((b'.kp hpy).trans (Kp.upd_lst hDv')) (hg v' q)
        · rw [List.mem_singleton.mp q]
          exact gm _ _ _ (Kp.upd_lst hDv') hv
  · rintro H ⟨vs, ys, b, hpy, hy, hDv, hl, hg⟩
    exact hq vs H ys b hpy (by simpa using hy) hDv hl hg
/-- a table of ints at a drawn place -/
theorem atI_of {us : List V} {d : Int} {m : Nat} (h0 : 0 ≤ d) (h1 : d < m) (hm : m = us.length) : ∃ (j : Nat) (v : V), us[j]? = some v ∧ atI us d = some v := by
  have hj : d.toNat < us.length := by omega
  exact ⟨d.toNat, us[d.toNat], List.getElem?_eq_getElem hj, at_of (j := d.toNat) (by omega) (List.getElem?_eq_getElem hj)⟩
theorem atT_of {z : Str} {d : Int} {m : Nat} (h0 : 0 ≤ d) (h1 : d < m) (hm : m = z.cps.toList.length) : ∃ (c : Nat), c ∈ z.cps.toList ∧ atI z.cps.toList d = some c := by
  have hj : d.toNat < z.cps.toList.length := by omega
  refine ⟨z.cps.toList[d.toNat], List.getElem_mem hj, ?_⟩
  have e : d = ((d.toNat : Nat) : Int) := by omega
  have e2 := atI_nat (xs := z.cps.toList) (j := d.toNat) (List.getElem?_eq_getElem hj)
  rw [← e] at e2
  exact e2
/-- signs as Python has them -/
def okS (z : Str) : Prop := ∀ c ∈ z.cps.toList, c < 1114112
theorem okS_by {z : Str} (h : z.cps.toList.all (fun c => decide (c < 1114112)) = true) : okS z := fun c hc => of_decide_eq_true (List.all_eq_true.mp h c hc)
theorem okS_app {a b : Str} (ha : okS a) (hb : okS b) : okS (a ++ b) := fun c hc => by
  have e : (a ++ b).cps.toList = a.cps.toList ++ b.cps.toList := by
    show (a.cps ++ b.cps).toList = _
    rw [Array.toList_append]
  rw [e] at hc
  exact (List.mem_append.mp hc).elim (ha c) (hb c)
theorem strOk_of {z : Str} (h : okS z) : PySem.PyData.strOk z = true := by
  show z.cps.all (fun c => decide (c < 0x110000)) = true
  rw [Array.all_eq_true']
  intro c hc
  exact decide_eq_true (h c (Array.mem_toList_iff.mpr hc))
/-- a text of these codes -/
def ofC (cs : List Nat) : Str := ⟨cs.toArray⟩
theorem ofC_list (cs : List Nat) : (ofC cs).cps.toList = cs := by show cs.toArray.toList = cs; rw [List.toList_toArray]
def sg1 (c : Nat) : V := .str ⟨#[c]⟩
theorem join_signs : ∀ (cs : List Nat), (Str.join "" (cs.map fun c => (⟨#[c]⟩ : Str))).cps.toList = cs
  | [] => by decide +kernel
  | [a] => rfl
  | a :: b :: r => by
    have e := join_signs (b :: r)
    have e0 : ("" : Str).cps.toList = [] := by decide +kernel
    show (((⟨#[a]⟩ : Str) ++ ("" : Str)) ++ Str.join "" ((b :: r).map fun c => (⟨#[c]⟩ : Str))).cps.toList = _
    rw [app_list, app_list, e, e0]
    rfl
theorem glue_signs (cs : List Nat) : Txt.join "" (cs.map fun c => (⟨#[c]⟩ : Str)) = ofC cs := by
  show Builtin.Str.glued "" _ = _
  rw [PySem.StrLaws.glued_eq_join]
  exact str_ext (by rw [join_signs, ofC_list])
/-- a text drawn: at most r draws, of which Pz holds -/
def sp_tx (r : Nat) (Pz : Str → Prop) : Sp := fun vs H Q _ => ∃ (p : Addr) (xs : List V) (n : Nat), vs = [.ref p] ∧ H p = some (.lst xs) ∧ StL (n + r) xs ∧
  ∀ z ys H', But p H H' → H' p = some (.lst ys) → StL n ys → Pz z → Q (.str z) H'
theorem cods_of {z : Str} : ∀ (vs : List V), (∀ v ∈ vs, ∃ c ∈ z.cps.toList, v = sg1 c) → ∃ cs : List Nat, vs = cs.map sg1 ∧ ∀ c ∈ cs, c ∈ z.cps.toList
  | [], _ => ⟨[], rfl, fun c hc => nomatch hc⟩
  | v :: r, h => by
    obtain ⟨c, hc, rfl⟩ := h v List.mem_cons_self
    obtain ⟨cs, rfl, h2⟩ := cods_of r fun v hv => h v (List.mem_cons_of_mem _ hv)
    exact ⟨c :: cs, rfl, fun c' hc' => (List.mem_cons.mp hc').elim (fun e => e ▸ hc) (h2 c')⟩
theorem sum_signs (cs : List Nat) : ((cs.map fun c => (⟨#[c]⟩ : Str)).map (·.length)).sum = cs.length := by
  induction cs with
  | nil => rfl
  | cons a r ih =>
    rw [List.map_cons, List.map_cons, List.sum_cons, ih, List.length_cons]
    show 1 + r.length = _
    omega
def smallV (lo l : Nat) : V → Bool
  | .int i => decide ((lo : Int) ≤ i) && decide (i ≤ l)
  | _ => false
theorem small_of {us : List V} {v : V} {lo l : Nat} (h : v ∈ us) (ha : us.all (smallV lo l) = true) : ∃ m : Nat, v = V.int m ∧ lo ≤ m ∧ m ≤ l := by
  have h1 := List.all_eq_true.mp ha v h
  cases v with
  | int i =>
    obtain ⟨h2, h3⟩ := He.ba (show (decide ((lo : Int) ≤ i) && decide (i ≤ l)) = true from h1)
    have h4 := of_decide_eq_true h2
    have h5 := of_decide_eq_true h3
    exact ⟨i.toNat, by rw [Int.toNat_of_nonneg (by omega)], by omega, by omega⟩
  | _ => cases h1
/-- [..][draw] : an item of a written list at a drawn place -/
theorem rd_tab {K : PySem.W.Frag} {us : List V} {t : TA} {σ : St} {i m n : Nat} {p : Addr} {xs : List V} {H : Hp} {Q : VK} (ht : ∀ (H : Hp) (Q' : List V → Hp → Prop), Q' us H → t σ H Q') (hi : σ[i]? = some (some (.ref p))) (hp : H p = some (.lst xs)) (hx : StL (n + 1) xs)
    (hm : us.length = m) (h0 : 0 < m) (hb : m ≤ 1000) (k : ∀ v H' ys, v ∈ us → But p H H' → H' p = some (.lst ys) → StL n ys → Q v H') : tOp (rIxL K) (tLst t) (tCall sp_draw [] E0 (tCons (tVar i) (tCons (tC (V.int m)) tNil))) σ H Q := by
  have hl : 1000 ≤ sizeLine := by decide
  refine ht _ _ ⟨by omega, fun q hq => ⟨_, hi, p, xs, n, (m : Int), rfl, ?_, hx, by omega, by omega, fun d ys hd0 hd1 hy => ?_⟩⟩
  · rw [upd_ne (ne_of_none hp hq)]
    exact hp
  · obtain ⟨j, v, hv, ha⟩ := atI_of (us := us) (m := m) hd0 hd1 hm.symm
    refine ⟨q, us, d, v, rfl, rfl, SqL.of ?_, ha, k v _ ys (List.mem_of_getElem? hv) ((But.new hq).trans But.upd) upd_same hy⟩
    rw [upd_ne (Ne.symm (ne_of_none hp hq)), upd_same]
/-- draw(many) -/
theorem rd_draw {σ : St} {i m n : Nat} {p : Addr} {xs : List V} {H : Hp} {Q : VK} (hi : σ[i]? = some (some (.ref p))) (hp : H p = some (.lst xs)) (hx : StL (n + 1) xs) (h0 : 0 < m) (hb : m ≤ 1000)
    (k : ∀ (d : Nat) H' ys, d < m → But p H H' → H' p = some (.lst ys) → StL n ys → Q (.int d) H') : tCall sp_draw [] E0 (tCons (tVar i) (tCons (tC (V.int m)) tNil)) σ H Q := by
  refine ⟨_, hi, p, xs, n, (m : Int), rfl, hp, hx, by omega, by omega, fun d ys hd0 hd1 hy => ?_⟩
  obtain ⟨e, rfl⟩ := Int.eq_ofNat_of_zero_le hd0
  exact k e _ ys (by omega) But.upd upd_same hy
theorem rd_sign {σ : St} {i m n : Nat} {z : Str} {p : Addr} {xs : List V} {H : Hp} {Q : VK} (hi : σ[i]? = some (some (.ref p))) (hp : H p = some (.lst xs)) (hx : StL (n + 1) xs) (hm : z.cps.toList.length = m) (h0 : 0 < m) (hb : m ≤ 1000)
    (k : ∀ (c : Nat) H' ys, c ∈ z.cps.toList → But p H H' → H' p = some (.lst ys) → StL n ys → Q (.str ⟨#[c]⟩) H') : tOp rIxS (tC (.str z)) (tCall sp_draw [] E0 (tCons (tVar i) (tCons (tC (V.int m)) tNil))) σ H Q := by
  refine rd_draw hi hp hx h0 hb fun d H' ys hd b hp' hy => ?_
  obtain ⟨c, hc, ha⟩ := atT_of (z := z) (d := (d : Int)) (m := m) (by omega) (by omega) hm.symm
  have hl : 1000 ≤ sizeLine := by decide
  have hz : z.length = m := by rw [← hm, Array.length_toList]; rfl
  exact ⟨z, _, c, rfl, rfl, by omega, ha, k c H' ys hc b hp' hy⟩
/-- ['..'[draw(M)] for _ in range(m)] -/
theorem rd_signs {σ : St} {i i0 m M n : Nat} {lo : Int} {z : Str} {p D : Addr} {xs : List V} {H1 : Hp} {Qd : Hp → Prop} (hi : ∀ x, ((wipe σ [i0]).set i0 (some x))[i]? = some (some (.ref p))) (hp : H1 p = some (.lst xs)) (hx : StL (n + m) xs) (hD : H1 D = none) (hm : m ≤ 1000)
    (hM : z.cps.toList.length = M) (h0 : 0 < M) (hb : M ≤ 1000)
    (k : ∀ (cs : List Nat) H' ys, But p H1 H' → H' p = some (.lst ys) → StL n ys → H' D = some (.lst (cs.map sg1)) → cs.length = m → (∀ c ∈ cs, c ∈ z.cps.toList) → Qd H') :
    ∃ W : Nat → Nat → Hp → Prop, (∃ k, W 0 k (L2.upd H1 D (.lst []))) ∧ ∀ j k H, W j k H →
      ((Itr lo m).stop j H ∧ Qd H) ∨ ((Itr lo m).go j H ∧ ∃ Nx : Hp → Prop, (∀ H', Nx H' → ∃ k', k' < k ∧ W (j + 1) k' H') ∧ ∀ x H', (Itr lo m).yld j H x H' → gName i0 x (wipe σ [i0]) H' fun σ2 H2 => wipe σ2 [i0] = wipe σ [i0] ∧ tYes σ2 H2 fun b H3 =>
        if b = true then (tOp rIxS (tC (.str z)) (tCall sp_draw [] E0 (tCons (tVar i) (tCons (tC (V.int M)) tNil)))) σ2 H3 fun y H4 => ∃ acc, H4 D = some (.lst acc) ∧ acc.length < sizeLine ∧ Nx (L2.upd H4 D (.lst (acc ++ [y]))) else Nx H3) := by
  refine lcr_draw (C := 0) (r := 1) (n := n) (fun _ v => ∃ c ∈ z.cps.toList, v = sg1 c) (fun _ _ _ _ h => h) hp (by rw [Nat.one_mul]; exact hx) hD (by omega) (fun j H2 zs n' Q2 hj b hz hsz kq => ?_) (fun vs H2 zs b hz hsz hDv hl hg => ?_)
  · exact rd_sign (hi _) hz hsz hM h0 hb fun c H' ys hc b' hp' hy => kq _ _ ys b' hp' hy ⟨c, hc, rfl⟩
  · obtain ⟨cs, rfl, ho⟩ := cods_of vs hg
    rw [List.length_map] at hl
    exact k cs H2 zs b hz hsz hDv hl ho
theorem allIn {s : Str} {cs : List Nat} (h : ∀ c ∈ cs, c ∈ s.cps.toList) : cs.all (inS s) = true := List.all_eq_true.mpr fun c hc => decide_eq_true (h c hc)
theorem word_of {cs : List Nat} (h1 : 1 ≤ cs.length) (h8 : cs.length ≤ 8) (h : ∀ c ∈ cs, c ∈ SMALL.cps.toList) : isWord (ofC cs) = true := by
  have e : (ofC cs).length = cs.length := by rw [len_list, ofC_list]
  rw [isWord, e, ofC_list, allIn h, decide_eq_true h1, decide_eq_true h8]
  rfl
theorem name_of {as ds : List Nat} (h1 : 1 ≤ as.length) (h8 : as.length + ds.length ≤ 8) (ha : ∀ c ∈ as, c ∈ GREAT.cps.toList) (hd : ∀ c ∈ ds, c ∈ DIGITS.cps.toList) : isName (ofC (as ++ ds)) = true := by
  have e : (ofC (as ++ ds)).length = as.length + ds.length := by rw [len_list, ofC_list, List.length_append]
  have fA : as.filter (inS GREAT) = as := List.filter_eq_self.mpr fun c hc => decide_eq_true (ha c hc)
  have fB : ds.filter (inS GREAT) = [] := List.filter_eq_nil_iff.mpr fun c hc q => by rw [disj2 (decide_eq_true (hd c hc))] at q; cases q
  have key := (name_iff (as ++ ds)).mpr (by
    rw [List.filter_append, fA, fB, List.append_nil, List.take_append_of_le_length (Nat.le_refl _), List.take_length, List.drop_append_of_le_length (Nat.le_refl _), List.drop_length, List.nil_append]
    exact ⟨⟨h1, allIn ha⟩, allIn hd⟩)
  rw [isName, e, decide_eq_true h8, len_list, rstrip_list, ofC_list, key.2, decide_eq_true key.1]
  rfl
theorem word_noname {z : Str} (h : isName z = true) : isWord z = false := by
  cases e : isWord z with
  | false => rfl
  | true =>
    obtain ⟨h1, h2⟩ := He.ba h
    obtain ⟨h3, h4⟩ := He.ba h2
    have h1' := of_decide_eq_true h1
    rw [len_list, rstrip_list] at h1'
    rw [rstrip_list] at h4
    obtain ⟨⟨a1, a2⟩, a3⟩ := (name_iff z.cps.toList).mp ⟨h1', h4⟩
    obtain ⟨w1, w2⟩ := He.ba e
    obtain ⟨w3, w4⟩ := He.ba w2
    obtain ⟨c, hc⟩ := List.exists_mem_of_length_pos a1
    rw [List.mem_filter] at hc
    have s1 := List.all_eq_true.mp w4 c hc.1
    have dj : GREAT.cps.toList.all (fun c => !inS SMALL c) = true := by decide +kernel
    have s2 := List.all_eq_true.mp dj c (of_decide_eq_true hc.2)
    rw [s1] at s2
    cases s2
theorem word_len {z : Str} (h : isWord z = true) : 1 ≤ z.length ∧ z.length ≤ 8 ∧ okS z := by
  obtain ⟨h1, h2⟩ := He.ba h
  obtain ⟨h3, h4⟩ := He.ba h2
  have dj : SMALL.cps.toList.all (fun c => decide (c < 1114112)) = true := by decide +kernel
  exact ⟨of_decide_eq_true h1, of_decide_eq_true h3, fun c hc => of_decide_eq_true (List.all_eq_true.mp dj c (of_decide_eq_true (List.all_eq_true.mp h4 c hc)))⟩
theorem name_len {z : Str} (h : isName z = true) : z.length ≤ 8 ∧ okS z := by
  obtain ⟨h1, h2⟩ := He.ba h
  obtain ⟨h3, h4⟩ := He.ba h2
  have h1' := of_decide_eq_true h1
  rw [len_list, rstrip_list] at h1'
  rw [rstrip_list] at h4
  obtain ⟨⟨a1, a2⟩, a3⟩ := (name_iff z.cps.toList).mp ⟨h1', h4⟩
  have dj : GREAT.cps.toList.all (fun c => decide (c < 1114112)) = true := by decide +kernel
  have dk : DIGITS.cps.toList.all (fun c => decide (c < 1114112)) = true := by decide +kernel
  refine ⟨of_decide_eq_true h3, fun c hc => ?_⟩
  rw [← List.take_append_drop (z.cps.toList.filter (inS GREAT)).length z.cps.toList] at hc
  rcases List.mem_append.mp hc with q | q
  · exact of_decide_eq_true (List.all_eq_true.mp dj c (of_decide_eq_true (List.all_eq_true.mp a2 c q)))
  · exact of_decide_eq_true (List.all_eq_true.mp dk c (of_decide_eq_true (List.all_eq_true.mp a3 c q)))
section
variable {P : Program} {w : World} {K : PySem.W.Frag} {mg : Str → Option Value} {base : Heap}
end
end Rd
namespace Rd
open PySem L2
/-! ### forms -/
inductive Tr where
  | am (k x : Str)
  | un (s : Str) (a : Tr)
  | bi (s : Str) (a b : Tr)
  deriving DecidableEq
def Tr.dep : Tr → Nat
  | .am _ _ => 0
  | .un _ a => a.dep + 1
  | .bi _ a b => max a.dep b.dep + 1
def Tr.nod : Tr → Nat
  | .am _ _ => 0
  | .un _ a => a.nod + 1
  | .bi _ a b => a.nod + b.nod + 1
/-- how large a drawn form is -/
def Tr.unkIn (us : List V) : Tr → Prop
  | .am k x => k = "unknown" → V.str x ∈ us
  | .un _ a => a.unkIn us
  | .bi _ a b => a.unkIn us ∧ b.unkIn us
def dpN (d : Nat) (us : List V) (t : Tr) : Prop := t.dep ≤ 2 * d ∧ t.nod + 2 ≤ 2 ^ (d + 1) ∧ t.unkIn us
theorem dpN.am {d : Nat} {us : List V} {k x : Str} (h : k = "unknown" → V.str x ∈ us) : dpN d us (.am k x) := by
  refine ⟨Nat.zero_le _, ?_, h⟩
  show 0 + 2 ≤ 2 ^ (d + 1)
  rw [Nat.pow_succ]
  have := Nat.pow_pos (n := d) (show 0 < 2 by decide)
  omega
theorem dpN.un {d : Nat} {us : List V} {s : Str} {a : Tr} (h : dpN d us a) : dpN (d + 1) us (.un s a) := by
  obtain ⟨h1, h2, h3⟩ := h
  have e : 2 ^ (d + 1 + 1) = 2 * 2 ^ (d + 1) := by rw [Nat.pow_succ]; omega
  refine ⟨?_, ?_, h3⟩
  · show a.dep + 1 ≤ 2 * (d + 1)
    omega
  · show a.nod + 1 + 2 ≤ 2 ^ (d + 1 + 1)
    omega
theorem dpN.bi {d : Nat} {us : List V} {s : Str} {a b : Tr} (h : dpN d us a) (g : dpN d us b) : dpN (d + 1) us (.bi s a b) := by
  obtain ⟨h1, h2, h3⟩ := h
  obtain ⟨g1, g2, g3⟩ := g
  have e : 2 ^ (d + 1 + 1) = 2 * 2 ^ (d + 1) := by rw [Nat.pow_succ]; omega
  refine ⟨?_, ?_, h3, g3⟩
  · show max a.dep b.dep + 1 ≤ 2 * (d + 1)
    omega
  · show a.nod + b.nod + 1 + 2 ≤ 2 ^ (d + 1 + 1)
    omega
theorem dpN.lk {d : Nat} {us : List V} {s s' : Str} {a b : Tr} (h : dpN d us a) (g : dpN d us b) : dpN (d + 1) us (.bi s a (.un s' b)) := by
  obtain ⟨h1, h2, h3⟩ := h
  obtain ⟨g1, g2, g3⟩ := g
  have e : 2 ^ (d + 1 + 1) = 2 * 2 ^ (d + 1) := by rw [Nat.pow_succ]; omega
  refine ⟨?_, ?_, h3, g3⟩
  · show max a.dep (b.dep + 1) + 1 ≤ 2 * (d + 1)
    omega
  · show a.nod + (b.nod + 1) + 1 + 2 ≤ 2 ^ (d + 1 + 1)
    omega
def kindOk (k x : Str) : Prop := (k = "word" ∧ isWord x = true) ∨ (k = "name" ∧ isName x = true) ∨ (k = "unknown" ∧ isUnk x = true)
inductive Wf : Tr → Prop
  | am {k x : Str} : kindOk k x → Wf (.am k x)
  | un {s : Str} {a : Tr} : s ∈ (["mark", "open", "own"] : List Str) → Wf a → Wf (.un s a)
  | bi {s : Str} {a b : Tr} : s ∈ (["pair", "seal"] : List Str) → Wf a → Wf b → Wf (.bi s a b)
  | lk {s : Str} {a b : Tr} : s ∈ (["open", "own"] : List Str) → Wf a → Wf b → Wf (.bi "lock" a (.un s b))
def IsT (H : Hp) : Tr → V → Prop
  | .am k x, v => ∃ p, v = .ref p ∧ H p = some (.tup [.str k, .str x])
  | .un s a, v => ∃ p u, v = .ref p ∧ H p = some (.tup [.str s, u]) ∧ IsT H a u
  | .bi s a b, v => ∃ p u1 u2, v = .ref p ∧ H p = some (.tup [.str s, u1, u2]) ∧ IsT H a u1 ∧ IsT H b u2
theorem IsT.mono {C : Addr} {H H' : Hp} (k : Kp C H H') : ∀ {t : Tr} {v : V}, IsT H t v → IsT H' t v
  | .am _ _, _, ⟨p, e, h⟩ => ⟨p, e, k p _ rfl h⟩
  | .un _ _, _, ⟨p, u, e, h, h1⟩ => ⟨p, u, e, k p _ rfl h, IsT.mono k h1⟩
  | .bi _ _ _, _, ⟨p, u1, u2, e, h, h1, h2⟩ => ⟨p, u1, u2, e, k p _ rfl h, IsT.mono k h1, IsT.mono k h2⟩
theorem IsT.same {H H' : Hp} {t : Tr} {v : V} (s : Same H H') (h : IsT H t v) : IsT H' t v := h.mono (C := 0) (Kp.of_same s)
theorem IsT.but {p : Addr} {H H' : Hp} {xs : List V} {t : Tr} {v : V} (s : But p H H') (hp : H p = some (.lst xs)) (h : IsT H t v) : IsT H' t v := h.mono (C := 0) (s.kp hp)
theorem IsT.ref {H : Hp} {t : Tr} {v : V} (h : IsT H t v) : ∃ p, v = .ref p := by
  cases t with
  | am k x => obtain ⟨p, e, _⟩ := h; exact ⟨p, e⟩
  | un s a => obtain ⟨p, u, e, _⟩ := h; exact ⟨p, e⟩
  | bi s a b => obtain ⟨p, u, u2, e, _⟩ := h; exact ⟨p, e⟩
/-- a form drawn -/
def unkL (us : List V) : Prop := us.length ≤ 100 ∧ ∀ v ∈ us, ∃ z : Str, v = .str z ∧ isUnk z = true
theorem unk_len {z : Str} (h : isUnk z = true) : z.length ≤ 7 ∧ 1 ≤ z.length ∧ okS z := by
  obtain ⟨h1, h2⟩ := He.ba h
  obtain ⟨a, b, c⟩ := word_len h1
  exact ⟨of_decide_eq_true h2, a, c⟩
def unkB : V → Bool
  | .str z => isUnk z
  | _ => false
theorem unkL_by {us : List V} (hl : us.length ≤ 100) (h : us.all unkB = true) : unkL us := ⟨hl, fun v hv => by
  have h1 := List.all_eq_true.mp h v hv
  cases v with
  | str z => exact ⟨z, rfl, h1⟩
  | _ => cases h1⟩
theorem dpL {K : PySem.W.Frag} {H : Hp} : ∀ (us : List V), (∀ v ∈ us, ∃ z : Str, v = .str z ∧ isUnk z = true) → ∃ ds : List PyData, DpAll K H us ds ∧ ds.length = us.length ∧ PySem.PyData.canLayAll0 ds = true ∧ PySem.PyData.depthAll ds = 0
  | [], _ => ⟨[], .nil, rfl, rfl, rfl⟩
  | v :: r, h => by
    obtain ⟨z, rfl, hz⟩ := h v List.mem_cons_self
    obtain ⟨ds, h1, h2, h3, h4⟩ := dpL (K := K) (H := H) r fun v hv => h v (List.mem_cons_of_mem _ hv)
    refine ⟨.str z :: ds, .cons (.str z) h1, by rw [List.length_cons, h2]; rfl, ?_, ?_⟩
    · show (PySem.PyData.strOk z && PySem.PyData.canLayAll0 ds) = true
      rw [strOk_of (unk_len hz).2.2, h3]
      rfl
    · show max 0 (PySem.PyData.depthAll ds) = 0
      rw [h4]
      rfl
def sp_atom : Sp := fun vs H Q _ => ∃ (p u : Addr) (xs us : List V) (n : Nat), vs = [.ref p, .ref u] ∧ H p = some (.lst xs) ∧ StL (n + 30) xs ∧ u ≠ p ∧ H u = some (.lst us) ∧ unkL us ∧
  ∀ k x v ys H', But p H H' → H' p = some (.lst ys) → StL n ys → kindOk k x → (k = "unknown" → V.str x ∈ us) → IsT H' (.am k x) v → Q v H'
def dr (d : Nat) : Nat := 40 * 3 ^ d
def sp_drawnForm (d : Nat) : Sp := fun vs H Q _ => ∃ (p u : Addr) (xs us : List V) (n : Nat), vs = [.ref p, .ref u, .int d] ∧ H p = some (.lst xs) ∧ StL (n + dr d) xs ∧ u ≠ p ∧ H u = some (.lst us) ∧ unkL us ∧
  ∀ t v ys H', But p H H' → H' p = some (.lst ys) → StL n ys → Wf t → dpN d us t → IsT H' t v → Q v H'
/-- the promise at recursive calls of a form at most d deep -/
def spR : Nat → Sp
  | 0 => fun _ _ _ _ => False
  | d + 1 => sp_drawnForm d
/-- pick(stream, [..]) -/
theorem rd_pick {K : PySem.W.Frag} {p a : Addr} {xs us : List V} {n : Nat} {H : Hp} {Q : VK} (hp : H p = some (.lst xs)) (hx : StL (n + 1) xs) (ha : H a = some (.lst us)) (ne : a ≠ p) (h0 : 0 < us.length) (h1 : us.length ≤ 1000)
    (k : ∀ v H' ys, v ∈ us → But p H H' → H' p = some (.lst ys) → StL n ys → Q v H') : sp_pick K [.ref p, .ref a] H Q E0 :=
  ⟨p, a, xs, us, n, rfl, hp, hx, SqL.of ha, SqL.of (by rw [upd_ne ne]; exact ha), h0, by omega, fun j v ys hv hy => k v _ ys (List.mem_of_getElem? hv) But.upd upd_same hy⟩
def strIn (l : List Str) : V → Bool
  | .str z => decide (z ∈ l)
  | _ => false
theorem str_of {us : List V} {v : V} {l : List Str} (h : v ∈ us) (ha : us.all (strIn l) = true) : ∃ z : Str, v = V.str z ∧ z ∈ l := by
  have h1 := List.all_eq_true.mp ha v h
  cases v with
  | str z => exact ⟨z, rfl, of_decide_eq_true h1⟩
  | _ => cases h1
theorem eqv_nil (ds : List PyData) : PyData.eqv (.list ds) (.list []) = ds.isEmpty := by cases ds <;> rfl
end Rd
namespace Rd
open PySem L2
section
variable {P : Program} {w : World} {K : PySem.W.Frag} {mg : Str → Option Value} {base : Heap}
abbrev s_BadAtom_init : Stmt := inClass (top 3) 0
theorem sc_BadAtom_init : FnScope ["self", "text"] ["self", "text"] (defScope s_BadAtom_init) := ⟨rfl, rfl, rfl, by decide +kernel, rfl, by decide +kernel, by decide +kernel⟩
theorem ok_BadAtom (T : Tx w K mg) : Fm P w K mg base CX0 1 "BadAtom" "__init__" ["self", "text"] (spX1 K "text") := by
  refine T.X_BadAtom.init.ok0 sc_BadAtom_init (fun _ _ _ _ _ _ us hl => match us, hl with | [_, _], _ => rfl)
    (fun vs H Q E h => ?_) (fun cdv A outer s H vs Q E hr h => ?_)
  · obtain ⟨a, C, v, rfl, _⟩ := h
    rfl
  · obtain ⟨a, C, v, rfl, TC, no, ha, k⟩ := h
    refine ⟨_, (pss_cons (ps_expr (pe_reinit rfl T.g_RoadError T.r_RoadError (pa_cons (pv 0) (pa_cons pe_str pa_nil))))
  (pss_one (ps_ost (pv 0) (pv 1)))), ?_⟩
    refine ⟨_, rfl, a, C, [.str "no atom"], rfl, (by show 1 ≤ 1000; decide), TC, ha, _, rfl, _, rfl, a, C, rfl, TC, no, .inl ⟨ha, fun dx hdx ne => k dx hdx ne⟩⟩
/-- Letter(text), Letter("", tree) -/
def sp_Linit (K : PySem.W.Frag) : Sp := fun vs H Q E => ∃ (x dx : Addr) (z : Str) (v : V), vs = [.ref x, .str z, v] ∧ H x = some (.ins (He.ga K "Letter") dx []) ∧
  ((v ≠ .non ∧ Q .non (upd H x (.ins (He.ga K "Letter") dx [("tree", v)]))) ∨
   (v = .non ∧ z.length ≤ 200000 ∧ (∀ k y p H', But x H H' → atomOf z = some (k, y) → H p = none → H' p = some (.tup [.str k, .str y]) → H' x = some (.ins (He.ga K "Letter") dx [("tree", .ref p)]) → Q .non H') ∧
     ∀ d H', But x H H' → atomOf z = none → H d = none → H' d = some (.xd [("text", .str z)]) → E (.ref (He.ga K "BadAtom")) (some d) H'))
theorem look1 (v : V) : ([("tree", v)] : List (Str × V)).lookup ("tree" : Str) = some v := by simp [List.lookup]
theorem putTree (v u : V) : putF "tree" u ([("tree", v)] : List (Str × V)) = ([("tree", u)] : List (Str × V)) := by
  show (if ("tree" : Str) = "tree" then ([(("tree" : Str), u)] : List (Str × V)) else _) = _
  rw [if_pos rfl]
abbrev s_Letter_init : Stmt := inClass (top 26) 0
theorem sc_Letter_init : FnScope ["self", "atom", "tree"] ["self", "atom", "tree"] (defScope s_Letter_init) := ⟨rfl, rfl, rfl, by decide +kernel, rfl, by decide +kernel, by decide +kernel⟩
theorem ok_Letter (T : Tx w K mg) : Fi P w K mg base (L2N.CX P w) 4 "Letter" ["self", "atom", "tree"] (sp_Linit K) .non := by
  refine T.I_Letter.ok (n := 2) sc_Letter_init rfl (fun _ _ _ _ _ _ _ us its hu hi => match us, its, hu, hi with | [_, _], [_], _, _ => ⟨_, rfl, rfl⟩) (fun _ _ _ _ _ _ _ us its hu hi => match us, its, hu, hi with | [_, _, _], [_], _, _ => ⟨_, rfl, rfl⟩)
    (fun vs H Q E h => ?_) (fun cdv A outer s H vs Q E hr h => ?_)
  · obtain ⟨x, dx, z, v, rfl, _⟩ := h
    rfl
  · obtain ⟨x, dx, z, v, rfl, hx, hv⟩ := h
    refine ⟨_, (pss_cons (ps_fld (pv 0) (pv 2) rfl)
  (pss_one (ps_if (pt_cmpR op_isN (pv 2) pe_non (nomark _))
  (pss_cons (ps_fld (pv 0) (pe_fk (ok_atom_tree T) (hr.mono (by omega)) rfl pass0 (pa_cons (pv 1) pa_nil)) rfl)
  (pss_one (ps_if (pt_cmpR op_isN (pe_fld (pv 0) rfl) pe_non (nomark _))
  (pss_one (L2N.ps_raise rfl (L2N.takes_of rfl rfl rfl rfl) (pmk_xN T.X_BadAtom (ok_BadAtom T) (hr.mono (by omega)) rfl (pa_cons (pv 1) pa_nil))))
  pss_nil)))
  pss_nil))), ?_⟩
    refine ⟨_, rfl, _, rfl, x, _, dx, [], rfl, hx, T.k_Letter, T.n_Letter_tree, (by show 0 < 1000; decide), ?_⟩
    refine ⟨_, rfl, rfl, _, rfl, ?_⟩
    rcases hv with ⟨hne, q⟩ | ⟨rfl, hz, k1, k0⟩
    · exact ite2 (fun h => absurd (of_decide_eq_true h) hne) (fun _ => q)
    refine ite2 (fun _ => ?_) (fun h => absurd (decide_eq_true rfl) h)
    have b0 : But x H (upd H x (.ins (He.ga K "Letter") dx [("tree", .non)])) := But.upd
    refine ⟨_, rfl, z, rfl, hz, fun H1 s1 en => ?_, fun k y p H1 s1 es hp hp1 => ?_⟩
    · have hx1 : H1 x = some (.ins (He.ga K "Letter") dx [("tree", .non)]) := s1 x _ upd_same
      refine ⟨_, rfl, x, _, dx, _, rfl, hx1, T.k_Letter, T.n_Letter_tree, (by show 1 < 1000; decide), ?_⟩
      refine ⟨_, rfl, x, _, dx, _, .non, rfl, upd_same, T.k_Letter, T.n_Letter_tree, (by rw [putTree]; exact look1 _), rfl, _, rfl, ite2 (fun _ => ?_) (fun h => absurd (decide_eq_true rfl) h)⟩
      refine ⟨_, rfl, rd_raise1 T.X_BadAtom.oex T.X_BadAtom.no fun d H' s' nd hd => k0 d H' ?_ en ?_ hd⟩
      · exact ((b0.trans (But.of_same s1)).trans But.upd).trans (But.of_same s')
      · have nx : d ≠ x := fun e => by rw [e, upd_same] at nd; cases nd
        rw [upd_ne nx] at nd
        have n2 := s1.free nd
        rw [upd_ne nx] at n2
        exact n2
    · have hx1 : H1 x = some (.ins (He.ga K "Letter") dx [("tree", .non)]) := s1 x _ upd_same
      have npx : p ≠ x := fun e => by rw [e, hx1] at hp1; cases hp1
      refine ⟨_, rfl, x, _, dx, _, rfl, hx1, T.k_Letter, T.n_Letter_tree, (by show 1 < 1000; decide), ?_⟩
      refine ⟨_, rfl, x, _, dx, _, .ref p, rfl, upd_same, T.k_Letter, T.n_Letter_tree, (by rw [putTree]; exact look1 _), rfl, _, rfl, ite2 (fun h => absurd (of_decide_eq_true h) (fun e => by cases e)) (fun _ => ?_)⟩
      refine k1 k y p _ ((b0.trans (But.of_same s1)).trans But.upd) es ?_ (by rw [upd_ne npx]; exact hp1) (by rw [upd_same, putTree])
      rw [upd_ne npx] at hp
      exact hp
/-- an atom's form -/
def IsAtm (H : Hp) (v : V) (k x : Str) : Prop := ∃ p, v = .ref p ∧ H p = some (.tup [.str k, .str x])
abbrev s_Letter_form : Stmt := inClass (top 26) 3
theorem sc_Letter_form : FnScope ["self"] ["self"] (defScope s_Letter_form) := ⟨rfl, rfl, rfl, by decide +kernel, rfl, by decide +kernel, by decide +kernel⟩
/-- a letter at a: its field -/
def IsL (K : PySem.W.Frag) (H : Hp) (a : Addr) (v : V) : Prop := ∃ dx, H a = some (.ins (He.ga K "Letter") dx [("tree", v)])
def sp_form (K : PySem.W.Frag) : Sp := fun vs H Q _ => ∃ (a : Addr) (v : V), vs = [.ref a] ∧ IsL K H a v ∧ Q v H
theorem ok_form (T : Tx w K mg) : Fm P w K mg base CX0 1 "Letter" "form" ["self"] (sp_form K) := by
  refine T.M_Letter_form.ok0 sc_Letter_form (fun _ _ _ _ _ _ us hl => match us, hl with | [_], _ => rfl)
    (fun vs H Q E h => ?_) (fun cdv A outer s H vs Q E hr h => ?_)
  · obtain ⟨a, v, rfl, _⟩ := h
    rfl
  · obtain ⟨a, v, rfl, ⟨dx, ha⟩, k⟩ := h
    refine ⟨_, (pss_one (ps_ret (pe_fld (pv 0) rfl))), ?_⟩
    exact ⟨_, rfl, a, _, dx, _, v, rfl, ha, T.k_Letter, T.n_Letter_tree, look1 _, k⟩
end
end Rd
namespace Rd
open PySem L2
theorem lookT {m : Str} {v : V} (h : (m == ("tree" : Str)) = false) : ([("tree", v)] : List (Str × V)).lookup m = none := by simp [List.lookup, h]
theorem lookX {f : Str} (v : V) : ([(f, v)] : List (Str × V)).lookup f = some v := by simp [List.lookup]
theorem IsL.mono {K : PySem.W.Frag} {H H' : Hp} {a : Addr} {v : V} (k : Kp (He.ga K "Letter") H H') (h : IsL K H a v) : IsL K H' a v := by
  obtain ⟨dx, e⟩ := h
  exact ⟨dx, k a _ (by show ((He.ga K "Letter") == (He.ga K "Letter")) = true; exact beq_self_eq_true _) e⟩
theorem IsL.same {K : PySem.W.Frag} {H H' : Hp} {a : Addr} {v : V} (k : Same H H') (h : IsL K H a v) : IsL K H' a v := h.mono (Kp.of_same k)
/-- a letter with a form -/
def IsLet (K : PySem.W.Frag) (H : Hp) (t : Tr) (v : V) : Prop := ∃ a u, v = .ref a ∧ IsL K H a u ∧ IsT H t u
theorem IsLet.mono {K : PySem.W.Frag} {H H' : Hp} {t : Tr} {v : V} (k : Kp (He.ga K "Letter") H H') (h : IsLet K H t v) : IsLet K H' t v := by
  obtain ⟨a, u, e, h1, h2⟩ := h
  exact ⟨a, u, e, h1.mono k, h2.mono k⟩
theorem IsLet.same {K : PySem.W.Frag} {H H' : Hp} {t : Tr} {v : V} (k : Same H H') (h : IsLet K H t v) : IsLet K H' t v := h.mono (Kp.of_same k)
def Tr.head : Tr → Str
  | .am k _ => k
  | .un s _ => s
  | .bi s _ _ => s
def isKey (t : Tr) : Bool := decide (t.head ∈ (["open", "own"] : List Str))
theorem IsT.hd {H : Hp} {t : Tr} {v : V} (h : IsT H t v) : ∃ p us, v = .ref p ∧ H p = some (.tup (.str t.head :: us)) := by
  cases t with
  | am k x => obtain ⟨p, e, h⟩ := h; exact ⟨p, _, e, h⟩
  | un s a => obtain ⟨p, u, e, h, _⟩ := h; exact ⟨p, _, e, h⟩
  | bi s a b => obtain ⟨p, u, u2, e, h, _⟩ := h; exact ⟨p, _, e, h⟩
/-- a sign of two letters, of one -/
def sp_bin (K : PySem.W.Frag) (s : Str) : Sp := fun vs H Q _ => ∃ (a b : Addr) (u1 u2 : V), vs = [.ref a, .ref b] ∧ IsL K H a u1 ∧ IsL K H b u2 ∧
  ∀ x q H', Same H H' → IsL K H' x (.ref q) → H' q = some (.tup [.str s, u1, u2]) → Q (.ref x) H'
def sp_one (K : PySem.W.Frag) (s : Str) : Sp := fun vs H Q _ => ∃ (a : Addr) (u1 : V), vs = [.ref a] ∧ IsL K H a u1 ∧
  ∀ x q H', Same H H' → IsL K H' x (.ref q) → H' q = some (.tup [.str s, u1]) → Q (.ref x) H'
def sp_xor (K : PySem.W.Frag) : Sp := fun vs H Q E => ∃ (a b : Addr) (u1 u2 : V) (t2 : Tr), vs = [.ref a, .ref b] ∧ IsL K H a u1 ∧ IsL K H b u2 ∧ IsT H t2 u2 ∧
  (isKey t2 = true → ∀ x q H', Same H H' → IsL K H' x (.ref q) → H' q = some (.tup [.str "lock", u1, u2]) → Q (.ref x) H') ∧
  (isKey t2 = false → ∀ d H', Same H H' → H' d = some (.xd [("key", .ref b)]) → E (.ref (He.ga K "BadKey")) (some d) H')
/-- Letter("", tree) behind its arguments -/
theorem rd_mkL {K : PySem.W.Frag} {H1 : Hp} {q : Addr} {Q : VK} {E : XK} {xs : List V} (hq : H1 q = some (.tup xs))
    (k : ∀ x H', Same H1 H' → IsL K H' x (.ref q) → Q (.ref x) H') :
    ∀ x dx, H1 x = none → H1 dx = none → dx ≠ x → sp_Linit K (.ref x :: ([.str "", .ref q] ++ [])) (upd (upd H1 dx (.own x)) x (.ins (He.ga K "Letter") dx [])) (fun v H2 => v = .non ∧ Q (.ref x) H2) E := fun x dx nx ndx ne => by
  refine ⟨x, dx, "", .ref q, rfl, upd_same, .inl ⟨(fun e => by cases e), rfl, k x _ (fun b o e => ?_) ⟨dx, upd_same⟩⟩⟩
  rw [upd_ne (ne_of_none e nx), upd_ne (ne_of_none e nx), upd_ne (ne_of_none e ndx)]
  exact e
section
variable {P : Program} {w : World} {K : PySem.W.Frag} {mg : Str → Option Value} {base : Heap}
abbrev s_Letter_add : Stmt := inClass (top 26) 8
theorem sc_Letter_add : FnScope ["self", "other"] ["self", "other"] (defScope s_Letter_add) := ⟨rfl, rfl, rfl, by decide +kernel, rfl, by decide +kernel, by decide +kernel⟩
theorem ok_Ladd (T : Tx w K mg) : Fm P w K mg base CX0 6 "Letter" "__add__" ["self", "other"] (sp_bin K "pair") := by
  refine T.M_Letter_add.ok0 sc_Letter_add (fun _ _ _ _ _ _ us hl => match us, hl with | [_, _], _ => rfl)
    (fun vs H Q E h => ?_) (fun cdv A outer s H vs Q E hr h => ?_)
  · obtain ⟨a, b, u1, u2, rfl, _⟩ := h
    rfl
  · obtain ⟨a, b, u1, u2, rfl, ⟨dx, ha⟩, ⟨dy, hb⟩, k⟩ := h
    refine ⟨_, (pss_one (ps_ret (pe_mk2 (ok_Letter T) (hr.mono (by omega)) (by rfl) passN (pa_cons pe_str (pa_cons (pe_tup (pa_cons pe_str (pa_cons (pe_fld (pv 0) rfl) (pa_cons (pe_fld (pv 1) rfl) pa_nil)))) pa_nil))))), ?_⟩
    refine ⟨_, rfl, a, _, dx, _, _, rfl, ha, T.k_Letter, T.n_Letter_tree, look1 _, _, rfl, b, _, dy, _, _, rfl, hb, T.k_Letter, T.n_Letter_tree, look1 _, (by show 3 ≤ sizeLine; decide), fun q hq => ?_⟩
    exact rd_mkL upd_same fun x H' s' hx => k x q H' ((Rd.Same.upd hq).trans s') hx (s' _ _ upd_same)
abbrev s_Letter_mul : Stmt := inClass (top 26) 9
theorem sc_Letter_mul : FnScope ["self", "key"] ["self", "key"] (defScope s_Letter_mul) := ⟨rfl, rfl, rfl, by decide +kernel, rfl, by decide +kernel, by decide +kernel⟩
theorem ok_Lmul (T : Tx w K mg) : Fm P w K mg base CX0 6 "Letter" "__mul__" ["self", "key"] (sp_bin K "seal") := by
  refine T.M_Letter_mul.ok0 sc_Letter_mul (fun _ _ _ _ _ _ us hl => match us, hl with | [_, _], _ => rfl)
    (fun vs H Q E h => ?_) (fun cdv A outer s H vs Q E hr h => ?_)
  · obtain ⟨a, b, u1, u2, rfl, _⟩ := h
    rfl
  · obtain ⟨a, b, u1, u2, rfl, ⟨dx, ha⟩, ⟨dy, hb⟩, k⟩ := h
    refine ⟨_, (pss_one (ps_ret (pe_mk2 (ok_Letter T) (hr.mono (by omega)) (by rfl) passN (pa_cons pe_str (pa_cons (pe_tup (pa_cons pe_str (pa_cons (pe_fld (pv 0) rfl) (pa_cons (pe_fld (pv 1) rfl) pa_nil)))) pa_nil))))), ?_⟩
    refine ⟨_, rfl, a, _, dx, _, _, rfl, ha, T.k_Letter, T.n_Letter_tree, look1 _, _, rfl, b, _, dy, _, _, rfl, hb, T.k_Letter, T.n_Letter_tree, look1 _, (by show 3 ≤ sizeLine; decide), fun q hq => ?_⟩
    exact rd_mkL upd_same fun x H' s' hx => k x q H' ((Rd.Same.upd hq).trans s') hx (s' _ _ upd_same)
abbrev s_Letter_invert : Stmt := inClass (top 26) 11
theorem sc_Letter_invert : FnScope ["self"] ["self"] (defScope s_Letter_invert) := ⟨rfl, rfl, rfl, by decide +kernel, rfl, by decide +kernel, by decide +kernel⟩
theorem ok_Linvert (T : Tx w K mg) : Fm P w K mg base CX0 6 "Letter" "__invert__" ["self"] (sp_one K "mark") := by
  refine T.M_Letter_invert.ok0 sc_Letter_invert (fun _ _ _ _ _ _ us hl => match us, hl with | [_], _ => rfl)
    (fun vs H Q E h => ?_) (fun cdv A outer s H vs Q E hr h => ?_)
  · obtain ⟨a, u1, rfl, _⟩ := h
    rfl
  · obtain ⟨a, u1, rfl, ⟨dx, ha⟩, k⟩ := h
    refine ⟨_, (pss_one (ps_ret (pe_mk2 (ok_Letter T) (hr.mono (by omega)) (by rfl) passN (pa_cons pe_str (pa_cons (pe_tup (pa_cons pe_str (pa_cons (pe_fld (pv 0) rfl) pa_nil))) pa_nil))))), ?_⟩
    refine ⟨_, rfl, a, _, dx, _, _, rfl, ha, T.k_Letter, T.n_Letter_tree, look1 _, (by show 2 ≤ sizeLine; decide), fun q hq => ?_⟩
    exact rd_mkL upd_same fun x H' s' hx => k x q H' ((Rd.Same.upd hq).trans s') hx (s' _ _ upd_same)
abbrev s_Letter_pos : Stmt := inClass (top 26) 12
theorem sc_Letter_pos : FnScope ["self"] ["self"] (defScope s_Letter_pos) := ⟨rfl, rfl, rfl, by decide +kernel, rfl, by decide +kernel, by decide +kernel⟩
theorem ok_Lpos (T : Tx w K mg) : Fm P w K mg base CX0 6 "Letter" "__pos__" ["self"] (sp_one K "open") := by
  refine T.M_Letter_pos.ok0 sc_Letter_pos (fun _ _ _ _ _ _ us hl => match us, hl with | [_], _ => rfl)
    (fun vs H Q E h => ?_) (fun cdv A outer s H vs Q E hr h => ?_)
  · obtain ⟨a, u1, rfl, _⟩ := h
    rfl
  · obtain ⟨a, u1, rfl, ⟨dx, ha⟩, k⟩ := h
    refine ⟨_, (pss_one (ps_ret (pe_mk2 (ok_Letter T) (hr.mono (by omega)) (by rfl) passN (pa_cons pe_str (pa_cons (pe_tup (pa_cons pe_str (pa_cons (pe_fld (pv 0) rfl) pa_nil))) pa_nil))))), ?_⟩
    refine ⟨_, rfl, a, _, dx, _, _, rfl, ha, T.k_Letter, T.n_Letter_tree, look1 _, (by show 2 ≤ sizeLine; decide), fun q hq => ?_⟩
    exact rd_mkL upd_same fun x H' s' hx => k x q H' ((Rd.Same.upd hq).trans s') hx (s' _ _ upd_same)
abbrev s_Letter_neg : Stmt := inClass (top 26) 13
theorem sc_Letter_neg : FnScope ["self"] ["self"] (defScope s_Letter_neg) := ⟨rfl, rfl, rfl, by decide +kernel, rfl, by decide +kernel, by decide +kernel⟩
theorem ok_Lneg (T : Tx w K mg) : Fm P w K mg base CX0 6 "Letter" "__neg__" ["self"] (sp_one K "own") := by
  refine T.M_Letter_neg.ok0 sc_Letter_neg (fun _ _ _ _ _ _ us hl => match us, hl with | [_], _ => rfl)
    (fun vs H Q E h => ?_) (fun cdv A outer s H vs Q E hr h => ?_)
  · obtain ⟨a, u1, rfl, _⟩ := h
    rfl
  · obtain ⟨a, u1, rfl, ⟨dx, ha⟩, k⟩ := h
    refine ⟨_, (pss_one (ps_ret (pe_mk2 (ok_Letter T) (hr.mono (by omega)) (by rfl) passN (pa_cons pe_str (pa_cons (pe_tup (pa_cons pe_str (pa_cons (pe_fld (pv 0) rfl) pa_nil))) pa_nil))))), ?_⟩
    refine ⟨_, rfl, a, _, dx, _, _, rfl, ha, T.k_Letter, T.n_Letter_tree, look1 _, (by show 2 ≤ sizeLine; decide), fun q hq => ?_⟩
    exact rd_mkL upd_same fun x H' s' hx => k x q H' ((Rd.Same.upd hq).trans s') hx (s' _ _ upd_same)
abbrev s_BadKey_init : Stmt := inClass (top 5) 0
theorem sc_BadKey_init : FnScope ["self", "key"] ["self", "key"] (defScope s_BadKey_init) := ⟨rfl, rfl, rfl, by decide +kernel, rfl, by decide +kernel, by decide +kernel⟩
theorem ok_BadKey (T : Tx w K mg) : Fm P w K mg base CX0 1 "BadKey" "__init__" ["self", "key"] (spX1 K "key") := by
  refine T.X_BadKey.init.ok0 sc_BadKey_init (fun _ _ _ _ _ _ us hl => match us, hl with | [_, _], _ => rfl)
    (fun vs H Q E h => ?_) (fun cdv A outer s H vs Q E hr h => ?_)
  · obtain ⟨a, C, v, rfl, _⟩ := h
    rfl
  · obtain ⟨a, C, v, rfl, TC, no, ha, k⟩ := h
    refine ⟨_, (pss_cons (ps_expr (pe_reinit rfl T.g_RoadError T.r_RoadError (pa_cons (pv 0) (pa_cons pe_str pa_nil))))
  (pss_one (ps_ost (pv 0) (pv 1)))), ?_⟩
    refine ⟨_, rfl, a, C, [.str "no key of a pair"], rfl, (by show 1 ≤ 1000; decide), TC, ha, _, rfl, _, rfl, a, C, rfl, TC, no, .inl ⟨ha, fun dx hdx ne => k dx hdx ne⟩⟩
abbrev s_Letter_xor : Stmt := inClass (top 26) 10
theorem sc_Letter_xor : FnScope ["self", "key"] ["self", "key"] (defScope s_Letter_xor) := ⟨rfl, rfl, rfl, by decide +kernel, rfl, by decide +kernel, by decide +kernel⟩
theorem ok_Lxor (T : Tx w K mg) : Fm P w K mg base (L2N.CX P w) 6 "Letter" "__xor__" ["self", "key"] (sp_xor K) := by
  refine T.M_Letter_xor.ok sc_Letter_xor (fun _ _ _ _ _ _ us hl => match us, hl with | [_, _], _ => rfl)
    (fun vs H Q E h => ?_) (fun cdv A outer s H vs Q E hr h => ?_)
  · obtain ⟨a, b, u1, u2, t2, rfl, _⟩ := h
    rfl
  · obtain ⟨a, b, u1, u2, t2, rfl, ⟨dx, ha⟩, ⟨dy, hb⟩, it, k1, k0⟩ := h
    obtain ⟨p2, us, rfl, hp2⟩ := it.hd
    refine ⟨_, (pss_cons (ps_if (pt_cmpR op_notInT (pe_ix ix_tup (pe_fld (pv 1) rfl) pe_int (fun _ _ => rfl)) (pe_tup (pa_cons pe_str (pa_cons pe_str pa_nil))) (by rfl))
  (pss_one (L2N.ps_raise rfl (L2N.takes_of rfl rfl rfl rfl) (pmk_xN T.X_BadKey (ok_BadKey T) (hr.mono (by omega)) rfl (pa_cons (pv 1) pa_nil))))
  pss_nil)
  (pss_one (ps_ret (pe_mk2 (ok_Letter T) (hr.mono (by omega)) (by rfl) passN (pa_cons pe_str (pa_cons (pe_tup (pa_cons pe_str (pa_cons (pe_fld (pv 0) rfl) (pa_cons (pe_fld (pv 1) rfl) pa_nil)))) pa_nil)))))), ?_⟩
    refine ⟨_, rfl, b, _, dy, _, _, rfl, hb, T.k_Letter, T.n_Letter_tree, look1 _, p2, _, _, _, rfl, rfl, SqT.of hp2, at_of (j := 0) rfl rfl, (by show 2 ≤ sizeLine; decide), fun q hq => ?_⟩
    have sq := Rd.Same.upd (o := .tup [.str "open", .str "own"]) hq
    refine ⟨_, q, ["open", "own"], rfl, rfl, SqT.of upd_same, _, rfl, ?_⟩
    show if (!isKey t2) = true then _ else _
    cases hk : isKey t2 with
    | false =>
      refine iteT ?_
      exact ⟨_, rfl, rd_raise1 T.X_BadKey.oex T.X_BadKey.no fun d H' s' nd hd => k0 hk d H' (sq.trans s') hd⟩
    | true =>
      refine iteF ?_
      refine ⟨_, rfl, a, _, dx, _, _, rfl, sq _ _ ha, T.k_Letter, T.n_Letter_tree, look1 _, _, rfl, b, _, dy, _, _, rfl, sq _ _ hb, T.k_Letter, T.n_Letter_tree, look1 _, (by show 3 ≤ sizeLine; decide), fun q2 hq2 => ?_⟩
      exact rd_mkL upd_same fun x H' s' hx => k1 hk x q2 H' ((sq.trans (Rd.Same.upd hq2)).trans s') hx (s' _ _ upd_same)
end
end Rd
namespace Rd
open PySem L2
theorem SqT.kept {K : PySem.W.Frag} {H H' : Hp} {a : Addr} {xs : List V} (h : SqT K H a xs) (s : Same H H') : SqT K H' a xs := by
  rcases h with (h | ⟨n, h⟩) | h
  · exact .inl (.inl (s _ _ h))
  · exact .inl (.inr ⟨n, s _ _ h⟩)
  · exact .inr h
theorem iteN {c A B : Prop} [Decidable c] (h : ¬ c) (b : B) : if c then A else B := ite2 (fun q => absurd q h) fun _ => b
theorem iteP {c A B : Prop} [Decidable c] (h : c) (a : A) : if c then A else B := ite2 (fun _ => a) fun q => absurd h q
def Tr.parts : Tr → List Tr
  | .am _ _ => []
  | .un _ a => [a]
  | .bi _ a b => [a, b]
theorem mem_to {l m : List Str} {z : Str} (h : l.all (fun y => decide (y ∈ m)) = true) (hz : z ∈ l) : z ∈ m := of_decide_eq_true (List.all_eq_true.mp h z hz)
theorem Wf.sign {t : Tr} (h : Wf t) (hn : t.parts ≠ []) : t.head ∈ (["mark", "open", "own", "pair", "seal", "lock"] : List Str) ∧ (∀ u ∈ t.parts, Wf u ∧ u.dep + 1 ≤ t.dep) := by
  cases h with
  | am => exact absurd rfl hn
  | @un s a hs w =>
    refine ⟨mem_to (by decide +kernel) hs, fun u hu => ?_⟩
    rw [List.mem_singleton.mp hu]
    exact ⟨w, Nat.le_refl _⟩
  | @bi s a b hs wa wb =>
    refine ⟨mem_to (by decide +kernel) hs, fun u hu => ?_⟩
    have e : (Tr.bi s a b).dep = max a.dep b.dep + 1 := rfl
    rcases List.mem_cons.mp hu with rfl | hu
    · exact ⟨wa, by omega⟩
    · rw [List.mem_singleton.mp hu]
      exact ⟨wb, by omega⟩
  | @lk s a b hs wa wb =>
    have hs' : s ∈ (["mark", "open", "own"] : List Str) := List.mem_cons_of_mem _ hs
    refine ⟨mem_to (l := ["lock"]) (by decide +kernel) List.mem_cons_self, fun u hu => ?_⟩
    have e : (Tr.bi "lock" a (.un s b)).dep = max a.dep (Tr.un s b).dep + 1 := rfl
    rcases List.mem_cons.mp hu with rfl | hu
    · exact ⟨wa, by omega⟩
    · rw [List.mem_singleton.mp hu]
      exact ⟨.un hs' wb, by omega⟩
theorem IsT.parts {H : Hp} {t : Tr} {v : V} (h : IsT H t v) (hn : t.parts ≠ []) : ∃ p us, v = .ref p ∧ H p = some (.tup (.str t.head :: us)) ∧ us.length = t.parts.length ∧ us.length ≤ 2 ∧ us ≠ [] ∧ ∀ (i : Nat) u, us[i]? = some u → ∃ r, t.parts[i]? = some r ∧ IsT H r u := by
  cases t with
  | am k x => exact absurd rfl hn
  | un s a =>
    obtain ⟨p, u, e, h, h1⟩ := h
    refine ⟨p, [u], e, h, rfl, (by show 1 ≤ 2; decide), (fun e => by cases e), fun i v hv => ?_⟩
    cases i with
    | zero => cases hv; exact ⟨a, rfl, h1⟩
    | succ i => cases i <;> cases hv
  | bi s a b =>
    obtain ⟨p, u, u2, e, h, h1, h2⟩ := h
    refine ⟨p, [u, u2], e, h, rfl, Nat.le_refl _, (fun e => by cases e), fun i v hv => ?_⟩
    cases i with
    | zero => cases hv; exact ⟨a, rfl, h1⟩
    | succ i =>
      cases i with
      | zero => cases hv; exact ⟨b, rfl, h2⟩
      | succ i => cases i <;> cases hv
theorem cut1 {x : V} {us : List V} : cutV (x :: us) (some 1) none = us := by
  unfold cutV
  have e : HT.sIx (x :: us).length 0 (some 1) = 1 := by
    rw [show (1 : Int) = ((1 : Nat) : Int) from rfl, HT.sIx_nat, List.length_cons]
    omega
  have e2 : HT.sIx (x :: us).length (x :: us).length none = us.length + 1 := rfl
  rw [e, e2]
  show us.take (us.length + 1 - 1) = us
  rw [Nat.add_sub_cancel, List.take_length]
/-- [e for x in a tuple], each item's value by R -/
theorem lct {K : PySem.W.Frag} {C a D : Addr} {xs : List V} {te : TE} {i0 : Nat} {σ : St} {H1 : Hp} {Qd : Hp → Prop} (R : Nat → Hp → V → Prop) (rm : ∀ i H H' v, Kp C H H' → R i H v → R i H' v) (hS : SqT K H1 a xs) (hl : xs.length ≤ 100000) (hD : H1 D = none)
    (hte : ∀ (i : Nat) (x : V) (H : Hp) (Q : VK), xs[i]? = some x → Same H1 H → (∀ v H', Same H H' → R i H' v → Q v H') → te ((wipe σ [i0]).set i0 (some x)) H Q)
    (hq : ∀ vs H', Same H1 H' → H' D = some (.lst vs) → vs.length = xs.length → (∀ (i : Nat) v, vs[i]? = some v → R i H' v) → Qd H') :
    ∃ W : Nat → Nat → Hp → Prop, (∃ m, W 0 m (L2.upd H1 D (.lst []))) ∧ ∀ i m H, W i m H →
      ((Itt K a).stop i H ∧ Qd H) ∨ ((Itt K a).go i H ∧ ∃ Nx : Hp → Prop, (∀ H', Nx H' → ∃ m', m' < m ∧ W (i + 1) m' H') ∧ ∀ x H', (Itt K a).yld i H x H' → gName i0 x (wipe σ [i0]) H' fun σ2 H2 => wipe σ2 [i0] = wipe σ [i0] ∧ tYes σ2 H2 fun b H3 =>
        if b = true then te σ2 H3 fun y H4 => ∃ acc, H4 D = some (.lst acc) ∧ acc.length < sizeLine ∧ Nx (L2.upd H4 D (.lst (acc ++ [y]))) else Nx H3) := by
  refine lc_tup (K := K) (a := a) (xs := xs) (fun i H => ∃ vs, Same H1 H ∧ H D = some (.lst vs) ∧ vs.length = i ∧ (∀ (j : Nat) v, vs[j]? = some v → R j H v)) ?_ ?_ ?_ ?_
  · exact ⟨[], Rd.Same.upd hD, upd_same, rfl, fun j v h => by simp at h⟩
  · rintro i H hi ⟨vs, s, _⟩
    exact SqT.kept hS s
  · rintro i x H hx ⟨vs, s, hDv, hlv, hg⟩
    refine ⟨by simp [wipe], hte i x H _ hx s fun v H' s' hv => ⟨vs, s' _ _ hDv, ?_, ?_⟩⟩
    · have : 100000 < sizeLine := by decide
      have := (List.getElem?_eq_some_iff.mp hx).1
      omega
    · have hDv' := s' _ _ hDv
      refine ⟨vs ++ [v], fun c o e => ?_, upd_same, by rw [List.length_append, hlv]; rfl, fun j v' hv' => ?_⟩
      · rw [upd_ne (ne_of_none e hD)]
        exact s' c o (s c o e)
      · have kp := Kp.upd_lst (C := C) (ys := vs ++ [v]) hDv'
        by_cases hj : j < vs.length
        · rw [List.getElem?_append_left hj] at hv'
          exact rm _ _ _ _ kp (rm _ _ _ _ (Kp.of_same s') (hg j v' hv'))
        · have e : j = vs.length := by
            have := (List.getElem?_eq_some_iff.mp hv').1
            rw [List.length_append, List.length_singleton] at this
            omega
          subst e
          rw [List.getElem?_append_right (Nat.le_refl _), Nat.sub_self] at hv'
          have e2 : v = v' := Option.some.inj hv'
          rw [← e2, hlv]
          exact rm _ _ _ _ kp hv
  · rintro H ⟨vs, s, hDv, hlv, hg⟩
    exact hq vs H s hDv hlv hg
theorem q_starts (x : Str) : Txt.startswith ("?" ++ x) "?" = true := by
  rw [starts_q, app_list]
  have e2 : ("?" : Str).cps.toList = [63] := by decide +kernel
  exact ⟨_, by rw [e2]; rfl⟩
theorem q_tail2 (x : Str) : tailS ("?" ++ x) = x := by
  refine str_ext ?_
  rw [tailS_list, app_list]
  have e2 : ("?" : Str).cps.toList = [63] := by decide +kernel
  rw [e2]
  rfl
theorem atomOf_word {x : Str} (h : isWord x = true) : atomOf x = some (("word" : Str), x) := by rw [atomOf, if_pos h]
theorem atomOf_name {x : Str} (h : isName x = true) : atomOf x = some (("name" : Str), x) := by rw [atomOf, if_neg (by rw [word_noname h]; decide), if_pos h]
theorem atomOf_unk {x : Str} (h : isUnk x = true) : atomOf ("?" ++ x) = some (("unknown" : Str), x) := by
  have hw : ¬ isWord ("?" ++ x) = true := fun q => by
    obtain ⟨_, h2⟩ := He.ba q
    obtain ⟨_, h4⟩ := He.ba h2
    have e2 : ("?" : Str).cps.toList = [63] := by decide +kernel
    have := List.all_eq_true.mp h4 63 (by rw [app_list, e2]; exact List.mem_cons_self)
    have e3 : inS SMALL 63 = false := by decide +kernel
    rw [e3] at this
    cases this
  rw [atomOf, if_neg hw, if_neg (fun q => isName_first q (q_starts x)), q_starts, q_tail2, h]
  rfl
/-- Letter(text) of an atom's text -/
theorem rd_mkA {K : PySem.W.Frag} {H1 : Hp} {z k y : Str} {Q : VK} {E : XK} (hz : z.length ≤ 200000) (ha : atomOf z = some (k, y)) (kk : ∀ x H', Same H1 H' → IsLet K H' (.am k y) (.ref x) → Q (.ref x) H') :
    ∀ x dx, H1 x = none → H1 dx = none → dx ≠ x → sp_Linit K (.ref x :: ([.str z] ++ [.non])) (upd (upd H1 dx (.own x)) x (.ins (He.ga K "Letter") dx [])) (fun v H2 => v = .non ∧ Q (.ref x) H2) E := fun x dx nx ndx ne => by
  refine ⟨x, dx, z, .non, rfl, upd_same, .inr ⟨rfl, hz, fun k' y' p H' b' es np hp hx => ⟨rfl, ?_⟩, fun d H' b' en _ _ => ?_⟩⟩
  · rw [ha] at es
    cases es
    refine kk x H' (fun b o e => b' b o (ne_of_none e nx) ?_) ⟨x, .ref p, rfl, ⟨dx, hx⟩, p, rfl, hp⟩
    rw [upd_ne (ne_of_none e nx), upd_ne (ne_of_none e ndx)]
    exact e
  · rw [ha] at en
    cases en
def sp_letter (K : PySem.W.Frag) (d : Nat) : Sp := fun vs H Q _ => ∃ (v : V) (t : Tr), vs = [v] ∧ IsT H t v ∧ Wf t ∧ t.dep ≤ d ∧ ∀ v' H', Same H H' → IsLet K H' t v' → Q v' H'
def spLR (K : PySem.W.Frag) : Nat → Sp
  | 0 => fun _ _ _ _ => False
  | d + 1 => sp_letter K d
section
variable {P : Program} {w : World} {K : PySem.W.Frag} {mg : Str → Option Value} {base : Heap}
end
end Rd
namespace Rd
open PySem L2
/-! ### forms as plain data -/
def dat : Tr → PyData
  | .am k x => .tuple [.str k, .str x]
  | .un s a => .tuple [.str s, dat a]
  | .bi s a b => .tuple [.str s, dat a, dat b]
theorem IsT.dp {K : PySem.W.Frag} {H : Hp} : ∀ {t : Tr} {v : V}, IsT H t v → Dp K H v (dat t)
  | .am _ _, _, ⟨p, e, h⟩ => by subst e; exact .tup (SqT.of h) (.cons (.str _) (.cons (.str _) .nil))
  | .un _ _, _, ⟨p, u, e, h, h1⟩ => by subst e; exact .tup (SqT.of h) (.cons (.str _) (.cons (IsT.dp h1) .nil))
  | .bi _ _ _, _, ⟨p, u1, u2, e, h, h1, h2⟩ => by subst e; exact .tup (SqT.of h) (.cons (.str _) (.cons (IsT.dp h1) (.cons (IsT.dp h2) .nil)))
def Tr.fine : Tr → Prop
  | .am k x => okS k ∧ okS x
  | .un s a => okS s ∧ a.fine
  | .bi s a b => okS s ∧ a.fine ∧ b.fine
theorem okS_of {l : List Str} {z : Str} (h : l.all (fun y => y.cps.toList.all (fun c => decide (c < 1114112))) = true) (hz : z ∈ l) : okS z := by
  exact okS_by (List.all_eq_true.mp h z hz)
theorem dat_lay : ∀ {t : Tr}, t.fine → (dat t).canLay0 = true
  | .am k x, ⟨h1, h2⟩ => by
    show (PySem.PyData.strOk k && (PySem.PyData.strOk x && true)) = true
    rw [strOk_of h1, strOk_of h2]
    rfl
  | .un s a, ⟨h1, h2⟩ => by
    show (PySem.PyData.strOk s && ((dat a).canLay0 && true)) = true
    rw [strOk_of h1, dat_lay h2]
    rfl
  | .bi s a b, ⟨h1, h2, h3⟩ => by
    show (PySem.PyData.strOk s && ((dat a).canLay0 && ((dat b).canLay0 && true))) = true
    rw [strOk_of h1, dat_lay h2, dat_lay h3]
    rfl
theorem dat_dep : ∀ {t : Tr}, (dat t).depth ≤ t.dep + 1
  | .am k x => by show max 0 (max 0 0) + 1 ≤ 0 + 1; decide
  | .un s a => by
    show max 0 (max (dat a).depth 0) + 1 ≤ a.dep + 1 + 1
    have := dat_dep (t := a)
    omega
  | .bi s a b => by
    show max 0 (max (dat a).depth (max (dat b).depth 0)) + 1 ≤ max a.dep b.dep + 1 + 1
    have := dat_dep (t := a)
    have := dat_dep (t := b)
    omega
theorem dat_shaped {t : Tr} (h : t.fine) (hd : t.dep ≤ 60) : SeqAt.shaped (dat t) = true := by
  have := dat_dep (t := t)
  show ((dat t).canLay0 && decide ((dat t).depth ≤ 64)) = true
  rw [dat_lay h, decide_eq_true (by omega)]
  rfl
theorem kindOk.fine {k x : Str} (h : kindOk k x) : okS k ∧ okS x := by
  rcases h with ⟨rfl, h⟩ | ⟨rfl, h⟩ | ⟨rfl, h⟩
  · exact ⟨okS_of (l := ["word"]) (by decide +kernel) List.mem_cons_self, (word_len h).2.2⟩
  · exact ⟨okS_of (l := ["name"]) (by decide +kernel) List.mem_cons_self, (name_len h).2⟩
  · exact ⟨okS_of (l := ["unknown"]) (by decide +kernel) List.mem_cons_self, (unk_len h).2.2⟩
theorem Wf.fine {t : Tr} (h : Wf t) : t.fine := by
  induction h with
  | am h => exact h.fine
  | un hs _ ih => exact ⟨okS_of (by decide +kernel) hs, ih⟩
  | bi hs _ _ ih1 ih2 => exact ⟨okS_of (by decide +kernel) hs, ih1, ih2⟩
  | lk hs _ _ ih1 ih2 => exact ⟨okS_of (l := ["lock"]) (by decide +kernel) List.mem_cons_self, ih1, okS_of (by decide +kernel) hs, ih2⟩
/-- x != y of equal forms -/
theorem rd_neT {K : PySem.W.Frag} {H : Hp} {t : Tr} {v u : V} {Q : VK} (ht : t.fine) (hd : t.dep ≤ 60) (h1 : IsT H t v) (h2 : IsT H t u) (q : Q (.bl false) H) : rNeD K v u H Q := by
  refine ⟨dat t, dat t, h1.dp, h2.dp, dat_shaped ht hd, dat_shaped ht hd, ?_⟩
  rw [SeqAt.eqv_refl _ (dat_lay ht)]
  exact q
/-- a form drawn over a written list of unknowns -/
theorem rd_form {d n : Nat} {p : Addr} {H : Hp} {xs us : List V} {Q : VK} (hp : H p = some (.lst xs)) (hx : StL (n + dr d) xs) (hU : unkL us)
    (k : ∀ t v ys H', But p H H' → H' p = some (.lst ys) → StL n ys → Wf t → dpN d us t → IsT H' t v → Q v H') : us.length ≤ sizeLine ∧ ∀ q, H q = none → sp_drawnForm d [.ref p, .ref q, .int d] (upd H q (.lst us)) Q E0 := by
  refine ⟨?_, fun q hq => ?_⟩
  · have := hU.1
    have : 100 ≤ sizeLine := by decide
    omega
  · have nqp : q ≠ p := fun z => by rw [z, hp] at hq; cases hq
    exact ⟨p, q, xs, us, n, rfl, by rw [upd_ne (Ne.symm nqp)]; exact hp, hx, nqp, upd_same, hU, fun t v ys H' b h1 h2 h3 h4 h5 => k t v ys H' ((But.new hq).trans b) h1 h2 h3 h4 h5⟩
theorem unkOk {l : List Str} (h : l.all isUnk = true) (hl : l.length ≤ 100) : unkL (l.map V.str) := by
  refine ⟨by rw [List.length_map]; exact hl, fun v hv => ?_⟩
  obtain ⟨z, hz, rfl⟩ := List.mem_map.mp hv
  exact ⟨z, rfl, List.all_eq_true.mp h z hz⟩
theorem seqJoin {s1 rest : TS} {D : Ends} {σ : St} {H : Hp} (R : St → Hp → Prop) (h : ∀ K : St → Hp → Prop, (∀ σ' H', R σ' H' → K σ' H') → s1 { D with nx := K } σ H) (hR : ∀ σ' H', R σ' H' → rest D σ' H') : tSeq s1 rest D σ H := h _ hR
theorem But.fresh {p : Addr} {H0 H H' : Hp} (s : Same H0 H) (n : H0 p = none) (b : But p H H') : Same H0 H' := fun c o e => b c o (ne_of_none e n) (s c o e)
theorem SqL.kept {K : PySem.W.Frag} {H H' : Hp} {a : Addr} {xs : List V} (h : SqL K H a xs) (s : Same H H') : SqL K H' a xs := by
  rcases h with (h | ⟨n, h⟩) | h
  · exact .inl (.inl (s _ _ h))
  · exact .inl (.inr ⟨n, s _ _ h⟩)
  · exact .inr h
section
variable {P : Program} {w : World} {K : PySem.W.Frag} {mg : Str → Option Value} {base : Heap}
theorem ok_formH (T : Tx w K mg) : FmH P w K mg base CX0 1 "Letter" "form" ["self"] (sp_form K) := by
  refine T.M_Letter_form.okH sc_Letter_form (fun _ _ _ _ _ _ us hl => match us, hl with | [_], _ => rfl)
    (fun vs H Q E h => ?_) (fun cdv A outer s H vs Q E pp hp hr h => ?_)
  · obtain ⟨a, v, rfl, _⟩ := h
    rfl
  · obtain ⟨a, v, rfl, ⟨dx, ha⟩, k⟩ := h
    refine ⟨_, (pss_one (ps_ret (pe_fld (pv 0) rfl))), ?_⟩
    exact ⟨_, rfl, a, _, dx, _, v, rfl, ha, T.k_Letter, T.n_Letter_tree, look1 _, k⟩
end
end Rd
namespace Rd
open PySem L2
theorem Wf.parts_wf {t : Tr} (h : Wf t) : ∀ u ∈ t.parts, Wf u := by
  by_cases hp : t.parts ≠ []
  · exact fun u hu => ((h.sign hp).2 u hu).1
  · intro u hu
    cases t with
    | am => cases hu
    | un => exact absurd (fun e => by cases e) hp
    | bi => exact absurd (fun e => by cases e) hp
/-! ### all parts of a form -/
def Tr.all : Tr → List Tr
  | .am k x => [.am k x]
  | .un s a => .un s a :: a.all
  | .bi s a b => .bi s a b :: (a.all ++ b.all)
theorem all_len : ∀ t : Tr, t.all.length + 1 ≤ 2 ^ (t.dep + 1)
  | .am k x => by show 1 + 1 ≤ 2 ^ 1; decide
  | .un s a => by
    have := all_len a
    show a.all.length + 1 + 1 ≤ 2 ^ (a.dep + 1 + 1)
    rw [Nat.pow_succ]
    have : 1 ≤ 2 ^ (a.dep + 1) := Nat.one_le_two_pow
    omega
  | .bi s a b => by
    have h1 := all_len a
    have h2 := all_len b
    show (a.all ++ b.all).length + 1 + 1 ≤ 2 ^ (max a.dep b.dep + 1 + 1)
    rw [List.length_append, Nat.pow_succ]
    have e1 : 2 ^ (a.dep + 1) ≤ 2 ^ (max a.dep b.dep + 1) := Nat.pow_le_pow_right (by decide) (by omega)
    have e2 : 2 ^ (b.dep + 1) ≤ 2 ^ (max a.dep b.dep + 1) := Nat.pow_le_pow_right (by decide) (by omega)
    omega
theorem all_parts (t : Tr) : t.all = t :: t.parts.flatMap Tr.all := by
  cases t with
  | am k x => rfl
  | un s a => show _ :: a.all = _ :: (a.all ++ []); rw [List.append_nil]
  | bi s a b => show _ :: (a.all ++ b.all) = _ :: (a.all ++ (b.all ++ [])); rw [List.append_nil]
theorem all_wf {t : Tr} (h : Wf t) : ∀ u ∈ t.all, Wf u ∧ u.dep ≤ t.dep := by
  induction t with
  | am k x => intro u hu; rw [List.mem_singleton.mp hu]; exact ⟨h, Nat.le_refl _⟩
  | un s a ih =>
    intro u hu
    rcases List.mem_cons.mp hu with rfl | hu
    · exact ⟨h, Nat.le_refl _⟩
    · have := ih (h.parts_wf a List.mem_cons_self) u hu
      exact ⟨this.1, by show _ ≤ a.dep + 1; omega⟩
  | bi s a b iha ihb =>
    intro u hu
    rcases List.mem_cons.mp hu with rfl | hu
    · exact ⟨h, Nat.le_refl _⟩
    · rcases List.mem_append.mp hu with hu | hu
      · have := iha (h.parts_wf a List.mem_cons_self) u hu
        exact ⟨this.1, by show _ ≤ max a.dep b.dep + 1; omega⟩
      · have := ihb (h.parts_wf b (List.mem_cons_of_mem _ List.mem_cons_self)) u hu
        exact ⟨this.1, by show _ ≤ max a.dep b.dep + 1; omega⟩
/-- values that are the forms ts, one behind another -/
structure TsAt (H : Hp) (ts : List Tr) (vs : List V) : Prop where
  len : vs.length = ts.length
  get : ∀ (i : Nat) t v, ts[i]? = some t → vs[i]? = some v → IsT H t v
theorem TsAt.mono {C : Addr} {H H' : Hp} {ts : List Tr} {vs : List V} (k : Kp C H H') (h : TsAt H ts vs) : TsAt H' ts vs := ⟨h.len, fun i t v h1 h2 => (h.get i t v h1 h2).mono k⟩
theorem TsAt.same {H H' : Hp} {ts : List Tr} {vs : List V} (s : Same H H') (h : TsAt H ts vs) : TsAt H' ts vs := h.mono (C := 0) (Kp.of_same s)
theorem TsAt.one {H : Hp} {t : Tr} {v : V} (h : IsT H t v) : TsAt H [t] [v] := ⟨rfl, fun i t' v' h1 h2 => by
  cases i with
  | zero => cases h1; cases h2; exact h
  | succ i => cases i <;> cases h1⟩
theorem TsAt.app {H : Hp} {ts us : List Tr} {vs ws : List V} (h : TsAt H ts vs) (g : TsAt H us ws) : TsAt H (ts ++ us) (vs ++ ws) := ⟨by rw [List.length_append, List.length_append, h.len, g.len], fun i t v h1 h2 => by
  by_cases hi : i < ts.length
  · rw [List.getElem?_append_left hi] at h1
    rw [List.getElem?_append_left (by rw [h.len]; exact hi)] at h2
    exact h.get i t v h1 h2
  · rw [List.getElem?_append_right (by omega)] at h1
    rw [List.getElem?_append_right (by rw [h.len]; omega), h.len] at h2
    exact g.get _ t v h1 h2⟩
theorem TsAt.mem {H : Hp} {ts : List Tr} {vs : List V} (h : TsAt H ts vs) {v : V} (hv : v ∈ vs) : ∃ t ∈ ts, IsT H t v := by
  obtain ⟨i, hi⟩ := List.mem_iff_getElem?.mp hv
  have hl := (List.getElem?_eq_some_iff.mp hi).1
  rw [h.len] at hl
  exact ⟨_, List.getElem_mem hl, h.get i _ v (List.getElem?_eq_getElem hl) hi⟩
theorem TsAt.at_ {H : Hp} {ts : List Tr} {vs : List V} (h : TsAt H ts vs) {i : Nat} {v : V} (hv : vs[i]? = some v) : ∃ t, ts[i]? = some t ∧ IsT H t v := by
  have hl := (List.getElem?_eq_some_iff.mp hv).1
  rw [h.len] at hl
  exact ⟨_, List.getElem?_eq_getElem hl, h.get i _ v (List.getElem?_eq_getElem hl) hv⟩
def sp_parts (d : Nat) : Sp := fun vs H Q _ => ∃ (v : V) (t : Tr), vs = [v] ∧ IsT H t v ∧ Wf t ∧ t.dep ≤ d ∧ d ≤ 12 ∧ ∀ p ws H', Same H H' → H p = none → H' p = some (.lst ws) → TsAt H' t.all ws → Q (.ref p) H'
def spPR : Nat → Sp
  | 0 => fun _ _ _ _ => False
  | d + 1 => sp_parts d
/-- the loop over a form's parts: p holds what is found, p2 the parts -/
structure PInv (H0 : Hp) (p p2 : Addr) (us : List V) (t : Tr) (i : Nat) (H : Hp) : Prop where
  same : Same H0 H
  free : H0 p = none
  tup : H p2 = some (.tup us)
  found : ∃ ws, H p = some (.lst ws) ∧ TsAt H (t :: (t.parts.take i).flatMap Tr.all) ws
theorem take_flat {l : List Tr} {i : Nat} {r : Tr} (h : l[i]? = some r) : (l.take (i + 1)).flatMap Tr.all = (l.take i).flatMap Tr.all ++ r.all := by
  rw [List.take_add_one, h, List.flatMap_append]
  simp
theorem flat_le {t : Tr} (i : Nat) : ((t.parts.take i).flatMap Tr.all).length + 1 ≤ t.all.length := by
  rw [all_parts t, List.length_cons]
  have e : t.parts.flatMap Tr.all = (t.parts.take i).flatMap Tr.all ++ (t.parts.drop i).flatMap Tr.all := by rw [← List.flatMap_append, List.take_append_drop]
  rw [e, List.length_append]
  omega
/-- [e for x in a list], each item's value by R -/
theorem lcl {K : PySem.W.Frag} {C a D : Addr} {xs : List V} {te : TE} {i0 : Nat} {σ : St} {H1 : Hp} {Qd : Hp → Prop} (R : Nat → Hp → V → Prop) (rm : ∀ i H H' v, Kp C H H' → R i H v → R i H' v) (hS : SqL K H1 a xs) (hl : xs.length ≤ 100000) (hD : H1 D = none)
    (hte : ∀ (i : Nat) (x : V) (H : Hp) (Q : VK), xs[i]? = some x → Same H1 H → (∀ v H', Same H H' → R i H' v → Q v H') → te ((wipe σ [i0]).set i0 (some x)) H Q)
    (hq : ∀ vs H', Same H1 H' → H' D = some (.lst vs) → vs.length = xs.length → (∀ (i : Nat) v, vs[i]? = some v → R i H' v) → Qd H') :
    ∃ W : Nat → Nat → Hp → Prop, (∃ m, W 0 m (L2.upd H1 D (.lst []))) ∧ ∀ i m H, W i m H →
      ((Itl K a).stop i H ∧ Qd H) ∨ ((Itl K a).go i H ∧ ∃ Nx : Hp → Prop, (∀ H', Nx H' → ∃ m', m' < m ∧ W (i + 1) m' H') ∧ ∀ x H', (Itl K a).yld i H x H' → gName i0 x (wipe σ [i0]) H' fun σ2 H2 => wipe σ2 [i0] = wipe σ [i0] ∧ tYes σ2 H2 fun b H3 =>
        if b = true then te σ2 H3 fun y H4 => ∃ acc, H4 D = some (.lst acc) ∧ acc.length < sizeLine ∧ Nx (L2.upd H4 D (.lst (acc ++ [y]))) else Nx H3) := by
  refine lc_list (K := K) (a := a) (xs := xs) (fun i H => ∃ vs, Same H1 H ∧ H D = some (.lst vs) ∧ vs.length = i ∧ (∀ (j : Nat) v, vs[j]? = some v → R j H v)) ?_ ?_ ?_ ?_
  · exact ⟨[], Rd.Same.upd hD, upd_same, rfl, fun j v h => by simp at h⟩
  · rintro i H hi ⟨vs, s, _⟩
    exact SqL.kept hS s
  · rintro i x H hx ⟨vs, s, hDv, hlv, hg⟩
    refine ⟨by simp [wipe], hte i x H _ hx s fun v H' s' hv => ⟨vs, s' _ _ hDv, ?_, ?_⟩⟩
    · have : 100000 < sizeLine := by decide
      have := (List.getElem?_eq_some_iff.mp hx).1
      omega
    · have hDv' := s' _ _ hDv
      refine ⟨vs ++ [v], fun c o e => ?_, upd_same, by rw [List.length_append, hlv]; rfl, fun j v' hv' => ?_⟩
      · rw [upd_ne (ne_of_none e hD)]
        exact s' c o (s c o e)
      · have kp := Kp.upd_lst (C := C) (ys := vs ++ [v]) hDv'
        by_cases hj : j < vs.length
        · rw [List.getElem?_append_left hj] at hv'
          exact rm _ _ _ _ kp (rm _ _ _ _ (Kp.of_same s') (hg j v' hv'))
        · have e : j = vs.length := by
            have := (List.getElem?_eq_some_iff.mp hv').1
            rw [List.length_append, List.length_singleton] at this
            omega
          subst e
          rw [List.getElem?_append_right (Nat.le_refl _), Nat.sub_self] at hv'
          have e2 : v = v' := Option.some.inj hv'
          rw [← e2, hlv]
          exact rm _ _ _ _ kp hv
  · rintro H ⟨vs, s, hDv, hlv, hg⟩
    exact hq vs H s hDv hlv hg
/-- (a, b) != (c, d) of truths, all four known -/
theorem tb_pair {K : PySem.W.Frag} {e1 e2 e3 e4 : TE} {σ : St} {H : Hp} {b1 b2 : Bool} (h1 : ∀ H' Q, Same H H' → Q (.bl b1) H' → e1 σ H' Q) (h2 : ∀ H' Q, Same H H' → Q (.bl b2) H' → e2 σ H' Q) (h3 : ∀ H' Q, Same H H' → Q (.bl b1) H' → e3 σ H' Q) (h4 : ∀ H' Q, Same H H' → Q (.bl b2) H' → e4 σ H' Q) :
    TB (tTest (tOp (rNeD K) (tTup (tCons e1 (tCons e2 tNil))) (tTup (tCons e3 (tCons e4 tNil))))) σ H false := by
  intro Q k
  refine h1 H _ (Same.refl _) (h2 H _ (Same.refl _) ⟨(by show 2 ≤ sizeLine; decide), fun q hq => ?_⟩)
  have sq := Rd.Same.upd (o := .tup [.bl b1, .bl b2]) hq
  refine h3 _ _ sq (h4 _ _ sq ⟨(by show 2 ≤ sizeLine; decide), fun q2 hq2 => ?_⟩)
  have sq2 := Rd.Same.upd (o := .tup [.bl b1, .bl b2]) hq2
  have hd : SeqAt.shaped (.tuple [.bool b1, .bool b2]) = true := rfl
  refine ⟨.tuple [.bool b1, .bool b2], .tuple [.bool b1, .bool b2], .tup (SqT.of (sq2 _ _ upd_same)) (.cons (.bl _) (.cons (.bl _) .nil)), .tup (SqT.of upd_same) (.cons (.bl _) (.cons (.bl _) .nil)), hd, hd, _, rfl, ?_⟩
  rw [SeqAt.eqv_refl _ (SeqAt.canLay_of_shaped hd)]
  exact k _ (sq.trans sq2)
theorem at_end {xs : List V} {v : V} : atI (xs ++ [v]) (-1) = some v := by
  have e : ixN (xs ++ [v]).length (-1) = some xs.length := by
    unfold ixN
    rw [if_neg (by decide), List.length_append, List.length_singleton]
    rw [if_pos (by omega)]
    exact congrArg some (by omega)
  unfold atI
  rw [e]
  show (xs ++ [v])[xs.length]? = some v
  rw [List.getElem?_append_right (Nat.le_refl _), Nat.sub_self]
  rfl
end Rd
namespace Rd
open PySem L2
/-! ### equal forms, lists of forms and of texts as data -/
theorem eqv_dat : ∀ t u : Tr, PyData.eqv (dat t) (dat u) = decide (t = u)
  | .am k x, .am k' x' => by
    show ((k == k') && ((x == x') && true)) = _
    by_cases h : k = k'
    · subst h
      by_cases h2 : x = x'
      · subst h2
        simp
      · simp [h2]
    · simp [h]
  | .am k x, .un s a => by
    have e : PyData.eqv (.str x) (dat a) = false := by cases a <;> rfl
    show ((k == s) && (PyData.eqv (.str x) (dat a) && true)) = _
    rw [e]
    simp
  | .am k x, .bi s a b => by
    show ((k == s) && (PyData.eqv (.str x) (dat a) && false)) = _
    simp
  | .un s a, .am k x => by
    have e : PyData.eqv (dat a) (.str x) = false := by cases a <;> rfl
    show ((s == k) && (PyData.eqv (dat a) (.str x) && true)) = _
    rw [e]
    simp
  | .un s a, .un s' a' => by
    show ((s == s') && (PyData.eqv (dat a) (dat a') && true)) = _
    rw [eqv_dat a a']
    by_cases h : s = s'
    · subst h
      by_cases h2 : a = a'
      · subst h2
        simp
      · simp [h2]
    · simp [h]
  | .un s a, .bi s' a' b' => by
    show ((s == s') && (PyData.eqv (dat a) (dat a') && false)) = _
    simp
  | .bi s a b, .am k x => by
    show ((s == k) && (PyData.eqv (dat a) (.str x) && false)) = _
    simp
  | .bi s a b, .un s' a' => by
    show ((s == s') && (PyData.eqv (dat a) (dat a') && false)) = _
    simp
  | .bi s a b, .bi s' a' b' => by
    show ((s == s') && (PyData.eqv (dat a) (dat a') && (PyData.eqv (dat b) (dat b') && true))) = _
    rw [eqv_dat a a', eqv_dat b b']
    by_cases h : s = s'
    · subst h
      by_cases h2 : a = a'
      · subst h2
        by_cases h3 : b = b'
        · subst h3
          simp
        · simp [h3]
      · simp [h2]
    · simp [h]
theorem eqvAll_dat : ∀ ts us : List Tr, PyData.eqvAll (ts.map dat) (us.map dat) = decide (ts = us)
  | [], [] => rfl
  | [], u :: us => rfl
  | t :: ts, [] => rfl
  | t :: ts, u :: us => by
    show (PyData.eqv (dat t) (dat u) && PyData.eqvAll (ts.map dat) (us.map dat)) = _
    rw [eqv_dat, eqvAll_dat ts us]
    by_cases h : t = u
    · subst h
      by_cases h2 : ts = us
      · subst h2
        simp
      · simp [h2]
    · simp [h]
theorem eqvAll_str : ∀ xs ys : List Str, PyData.eqvAll (xs.map PyData.str) (ys.map PyData.str) = decide (xs = ys)
  | [], [] => rfl
  | [], u :: us => rfl
  | t :: ts, [] => rfl
  | t :: ts, u :: us => by
    show ((t == u) && PyData.eqvAll (ts.map PyData.str) (us.map PyData.str)) = _
    rw [eqvAll_str ts us]
    by_cases h : t = u
    · subst h
      by_cases h2 : ts = us
      · subst h2
        simp
      · simp [h2]
    · simp [h]
theorem dpAll_ts {K : PySem.W.Frag} {H : Hp} : ∀ {ts : List Tr} {vs : List V}, TsAt H ts vs → DpAll K H vs (ts.map dat)
  | [], [], _ => .nil
  | [], _ :: _, h => by cases h.len
  | _ :: _, [], h => by cases h.len
  | t :: ts, v :: vs, h => .cons (h.get 0 t v rfl rfl).dp (dpAll_ts (ts := ts) ⟨Nat.succ.inj h.len, fun i t' v' h1 h2 => h.get (i + 1) t' v' h1 h2⟩)
theorem dpAll_str {K : PySem.W.Frag} {H : Hp} : ∀ (xs : List Str), DpAll K H (xs.map V.str) (xs.map PyData.str)
  | [] => .nil
  | x :: xs => .cons (.str x) (dpAll_str xs)
theorem layAll_ts : ∀ {ts : List Tr}, (∀ t ∈ ts, t.fine) → PyData.canLayAll0 (ts.map dat) = true
  | [], _ => rfl
  | t :: ts, h => by
    show ((dat t).canLay0 && PyData.canLayAll0 (ts.map dat)) = true
    rw [dat_lay (h t List.mem_cons_self), layAll_ts fun u hu => h u (List.mem_cons_of_mem _ hu)]
    rfl
theorem depAll_ts {n : Nat} : ∀ {ts : List Tr}, (∀ t ∈ ts, t.dep ≤ n) → PyData.depthAll (ts.map dat) ≤ n + 1
  | [], _ => Nat.zero_le _
  | t :: ts, h => by
    show max (dat t).depth (PyData.depthAll (ts.map dat)) ≤ n + 1
    have h1 := dat_dep (t := t)
    have h2 := h t List.mem_cons_self
    have h3 := depAll_ts (n := n) fun u hu => h u (List.mem_cons_of_mem _ hu)
    omega
theorem ts_shaped {ts : List Tr} (h : ∀ t ∈ ts, t.fine ∧ t.dep ≤ 60) : SeqAt.shaped (.list (ts.map dat)) = true := by
  have h1 := layAll_ts fun t ht => (h t ht).1
  have h2 := depAll_ts fun t ht => (h t ht).2
  show (PyData.canLayAll0 (ts.map dat) && decide (PyData.depthAll (ts.map dat) + 1 ≤ 64)) = true
  rw [h1, decide_eq_true (by omega)]
  rfl
theorem str_shaped : ∀ {xs : List Str}, (∀ x ∈ xs, okS x) → SeqAt.shaped (.list (xs.map PyData.str)) = true := by
  intro xs h
  have h1 : ∀ {l : List Str}, (∀ x ∈ l, okS x) → PyData.canLayAll0 (l.map PyData.str) = true ∧ PyData.depthAll (l.map PyData.str) = 0 := by
    intro l
    induction l with
    | nil => exact fun _ => ⟨rfl, rfl⟩
    | cons x r ih =>
      intro h
      obtain ⟨a, b⟩ := ih fun y hy => h y (List.mem_cons_of_mem _ hy)
      refine ⟨?_, ?_⟩
      · show (PyData.strOk x && PyData.canLayAll0 (r.map PyData.str)) = true
        rw [strOk_of (h x List.mem_cons_self), a]
        rfl
      · show max 0 (PyData.depthAll (r.map PyData.str)) = 0
        rw [b]
        rfl
  obtain ⟨a, b⟩ := h1 h
  show (PyData.canLayAll0 (xs.map PyData.str) && decide (PyData.depthAll (xs.map PyData.str) + 1 ≤ 64)) = true
  rw [a, b]
  rfl
end Rd
namespace Rd
open PySem L2
/-! ### forms with unknowns replaced -/
def fill (m : Str → Option Tr) : Tr → Tr
  | .am k x => if k = "unknown" then (m x).getD (.am k x) else .am k x
  | .un s a => .un s (fill m a)
  | .bi s a b => .bi s (fill m a) (fill m b)
/-- the dict at a holds the forms m -/
def DTr (H : Hp) (a : Addr) (m : Str → Option Tr) : Prop := ∃ kvs, L2.Rd H a (.dK kvs) ∧ (∀ x t, m x = some t → ∃ v, valV kvs (.inr x) = some v ∧ IsT H t v) ∧ ∀ x, m x = none → valV kvs (.inr x) = none
theorem DTr.same {H H' : Hp} {a : Addr} {m : Str → Option Tr} (s : Same H H') (h : DTr H a m) : DTr H' a m := by
  obtain ⟨kvs, h1, h2, h3⟩ := h
  refine ⟨kvs, ?_, fun x t e => ?_, h3⟩
  · rcases h1 with h | ⟨o, h⟩
    · exact .inl (s _ _ h)
    · exact .inr ⟨o, s _ _ h⟩
  · obtain ⟨v, e1, e2⟩ := h2 x t e
    exact ⟨v, e1, e2.same s⟩
theorem DTr.get {H : Hp} {a : Addr} {m : Str → Option Tr} {x : Str} (h : DTr H a m) : ∃ o, DGet H a (.str x) o ∧ (∀ t, m x = some t → ∃ v, o = some v ∧ IsT H t v) ∧ (m x = none → o = none) := by
  obtain ⟨kvs, h1, h2, h3⟩ := h
  exact ⟨valV kvs (.inr x), .inl ⟨kvs, .inr x, h1, rfl, rfl⟩, fun t e => h2 x t e, h3 x⟩
theorem DTr.isD {H : Hp} {a : Addr} {m : Str → Option Tr} (h : DTr H a m) : IsD H a := by
  obtain ⟨kvs, h1, _⟩ := h
  exact .inl ⟨kvs, h1⟩
theorem fill_tup {H : Hp} {m : Str → Option Tr} {t : Tr} {q : Addr} {vs : List V} (hpt : t.parts ≠ []) (hq : H q = some (.tup (.str t.head :: vs))) (hl : vs.length = t.parts.length) (hv : ∀ (i : Nat) v, vs[i]? = some v → ∃ r, t.parts[i]? = some r ∧ IsT H (fill m r) v) : IsT H (fill m t) (.ref q) := by
  cases t with
  | am => exact absurd rfl hpt
  | un s a =>
    match vs, hl with
    | [v1], _ =>
      obtain ⟨r, e, h⟩ := hv 0 v1 rfl
      cases (show some a = some r from e)
      exact ⟨q, v1, rfl, hq, h⟩
  | bi s a b =>
    match vs, hl with
    | [v1, v2], _ =>
      obtain ⟨r, e, h⟩ := hv 0 v1 rfl
      cases (show some a = some r from e)
      obtain ⟨r2, e2, h2⟩ := hv 1 v2 rfl
      cases (show some b = some r2 from e2)
      exact ⟨q, v1, v2, rfl, hq, h, h2⟩
def sp_fill (d : Nat) : Sp := fun vs H Q _ => ∃ (v : V) (a : Addr) (t : Tr) (m : Str → Option Tr), vs = [v, .ref a] ∧ IsT H t v ∧ Wf t ∧ t.dep ≤ d ∧ DTr H a m ∧ ∀ u H', Same H H' → IsT H' (fill m t) u → Q u H'
def spFR : Nat → Sp
  | 0 => fun _ _ _ _ => False
  | d + 1 => sp_fill d
/-! ### dicts from unknowns to forms or letters, in their order -/
def Al (R : Hp → Tr → V → Prop) (H : Hp) : List (Str × Tr) → List (Key × V) → Prop
  | [], [] => True
  | (x, t) :: l, (k, v) :: kvs => k = .inr x ∧ R H t v ∧ Al R H l kvs
  | _, _ => False
def look (l : List (Str × Tr)) (x : Str) : Option Tr := (l.find? fun p => decide (p.1 = x)).map (·.2)
theorem Al.len {R : Hp → Tr → V → Prop} {H : Hp} : ∀ {l : List (Str × Tr)} {kvs : List (Key × V)}, Al R H l kvs → kvs.length = l.length
  | [], [], _ => rfl
  | (x, t) :: l, (k, v) :: kvs, h => congrArg (· + 1) (Al.len h.2.2)
theorem Al.mono {R S : Hp → Tr → V → Prop} {H H' : Hp} (m : ∀ t v, R H t v → S H' t v) : ∀ {l : List (Str × Tr)} {kvs : List (Key × V)}, Al R H l kvs → Al S H' l kvs
  | [], [], _ => trivial
  | (x, t) :: l, (k, v) :: kvs, h => ⟨h.1, m _ _ h.2.1, Al.mono m h.2.2⟩
theorem Al.get {R : Hp → Tr → V → Prop} {H : Hp} : ∀ {l : List (Str × Tr)} {kvs : List (Key × V)} {i : Nat} {k : Key} {v : V}, Al R H l kvs → kvs[i]? = some (k, v) → ∃ x t, l[i]? = some (x, t) ∧ k = .inr x ∧ R H t v
  | (x, t) :: l, (k, v) :: kvs, 0, _, _, h, e => by
    cases e
    exact ⟨x, t, rfl, h.1, h.2.1⟩
  | (x, t) :: l, (k, v) :: kvs, i + 1, _, _, h, e => by
    obtain ⟨y, u, e1, e2, e3⟩ := Al.get (l := l) (kvs := kvs) (i := i) h.2.2 (by simpa using e)
    exact ⟨y, u, by simpa using e1, e2, e3⟩
  | [], [], _, _, _, _, e => by simp at e
theorem Al.snoc {R : Hp → Tr → V → Prop} {H : Hp} {x : Str} {t : Tr} {v : V} (r : R H t v) : ∀ {l : List (Str × Tr)} {kvs : List (Key × V)}, Al R H l kvs → Al R H (l ++ [(x, t)]) (kvs ++ [(.inr x, v)])
  | [], [], _ => ⟨rfl, r, trivial⟩
  | (y, u) :: l, (k, z) :: kvs, h => ⟨h.1, h.2.1, Al.snoc r h.2.2⟩
theorem Al.look {R : Hp → Tr → V → Prop} {H : Hp} {x : Str} : ∀ {l : List (Str × Tr)} {kvs : List (Key × V)}, Al R H l kvs → (∀ t, look l x = some t → ∃ v, valV kvs (.inr x) = some v ∧ R H t v) ∧ (look l x = none → valV kvs (.inr x) = none)
  | [], [], _ => ⟨fun t e => (by cases e), fun _ => rfl⟩
  | (y, u) :: l, (k, z) :: kvs, h => by
    obtain ⟨rfl, h2, h3⟩ := h
    by_cases e : y = x
    · subst e
      refine ⟨fun t e => ?_, fun e => ?_⟩
      · rw [show Rd.look ((y, u) :: l) y = some u by simp [Rd.look]] at e
        cases e
        exact ⟨z, valV_pos rfl, h2⟩
      · rw [show Rd.look ((y, u) :: l) y = some u by simp [Rd.look]] at e
        cases e
    · have e1 : Rd.look ((y, u) :: l) x = Rd.look l x := by simp [Rd.look, e]
      rw [e1, valV_neg (fun q => e (by cases q; rfl))]
      exact Al.look h3
theorem look_none {l : List (Str × Tr)} {x : Str} (h : x ∉ l.map (·.1)) : look l x = none := by
  unfold look
  rw [List.find?_eq_none.mpr fun p hp => by
    intro e
    exact h (List.mem_map.mpr ⟨p, hp, of_decide_eq_true e⟩)]
  rfl
theorem Kp.upd_dK {C D : Addr} {H : Hp} {xs ys : List (Key × V)} (h : H D = some (.dK xs)) : Kp C H (L2.upd H D (.dK ys)) := fun b o hi e => by
  have hb : b ≠ D := fun z => by
    rw [z, h] at e
    cases e
    cases hi
  rw [upd_ne hb]
  exact e
/-- {x: f(v) for x, v in d.items()} -/
theorem dci {K : PySem.W.Frag} {C d D : Addr} {o : Obj} {kvs : List (Key × V)} {l : List (Str × Tr)} {R1 R2 : Hp → Tr → V → Prop} (f : Tr → Tr) {tv : TE} {i0 i1 : Nat} {σ : St} {H1 : Hp} {Qd : Hp → Prop}
    (m1 : ∀ H H' t v, Kp C H H' → R1 H t v → R1 H' t v) (m2 : ∀ H H' t v, Kp C H H' → R2 H t v → R2 H' t v) (hd : H1 d = some (.frz o (.dK kvs))) (al : Al R1 H1 l kvs) (nd : (l.map (·.1)).Nodup) (hl : l.length ≤ 1000) (hD : H1 D = none)
    (hsl : ∀ p q : V, (((wipe σ [i0, i1]).set i0 (some p)).set i1 (some q))[i0]? = some (some p)) (hw : ∀ p q : V, wipe (((wipe σ [i0, i1]).set i0 (some p)).set i1 (some q)) [i0, i1] = wipe σ [i0, i1])
    (hte : ∀ (i : Nat) (x : Str) (t : Tr) (v : V) (σ2 : St) (H : Hp) (Q : VK), l[i]? = some (x, t) → Same H1 H → R1 H t v → σ2 = (((wipe σ [i0, i1]).set i0 (some (.str x))).set i1 (some v)) → (∀ z H', Same H H' → R2 H' (f t) z → Q z H') → tv σ2 H Q)
    (hq : ∀ kvs' H', Same H1 H' → H' D = some (.dK kvs') → Al R2 H' (l.map fun p => (p.1, f p.2)) kvs' → Qd H') :
    ∃ W : Nat → Nat → Hp → Prop, (∃ m, W 0 m (L2.upd H1 D (.dK []))) ∧ ∀ i m H, W i m H →
      ((Iti d o kvs).stop i H ∧ Qd H) ∨ ((Iti d o kvs).go i H ∧ ∃ Nx : Hp → Prop, (∀ H', Nx H' → ∃ m', m' < m ∧ W (i + 1) m' H') ∧ ∀ x H', (Iti d o kvs).yld i H x H' → gTup K 2 (gCons (gName i0) (gCons (gName i1) gNil)) x (wipe σ [i0, i1]) H' fun σ2 H2 => wipe σ2 [i0, i1] = wipe σ [i0, i1] ∧ tYes σ2 H2 fun b H3 =>
        if b = true then tVar i0 σ2 H3 fun y H4 => tv σ2 H4 fun z H5 => ∃ kvs' k, y = kV k ∧ H5 D = some (.dK kvs') ∧ kvs'.length < sizeLine ∧ Nx (L2.upd H5 D (.dK (putK kvs' k z))) else Nx H3) := by
  have hlen := al.len
  have big : 100000 ≤ sizeLine := by decide
  refine ⟨fun i m H => m = kvs.length - i ∧ i ≤ kvs.length ∧ ∃ acc, Same H1 H ∧ H D = some (.dK acc) ∧ Al R2 H ((l.take i).map fun p => (p.1, f p.2)) acc, ⟨_, rfl, Nat.zero_le _, [], Rd.Same.upd hD, upd_same, trivial⟩, ?_⟩
  rintro i m H ⟨rfl, hi, acc, s, hDa, ala⟩
  by_cases hlt : i < kvs.length
  · refine .inr ⟨⟨s _ _ hd, hlt⟩, fun H' => ∃ acc, Same H1 H' ∧ H' D = some (.dK acc) ∧ Al R2 H' ((l.take (i + 1)).map fun p => (p.1, f p.2)) acc, fun H' h => ⟨kvs.length - (i + 1), by omega, rfl, hlt, h⟩, ?_⟩
    rintro _ _ ⟨Tq, k, v, hk, rfl, hT, rfl⟩
    obtain ⟨x, t, hx, rfl, r1⟩ := al.get hk
    have sT := Rd.Same.upd (o := .tup [kV (.inr x), v]) hT
    refine ⟨Tq, [kV (.inr x), v], rfl, SqT.of upd_same, rfl, _, _, rfl, _, _, rfl, rfl, hw _ _, ?_⟩
    unfold tYes
    refine iteT ⟨_, hsl _ _, hte i x t v _ _ _ hx (s.trans sT) (m1 _ _ _ _ (Kp.of_same (s.trans sT)) r1) rfl fun z H' s' hz => ?_⟩
    have hD' := s' _ _ (sT _ _ hDa)
    have hal := ala.len
    rw [List.length_map, List.length_take] at hal
    have etk : l.take (i + 1) = l.take i ++ [(x, t)] := by rw [List.take_succ, hx]; rfl
    have hno : look ((l.take i).map fun p => (p.1, f p.2)) x = none := by
      refine look_none ?_
      rw [List.map_map]
      have n2 : ((l.take (i + 1)).map (·.1)).Nodup := ((List.take_sublist _ _).map _).nodup nd
      rw [etk, List.map_append] at n2
      have := (List.nodup_append.mp n2).2.2
      intro hm
      exact this x hm x (List.mem_singleton.mpr rfl) rfl
    have hv0 := (ala.look (x := x)).2 hno
    refine ⟨acc, .inr x, rfl, hD', by omega, acc ++ [(.inr x, z)], fun c o e => ?_, ?_, ?_⟩
    · rw [upd_ne (ne_of_none e hD)]
      exact s' _ _ (sT _ _ (s _ _ e))
    · rw [upd_same, putK_new z hv0]
    · rw [putK_new z hv0, etk, List.map_append]
      have kp := Kp.upd_dK (C := C) (ys := acc ++ [(.inr x, z)]) hD'
      exact Al.snoc (m2 _ _ _ _ kp hz) (ala.mono fun t v h => m2 _ _ _ _ kp (m2 _ _ _ _ (Kp.of_same (sT.trans s')) h))
  · refine .inl ⟨⟨s _ _ hd, by omega⟩, hq acc H s hDa ?_⟩
    rw [List.take_of_length_le (by omega)] at ala
    exact ala
theorem mergeK_app : ∀ (more acc : List (Key × V)), ((acc ++ more).map (·.1)).Nodup → mergeK acc more = acc ++ more
  | [], acc, _ => (List.append_nil acc).symm
  | p :: r, acc, h => by
    show mergeK (putK acc p.1 p.2) r = _
    have e : valV acc p.1 = none := by
      have h2 := h
      rw [List.map_append, List.map_cons] at h2
      have h3 := (List.nodup_append.mp h2).2.2
      unfold valV
      rw [List.find?_eq_none.mpr fun q hq => by
        intro z
        exact h3 p.1 (List.mem_map.mpr ⟨q, hq, of_decide_eq_true z⟩) p.1 List.mem_cons_self rfl]
      rfl
    rw [putK_new p.2 e, mergeK_app r (acc ++ [(p.1, p.2)]) (by rw [List.append_assoc]; exact h), List.append_assoc]
    rfl
theorem Al.keys {R : Hp → Tr → V → Prop} {H : Hp} : ∀ {l : List (Str × Tr)} {kvs : List (Key × V)}, Al R H l kvs → kvs.map (·.1) = l.map fun p => Sum.inr p.1
  | [], [], _ => rfl
  | (x, t) :: l, (k, v) :: kvs, h => by
    rw [List.map_cons, List.map_cons, Al.keys h.2.2, h.1]
theorem Al.merge {R : Hp → Tr → V → Prop} {H : Hp} {l : List (Str × Tr)} {kvs : List (Key × V)} (al : Al R H l kvs) (nd : (l.map (·.1)).Nodup) : mergeK [] kvs = kvs := by
  refine mergeK_app kvs [] ?_
  rw [List.nil_append, al.keys]
  have : (l.map fun p => (Sum.inr p.1 : Key)) = (l.map (·.1)).map Sum.inr := by rw [List.map_map]; rfl
  rw [this]
  exact List.Pairwise.map _ (fun a b h e => h (by cases e; rfl)) nd
def Pq (H : Hp) : List Addr → List (Key × V) → Prop
  | [], [] => True
  | p :: ps, kv :: kq => H p = some (.tup [kV kv.1, kv.2]) ∧ Pq H ps kq
  | _, _ => False
theorem Pq.mono {C : Addr} {H H' : Hp} (k : Kp C H H') : ∀ {ps : List Addr} {kq : List (Key × V)}, Pq H ps kq → Pq H' ps kq
  | [], [], _ => trivial
  | _ :: _, _ :: _, h => ⟨k _ _ rfl h.1, Pq.mono k h.2⟩
theorem Pq.snoc {H : Hp} {p : Addr} {kv : Key × V} (e : H p = some (.tup [kV kv.1, kv.2])) : ∀ {ps : List Addr} {kq : List (Key × V)}, Pq H ps kq → Pq H (ps ++ [p]) (kq ++ [kv])
  | [], [], _ => ⟨e, trivial⟩
  | _ :: _, _ :: _, h => ⟨h.1, Pq.snoc e h.2⟩
theorem Pq.paired {K : PySem.W.Frag} {H : Hp} : ∀ {ps : List Addr} {kq : List (Key × V)}, Pq H ps kq → Paired (fun p kv => SqT K H p [kV kv.1, kv.2]) ps kq
  | [], [], _ => .nil
  | _ :: _, _ :: _, h => .cons (SqT.of h.1) (Pq.paired h.2)
theorem Pq.len {H : Hp} : ∀ {ps : List Addr} {kq : List (Key × V)}, Pq H ps kq → ps.length = kq.length
  | [], [], _ => rfl
  | _ :: _, _ :: _, h => congrArg (· + 1) (Pq.len h.2)
theorem look_get {x : Str} {t : Tr} : ∀ {l : List (Str × Tr)} {i : Nat}, (l.map (·.1)).Nodup → l[i]? = some (x, t) → look l x = some t
  | (y, u) :: l, 0, _, e => by
    cases e
    simp [look]
  | (y, u) :: l, i + 1, h, e => by
    have e : l[i]? = some (x, t) := by simpa using e
    have h : (y :: l.map (·.1)).Nodup := h
    have hne : ¬ y = x := fun z => (List.nodup_cons.mp h).1 (List.mem_map.mpr ⟨_, List.mem_of_getElem? e, z.symm⟩)
    have := look_get (List.nodup_cons.mp h).2 e
    simp only [look, List.find?_cons, hne, decide_false]
    exact this
/-- [(x, f(d[x])) for x in d] -/
theorem lck {C d D : Addr} {o : Obj} {kvs : List (Key × V)} {l : List (Str × Tr)} {R1 R2 : Hp → Tr → V → Prop} (f : Tr → Tr) {tv : TE} {i0 : Nat} {σ : St} {H1 : Hp} {Qd : Hp → Prop}
    (m1 : ∀ H H' t v, Kp C H H' → R1 H t v → R1 H' t v) (m2 : ∀ H H' t v, Kp C H H' → R2 H t v → R2 H' t v) (hd : H1 d = some (.frz o (.dK kvs))) (al : Al R1 H1 l kvs) (nd : (l.map (·.1)).Nodup) (hl : l.length ≤ 1000) (hD : H1 D = none)
    (hsl : ∀ p : V, ((wipe σ [i0]).set i0 (some p))[i0]? = some (some p)) (hw : ∀ p : V, wipe ((wipe σ [i0]).set i0 (some p)) [i0] = wipe σ [i0])
    (hte : ∀ (i : Nat) (x : Str) (t : Tr) (v : V) (σ2 : St) (H : Hp) (Q : VK), l[i]? = some (x, t) → Same H1 H → R1 H t v → DGet H d (.str x) (some v) → σ2 = (wipe σ [i0]).set i0 (some (.str x)) → (∀ z H', Same H H' → R2 H' (f t) z → Q z H') → tv σ2 H Q)
    (hq : ∀ ps kq H', Same H1 H' → H' D = some (.lst (ps.map V.ref)) → Pq H' ps kq → Al R2 H' (l.map fun p => (p.1, f p.2)) kq → Qd H') :
    ∃ W : Nat → Nat → Hp → Prop, (∃ m, W 0 m (L2.upd H1 D (.lst []))) ∧ ∀ i m H, W i m H →
      ((Itk d o kvs).stop i H ∧ Qd H) ∨ ((Itk d o kvs).go i H ∧ ∃ Nx : Hp → Prop, (∀ H', Nx H' → ∃ m', m' < m ∧ W (i + 1) m' H') ∧ ∀ x H', (Itk d o kvs).yld i H x H' → gName i0 x (wipe σ [i0]) H' fun σ2 H2 => wipe σ2 [i0] = wipe σ [i0] ∧ tYes σ2 H2 fun b H3 =>
        if b = true then tTup (tCons (tVar i0) (tCons tv tNil)) σ2 H3 fun y H4 => ∃ acc, H4 D = some (.lst acc) ∧ acc.length < sizeLine ∧ Nx (L2.upd H4 D (.lst (acc ++ [y]))) else Nx H3) := by
  have hlen := al.len
  have big : 100000 ≤ sizeLine := by decide
  refine ⟨fun i m H => m = kvs.length - i ∧ i ≤ kvs.length ∧ ∃ ps kq, Same H1 H ∧ H D = some (.lst (ps.map V.ref)) ∧ Pq H ps kq ∧ Al R2 H ((l.take i).map fun p => (p.1, f p.2)) kq, ⟨_, rfl, Nat.zero_le _, [], [], Rd.Same.upd hD, upd_same, trivial, trivial⟩, ?_⟩
  rintro i m H ⟨rfl, hi, ps, kq, s, hDa, pq, ala⟩
  by_cases hlt : i < kvs.length
  · refine .inr ⟨⟨s _ _ hd, hlt⟩, fun H' => ∃ ps kq, Same H1 H' ∧ H' D = some (.lst (ps.map V.ref)) ∧ Pq H' ps kq ∧ Al R2 H' ((l.take (i + 1)).map fun p => (p.1, f p.2)) kq, fun H' h => ⟨kvs.length - (i + 1), by omega, rfl, hlt, h⟩, ?_⟩
    rintro _ _ ⟨rfl, k, v0, hk, rfl⟩
    obtain ⟨x, t, hx, rfl, _⟩ := al.get hk
    obtain ⟨v, ev, r1⟩ := (al.look (x := x)).1 t (look_get nd hx)
    have etk : l.take (i + 1) = l.take i ++ [(x, t)] := by rw [List.take_succ, hx]; rfl
    refine ⟨hw _, ?_⟩
    unfold tYes
    have hal := ala.len
    have hpl := pq.len
    rw [List.length_map, List.length_take] at hal
    refine iteT ⟨_, hsl _, hte i x t v _ _ _ hx s (m1 _ _ _ _ (Kp.of_same s) r1) (.inl ⟨kvs, .inr x, .inr ⟨o, s _ _ hd⟩, rfl, ev.symm⟩) rfl fun z H' s' hz => ⟨(by show 2 ≤ sizeLine; decide), fun q hq' => ?_⟩⟩
    have sq := Rd.Same.upd (o := .tup [kV (.inr x), z]) hq'
    have hD' := sq _ _ (s' _ _ hDa)
    refine ⟨_, hD', by rw [List.length_map]; omega, ps ++ [q], kq ++ [(.inr x, z)], fun c o e => ?_, ?_, ?_, ?_⟩
    · rw [upd_ne (ne_of_none e hD)]
      exact sq _ _ (s' _ _ (s _ _ e))
    · rw [upd_same, List.map_append]
      rfl
    · have kp := Kp.upd_lst (C := C) (ys := ps.map V.ref ++ [V.ref q]) hD'
      exact Pq.snoc (kp _ _ rfl upd_same) ((pq.mono (C := C) (Kp.of_same (s'.trans sq))).mono kp)
    · have kp := Kp.upd_lst (C := C) (ys := ps.map V.ref ++ [V.ref q]) hD'
      rw [etk, List.map_append]
      exact Al.snoc (m2 _ _ _ _ kp (m2 _ _ _ _ (Kp.of_same sq) hz)) (ala.mono fun t v h => m2 _ _ _ _ kp (m2 _ _ _ _ (Kp.of_same (s'.trans sq)) h))
  · refine .inl ⟨⟨s _ _ hd, by omega⟩, hq ps kq H s hDa pq ?_⟩
    rw [List.take_of_length_le (by omega)] at ala
    exact ala
section
variable {X : Cx} {CX : CXT} {k : Nat} {c m : Str} {ps : List Str} {sp : Sp} {o : Expr} {ta : TE} {E : XK} {apos pos : Pos} {K : PySem.W.Frag}
theorem pe_fm0k {pl : Sem Bool} (hK : X.K = K) (he : PE X o ta) (cl : Cls X.K (He.ga X.K c)) (F : Fm X.prog X.w X.K X.mg X.base CX k c m ps sp) (hr : Room k X.A) (hx : Passes CX X E)
    (ht : eval (.Call (.Attribute o m apos) [] [] pos) X.env = (do
      let ov ← eval o X.env
      standAt apos.atName
      let (f, first) ← holding [ov] (getMethod ov m pl)
      callWith pos f first (backTo pos (starEach [] X.env)) (backToKw pos (keywordEach [] X.env))) := by rfl) :
    PE X (.Call (.Attribute o m apos) [] [] pos) (tMeth (He.ga K c) m sp [] E ta tNil) := by subst hK; exact pe_fm0 he cl F hr hx ht
end
end Rd
namespace Rd
open PySem L2
/-! ### texts ascending, each once -/
def ltS (a b : Str) : Bool := PySem.Spec.ltCps a.cps.toList b.cps.toList
theorem ltC_irr : ∀ a : List Nat, PySem.Spec.ltCps a a = false
  | [] => rfl
  | a :: r => by
    show (decide (a < a) || (a == a && PySem.Spec.ltCps r r)) = false
    rw [ltC_irr r]
    simp
theorem ltC_trans : ∀ {a b c : List Nat}, PySem.Spec.ltCps a b = true → PySem.Spec.ltCps b c = true → PySem.Spec.ltCps a c = true
  | [], [], _, h, _ => by cases h
  | [], _ :: _, [], _, h => by cases h
  | [], _ :: _, _ :: _, _, _ => rfl
  | _ :: _, [], _, h, _ => by cases h
  | _ :: _, _ :: _, [], _, h => by cases h
  | a :: r, b :: s, c :: t, h1, h2 => by
    have g1 : (decide (a < b) || (a == b && PySem.Spec.ltCps r s)) = true := h1
    have g2 : (decide (b < c) || (b == c && PySem.Spec.ltCps s t)) = true := h2
    show (decide (a < c) || (a == c && PySem.Spec.ltCps r t)) = true
    rw [Bool.or_eq_true, Bool.and_eq_true, decide_eq_true_eq, beq_iff_eq] at g1 g2 ⊢
    rcases g1 with g1 | ⟨e1, g1⟩
    · rcases g2 with g2 | ⟨e2, g2⟩
      · exact .inl (Nat.lt_trans g1 g2)
      · exact .inl (by omega)
    · rcases g2 with g2 | ⟨e2, g2⟩
      · exact .inl (by omega)
      · exact .inr ⟨by omega, ltC_trans g1 g2⟩
theorem ltC_tot : ∀ {a b : List Nat}, PySem.Spec.ltCps a b = false → PySem.Spec.ltCps b a = false → a = b
  | [], [], _, _ => rfl
  | [], _ :: _, h, _ => by cases h
  | _ :: _, [], _, h => by cases h
  | a :: r, b :: s, h1, h2 => by
    have h1 : (decide (a < b) || (a == b && PySem.Spec.ltCps r s)) = false := h1
    have h2 : (decide (b < a) || (b == a && PySem.Spec.ltCps s r)) = false := h2
    rw [Bool.or_eq_false_iff, decide_eq_false_iff_not] at h1 h2
    have e : a = b := by omega
    subst e
    rw [beq_self_eq_true, Bool.true_and] at h1 h2
    rw [ltC_tot h1.2 h2.2]
theorem ltS_irr (a : Str) : ltS a a = false := ltC_irr _
theorem ltS_trans {a b c : Str} (h1 : ltS a b = true) (h2 : ltS b c = true) : ltS a c = true := ltC_trans h1 h2
theorem ltS_tot {a b : Str} (h1 : ltS a b = false) (h2 : ltS b a = false) : a = b := by
  have e := ltC_tot h1 h2
  cases a; cases b
  exact congrArg Str.mk (Array.toList_inj.mp e)
def asc (l : List Str) : Prop := l.Pairwise fun a b => ltS a b = true
theorem asc_of : ∀ {l : List Str}, PyProof.Rows.sortedS l = true → l.Nodup → asc l
  | [], _, _ => List.Pairwise.nil
  | [x], _, _ => List.pairwise_singleton _ _
  | x :: y :: r, h, n => by
    have h : (!ltS y x && PyProof.Rows.risingS y r) = true := h
    rw [Bool.and_eq_true, Bool.not_eq_true'] at h
    have ih : asc (y :: r) := asc_of (l := y :: r) h.2 (List.nodup_cons.mp n).2
    have ne : x ≠ y := fun e => (List.nodup_cons.mp n).1 (by rw [e]; exact List.mem_cons_self)
    have xy : ltS x y = true := by
      cases e : ltS x y with
      | true => rfl
      | false => exact absurd (ltS_tot e h.1) ne
    refine List.pairwise_cons.mpr ⟨fun z hz => ?_, ih⟩
    rcases List.mem_cons.mp hz with rfl | hz
    · exact xy
    · exact ltS_trans xy ((List.pairwise_cons.mp ih).1 z hz)
theorem asc_uniq : ∀ {l m : List Str}, asc l → asc m → (∀ x, x ∈ l ↔ x ∈ m) → l = m
  | [], [], _, _, _ => rfl
  | [], y :: m, _, _, h => by cases (h y).2 List.mem_cons_self
  | x :: l, [], _, _, h => by cases (h x).1 List.mem_cons_self
  | x :: l, y :: m, hl, hm, h => by
    obtain ⟨l1, l2⟩ := List.pairwise_cons.mp hl
    obtain ⟨m1, m2⟩ := List.pairwise_cons.mp hm
    have e : x = y := by
      rcases List.mem_cons.mp ((h x).1 List.mem_cons_self) with e | e
      · exact e
      · rcases List.mem_cons.mp ((h y).2 List.mem_cons_self) with e' | e'
        · exact e'.symm
        · have a := ltS_trans (m1 x e) (l1 y e')
          rw [ltS_irr] at a
          cases a
    subst e
    rw [asc_uniq l2 m2 fun z => ?_]
    constructor
    · intro hz
      rcases List.mem_cons.mp ((h z).1 (List.mem_cons_of_mem _ hz)) with e | e
      · have a := l1 z hz
        rw [e, ltS_irr] at a
        cases a
      · exact e
    · intro hz
      rcases List.mem_cons.mp ((h z).2 (List.mem_cons_of_mem _ hz)) with e | e
      · have a := m1 z hz
        rw [e, ltS_irr] at a
        cases a
      · exact e
def insS (x : Str) : List Str → List Str
  | [] => [x]
  | y :: r => if x = y then y :: r else if ltS x y = true then x :: y :: r else y :: insS x r
def uniS : List Str → List Str
  | [] => []
  | x :: r => insS x (uniS r)
theorem insS_mem {x z : Str} : ∀ {l : List Str}, z ∈ insS x l ↔ z = x ∨ z ∈ l
  | [] => by simp [insS]
  | y :: r => by
    unfold insS
    split
    · rename_i e
      subst e
      exact ⟨.inr, fun h => h.elim (fun e => by rw [e]; exact List.mem_cons_self) id⟩
    · split
      · exact List.mem_cons
      · rw [List.mem_cons, insS_mem, List.mem_cons]
        constructor
        · rintro (a | a | a)
          · exact .inr (.inl a)
          · exact .inl a
          · exact .inr (.inr a)
        · rintro (a | a | a)
          · exact .inr (.inl a)
          · exact .inl a
          · exact .inr (.inr a)
theorem insS_asc {x : Str} : ∀ {l : List Str}, asc l → asc (insS x l)
  | [], _ => List.pairwise_singleton _ _
  | y :: r, h => by
    obtain ⟨h1, h2⟩ := List.pairwise_cons.mp h
    unfold insS
    split
    · exact h
    · rename_i ne
      split
      · rename_i lt
        refine List.pairwise_cons.mpr ⟨fun z hz => ?_, h⟩
        rcases List.mem_cons.mp hz with rfl | hz
        · exact lt
        · exact ltS_trans lt (h1 z hz)
      · rename_i lt
        have yx : ltS y x = true := by
          cases e : ltS y x with
          | true => rfl
          | false => exact absurd (ltS_tot (by simpa using lt) e) ne
        refine List.pairwise_cons.mpr ⟨fun z hz => ?_, insS_asc h2⟩
        rcases insS_mem.mp hz with rfl | hz
        · exact yx
        · exact h1 z hz
theorem uniS_mem {z : Str} : ∀ {l : List Str}, z ∈ uniS l ↔ z ∈ l
  | [] => Iff.rfl
  | x :: r => by rw [uniS, insS_mem, uniS_mem, List.mem_cons]
theorem uniS_asc : ∀ {l : List Str}, asc (uniS l)
  | [] => List.Pairwise.nil
  | x :: r => insS_asc uniS_asc
theorem uniS_of {l ys : List Str} (h1 : ys.Nodup) (h2 : PyProof.Rows.sortedS ys = true) (h : ∀ x, x ∈ ys ↔ x ∈ l) : ys = uniS l :=
  asc_uniq (asc_of h2 h1) uniS_asc fun x => (h x).trans uniS_mem.symm
theorem insS_len {x : Str} : ∀ {l : List Str}, (insS x l).length ≤ l.length + 1
  | [] => Nat.le_refl _
  | y :: r => by
    unfold insS
    split
    · exact Nat.le_succ _
    · split
      · exact Nat.le_refl _
      · have := insS_len (x := x) (l := r)
        rw [List.length_cons, List.length_cons]
        omega
theorem uniS_len : ∀ {l : List Str}, (uniS l).length ≤ l.length
  | [] => Nat.le_refl _
  | x :: r => by
    have h1 := insS_len (x := x) (l := uniS r)
    have h2 := uniS_len (l := r)
    rw [uniS, List.length_cons]
    omega
/-- the texts of a form's atoms of one kind, as often as they stand -/
def Tr.txt (k : Str) : Tr → List Str
  | .am k' x => if k' = k then [x] else []
  | .un _ a => a.txt k
  | .bi _ a b => a.txt k ++ b.txt k
def txt1 (k : Str) : Tr → List Str
  | .am k' x => if k' = k then [x] else []
  | _ => []
theorem txt_all (k : Str) : ∀ t : Tr, t.all.flatMap (txt1 k) = t.txt k
  | .am k' x => by
    show txt1 k (.am k' x) ++ [] = _
    rw [List.append_nil]
    rfl
  | .un s a => by
    show txt1 k (.un s a) ++ a.all.flatMap (txt1 k) = a.txt k
    rw [txt_all k a]
    rfl
  | .bi s a b => by
    show txt1 k (.bi s a b) ++ (a.all ++ b.all).flatMap (txt1 k) = a.txt k ++ b.txt k
    rw [List.flatMap_append, txt_all k a, txt_all k b]
    rfl
theorem txts_len (k : Str) : ∀ t : Tr, (t.txt k).length ≤ t.all.length
  | .am k' x => by
    show (if k' = k then [x] else []).length ≤ 1
    split
    · exact Nat.le_refl _
    · exact Nat.zero_le _
  | .un s a => Nat.le_succ_of_le (txts_len k a)
  | .bi s a b => by
    show (a.txt k ++ b.txt k).length ≤ (a.all ++ b.all).length + 1
    rw [List.length_append, List.length_append]
    have := txts_len k a
    have := txts_len k b
    omega
end Rd
namespace Rd
open PySem L2
/-! ### the text of a form -/
def txt : Tr → List Nat
  | .am k x => if k = "unknown" then 63 :: x.cps.toList else x.cps.toList
  | .un s a => s.cps.toList ++ 40 :: (txt a ++ [41])
  | .bi s a b => s.cps.toList ++ 40 :: (txt a ++ 44 :: 32 :: (txt b ++ [41]))
def textOf (t : Tr) : Str := ofC (txt t)
theorem sign_len {s : Str} (h : s ∈ (["mark", "open", "own", "pair", "seal", "lock"] : List Str)) : s.cps.toList.length ≤ 4 := by
  have : ∀ z ∈ (["mark", "open", "own", "pair", "seal", "lock"] : List Str), z.cps.toList.length ≤ 4 := by decide +kernel
  exact this s h
theorem txt_len {t : Tr} (h : Wf t) : (txt t).length ≤ 16 * t.all.length := by
  induction t with
  | am k x =>
    cases h with
    | am ko =>
      have hx : x.length ≤ 8 := by
        rcases ko with ⟨rfl, h⟩ | ⟨rfl, h⟩ | ⟨rfl, h⟩
        · exact (word_len h).2.1
        · exact (name_len h).1
        · have := (unk_len h).1; omega
      have e := len_list x
      show (if k = "unknown" then 63 :: x.cps.toList else x.cps.toList).length ≤ 16 * 1
      split
      · rw [List.length_cons]; omega
      · omega
  | un s a ih =>
    have hs := sign_len (h.sign (fun e => by cases e)).1
    have hs : s.cps.toList.length ≤ 4 := hs
    have := ih (h.parts_wf a List.mem_cons_self)
    show (s.cps.toList ++ 40 :: (txt a ++ [41])).length ≤ 16 * (a.all.length + 1)
    rw [List.length_append, List.length_cons, List.length_append, List.length_singleton]
    omega
  | bi s a b iha ihb =>
    have hs := sign_len (h.sign (fun e => by cases e)).1
    have hs : s.cps.toList.length ≤ 4 := hs
    have h1 := iha (h.parts_wf a List.mem_cons_self)
    have h2 := ihb (h.parts_wf b (List.mem_cons_of_mem _ List.mem_cons_self))
    show (s.cps.toList ++ 40 :: (txt a ++ 44 :: 32 :: (txt b ++ [41]))).length ≤ 16 * ((a.all ++ b.all).length + 1)
    rw [List.length_append, List.length_cons, List.length_append, List.length_cons, List.length_cons, List.length_append, List.length_singleton, List.length_append]
    omega
theorem txt_small {t : Tr} (h : Wf t) (hd : t.dep ≤ 12) : (txt t).length ≤ 131072 := by
  have h1 := txt_len h
  have h2 := all_len t
  have h3 : 2 ^ (t.dep + 1) ≤ 2 ^ 13 := Nat.pow_le_pow_right (by decide) (by omega)
  have h4 : 2 ^ 13 = 8192 := by decide
  omega
theorem text_len {t : Tr} : (textOf t).length = (txt t).length := by rw [len_list, textOf, ofC_list]
def sp_text (d : Nat) : Sp := fun vs H Q _ => ∃ (v : V) (t : Tr), vs = [v] ∧ IsT H t v ∧ Wf t ∧ t.dep ≤ d ∧ d ≤ 12 ∧ ∀ H', Same H H' → Q (.str (textOf t)) H'
def spTR : Nat → Sp
  | 0 => fun _ _ _ _ => False
  | d + 1 => sp_text d
theorem join1 (a : Str) : Txt.join ", " [a] = a := by
  show Builtin.Str.glued ", " [a] = a
  rw [PySem.StrLaws.glued_eq_join]
  rfl
theorem join2 (a b : Str) : Txt.join ", " [a, b] = a ++ ", " ++ b := by
  show Builtin.Str.glued ", " [a, b] = a ++ ", " ++ b
  rw [PySem.StrLaws.glued_eq_join]
  rfl
end Rd
namespace Rd
open PySem L2
theorem texts_eq {ts : List Tr} {vs : List V} (hl : vs.length = ts.length) (h : ∀ (i : Nat) v, vs[i]? = some v → ∃ r, ts[i]? = some r ∧ v = .str (textOf r)) : vs = (ts.map textOf).map V.str := by
  refine List.ext_getElem? fun i => ?_
  rw [List.getElem?_map, List.getElem?_map]
  cases e : vs[i]? with
  | none =>
    have := List.getElem?_eq_none_iff.mp e
    rw [List.getElem?_eq_none (by omega)]
    rfl
  | some v =>
    obtain ⟨r, h1, h2⟩ := h i v e
    rw [h1, h2]
    rfl
theorem parts_text {t : Tr} (hp : t.parts ≠ []) : (txt t) = t.head.cps.toList ++ 40 :: ((Txt.join ", " (t.parts.map textOf)).cps.toList ++ [41]) := by
  cases t with
  | am k x => exact absurd rfl hp
  | un s a =>
    show s.cps.toList ++ 40 :: (txt a ++ [41]) = s.cps.toList ++ 40 :: ((Txt.join ", " [textOf a]).cps.toList ++ [41])
    rw [join1, textOf, ofC_list]
  | bi s a b =>
    show s.cps.toList ++ 40 :: (txt a ++ 44 :: 32 :: (txt b ++ [41])) = s.cps.toList ++ 40 :: ((Txt.join ", " [textOf a, textOf b]).cps.toList ++ [41])
    have e : (", " : Str).cps.toList = [44, 32] := by decide +kernel
    rw [join2, app_list, app_list, textOf, textOf, ofC_list, ofC_list, e]
    simp
theorem join_sum {t : Tr} (wf : Wf t) (hd : t.dep ≤ 12) : ((t.parts.map textOf).map (·.length)).sum + (t.parts.map textOf).length * (", " : Str).length ≤ 16777216 := by
  have e : (", " : Str).length = 2 := by decide +kernel
  rw [e]
  cases t with
  | am k x => show 0 + 0 * 2 ≤ 16777216; decide
  | un s a =>
    have h1 := txt_small (wf.parts_wf a List.mem_cons_self) (by have : a.dep + 1 ≤ 12 := hd; omega)
    show (textOf a).length + 0 + 1 * 2 ≤ 16777216
    rw [text_len]
    omega
  | bi s a b =>
    have hd : max a.dep b.dep + 1 ≤ 12 := hd
    have h1 := txt_small (wf.parts_wf a List.mem_cons_self) (by omega)
    have h2 := txt_small (wf.parts_wf b (List.mem_cons_of_mem _ List.mem_cons_self)) (by omega)
    show (textOf a).length + ((textOf b).length + 0) + 2 * 2 ≤ 16777216
    rw [text_len, text_len]
    omega
theorem join_len {t : Tr} (hp : t.parts ≠ []) : (Txt.join ", " (t.parts.map textOf)).length + 2 + t.head.length = (txt t).length := by
  rw [parts_text hp, List.length_append, List.length_cons, List.length_append, List.length_singleton, len_list, len_list]
  omega
theorem text_parts {t : Tr} (hp : t.parts ≠ []) {a : Str} (h : a.cps.toList = t.head.cps.toList ++ 40 :: ((Txt.join ", " (t.parts.map textOf)).cps.toList ++ [41])) : a = textOf t := str_ext (by rw [h, ← parts_text hp, textOf, ofC_list])
theorem text_am {k x : Str} (h : k ≠ "unknown") : textOf (.am k x) = x := str_ext (by rw [textOf, ofC_list]; show (if k = "unknown" then _ else _) = _; rw [if_neg h])
theorem text_unk {x : Str} : textOf (.am "unknown" x) = "?" ++ x := by
  refine str_ext ?_
  have e : ("?" : Str).cps.toList = [63] := by decide +kernel
  rw [textOf, ofC_list, app_list, e]
  show (if ("unknown" : Str) = "unknown" then _ else _) = _
  rw [if_pos rfl]
  rfl
def SIGNL : List Str := ["pair", "seal", "lock", "mark", "open", "own"]
section
variable {P : Program} {w : World} {K : PySem.W.Frag} {mg : Str → Option Value} {base : Heap}
abbrev s_tree_text : Stmt := top 23
theorem sc_tree_text : FnScope ["tree", "inner", "part"] ["tree"] (defScope s_tree_text) := ⟨rfl, rfl, rfl, by decide +kernel, rfl, by decide +kernel, by decide +kernel⟩
theorem tt_step (T : Tx w K mg) (d : Nat) (ih : Fk P w K mg base CX0 (d + 1) "tree_text" ["tree"] (spTR d)) : Fk P w K mg base CX0 (d + 2) "tree_text" ["tree"] (sp_text d) := by
  refine T.F_tree_text.ok0 sc_tree_text (fun _ _ _ _ _ _ us hl => match us, hl with | [_], _ => rfl)
    (fun vs H Q E h => ?_) (fun cdv A outer s H vs Q E hr h => ?_)
  · obtain ⟨v, t, rfl, _⟩ := h
    rfl
  · obtain ⟨v, t, rfl, it, wf, dp, d12, k⟩ := h
    refine ⟨_, (pss_cons (ps_if (pt_cmpR op_eq (pe_ix ix_tup (pv 0) pe_int (fun _ _ => rfl)) pe_str (nomark _))
  (pss_one (ps_ret (pe_op op_add_str pe_str (pe_ix ix_tup (pv 0) pe_int (fun _ _ => rfl)))))
  pss_nil)
  (pss_cons (ps_if (pt_cmpR (op_inK T.D_SIGNS) (pe_ix ix_tup (pv 0) pe_int (fun _ _ => rfl)) (pe_kd T.D_SIGNS) (by rfl))
  (pss_cons (ps_set (i := 1) sc_tree_text.nd rfl (Or.inl rfl) (pe_join pe_str (pe_lc (own := [("part", 2)]) (g := gName 2) (tt := tYes) (by rfl) sc_tree_text.nd (pi_tup (pe_slice sl_tup (pv 0) (po_some pe_int) po_none)) (blkOk_by (own := [("part", 2)]) (N := ["tree", "inner", "part"]) (sc := defScope s_tree_text) (by decide +kernel)) (fun _ _ _ _ _ => (pg_name (i := 2) sc_tree_text.nd rfl (Or.inl rfl))) (fun _ _ _ _ _ => pts_nil) (fun _ _ _ _ _ => (pe_fk ih (hr.mono (by omega)) rfl pass0 (pa_cons (pv 2) pa_nil))))))
  (pss_one (ps_ret (pe_joined (.cons (pe_fmt (pe_ix ix_tup (pv 0) pe_int (fun _ _ => rfl))) (.cons pe_str (.cons (pe_fmt (pv 1)) (.cons pe_str .nil))))))))
  pss_nil)
  (pss_one (ps_ret (pe_ix ix_tup (pv 0) pe_int (fun _ _ => rfl)))))), ?_⟩
    have big : 16777216 ≤ sizeLine := by decide
    by_cases hpt : t.parts ≠ []
    · obtain ⟨hsg, hws⟩ := wf.sign hpt
      obtain ⟨pf, us, rfl, hp, hlu, hl2, hne, hus⟩ := it.parts hpt
      have h4 : ¬ decide (V.str t.head = V.str "unknown") = true := by
        have : ∀ z ∈ (["mark", "open", "own", "pair", "seal", "lock"] : List Str), ¬ decide (V.str z = V.str "unknown") = true := by decide +kernel
        exact this _ hsg
      refine ⟨_, rfl, pf, _, _, _, rfl, rfl, SqT.of hp, at_of (j := 0) rfl rfl, rfl, _, rfl, iteN h4 ?_⟩
      refine ⟨_, rfl, pf, _, _, _, rfl, rfl, SqT.of hp, at_of (j := 0) rfl rfl, _, rfl, rfl, _, rfl, iteP (decide_eq_true (mem_to (by decide +kernel) hsg)) ?_⟩
      refine ⟨⟨_, rfl⟩, _, rfl, _, rfl, pf, _, rfl, SqT.of hp, ?_, fun p2 hp2 => ?_⟩
      · rintro ⟨z, _⟩
        rw [show (1 : Int) = ((1 : Nat) : Int) from rfl, HT.sIx_nat, List.length_cons] at z
        omega
      rw [cut1]
      have s2 := Rd.Same.upd (o := .tup us) hp2
      refine ⟨p2, rfl, ⟨_, SqT.of upd_same⟩, fun D hD => ?_⟩
      refine lct (C := 0) (fun i H v => ∃ r, t.parts[i]? = some r ∧ v = .str (textOf r)) (fun i H H' v _ h => h) (SqT.of upd_same) (by omega) hD (fun i x H1 Q1 hx s1 k1 => ?_) fun vs H1 s1 hD1 hlv hvs => ?_
      · obtain ⟨r, hr1, hr2⟩ := hus i x hx
        obtain ⟨w1, w2⟩ := hws r (List.mem_of_getElem? hr1)
        cases d with
        | zero => exact absurd dp (by omega)
        | succ d => exact ⟨_, rfl, x, r, rfl, hr2.same (s2.trans s1), w1, (by omega), (by omega), fun H' s' => k1 _ H' s' ⟨r, hr1, rfl⟩⟩
      have ev := texts_eq (hlv.trans hlu) hvs
      have hj := join_len hpt
      have hts := txt_small wf (by omega)
      refine ⟨_, D, t.parts.map textOf, rfl, rfl, .inl (SqL.of (by rw [← ev]; exact hD1)), join_sum wf (by omega), ?_⟩
      refine gName_k ?_
      try dsimp only
      have hp1 := s1 _ _ (s2 _ _ hp)
      have e0 : Str.empty.cps.toList = [] := by decide +kernel
      have e1 : ("(" : Str).cps.toList = [40] := by decide +kernel
      have e2 : (")" : Str).cps.toList = [41] := by decide +kernel
      have l0 : ∀ z : Str, Str.empty ++ z = z := fun z => str_ext (by rw [app_list, e0]; rfl)
      have la : ∀ a b : Str, (a ++ b).length = a.length + b.length := fun a b => by rw [len_list, app_list, List.length_append, ← len_list, ← len_list]
      have l1 : ("(" : Str).length = 1 := by decide +kernel
      have l2 : (")" : Str).length = 1 := by decide +kernel
      refine ⟨_, rfl, pf, _, _, _, rfl, rfl, SqT.of hp1, at_of (j := 0) rfl rfl, .inl ⟨t.head, rfl, (by omega), _, rfl, ?_, ?_⟩⟩
      · rw [l0]; omega
      rw [l0]
      refine ⟨"(", rfl, (by rw [la, l1]; omega), ?_⟩
      refine ⟨_, rfl, .inl ⟨_, rfl, (by omega), _, rfl, (by rw [la, la, l1]; omega), ?_⟩⟩
      refine ⟨")", rfl, (by rw [la, la, la, l1, l2]; omega), ?_⟩
      have ez : t.head ++ "(" ++ Txt.join ", " (t.parts.map textOf) ++ ")" = textOf t := text_parts hpt (by rw [app_list, app_list, app_list, e1, e2]; simp)
      show Q (.str (t.head ++ "(" ++ Txt.join ", " (t.parts.map textOf) ++ ")")) H1
      rw [ez]
      exact k _ (s2.trans s1)
    · cases wf with
      | @am k0 x0 ko =>
        obtain ⟨pf, rfl, hp⟩ := it
        refine ⟨_, rfl, pf, _, _, _, rfl, rfl, SqT.of hp, at_of (j := 0) rfl rfl, rfl, _, rfl, ?_⟩
        rcases ko with ⟨rfl, hx⟩ | ⟨rfl, hx⟩ | ⟨rfl, hx⟩
        · refine iteN (by decide +kernel) ?_
          refine ⟨_, rfl, pf, _, _, _, rfl, rfl, SqT.of hp, at_of (j := 0) rfl rfl, _, rfl, rfl, _, rfl, iteN (by decide +kernel) ?_⟩
          refine ⟨_, rfl, pf, _, _, _, rfl, rfl, SqT.of hp, at_of (j := 1) rfl rfl, ?_⟩
          have := k H (Same.refl _)
          rw [text_am (by decide +kernel)] at this
          exact this
        · refine iteN (by decide +kernel) ?_
          refine ⟨_, rfl, pf, _, _, _, rfl, rfl, SqT.of hp, at_of (j := 0) rfl rfl, _, rfl, rfl, _, rfl, iteN (by decide +kernel) ?_⟩
          refine ⟨_, rfl, pf, _, _, _, rfl, rfl, SqT.of hp, at_of (j := 1) rfl rfl, ?_⟩
          have := k H (Same.refl _)
          rw [text_am (by decide +kernel)] at this
          exact this
        · refine iteP (by decide +kernel) ?_
          have hl := unk_len hx
          have hq : ("?" : Str).length = 1 := by decide +kernel
          refine ⟨_, rfl, pf, _, _, _, rfl, rfl, SqT.of hp, at_of (j := 1) rfl rfl, _, _, rfl, rfl, (by omega), ?_⟩
          have := k H (Same.refl _)
          rw [text_unk] at this
          exact this
      | _ => exact absurd (fun e => by cases e) hpt
theorem tt_none (T : Tx w K mg) : Fk P w K mg base CX0 1 "tree_text" ["tree"] (spTR 0) := by
  refine T.F_tree_text.ok0 sc_tree_text (fun _ _ _ _ _ _ us hl => match us, hl with | [_], _ => rfl) (fun vs H Q E h => h.elim) (fun cdv A outer s H vs Q E hr h => h.elim)
theorem ok_tree_text (T : Tx w K mg) : ∀ d : Nat, Fk P w K mg base CX0 (d + 2) "tree_text" ["tree"] (sp_text d)
  | 0 => tt_step T 0 (tt_none T)
  | d + 1 => tt_step T (d + 1) (ok_tree_text T d)
end
end Rd
namespace Rd
open PySem L2
/-! ### words and brackets of a text (of D4, D5, E1) -/
def nb (c : Nat) : Bool := !decide (c ∈ (("(), " : Str).cps.toList))
def wd (cs : List Nat) : List Nat := cs.takeWhile nb
/-- the rest begins by a sign that ends a word -/
def Brk (rs : List Nat) : Prop := rs = [] ∨ ∃ c r, rs = c :: r ∧ nb c = false ∧ c ≠ 40
theorem wd_app {w rs : List Nat} (hw : w.all nb = true) (hr : rs = [] ∨ ∃ c r, rs = c :: r ∧ nb c = false) : wd (w ++ rs) = w := by
  unfold wd
  induction w with
  | nil =>
    rcases hr with rfl | ⟨c, r, rfl, hc⟩
    · rfl
    · show (c :: r).takeWhile nb = []
      simp [List.takeWhile, hc]
  | cons a w ih =>
    rw [List.all_cons, Bool.and_eq_true] at hw
    show (a :: (w ++ rs)).takeWhile nb = a :: w
    rw [List.takeWhile_cons, hw.1, if_pos rfl, ih hw.2]
theorem word_nb {z : Str} (h : isWord z = true) : z.cps.toList.all nb = true := by
  obtain ⟨h1, h2⟩ := He.ba h
  obtain ⟨h3, h4⟩ := He.ba h2
  have dj : SMALL.cps.toList.all nb = true := by decide +kernel
  exact List.all_eq_true.mpr fun c hc => List.all_eq_true.mp dj c (of_decide_eq_true (List.all_eq_true.mp h4 c hc))
theorem name_nb {z : Str} (h : isName z = true) : z.cps.toList.all nb = true := by
  obtain ⟨h1, h2⟩ := He.ba h
  obtain ⟨h3, h4⟩ := He.ba h2
  have h1' := of_decide_eq_true h1
  rw [len_list, rstrip_list] at h1'
  rw [rstrip_list] at h4
  obtain ⟨⟨a1, a2⟩, a3⟩ := (name_iff z.cps.toList).mp ⟨h1', h4⟩
  have dj : GREAT.cps.toList.all nb = true := by decide +kernel
  have dk : DIGITS.cps.toList.all nb = true := by decide +kernel
  refine List.all_eq_true.mpr fun c hc => ?_
  rw [← List.take_append_drop (z.cps.toList.filter (inS GREAT)).length z.cps.toList] at hc
  rcases List.mem_append.mp hc with q | q
  · exact List.all_eq_true.mp dj c (of_decide_eq_true (List.all_eq_true.mp a2 c q))
  · exact List.all_eq_true.mp dk c (of_decide_eq_true (List.all_eq_true.mp a3 c q))
theorem am_text {k x : Str} (h : kindOk k x) : (txt (.am k x)).all nb = true ∧ atomOf (ofC (txt (.am k x))) = some (k, x) := by
  have e : ofC (txt (.am k x)) = textOf (.am k x) := rfl
  rcases h with ⟨rfl, h⟩ | ⟨rfl, h⟩ | ⟨rfl, h⟩
  · rw [e, text_am (by decide +kernel), atomOf_word h]
    refine ⟨?_, rfl⟩
    have e2 : txt (.am "word" x) = x.cps.toList := if_neg (by decide +kernel)
    rw [e2]
    exact word_nb h
  · rw [e, text_am (by decide +kernel), atomOf_name h]
    refine ⟨?_, rfl⟩
    have e2 : txt (.am "name" x) = x.cps.toList := if_neg (by decide +kernel)
    rw [e2]
    exact name_nb h
  · rw [e, text_unk, atomOf_unk h]
    refine ⟨?_, rfl⟩
    have e2 : txt (.am "unknown" x) = 63 :: x.cps.toList := if_pos rfl
    rw [e2, List.all_cons, word_nb (He.ba h).1]
    decide +kernel
end Rd
namespace Rd
open PySem L2
/-! ### the text of a form tells the form -/
theorem Wf.shp {t : Tr} (h : Wf t) : (∃ k x, t = .am k x ∧ kindOk k x) ∨ (∃ s a, t = .un s a ∧ s ∈ (["mark", "open", "own"] : List Str) ∧ Wf a) ∨ ∃ s a b, t = .bi s a b ∧ s ∈ (["pair", "seal", "lock"] : List Str) ∧ Wf a ∧ Wf b := by
  cases h with
  | am ko => exact .inl ⟨_, _, rfl, ko⟩
  | un hs w => exact .inr (.inl ⟨_, _, rfl, hs, w⟩)
  | bi hs w1 w2 => exact .inr (.inr ⟨_, _, _, rfl, mem_to (by decide +kernel) hs, w1, w2⟩)
  | lk hs w1 w2 => exact .inr (.inr ⟨_, _, _, rfl, by decide +kernel, w1, .un (mem_to (by decide +kernel) hs) w2⟩)
theorem sg_nb {s : Str} (h : s ∈ (["mark", "open", "own", "pair", "seal", "lock"] : List Str)) : s.cps.toList.all nb = true := by
  have : ∀ z ∈ (["mark", "open", "own", "pair", "seal", "lock"] : List Str), z.cps.toList.all nb = true := by decide +kernel
  exact this _ h
theorem wd_sg {s : Str} {r : List Nat} (h : s ∈ (["mark", "open", "own", "pair", "seal", "lock"] : List Str)) : wd (s.cps.toList ++ 40 :: r) = s.cps.toList := wd_app (sg_nb h) (.inr ⟨40, r, rfl, by decide +kernel⟩)
theorem Brk.or {r : List Nat} (h : Brk r) : r = [] ∨ ∃ c q, r = c :: q ∧ nb c = false := by
  rcases h with h | ⟨c, q, h1, h2, _⟩
  · exact .inl h
  · exact .inr ⟨c, q, h1, h2⟩
theorem Brk.no40 {r q : List Nat} (h : Brk (40 :: q)) : False := by
  rcases h with h | ⟨c, q, h1, _, h3⟩
  · cases h
  · injection h1 with h1 _
    exact h3 h1.symm
theorem Brk.c {c : Nat} {r : List Nat} (h : nb c = false) (h2 : c ≠ 40) : Brk (c :: r) := .inr ⟨c, r, rfl, h, h2⟩
theorem sgUB {s s' : Str} (h1 : s ∈ (["mark", "open", "own"] : List Str)) (h2 : s' ∈ (["pair", "seal", "lock"] : List Str)) : s ≠ s' := by
  have : ∀ a ∈ (["mark", "open", "own"] : List Str), ∀ b ∈ (["pair", "seal", "lock"] : List Str), a ≠ b := by decide +kernel
  exact this _ h1 _ h2
theorem uT {s : Str} (h : s ∈ (["mark", "open", "own"] : List Str)) : s ∈ (["mark", "open", "own", "pair", "seal", "lock"] : List Str) := mem_to (by decide +kernel) h
theorem bT {s : Str} (h : s ∈ (["pair", "seal", "lock"] : List Str)) : s ∈ (["mark", "open", "own", "pair", "seal", "lock"] : List Str) := mem_to (by decide +kernel) h
theorem txt_un (s : Str) (a : Tr) (r : List Nat) : txt (.un s a) ++ r = s.cps.toList ++ 40 :: (txt a ++ 41 :: r) := by
  show (s.cps.toList ++ 40 :: (txt a ++ [41])) ++ r = _
  simp
theorem txt_bi (s : Str) (a b : Tr) (r : List Nat) : txt (.bi s a b) ++ r = s.cps.toList ++ 40 :: (txt a ++ 44 :: 32 :: (txt b ++ 41 :: r)) := by
  show (s.cps.toList ++ 40 :: (txt a ++ 44 :: 32 :: (txt b ++ [41]))) ++ r = _
  simp
theorem am_no {k x s : Str} {r q : List Nat} (ko : kindOk k x) (hr : Brk r) (hs : s ∈ (["mark", "open", "own", "pair", "seal", "lock"] : List Str)) (e : txt (.am k x) ++ r = s.cps.toList ++ 40 :: q) : False := by
  have h1 : wd (txt (.am k x) ++ r) = txt (.am k x) := wd_app (am_text ko).1 hr.or
  rw [e, wd_sg hs] at h1
  rw [← h1] at e
  have := List.append_cancel_left e
  rw [this] at hr
  exact Brk.no40 (r := []) hr
theorem txt_inj : ∀ (t u : Tr), Wf t → Wf u → ∀ r r' : List Nat, Brk r → Brk r' → txt t ++ r = txt u ++ r' → t = u ∧ r = r' := by
  intro t
  induction t with
  | am k x =>
    intro u wt wu r r' hr hr' e
    rcases wt.shp with ⟨_, _, e0, ko⟩ | ⟨_, _, e0, _⟩ | ⟨_, _, _, e0, _⟩
    · cases e0
      rcases wu.shp with ⟨k', x', rfl, ko'⟩ | ⟨s, a, rfl, hs, _⟩ | ⟨s, a, b, rfl, hs, _⟩
      · have h1 : wd (txt (.am k x) ++ r) = txt (.am k x) := wd_app (am_text ko).1 hr.or
        rw [e, wd_app (am_text ko').1 hr'.or] at h1
        have h2 := (am_text ko).2
        rw [← h1, (am_text ko').2] at h2
        injection h2 with h2
        injection h2 with h3 h4
        subst h3 h4
        exact ⟨rfl, List.append_cancel_left e⟩
      · rw [txt_un] at e
        exact (am_no ko hr (uT hs) e).elim
      · rw [txt_bi] at e
        exact (am_no ko hr (bT hs) e).elim
    · cases e0
    · cases e0
  | un s a ih =>
    intro u wt wu r r' hr hr' e
    rcases wt.shp with ⟨_, _, e0, _⟩ | ⟨_, _, e0, hs, wa⟩ | ⟨_, _, _, e0, _⟩
    · cases e0
    · cases e0
      rw [txt_un] at e
      rcases wu.shp with ⟨k', x', rfl, ko'⟩ | ⟨s', b, rfl, hs', wb⟩ | ⟨s', a', b, rfl, hs', _⟩
      · exact (am_no ko' hr' (uT hs) e.symm).elim
      · rw [txt_un] at e
        have h1 := wd_sg (r := txt a ++ 41 :: r) (uT hs)
        rw [e, wd_sg (uT hs')] at h1
        have h2 : s' = s := str_ext h1
        subst h2
        have h3 := List.append_cancel_left e
        injection h3 with _ h3
        obtain ⟨h4, h5⟩ := ih b wa wb _ _ (Brk.c (by decide +kernel) (by decide)) (Brk.c (by decide +kernel) (by decide)) h3
        injection h5 with _ h5
        exact ⟨by rw [h4], h5⟩
      · rw [txt_bi] at e
        have h1 := wd_sg (r := txt a ++ 41 :: r) (uT hs)
        rw [e, wd_sg (bT hs')] at h1
        exact absurd (str_ext h1).symm (sgUB hs hs')
    · cases e0
  | bi s a b iha ihb =>
    intro u wt wu r r' hr hr' e
    rcases wt.shp with ⟨_, _, e0, _⟩ | ⟨_, _, e0, _⟩ | ⟨_, _, _, e0, hs, wa, wb⟩
    · cases e0
    · cases e0
    · cases e0
      rw [txt_bi] at e
      rcases wu.shp with ⟨k', x', rfl, ko'⟩ | ⟨s', c, rfl, hs', _⟩ | ⟨s', c, d, rfl, hs', wc, wd'⟩
      · exact (am_no ko' hr' (bT hs) e.symm).elim
      · rw [txt_un] at e
        have h1 := wd_sg (r := txt a ++ 44 :: 32 :: (txt b ++ 41 :: r)) (bT hs)
        rw [e, wd_sg (uT hs')] at h1
        exact absurd (str_ext h1) (sgUB hs' hs)
      · rw [txt_bi] at e
        have h1 := wd_sg (r := txt a ++ 44 :: 32 :: (txt b ++ 41 :: r)) (bT hs)
        rw [e, wd_sg (bT hs')] at h1
        have h2 : s' = s := str_ext h1
        subst h2
        have h3 := List.append_cancel_left e
        injection h3 with _ h3
        obtain ⟨h4, h5⟩ := iha c wa wc _ _ (Brk.c (by decide +kernel) (by decide)) (Brk.c (by decide +kernel) (by decide)) h3
        injection h5 with _ h5
        injection h5 with _ h5
        obtain ⟨h6, h7⟩ := ihb d wb wd' _ _ (Brk.c (by decide +kernel) (by decide)) (Brk.c (by decide +kernel) (by decide)) h5
        injection h7 with _ h7
        exact ⟨by rw [h4, h6], h7⟩
theorem text_inj {t u : Tr} (wt : Wf t) (wu : Wf u) (e : textOf t = textOf u) : t = u := by
  have e1 : txt t = txt u := by
    have := congrArg (fun z : Str => z.cps.toList) e
    simpa [textOf, ofC_list] using this
  refine (txt_inj t u wt wu [] [] (.inl rfl) (.inl rfl) (by rw [e1])).1
/-! ### what can be made, and opened parts -/
def mka (O : List Tr) : Tr → Bool
  | .am k x => decide (k = "word") || decide (Tr.am k x ∈ O)
  | .un s a => decide (Tr.un s a ∈ O) || (decide (s ∈ (["mark", "open"] : List Str)) && mka O a)
  | .bi s a b => decide (Tr.bi s a b ∈ O) || (mka O a && mka O b)
theorem mka_of {O : List Tr} {t : Tr} (h : t ∈ O) : mka O t = true := by
  cases t <;> simp [mka, h]
theorem mka_mono {O O' : List Tr} (h : ∀ t ∈ O, t ∈ O') : ∀ {t : Tr}, mka O t = true → mka O' t = true
  | .am k x, e => by
    simp only [mka, Bool.or_eq_true, decide_eq_true_eq] at e ⊢
    rcases e with e | e
    · exact .inl e
    · exact .inr (h _ e)
  | .un s a, e => by
    simp only [mka, Bool.or_eq_true, Bool.and_eq_true, decide_eq_true_eq] at e ⊢
    rcases e with e | ⟨e1, e2⟩
    · exact .inl (h _ e)
    · exact .inr ⟨e1, mka_mono h e2⟩
  | .bi s a b, e => by
    simp only [mka, Bool.or_eq_true, Bool.and_eq_true, decide_eq_true_eq] at e ⊢
    rcases e with e | ⟨e1, e2⟩
    · exact .inl (h _ e)
    · exact .inr ⟨mka_mono h e1, mka_mono h e2⟩
theorem mka_congr {O O' : List Tr} (h : ∀ t, t ∈ O ↔ t ∈ O') (t : Tr) : mka O t = mka O' t := by
  cases e : mka O' t with
  | true => exact mka_mono (fun t => (h t).mpr) e
  | false =>
    cases e2 : mka O t with
    | false => rfl
    | true =>
      rw [mka_mono (fun t => (h t).mp) e2] at e
      cases e
def prt (s : Str) : Str := if s = "open" then "own" else "open"
def lkey : Tr → Option Tr
  | .un s k => some (.un (prt s) k)
  | _ => none
def ukey : Tr → Option Tr
  | .bi s _ k => if s = "seal" then some k else if s = "lock" then lkey k else none
  | _ => none
def PCl (O : List Tr) : Prop := ∀ a b, Tr.bi "pair" a b ∈ O → a ∈ O ∧ b ∈ O
def SCl (O O' : List Tr) : Prop := ∀ s c k key, Tr.bi s c k ∈ O → ukey (.bi s c k) = some key → mka O key = true → c ∈ O'
structure IsOpen (ts os : List Tr) : Prop where
  base : ∀ t ∈ ts, t ∈ os
  pcl : PCl os
  scl : SCl os os
  least : ∀ O' : List Tr, (∀ t ∈ ts, t ∈ O') → PCl O' → SCl O' O' → ∀ t ∈ os, t ∈ O'
theorem all_self (t : Tr) : t ∈ t.all := by rw [all_parts]; exact List.mem_cons_self
theorem all_trans : ∀ {t u v : Tr}, u ∈ t.all → v ∈ u.all → v ∈ t.all := by
  intro t
  induction t with
  | am k x =>
    intro u v hu hv
    rw [show (Tr.am k x).all = [.am k x] from rfl, List.mem_singleton] at hu
    subst hu
    exact hv
  | un s a ih =>
    intro u v hu hv
    rw [show (Tr.un s a).all = .un s a :: a.all from rfl] at hu ⊢
    rcases List.mem_cons.mp hu with rfl | hu
    · exact hv
    · exact List.mem_cons_of_mem _ (ih hu hv)
  | bi s a b iha ihb =>
    intro u v hu hv
    rw [show (Tr.bi s a b).all = .bi s a b :: (a.all ++ b.all) from rfl] at hu ⊢
    rcases List.mem_cons.mp hu with rfl | hu
    · exact hv
    · refine List.mem_cons_of_mem _ (List.mem_append.mpr ?_)
      rcases List.mem_append.mp hu with h | h
      · exact .inl (iha h hv)
      · exact .inr (ihb h hv)
theorem all_l {s : Str} {a b : Tr} : a ∈ (Tr.bi s a b).all := List.mem_cons_of_mem _ (List.mem_append_left _ (all_self a))
theorem all_r {s : Str} {a b : Tr} : b ∈ (Tr.bi s a b).all := List.mem_cons_of_mem _ (List.mem_append_right _ (all_self b))
def allOf (ts : List Tr) : List Tr := ts.flatMap Tr.all
theorem allOf_pcl (ts : List Tr) : PCl (allOf ts) := fun a b h => by
  obtain ⟨t, ht, h⟩ := List.mem_flatMap.mp h
  exact ⟨List.mem_flatMap.mpr ⟨t, ht, all_trans h all_l⟩, List.mem_flatMap.mpr ⟨t, ht, all_trans h all_r⟩⟩
theorem allOf_scl (ts : List Tr) : SCl (allOf ts) (allOf ts) := fun s c k key h _ _ => by
  obtain ⟨t, ht, h⟩ := List.mem_flatMap.mp h
  exact List.mem_flatMap.mpr ⟨t, ht, all_trans h all_l⟩
theorem allOf_base (ts : List Tr) : ∀ t ∈ ts, t ∈ allOf ts := fun t h => List.mem_flatMap.mpr ⟨t, h, all_self t⟩
theorem IsOpen.inAll {ts os : List Tr} (h : IsOpen ts os) : ∀ t ∈ os, t ∈ allOf ts := h.least _ (allOf_base ts) (allOf_pcl ts) (allOf_scl ts)
theorem IsOpen.mono {ts us os ps : List Tr} (h : IsOpen ts os) (g : IsOpen us ps) (s : ∀ t ∈ ts, t ∈ us) : ∀ t ∈ os, t ∈ ps := h.least _ (fun t ht => g.base t (s t ht)) g.pcl g.scl
end Rd
namespace Rd
open PySem L2
/-- form in a list of forms -/
theorem rd_inTs {K : PySem.W.Frag} {H : Hp} {u : Tr} {ts : List Tr} {v : V} {p : Addr} {vs : List V} {Q : VK} (iu : IsT H u v) (fu : u.fine ∧ u.dep ≤ 60) (hp : H p = some (.lst vs)) (hts : TsAt H ts vs) (ft : ∀ t ∈ ts, t.fine ∧ t.dep ≤ 60) (q : Q (.bl (decide (u ∈ ts))) H) : rInD K v (.ref p) H Q := by
  refine ⟨dat u, ts.map dat, iu.dp, .lst (SqL.of hp) (dpAll_ts hts), dat_shaped fu.1 fu.2, ts_shaped ft, ?_⟩
  have e : (ts.map dat).any (fun z => PyData.eqv z (dat u)) = decide (u ∈ ts) := by
    clear q ft hts hp
    induction ts with
    | nil => simp
    | cons t ts ih =>
      rw [List.map_cons, List.any_cons, ih, eqv_dat]
      by_cases h : t = u
      · subst h
        simp
      · have h' : u ≠ t := fun z => h z.symm
        simp [h, h']
  rw [e]
  exact q
def sp_partner : Sp := fun vs H Q _ => ∃ (v : V) (s : Str) (a : Tr), vs = [v] ∧ IsT H (.un s a) v ∧ s ∈ (["open", "own"] : List Str) ∧ ∀ u H', Same H H' → IsT H' (.un (prt s) a) u → Q u H'
def sp_ukey : Sp := fun vs H Q _ => ∃ (v : V) (t key : Tr), vs = [v] ∧ IsT H t v ∧ Wf t ∧ ukey t = some key ∧ ∀ u H', Same H H' → IsT H' key u → Q u H'
def sp_isMade (d : Nat) : Sp := fun vs H Q _ => ∃ (v : V) (t : Tr) (a : Addr) (ws : List V) (ts : List Tr), vs = [v, .ref a] ∧ IsT H t v ∧ Wf t ∧ t.dep ≤ d ∧ d ≤ 60 ∧ H a = some (.lst ws) ∧ TsAt H ts ws ∧ (∀ t ∈ ts, t.fine ∧ t.dep ≤ 60) ∧ ∀ H', Same H H' → Q (.bl (mka ts t)) H'
def spIR : Nat → Sp
  | 0 => fun _ _ _ _ => False
  | d + 1 => sp_isMade d
theorem ukey_seal {c k key : Tr} (h : ukey (.bi "seal" c k) = some key) : key = k := by
  rw [ukey, if_pos rfl] at h
  cases h
  rfl
theorem ukey_inv {t key : Tr} (wf : Wf t) (h : ukey t = some key) : (∃ c, t = .bi "seal" c key) ∨ ∃ c s k, t = .bi "lock" c (.un s k) ∧ s ∈ (["open", "own"] : List Str) ∧ key = .un (prt s) k := by
  cases t with
  | am k x => cases h
  | un s a => cases h
  | bi s c k =>
    by_cases e : s = "seal"
    · subst e
      exact .inl ⟨c, by rw [ukey_seal h]⟩
    · rw [ukey, if_neg e] at h
      by_cases e2 : s = "lock"
      · subst e2
        rw [if_pos rfl] at h
        cases wf with
        | bi hs _ _ => exact absurd hs (by decide +kernel)
        | @lk s' _ k' hs _ _ =>
          cases h
          exact .inr ⟨c, s', k', rfl, hs, rfl⟩
      · rw [if_neg e2] at h
        cases h
theorem vals_eq {f : Tr → V} : ∀ {ts : List Tr} {vs : List V}, vs.length = ts.length → (∀ (i : Nat) v, vs[i]? = some v → ∃ r, ts[i]? = some r ∧ v = f r) → vs = ts.map f
  | [], [], _, _ => rfl
  | t :: ts, v :: vs, hl, h => by
    obtain ⟨r, e1, e2⟩ := h 0 v rfl
    cases e1
    rw [List.map_cons, e2, vals_eq (ts := ts) (vs := vs) (by simpa using hl) fun i v hv => h (i + 1) v hv]
def MKL : List Str := ["pair", "seal", "lock", "mark", "open"]
theorem mka_step {ts : List Tr} {t : Tr} (wf : Wf t) : mka ts t = ((decide (t.head = "word") || decide (t ∈ ts)) || (decide (t.head ∈ MKL) && t.parts.all (mka ts))) := by
  rcases wf.shp with ⟨k, x, rfl, ko⟩ | ⟨s, a, rfl, hs, _⟩ | ⟨s, a, b, rfl, hs, _⟩
  · have h : decide ((Tr.am k x).head ∈ MKL) = false := by
      rcases ko with ⟨rfl, _⟩ | ⟨rfl, _⟩ | ⟨rfl, _⟩
      · show decide (("word" : Str) ∈ MKL) = false
        decide +kernel
      · show decide (("name" : Str) ∈ MKL) = false
        decide +kernel
      · show decide (("unknown" : Str) ∈ MKL) = false
        decide +kernel
    rw [h, mka, Bool.false_and, Bool.or_false]
    rfl
  · have h1 : decide ((Tr.un s a).head = "word") = false := by
      have : ∀ z ∈ (["mark", "open", "own"] : List Str), decide (z = "word") = false := by decide +kernel
      exact this s hs
    have h2 : decide ((Tr.un s a).head ∈ MKL) = decide (s ∈ (["mark", "open"] : List Str)) := by
      have : ∀ z ∈ (["mark", "open", "own"] : List Str), decide (z ∈ MKL) = decide (z ∈ (["mark", "open"] : List Str)) := by decide +kernel
      exact this s hs
    rw [h1, h2, mka, Bool.false_or]
    show _ = (decide (Tr.un s a ∈ ts) || (_ && (mka ts a && true)))
    rw [Bool.and_true]
  · have h1 : decide ((Tr.bi s a b).head = "word") = false := by
      have : ∀ z ∈ (["pair", "seal", "lock"] : List Str), decide (z = "word") = false := by decide +kernel
      exact this s hs
    have h2 : decide ((Tr.bi s a b).head ∈ MKL) = true := by
      have : ∀ z ∈ (["pair", "seal", "lock"] : List Str), decide (z ∈ MKL) = true := by decide +kernel
      exact this s hs
    rw [h1, h2, mka, Bool.false_or, Bool.true_and]
    show _ = (decide (Tr.bi s a b ∈ ts) || (mka ts a && (mka ts b && true)))
    rw [Bool.and_true]
theorem decS (a b : Str) : decide (V.str a = V.str b) = decide (a = b) := decide_eq_decide.mpr ⟨V.str.inj, fun e => by rw [e]⟩
theorem mkl_parts {t : Tr} (wf : Wf t) (h : t.head ∈ MKL) : t.parts ≠ [] := by
  rcases wf.shp with ⟨k, x, rfl, ko⟩ | ⟨s, a, rfl, hs, _⟩ | ⟨s, a, b, rfl, hs, _⟩
  · rcases ko with ⟨rfl, _⟩ | ⟨rfl, _⟩ | ⟨rfl, _⟩
    · exact absurd (show ("word" : Str) ∈ MKL from h) (by decide +kernel)
    · exact absurd (show ("name" : Str) ∈ MKL from h) (by decide +kernel)
    · exact absurd (show ("unknown" : Str) ∈ MKL from h) (by decide +kernel)
  · exact fun e => by cases e
  · exact fun e => by cases e
section
variable {P : Program} {w : World} {K : PySem.W.Frag} {mg : Str → Option Value} {base : Heap}
abbrev s_partner : Stmt := top 31
theorem sc_partner : FnScope ["key"] ["key"] (defScope s_partner) := ⟨rfl, rfl, rfl, by decide +kernel, rfl, by decide +kernel, by decide +kernel⟩
theorem ok_partner (T : Tx w K mg) : Fk P w K mg base CX0 1 "partner" ["key"] sp_partner := by
  refine T.F_partner.ok0 sc_partner (fun _ _ _ _ _ _ us hl => match us, hl with | [_], _ => rfl)
    (fun vs H Q E h => ?_) (fun cdv A outer s H vs Q E hr h => ?_)
  · obtain ⟨v, s, a, rfl, _⟩ := h
    rfl
  · obtain ⟨v, s, a, rfl, it, hs, k⟩ := h
    refine ⟨_, (pss_cons (ps_if (pt_cmpR op_eq (pe_ix ix_tup (pv 0) pe_int (fun _ _ => rfl)) pe_str (nomark _))
  (pss_one (ps_ret (pe_tup (pa_cons pe_str (pa_cons (pe_ix ix_tup (pv 0) pe_int (fun _ _ => rfl)) pa_nil)))))
  pss_nil)
  (pss_one (ps_ret (pe_tup (pa_cons pe_str (pa_cons (pe_ix ix_tup (pv 0) pe_int (fun _ _ => rfl)) pa_nil)))))), ?_⟩
    obtain ⟨p, u, rfl, hp, iu⟩ := it
    refine ⟨_, rfl, p, _, _, _, rfl, rfl, SqT.of hp, at_of (j := 0) rfl rfl, rfl, _, rfl, ?_⟩
    by_cases e : s = "open"
    · subst e
      refine iteP (by decide +kernel) ⟨_, rfl, p, _, _, _, rfl, rfl, SqT.of hp, at_of (j := 1) rfl rfl, (by show 2 ≤ sizeLine; decide), fun q hq => ?_⟩
      exact k _ _ (Rd.Same.upd hq) ⟨q, u, rfl, upd_same, iu.same (Rd.Same.upd hq)⟩
    · refine iteN (by intro z; exact e (V.str.inj (of_decide_eq_true z))) (nxt ?_)
      try dsimp only
      refine ⟨_, rfl, p, _, _, _, rfl, rfl, SqT.of hp, at_of (j := 1) rfl rfl, (by show 2 ≤ sizeLine; decide), fun q hq => ?_⟩
      refine k _ _ (Rd.Same.upd hq) ⟨q, u, rfl, ?_, iu.same (Rd.Same.upd hq)⟩
      rw [upd_same, prt, if_neg e]
abbrev s_undoing_key : Stmt := top 32
theorem sc_undoing_key : FnScope ["tree"] ["tree"] (defScope s_undoing_key) := ⟨rfl, rfl, rfl, by decide +kernel, rfl, by decide +kernel, by decide +kernel⟩
theorem ok_undoing_key (T : Tx w K mg) : Fk P w K mg base CX0 2 "undoing_key" ["tree"] sp_ukey := by
  refine T.F_undoing_key.ok0 sc_undoing_key (fun _ _ _ _ _ _ us hl => match us, hl with | [_], _ => rfl)
    (fun vs H Q E h => ?_) (fun cdv A outer s H vs Q E hr h => ?_)
  · obtain ⟨v, t, key, rfl, _⟩ := h
    rfl
  · obtain ⟨v, t, key, rfl, it, wf, hk, k⟩ := h
    refine ⟨_, (pss_cons (ps_if (pt_cmpR op_eq (pe_ix ix_tup (pv 0) pe_int (fun _ _ => rfl)) pe_str (nomark _))
  (pss_one (ps_ret (pe_ix ix_tup (pv 0) pe_int (fun _ _ => rfl))))
  pss_nil)
  (pss_one (ps_ret (pe_fk (ok_partner T) (hr.mono (by omega)) rfl pass0 (pa_cons (pe_ix ix_tup (pv 0) pe_int (fun _ _ => rfl)) pa_nil))))), ?_⟩
    rcases ukey_inv wf hk with ⟨c, rfl⟩ | ⟨c, s, k0, rfl, hs, rfl⟩
    · obtain ⟨p, u1, u2, rfl, hp, i1, i2⟩ := it
      refine ⟨_, rfl, p, _, _, _, rfl, rfl, SqT.of hp, at_of (j := 0) rfl rfl, rfl, _, rfl, iteP (by decide +kernel) ?_⟩
      exact ⟨_, rfl, p, _, _, _, rfl, rfl, SqT.of hp, at_of (j := 2) rfl rfl, k _ _ (Same.refl _) i2⟩
    · obtain ⟨p, u1, u2, rfl, hp, i1, i2⟩ := it
      refine ⟨_, rfl, p, _, _, _, rfl, rfl, SqT.of hp, at_of (j := 0) rfl rfl, rfl, _, rfl, iteN (by decide +kernel) (nxt ?_)⟩
      try dsimp only
      exact ⟨_, rfl, p, _, _, _, rfl, rfl, SqT.of hp, at_of (j := 2) rfl rfl, u2, s, k0, rfl, i2, hs, fun u H' s' iu => k _ _ s' iu⟩
abbrev s_is_made : Stmt := top 33
theorem sc_is_made : FnScope ["tree", "opened", "part"] ["tree", "opened"] (defScope s_is_made) := ⟨rfl, rfl, rfl, by decide +kernel, rfl, by decide +kernel, by decide +kernel⟩
theorem im_step (T : Tx w K mg) (d : Nat) (ih : Fk P w K mg base CX0 (d + 1) "is_made" ["tree", "opened"] (spIR d)) : Fk P w K mg base CX0 (d + 2) "is_made" ["tree", "opened"] (sp_isMade d) := by
  refine T.F_is_made.ok0 sc_is_made (fun _ _ _ _ _ _ us hl => match us, hl with | [_, _], _ => rfl)
    (fun vs H Q E h => ?_) (fun cdv A outer s H vs Q E hr h => ?_)
  · obtain ⟨v, t, a, ws, ts, rfl, _⟩ := h
    rfl
  · obtain ⟨v, t, a, ws, ts, rfl, it, wf, dp, d60, ha, hts, ft, k⟩ := h
    refine ⟨_, (pss_cons (ps_if (PW.pt (pw_or (pt_cmpR op_eq (pe_ix ix_tup (pv 0) pe_int (fun _ _ => rfl)) pe_str (nomark _)) (pw_or1 (pt_cmpR (op_inD hr.units65) (pv 0) (pv 1) (by rfl)))))
  (pss_one (ps_ret pe_bl))
  pss_nil)
  (pss_cons (ps_if (pt_cmpR op_notInT (pe_ix ix_tup (pv 0) pe_int (fun _ _ => rfl)) (pe_ktk (K := K) rfl T.U_MAKEABLE) (by rfl))
  (pss_one (ps_ret pe_bl))
  pss_nil)
  (pss_one (ps_ret (pe_callB (cr_all rfl) (by rfl) T.z_all (by decide +kernel) (pa_cons (pe_lc (own := [("part", 2)]) (g := gName 2) (tt := tYes) (by rfl) sc_is_made.nd (pi_tup (pe_slice sl_tup (pv 0) (po_some pe_int) po_none)) (blkOk_by (own := [("part", 2)]) (N := ["tree", "opened", "part"]) (sc := defScope s_is_made) (by decide +kernel)) (fun _ _ _ _ _ => (pg_name (i := 2) sc_is_made.nd rfl (Or.inl rfl))) (fun _ _ _ _ _ => pts_nil) (fun _ _ _ _ _ => (pe_fk ih (hr.mono (by omega)) rfl pass0 (pa_cons (pv 2) (pa_cons (pv 1) pa_nil))))) pa_nil)))))), ?_⟩
    have big : 16777216 ≤ sizeLine := by decide
    obtain ⟨pf, us, rfl, hp⟩ := it.hd
    have fu : t.fine ∧ t.dep ≤ 60 := ⟨wf.fine, by omega⟩
    refine seqIf (tb_or (b := decide (t.head = "word")) (c := decide (t ∈ ts)) (fun Q2 kq => ⟨_, rfl, pf, _, _, _, rfl, rfl, SqT.of hp, at_of (j := 0) rfl rfl, rfl, _, rfl, ?_⟩) (fun H1 s1 _ Q2 kq => ⟨_, rfl, _, rfl, rd_inTs (it.same s1) fu (s1 _ _ ha) (hts.same s1) ft ⟨_, rfl, kq _ (Same.refl _)⟩⟩)) fun H1 s1 => ?_
    · rw [decS]
      exact kq _ (Same.refl _)
    have em := mka_step (ts := ts) wf
    refine ite2 (fun h1 => ?_) (fun h1 => ?_)
    · rw [h1, Bool.true_or] at em
      rw [em] at k
      exact k _ s1
    · have h1 : (decide (t.head = "word") || decide (t ∈ ts)) = false := by simpa using h1
      rw [h1, Bool.false_or] at em
      refine nxt ?_
      try dsimp only
      refine ⟨_, rfl, pf, _, _, _, rfl, rfl, SqT.of (s1 _ _ hp), at_of (j := 0) rfl rfl, _, He.ga K "MAKEABLE", MKL, rfl, rfl, T.U_MAKEABLE.tp _, _, rfl, ?_⟩
      by_cases hm : t.head ∈ MKL
      · rw [decide_eq_true hm, Bool.true_and] at em
        refine iteN (by rw [decide_eq_true hm]; decide) (nxt ?_)
        try dsimp only
        have hpt := mkl_parts wf hm
        obtain ⟨hsg, hws⟩ := wf.sign hpt
        obtain ⟨pf', us', e', hp', hlu, hl2, hne, hus⟩ := it.parts hpt
        cases e'
        rw [hp] at hp'
        cases hp'
        refine ⟨_, rfl, _, rfl, pf, _, rfl, SqT.of (s1 _ _ hp), ?_, fun p2 hp2 => ?_⟩
        · rintro ⟨z, _⟩
          rw [show (1 : Int) = ((1 : Nat) : Int) from rfl, HT.sIx_nat, List.length_cons] at z
          omega
        rw [cut1]
        have s2 := Rd.Same.upd (o := .tup us) hp2
        refine ⟨p2, rfl, ⟨_, SqT.of upd_same⟩, fun D hD => ?_⟩
        refine lct (C := 0) (fun i H v => ∃ r, t.parts[i]? = some r ∧ v = .bl (mka ts r)) (fun i H H' v kp h => h) (SqT.of upd_same) (by omega) hD (fun i x H1 Q1 hx s3 k1 => ?_) fun vs H3 s3 hD3 hlv hvs => ?_
        · obtain ⟨r, hr1, hr2⟩ := hus i x hx
          obtain ⟨w1, w2⟩ := hws r (List.mem_of_getElem? hr1)
          have s01 := (s1.trans s2).trans s3
          cases d with
          | zero => exact absurd dp (by omega)
          | succ d => exact ⟨_, rfl, _, rfl, x, r, a, ws, ts, rfl, hr2.same s01, w1, (by omega), (by omega), s01 _ _ ha, hts.same s01, ft, fun H' s' => k1 _ H' s' ⟨r, hr1, rfl⟩⟩
        have ev := vals_eq (hlv.trans hlu) hvs
        refine ⟨D, t.parts.map (mka ts), rfl, SqL.of (by rw [hD3, ev, List.map_map]; rfl), ?_⟩
        have e3 : (t.parts.map (mka ts)).all id = t.parts.all (mka ts) := by rw [List.all_map]; rfl
        rw [e3, ← em]
        exact k _ ((s1.trans s2).trans s3)
      · rw [decide_eq_false hm, Bool.false_and] at em
        refine iteP (by rw [decide_eq_false hm]; decide) ?_
        rw [em] at k
        exact k _ s1
theorem im_none (T : Tx w K mg) : Fk P w K mg base CX0 1 "is_made" ["tree", "opened"] (spIR 0) := by
  refine T.F_is_made.ok0 sc_is_made (fun _ _ _ _ _ _ us hl => match us, hl with | [_, _], _ => rfl) (fun vs H Q E h => h.elim) (fun cdv A outer s H vs Q E hr h => h.elim)
theorem ok_is_made (T : Tx w K mg) : ∀ d : Nat, Fk P w K mg base CX0 (d + 2) "is_made" ["tree", "opened"] (sp_isMade d)
  | 0 => im_step T 0 (im_none T)
  | d + 1 => im_step T (d + 1) (ok_is_made T d)
end
end Rd
namespace Rd
open PySem L2
theorem nodup_sub {α : Type} : ∀ {l m : List α}, l.Nodup → (∀ x ∈ l, x ∈ m) → l.length ≤ m.length
  | [], _, _, _ => Nat.zero_le _
  | a :: l, m, h, s => by
    obtain ⟨h1, h2⟩ := List.nodup_cons.mp h
    obtain ⟨p, q, rfl⟩ := List.append_of_mem (s a List.mem_cons_self)
    have := nodup_sub (l := l) (m := p ++ q) h2 fun x hx => by
      rcases List.mem_append.mp (s x (List.mem_cons_of_mem _ hx)) with h | h
      · exact List.mem_append_left _ h
      · rcases List.mem_cons.mp h with rfl | h
        · exact absurd hx h1
        · exact List.mem_append_right _ h
    rw [List.length_append] at this ⊢
    simp only [List.length_cons]
    omega
theorem TsAt.unsnoc {H : Hp} {ts : List Tr} {vs : List V} {v : V} (h : TsAt H ts (vs ++ [v])) : ∃ ts' t, ts = ts' ++ [t] ∧ TsAt H ts' vs ∧ IsT H t v := by
  have hl := h.len
  rw [List.length_append] at hl
  rcases List.eq_nil_or_concat ts with rfl | ⟨ts', t, e⟩
  · cases hl
  · rw [List.concat_eq_append] at e
    subst e
    have hl2 : vs.length = ts'.length := by rw [List.length_append] at hl; exact Nat.succ.inj hl
    refine ⟨ts', t, rfl, ⟨hl2, fun i t' v' h1 h2 => h.get i t' v' ?_ ?_⟩, h.get vs.length t v ?_ ?_⟩
    · rw [List.getElem?_append_left (List.getElem?_eq_some_iff.mp h1).1]; exact h1
    · rw [List.getElem?_append_left (List.getElem?_eq_some_iff.mp h2).1]; exact h2
    · rw [hl2, List.getElem?_append_right (Nat.le_refl _), Nat.sub_self]; rfl
    · rw [List.getElem?_append_right (Nat.le_refl _), Nat.sub_self]; rfl
/-- [d[x] for x in d] -/
theorem lcv {d D : Addr} {o : Obj} {kvs : List (Key × V)} {l : List (Str × Tr)} {te : TE} {i0 : Nat} {σ : St} {H1 : Hp} {Qd : Hp → Prop}
    (hd : H1 d = some (.frz o (.dK kvs))) (al : Al IsT H1 l kvs) (nd : (l.map (·.1)).Nodup) (hl : l.length ≤ 100000) (hD : H1 D = none)
    (hw : ∀ p : V, wipe ((wipe σ [i0]).set i0 (some p)) [i0] = wipe σ [i0])
    (hte : ∀ (x : Str) (v : V) (σ2 : St) (H : Hp) (Q : VK), Same H1 H → DGet H d (.str x) (some v) → σ2 = (wipe σ [i0]).set i0 (some (.str x)) → Q v H → te σ2 H Q)
    (hq : ∀ vs H', Same H1 H' → H' D = some (.lst vs) → TsAt H' (l.map (·.2)) vs → Qd H') :
    ∃ W : Nat → Nat → Hp → Prop, (∃ m, W 0 m (L2.upd H1 D (.lst []))) ∧ ∀ i m H, W i m H →
      ((Itk d o kvs).stop i H ∧ Qd H) ∨ ((Itk d o kvs).go i H ∧ ∃ Nx : Hp → Prop, (∀ H', Nx H' → ∃ m', m' < m ∧ W (i + 1) m' H') ∧ ∀ x H', (Itk d o kvs).yld i H x H' → gName i0 x (wipe σ [i0]) H' fun σ2 H2 => wipe σ2 [i0] = wipe σ [i0] ∧ tYes σ2 H2 fun b H3 =>
        if b = true then te σ2 H3 fun y H4 => ∃ acc, H4 D = some (.lst acc) ∧ acc.length < sizeLine ∧ Nx (L2.upd H4 D (.lst (acc ++ [y]))) else Nx H3) := by
  have hlen := al.len
  have big : 200000 ≤ sizeLine := by decide
  refine ⟨fun i m H => m = kvs.length - i ∧ i ≤ kvs.length ∧ ∃ vs, Same H1 H ∧ H D = some (.lst vs) ∧ TsAt H ((l.take i).map (·.2)) vs, ⟨_, rfl, Nat.zero_le _, [], Rd.Same.upd hD, upd_same, ⟨rfl, fun i t v h => by simp at h⟩⟩, ?_⟩
  rintro i m H ⟨rfl, hi, vs, s, hDa, hts⟩
  by_cases hlt : i < kvs.length
  · refine .inr ⟨⟨s _ _ hd, hlt⟩, fun H' => ∃ vs, Same H1 H' ∧ H' D = some (.lst vs) ∧ TsAt H' ((l.take (i + 1)).map (·.2)) vs, fun H' h => ⟨kvs.length - (i + 1), by omega, rfl, hlt, h⟩, ?_⟩
    rintro _ H ⟨rfl, k, v0, hk, rfl⟩
    obtain ⟨x, t, hx, rfl, _⟩ := al.get hk
    obtain ⟨v, ev, r1⟩ := (al.look (x := x)).1 t (look_get nd hx)
    have etk : l.take (i + 1) = l.take i ++ [(x, t)] := by rw [List.take_succ, hx]; rfl
    refine ⟨hw _, ?_⟩
    unfold tYes
    have hvl := hts.len
    rw [List.length_map, List.length_take] at hvl
    refine iteT (hte x v _ _ _ s (.inl ⟨kvs, .inr x, .inr ⟨o, s _ _ hd⟩, rfl, ev.symm⟩) rfl ⟨vs, hDa, by omega, vs ++ [v], fun c o e => ?_, upd_same, ?_⟩)
    · rw [upd_ne (ne_of_none e hD)]
      exact s _ _ e
    · have kp := Kp.upd_lst (C := 0) (ys := vs ++ [v]) hDa
      rw [etk, List.map_append]
      exact ((hts.mono kp).app (TsAt.one ((r1.same s).mono kp)))
  · refine .inl ⟨⟨s _ _ hd, by omega⟩, hq vs H s hDa ?_⟩
    rw [List.take_of_length_le (by omega)] at hts
    exact hts
theorem lookT_mem {l : List (Str × Tr)} {x : Str} {t : Tr} (h : look l x = some t) : (x, t) ∈ l := by
  unfold look at h
  cases e : l.find? (fun p => decide (p.1 = x)) with
  | none => rw [e] at h; cases h
  | some p =>
    rw [e] at h
    have h1 := List.mem_of_find?_eq_some e
    have h2 := List.find?_some e
    have h3 : p.1 = x := of_decide_eq_true h2
    cases h
    rw [← h3]
    exact h1
structure Halves (ts hs : List Tr) : Prop where
  nd : hs.Nodup
  base : ∀ t ∈ ts, t ∈ hs
  pcl : PCl hs
  least : ∀ O' : List Tr, (∀ t ∈ ts, t ∈ O') → PCl O' → ∀ t ∈ hs, t ∈ O'
/-- the state of halves_of: found (l), waiting (wt) -/
structure HI (d : Nat) (ts : List Tr) (l : List (Str × Tr)) (wt : List Tr) : Prop where
  key : ∀ p ∈ l, p.1 = textOf p.2
  wl : ∀ p ∈ l, Wf p.2 ∧ p.2.dep ≤ d
  ww : ∀ t ∈ wt, Wf t ∧ t.dep ≤ d
  nd : (l.map (·.1)).Nodup
  base : ∀ t ∈ ts, t ∈ l.map (·.2) ∨ t ∈ wt
  pcl : ∀ a b, Tr.bi "pair" a b ∈ l.map (·.2) → (a ∈ l.map (·.2) ∨ a ∈ wt) ∧ (b ∈ l.map (·.2) ∨ b ∈ wt)
  least : ∀ O' : List Tr, (∀ t ∈ ts, t ∈ O') → PCl O' → (∀ t ∈ l.map (·.2), t ∈ O') ∧ ∀ t ∈ wt, t ∈ O'
def szs (ts : List Tr) : Nat := (ts.map fun t => t.all.length).sum
theorem szs_app (a b : List Tr) : szs (a ++ b) = szs a + szs b := by simp [szs]
theorem szs_one (t : Tr) : szs [t] = t.all.length := by simp [szs]
theorem allOf_len : ∀ ts : List Tr, (allOf ts).length = szs ts
  | [] => rfl
  | t :: ts => by
    show (t.all ++ allOf ts).length = szs ([t] ++ ts)
    rw [List.length_append, allOf_len ts, szs_app, szs_one]
theorem all_pos (t : Tr) : 1 ≤ t.all.length := by cases t <;> simp [Tr.all]
theorem szs_len : ∀ ts : List Tr, ts.length ≤ szs ts
  | [] => Nat.le_refl _
  | t :: ts => by
    have := szs_len ts
    have := all_pos t
    show ts.length + 1 ≤ szs ([t] ++ ts)
    rw [szs_app, szs_one]
    omega
theorem snd_nodup : ∀ {l : List (Str × Tr)}, (∀ p ∈ l, p.1 = textOf p.2) → (l.map (·.1)).Nodup → (l.map (·.2)).Nodup
  | [], _, _ => List.nodup_nil
  | p :: l, hk, h => by
    obtain ⟨h1, h2⟩ := List.nodup_cons.mp h
    refine List.nodup_cons.mpr ⟨fun hm => ?_, snd_nodup (fun q hq => hk q (List.mem_cons_of_mem _ hq)) h2⟩
    obtain ⟨q, hq, e⟩ := List.mem_map.mp hm
    refine h1 (List.mem_map.mpr ⟨q, hq, ?_⟩)
    show q.1 = p.1
    have e : q.2 = p.2 := e
    rw [hk q (List.mem_cons_of_mem _ hq), hk p List.mem_cons_self, e]
theorem HI.len {d : Nat} {ts wt : List Tr} {l : List (Str × Tr)} (h : HI d ts l wt) : l.length ≤ (allOf ts).length := by
  have := nodup_sub (snd_nodup h.key h.nd) (h.least _ (allOf_base ts) (allOf_pcl ts)).1
  rwa [List.length_map] at this
theorem HI.init {d : Nat} {ts : List Tr} (h : ∀ t ∈ ts, Wf t ∧ t.dep ≤ d) : HI d ts [] ts := ⟨(fun p hp => by cases hp), (fun p hp => by cases hp), h, List.nodup_nil, fun t ht => .inr ht, (fun a b hp => by cases hp), fun O' h1 _ => ⟨fun t ht => (by cases ht), h1⟩⟩
theorem HI.fin {d : Nat} {ts : List Tr} {l : List (Str × Tr)} (h : HI d ts l []) : Halves ts (l.map (·.2)) :=
  ⟨snd_nodup h.key h.nd, fun t ht => (h.base t ht).elim id (fun z => by cases z), fun a b hp => ⟨(h.pcl a b hp).1.elim id (fun z => by cases z), (h.pcl a b hp).2.elim id (fun z => by cases z)⟩, fun O' h1 h2 => (h.least O' h1 h2).1⟩
theorem HI.known {d : Nat} {ts wt : List Tr} {t u : Tr} {l : List (Str × Tr)} (h : HI d ts l (wt ++ [t])) (hl : look l (textOf t) = some u) : HI d ts l wt := by
  have hm := lookT_mem hl
  have hu : u = t := (text_inj (h.ww t (by simp)).1 (h.wl _ hm).1 (h.key _ hm)).symm
  subst hu
  have ht : u ∈ l.map (·.2) := List.mem_map.mpr ⟨_, hm, rfl⟩
  have f : ∀ {v : Tr}, v ∈ l.map (·.2) ∨ v ∈ wt ++ [u] → v ∈ l.map (·.2) ∨ v ∈ wt := fun {v} q => by
    rcases q with q | q
    · exact .inl q
    · rcases List.mem_append.mp q with q | q
      · exact .inr q
      · rw [List.mem_singleton.mp q]; exact .inl ht
  exact ⟨h.key, h.wl, fun t ht => h.ww t (List.mem_append_left _ ht), h.nd, fun t ht => f (h.base t ht), fun a b hp => ⟨f (h.pcl a b hp).1, f (h.pcl a b hp).2⟩, fun O' h1 h2 => ⟨(h.least O' h1 h2).1, fun t ht => (h.least O' h1 h2).2 t (List.mem_append_left _ ht)⟩⟩
theorem HI.new {d : Nat} {ts wt ps : List Tr} {t : Tr} {l : List (Str × Tr)} (h : HI d ts l (wt ++ [t])) (hl : look l (textOf t) = none) (hps : ∀ a b, t = .bi "pair" a b → a ∈ ps ∧ b ∈ ps) (hp : ∀ r ∈ ps, (∃ a b, t = .bi "pair" a b ∧ (r = a ∨ r = b)) ∧ Wf r ∧ r.dep ≤ d) : HI d ts (l ++ [(textOf t, t)]) (wt ++ ps) := by
  have f : ∀ {v : Tr}, v ∈ l.map (·.2) ∨ v ∈ wt ++ [t] → v ∈ (l ++ [(textOf t, t)]).map (·.2) ∨ v ∈ wt ++ ps := fun {v} q => by
    rw [List.map_append]
    rcases q with q | q
    · exact .inl (List.mem_append_left _ q)
    · rcases List.mem_append.mp q with q | q
      · exact .inr (List.mem_append_left _ q)
      · rw [List.mem_singleton.mp q]; exact .inl (List.mem_append_right _ List.mem_cons_self)
  have ht := h.ww t (by simp)
  refine ⟨fun p hp => ?_, fun p hp => ?_, fun r hr => ?_, ?_, fun t ht => f (h.base t ht), fun a b hp => ?_, fun O' h1 h2 => ?_⟩
  · rcases List.mem_append.mp hp with q | q
    · exact h.key p q
    · rw [List.mem_singleton.mp q]
  · rcases List.mem_append.mp hp with q | q
    · exact h.wl p q
    · rw [List.mem_singleton.mp q]; exact ht
  · rcases List.mem_append.mp hr with q | q
    · exact h.ww r (List.mem_append_left _ q)
    · exact (hp r q).2
  · rw [List.map_append]
    refine List.nodup_append.mpr ⟨h.nd, by simp, fun a ha b hb e => ?_⟩
    have hb : b = textOf t := by simpa using hb
    obtain ⟨⟨y, u⟩, hq, ey⟩ := List.mem_map.mp ha
    obtain ⟨i, hi⟩ := List.getElem?_of_mem hq
    have : y = textOf t := by rw [← hb, ← e]; exact ey
    subst this
    rw [look_get h.nd hi] at hl
    cases hl
  · rw [List.map_append] at hp
    rcases List.mem_append.mp hp with q | q
    · exact ⟨f (h.pcl a b q).1, f (h.pcl a b q).2⟩
    · have e : t = .bi "pair" a b := (List.mem_singleton.mp q).symm
      obtain ⟨h1, h2⟩ := hps a b e
      exact ⟨.inr (List.mem_append_right _ h1), .inr (List.mem_append_right _ h2)⟩
  · obtain ⟨h3, h4⟩ := h.least O' h1 h2
    have h5 := h4 t (by simp)
    refine ⟨fun r hr => ?_, fun r hr => ?_⟩
    · rw [List.map_append] at hr
      rcases List.mem_append.mp hr with q | q
      · exact h3 r q
      · rw [List.mem_singleton.mp q]; exact h5
    · rcases List.mem_append.mp hr with q | q
      · exact h4 r (List.mem_append_left _ q)
      · obtain ⟨⟨a, b, rfl, e⟩, _⟩ := hp r q
        obtain ⟨h6, h7⟩ := h2 a b h5
        rcases e with rfl | rfl
        · exact h6
        · exact h7
def sp_halves (d : Nat) : Sp := fun vs H Q _ => ∃ (a : Addr) (ws : List V) (ts : List Tr), vs = [.ref a] ∧ H a = some (.lst ws) ∧ TsAt H ts ws ∧ (∀ t ∈ ts, Wf t ∧ t.dep ≤ d) ∧ d ≤ 12 ∧ (allOf ts).length ≤ 100000 ∧
  ∀ q us hs H', Same H H' → H q = none → H' q = some (.lst us) → TsAt H' hs us → Halves ts hs → Q (.ref q) H'
section
variable {P : Program} {w : World} {K : PySem.W.Frag} {mg : Str → Option Value} {base : Heap}
abbrev s_halves_of : Stmt := top 34
theorem sc_halves_of : FnScope ["trees", "found", "waiting", "tree", "text"] ["trees"] (defScope s_halves_of) := ⟨rfl, rfl, rfl, by decide +kernel, rfl, by decide +kernel, by decide +kernel⟩
theorem ok_halves_of (T : Tx w K mg) (d : Nat) : Fk P w K mg base CX0 (d + 4) "halves_of" ["trees"] (sp_halves d) := by
  refine T.F_halves_of.ok0 sc_halves_of (fun _ _ _ _ _ _ us hl => match us, hl with | [_], _ => rfl)
    (fun vs H Q E h => ?_) (fun cdv A outer s H vs Q E hr h => ?_)
  · obtain ⟨a, ws, ts, rfl, _⟩ := h
    rfl
  · obtain ⟨a, ws, ts, rfl, ha, hts, wf, d12, hbig, k⟩ := h
    refine ⟨_, (pss_cons (ps_set (i := 1) sc_halves_of.nd rfl (Or.inr rfl) pe_dnewK)
  (pss_cons (ps_set (i := 2) sc_halves_of.nd rfl (Or.inl rfl) (pe_callTy call_list_of (by rfl) T.z_list (by decide +kernel) (pa_cons (pv 0) pa_nil)))
  (pss_cons (ps_while PassesOwn.never (pt_truth (pv 2) (by intro _; rfl))
  (pss_cons (ps_set (i := 3) sc_halves_of.nd rfl (Or.inl rfl) (pe_bm0 PySem.F.plainAttrs_list PySem.F.slot_list_pop PySem.F.type_list_pop mt_pop (pv 2)))
  (pss_cons (ps_set (i := 4) sc_halves_of.nd rfl (Or.inl rfl) (pe_fk (ok_tree_text T d) (hr.mono (by omega)) rfl pass0 (pa_cons (pv 3) pa_nil)))
  (pss_one (ps_if (pt_cmp (pc_dnotin (hu_of hr) (pv 4) (pv 1)))
  (pss_cons (ps_dput (hu_of hr) (pv 1) (pv 4) (pv 3) (by rfl))
  (pss_one (ps_if (pt_cmpR op_eq (pe_ix ix_tup (pv 3) pe_int (fun _ _ => rfl)) pe_str (nomark _))
  (pss_one (ps_expr (pe_bm PySem.F.plainAttrs_list PySem.F.slot_list_extend PySem.F.type_list_extend mt_extT (pv 2) (pa_cons (pe_slice sl_tup (pv 3) (po_some pe_int) po_none) pa_nil))))
  pss_nil)))
  pss_nil)))))
  (pss_one (ps_ret (pe_lock (pe_lc (own := [("text", 4)]) (g := gName 4) (tt := tYes) (by rfl) sc_halves_of.nd (pi_keys (pv 1)) (blkOk_by (own := [("text", 4)]) (N := ["trees", "found", "waiting", "tree", "text"]) (sc := defScope s_halves_of) (by decide +kernel)) (fun _ _ _ _ _ => (pg_name (i := 4) sc_halves_of.nd rfl (Or.inl rfl))) (fun _ _ _ _ _ => pts_nil) (fun _ _ _ _ _ => (pe_dget (hu_of hr) (pv 1) (pv 4) (fun _ _ => rfl)))))))))), ?_⟩
    have big : 16777216 ≤ sizeLine := by decide
    refine fun F hF => ?_
    refine gName_k ?_
    try dsimp only
    have sF := Rd.Same.upd (o := .dK []) hF
    have hF1 : upd H F (.dK []) F = some (.dK []) := upd_same
    generalize upd H F (.dK []) = H1 at sF hF1 ⊢
    refine seqAsg ⟨_, rfl, a, ws, rfl, .inl (SqL.of (sF _ _ ha)), fun Wq hW => ?_⟩
    refine gName_k ?_
    try dsimp only
    have sW := Rd.Same.upd (o := .lst ws) hW
    have s2 := sF.trans sW
    have hF2 := sW _ _ hF1
    have hW2 : upd H1 Wq (.lst ws) Wq = some (.lst ws) := upd_same
    generalize upd H1 Wq (.lst ws) = H2 at s2 hF2 hW2 ⊢
    have nFW : F ≠ Wq := fun z => by rw [← z, hF1] at hW; cases hW
    have nWH : H Wq = none := sF.free hW
    have hsz := allOf_len ts
    refine ⟨fun m σ Hc => ∃ (t3 t4 : Option V) (kc : List (Key × V)) (l : List (Str × Tr)) (wv : List V) (wt : List Tr), σ = [some (.ref a), some (.ref F), some (.ref Wq), t3, t4] ∧ (∀ c o, c ≠ F → c ≠ Wq → H2 c = some o → Hc c = some o) ∧ Hc F = some (.dK kc) ∧ Al IsT Hc l kc ∧ Hc Wq = some (.lst wv) ∧ TsAt Hc wt wv ∧ m = szs wt ∧ m ≤ szs ts ∧ HI d ts l wt, ⟨_, _, _, [], [], ws, ts, rfl, fun _ _ _ _ e => e, hF2, trivial, hW2, hts.same s2, rfl, Nat.le_refl _, HI.init wf⟩, ?_⟩
    rintro m σ Hc ⟨t3, t4, kc, l, wv, wt, rfl, fr, hFc, alc, hWc, tsc, hm, hms, hi⟩
    have hll := hi.len
    have hkl := alc.len
    have hwl := tsc.len
    have hws := szs_len wt
    refine ⟨_, rfl, !wv.isEmpty, .inl ⟨_, SqL.of hWc, rfl⟩, ?_⟩
    rcases List.eq_nil_or_concat wv with rfl | ⟨wv', y, e⟩
    · refine iteN (by decide) ?_
      try dsimp only
      have ewt : wt = [] := List.length_eq_zero_iff.mp (by rw [← hwl]; rfl)
      subst ewt
      refine ⟨F, _, hFc, trivial, fun od => ?_⟩
      have kl : Kp 0 Hc (upd Hc F (.frz od (.dK kc))) := fun c o hi e => by
        rw [upd_ne (fun z => by rw [z, hFc] at e; cases e; cases hi)]
        exact e
      refine ⟨_, rfl, F, od, rfl, .inl ⟨kc, upd_same, fun D hD => ?_⟩⟩
      refine lcv upd_same (alc.mono fun t v h => h.mono kl) hi.nd (by omega) hD (fun _ => rfl) (fun x v σ2 H3 Q3 s3 dg e kk => by subst e; exact ⟨_, rfl, _, rfl, F, v, rfl, dg, kk⟩) fun vs H3 s3 hD3 hv3 => ?_
      have hF3 := s3 _ _ (upd_same (H := Hc) (a := F))
      refine ⟨hF3, ?_⟩
      have kx : Kp 0 H3 (upd H3 F (.dK kc)) := fun c o hi e => by
        rw [upd_ne (fun z => by rw [z, hF3] at e; cases e; cases hi)]
        exact e
      have neDF : D ≠ F := fun z => by rw [z, upd_same] at hD; cases hD
      refine k D vs _ _ (fun c o e => ?_) ?_ (by rw [upd_ne neDF]; exact hD3) (hv3.mono kx) hi.fin
      · have ncF := ne_of_none e hF
        rw [upd_ne ncF]
        exact s3 _ _ (by rw [upd_ne ncF]; exact fr c o ncF (ne_of_none e nWH) (s2 _ _ e))
      · cases e : H D with
        | none => rfl
        | some o =>
          have : upd Hc F (.frz od (.dK kc)) D = some o := by rw [upd_ne neDF]; exact fr D o neDF (ne_of_none e nWH) (s2 _ _ e)
          rw [this] at hD
          cases hD
    · rw [List.concat_eq_append] at e
      subst e
      obtain ⟨wt', t, rfl, tsc', it⟩ := tsc.unsnoc
      refine iteP (by simp) ⟨fun σ' H' => ∃ (t3 t4 : Option V) (kc : List (Key × V)) (l : List (Str × Tr)) (wv : List V) (wt : List Tr), σ' = [some (.ref a), some (.ref F), some (.ref Wq), t3, t4] ∧ (∀ c o, c ≠ F → c ≠ Wq → H2 c = some o → H' c = some o) ∧ H' F = some (.dK kc) ∧ Al IsT H' l kc ∧ H' Wq = some (.lst wv) ∧ TsAt H' wt wv ∧ szs wt < m ∧ HI d ts l wt, fun σ' H' ⟨t3, t4, kc, l, wv, wt, e1, e2, e3, e4, e5, e6, e7, e8⟩ => ⟨szs wt, e7, t3, t4, kc, l, wv, wt, e1, e2, e3, e4, e5, e6, rfl, by omega, e8⟩, ?_⟩
      have hm' : m = szs wt' + t.all.length := by rw [hm, szs_app, szs_one]
      have tp := all_pos t
      obtain ⟨wft, dpt⟩ := hi.ww t (by simp)
      refine seqAsg ⟨_, rfl, .inl ⟨rfl, _, SqL.of hWc⟩, Wq, _, y, rfl, rfl, hWc, (by rw [List.length_append]; simp), ?_⟩
      rw [List.dropLast_concat]
      refine gName_k ?_
      try dsimp only
      have kp := Kp.upd_lst (C := 0) (ys := wv') hWc
      have it4 := it.mono kp
      have ts4 := tsc'.mono kp
      have al4 : Al IsT (upd Hc Wq (.lst wv')) l kc := alc.mono fun t v h => h.mono kp
      have hF4 : upd Hc Wq (.lst wv') F = some (.dK kc) := by rw [upd_ne nFW]; exact hFc
      have hW4 : upd Hc Wq (.lst wv') Wq = some (.lst wv') := upd_same
      have fr4 : ∀ c o, c ≠ F → c ≠ Wq → H2 c = some o → upd Hc Wq (.lst wv') c = some o := fun c o h1 h2 e => by rw [upd_ne h2]; exact fr c o h1 h2 e
      generalize upd Hc Wq (.lst wv') = H4 at kp it4 ts4 al4 hF4 hW4 fr4 ⊢
      refine seqAsg ⟨_, rfl, y, t, rfl, it4, wft, dpt, d12, fun H5 s5 => ?_⟩
      refine gName_k ?_
      try dsimp only
      refine ⟨_, rfl, _, rfl, F, _, rfl, DGet.k (k := .inr (textOf t)) (s5 _ _ hF4), _, rfl, ?_⟩
      cases el : look l (textOf t) with
      | some u =>
        obtain ⟨v0, e0, _⟩ := (al4.look (x := textOf t)).1 u el
        rw [e0]
        refine iteN (by simp) ?_
        exact ⟨_, _, kc, l, wv', wt', rfl, fun c o h1 h2 e => s5 _ _ (fr4 c o h1 h2 e), s5 _ _ hF4, al4.mono (fun t v h => h.same s5), s5 _ _ hW4, ts4.same s5, by omega, hi.known el⟩
      | none =>
        have hv0 := (al4.look (x := textOf t)).2 el
        rw [hv0]
        refine iteP (by simp) ?_
        refine ⟨_, rfl, _, rfl, _, rfl, F, _, rfl, DPut.k (k := .inr (textOf t)) (s5 _ _ hF4) (by omega), ?_⟩
        rw [putK_new y hv0]
        have kp6 := Kp.upd_dK (C := 0) (ys := kc ++ [(.inr (textOf t), y)]) (s5 _ _ hF4)
        have al6 : Al IsT (upd H5 F (.dK (kc ++ [(.inr (textOf t), y)]))) (l ++ [(textOf t, t)]) (kc ++ [(.inr (textOf t), y)]) := Al.snoc ((it4.same s5).mono kp6) (al4.mono fun t v h => (h.same s5).mono kp6)
        have it6 := (it4.same s5).mono kp6
        have ts6 := (ts4.same s5).mono kp6
        have hF6 : upd H5 F (.dK (kc ++ [(.inr (textOf t), y)])) F = some (.dK (kc ++ [(.inr (textOf t), y)])) := upd_same
        have hW6 : upd H5 F (.dK (kc ++ [(.inr (textOf t), y)])) Wq = some (.lst wv') := by rw [upd_ne (Ne.symm nFW)]; exact s5 _ _ hW4
        have fr6 : ∀ c o, c ≠ F → c ≠ Wq → H2 c = some o → upd H5 F (.dK (kc ++ [(.inr (textOf t), y)])) c = some o := fun c o h1 h2 e => by rw [upd_ne h1]; exact s5 _ _ (fr4 c o h1 h2 e)
        generalize upd H5 F (.dK (kc ++ [(.inr (textOf t), y)])) = H6 at al6 it6 ts6 hF6 hW6 fr6 ⊢
        try dsimp only
        obtain ⟨pf, us, rfl, hpf⟩ := it6.hd
        refine ⟨_, rfl, pf, _, _, _, rfl, rfl, SqT.of hpf, at_of (j := 0) rfl rfl, rfl, _, rfl, ?_⟩
        rw [decS]
        by_cases hp : t.head = "pair"
        · obtain ⟨ta, tb, rfl, wa, wb, da, db⟩ : ∃ ta tb, t = .bi "pair" ta tb ∧ Wf ta ∧ Wf tb ∧ ta.dep ≤ d ∧ tb.dep ≤ d := by
            rcases wft.shp with ⟨k0, x0, rfl, ko⟩ | ⟨s0, a0, rfl, hs, _⟩ | ⟨s0, a0, b0, rfl, hs, wa, wb⟩
            · rcases ko with ⟨rfl, _⟩ | ⟨rfl, _⟩ | ⟨rfl, _⟩
              · exact absurd (show ("word" : Str) = "pair" from hp) (by decide +kernel)
              · exact absurd (show ("name" : Str) = "pair" from hp) (by decide +kernel)
              · exact absurd (show ("unknown" : Str) = "pair" from hp) (by decide +kernel)
            · have : ∀ z ∈ (["mark", "open", "own"] : List Str), z ≠ "pair" := by decide +kernel
              exact absurd hp (this s0 hs)
            · have hp : s0 = "pair" := hp
              subst hp
              have ed : (Tr.bi "pair" a0 b0).dep = max a0.dep b0.dep + 1 := rfl
              exact ⟨a0, b0, rfl, wa, wb, by omega, by omega⟩
          refine iteP (decide_eq_true hp) ?_
          obtain ⟨pf', u1, u2, e', hpf', i1, i2⟩ := it6
          cases e'
          refine ⟨_, rfl, .inl ⟨rfl, _, SqL.of hW6⟩, _, rfl, _, rfl, pf, _, rfl, SqT.of hpf', ?_, fun p2 hp2 => ?_⟩
          · rintro ⟨z, _⟩
            rw [show (1 : Int) = ((1 : Nat) : Int) from rfl, HT.sIx_nat, List.length_cons] at z
            simp at z
          rw [cut1]
          have sp2 := Rd.Same.upd (o := .tup [u1, u2]) hp2
          have h22 : upd H6 p2 (.tup [u1, u2]) p2 = some (.tup [u1, u2]) := upd_same
          generalize upd H6 p2 (.tup [u1, u2]) = H7 at sp2 h22 ⊢
          have ea : (Tr.bi "pair" ta tb).all.length = ta.all.length + tb.all.length + 1 := by simp [Tr.all]
          refine ⟨Wq, p2, wv', [u1, u2], rfl, rfl, sp2 _ _ hW6, SqT.of h22, ?_, ?_⟩
          · rw [List.length_append, List.length_cons] at hwl
            have e3 := ts6.len
            have := szs_len wt'
            simp only [List.length_cons, List.length_nil]
            omega
          have kp8 := Kp.upd_lst (C := 0) (ys := wv' ++ [u1, u2]) (sp2 _ _ hW6)
          refine ⟨_, _, _, _, _, wt' ++ [ta, tb], rfl, fun c o h1 h2 e => by rw [upd_ne h2]; exact sp2 _ _ (fr6 c o h1 h2 e), by rw [upd_ne nFW]; exact sp2 _ _ hF6, al6.mono (fun t v h => (h.same sp2).mono kp8), upd_same, ?_, ?_, hi.new el (fun a b e => by cases e; simp) fun r hr => ?_⟩
          · exact ((ts6.same sp2).mono kp8).app (TsAt.app (ts := [ta]) (vs := [u1]) (TsAt.one ((i1.same sp2).mono kp8)) (TsAt.one ((i2.same sp2).mono kp8)))
          · rw [szs_app, show [ta, tb] = [ta] ++ [tb] from rfl, szs_app, szs_one, szs_one]
            omega
          · have hr : r = ta ∨ r = tb := by simpa using hr
            rcases hr with rfl | rfl
            · exact ⟨⟨r, tb, rfl, .inl rfl⟩, wa, da⟩
            · exact ⟨⟨ta, r, rfl, .inr rfl⟩, wb, db⟩
        · refine iteN (by rw [decide_eq_false hp]; decide) ?_
          have hn := hi.new (ps := []) el (fun a b e => absurd (by rw [e]; rfl) hp) (fun r hr => by cases hr)
          rw [List.append_nil] at hn
          exact ⟨_, _, _, _, wv', wt', rfl, fr6, hF6, al6, hW6, ts6, by omega, hn⟩
end
end Rd
namespace Rd
open PySem L2
open Ob (RcOp lexAt lexAt_succ lexAt_zero)
/-! ### order of forms -/
structure OrdOp (op : CmpOp) (cs : Str → Str → Bool) (cn : Nat → Nat → Bool) : Prop where
  str : ∀ (A : Around) (s : Shared) (a b : Str) (t u : Tok), RcOp op A s (.str a t) (.str b u) (cs a b)
  tup : ∀ {A : Around} {s : Shared} {l b : Addr} {xs ys : Array Value} {e r : Nat → Bool} (_ : s.heap.IsTuple l xs) (_ : s.heap.IsTuple b ys) (_ : A.units < cLine)
    (_ : ∀ j (h1 : j < xs.size) (h2 : j < ys.size), SeqAt.EqAt A.in1 s xs[j] ys[j] (e j))
    (_ : ∀ j (h1 : j < xs.size) (h2 : j < ys.size), Ahead e j → e j = false → RcOp op A.in1 s xs[j] ys[j] (r j)),
    RcOp op A s (.ref l) (.ref b) (lexAt e r (cn xs.size ys.size) 0 (min xs.size ys.size))
def cLt (a b : Str) : Bool := decide (a.cps.toList < b.cps.toList)
theorem ord_lt : OrdOp .Lt cLt (fun n m => decide (n < m)) := ⟨fun _ _ _ _ _ _ _ _ _ _ h => PyProof.Rows.lt_str h, fun h1 h2 h3 h4 h5 => tup_lt h1 h2 h3 h4 h5⟩
theorem ord_le : OrdOp .LtE (fun a b => !cLt b a) (fun n m => decide (n ≤ m)) := ⟨fun _ _ _ _ _ _ _ _ _ _ h => PySem.P.le_str h, fun h1 h2 h3 h4 h5 => tup_le h1 h2 h3 h4 h5⟩
theorem ord_gt : OrdOp .Gt (fun a b => cLt b a) (fun n m => decide (n > m)) := ⟨fun _ _ _ _ _ _ _ _ _ _ h => PySem.P.gt_str h, fun h1 h2 h3 h4 h5 => tup_gt h1 h2 h3 h4 h5⟩
theorem ord_ge : OrdOp .GtE (fun a b => !cLt a b) (fun n m => decide (n ≥ m)) := ⟨fun _ _ _ _ _ _ _ _ _ _ h => PySem.P.ge_str h, fun h1 h2 h3 h4 h5 => tup_ge h1 h2 h3 h4 h5⟩
def Tr.its : Tr → List PyData
  | .am k x => [.str k, .str x]
  | .un s a => [.str s, dat a]
  | .bi s a b => [.str s, dat a, dat b]
def lexT (cn : Nat → Nat → Bool) (t u : Tr) (r : Nat → Bool) : Bool := lexAt (SeqAt.pairEq t.its u.its) r (cn t.its.length u.its.length) 0 (min t.its.length u.its.length)
def cmpT (cs : Str → Str → Bool) (cn : Nat → Nat → Bool) : Tr → Tr → Bool
  | .am k x, .am k' x' => lexT cn (.am k x) (.am k' x') (fun j => match j with | 0 => cs k k' | _ => cs x x')
  | .un s a, .un s' a' => lexT cn (.un s a) (.un s' a') (fun j => match j with | 0 => cs s s' | _ => cmpT cs cn a a')
  | .bi s a b, .bi s' a' b' => lexT cn (.bi s a b) (.bi s' a' b') (fun j => match j with | 0 => cs s s' | 1 => cmpT cs cn a a' | _ => cmpT cs cn b b')
  | t, u => lexT cn t u (fun _ => cs t.head u.head)
def Tr.sort : Tr → Nat
  | .am _ _ => 0
  | .un _ _ => 1
  | .bi _ _ _ => 2
def sortOf (z : Str) : Nat := if z ∈ (["word", "name", "unknown"] : List Str) then 0 else if z ∈ (["mark", "open", "own"] : List Str) then 1 else 2
theorem Wf.sort {t : Tr} (h : Wf t) : t.sort = sortOf t.head := by
  cases h with
  | am h =>
    rcases h with ⟨rfl, h⟩ | ⟨rfl, h⟩ | ⟨rfl, h⟩
    · show 0 = sortOf "word"; decide +kernel
    · show 0 = sortOf "name"; decide +kernel
    · show 0 = sortOf "unknown"; decide +kernel
  | @un s a hs _ =>
    have : ∀ z ∈ (["mark", "open", "own"] : List Str), 1 = sortOf z := by decide +kernel
    exact this s hs
  | @bi s a b hs _ _ =>
    have : ∀ z ∈ (["pair", "seal"] : List Str), 2 = sortOf z := by decide +kernel
    exact this s hs
  | lk hs _ _ => show 2 = sortOf "lock"; decide +kernel
theorem IsT.all {K : PySem.W.Frag} {H : Hp} {t : Tr} {v : V} (h : IsT H t v) : ∃ p us, v = .ref p ∧ H p = some (.tup (.str t.head :: us)) ∧ DpAll K H (.str t.head :: us) t.its := by
  cases t with
  | am k x => obtain ⟨p, e, h⟩ := h; exact ⟨p, _, e, h, .cons (.str _) (.cons (.str _) .nil)⟩
  | un s a => obtain ⟨p, u, e, h, h1⟩ := h; exact ⟨p, _, e, h, .cons (.str _) (.cons h1.dp .nil)⟩
  | bi s a b => obtain ⟨p, u, u2, e, h, h1, h2⟩ := h; exact ⟨p, _, e, h, .cons (.str _) (.cons h1.dp (.cons h2.dp .nil))⟩
theorem its_lay {t : Tr} (h : t.fine) : PySem.PyData.canLayAll0 t.its = true := by
  have := dat_lay h
  cases t <;> exact this
theorem its_dep {t : Tr} : PySem.PyData.depthAll t.its ≤ t.dep := by
  have := dat_dep (t := t)
  cases t with
  | am k x => show max 0 (max 0 0) ≤ 0; decide
  | un s a => exact Nat.le_of_succ_le_succ this
  | bi s a b => exact Nat.le_of_succ_le_succ this
theorem head0 {t u : Tr} (h : SeqAt.pairEq t.its u.its 0 = true) : t.head = u.head := by
  have e : PyData.eqv (.str t.head) (.str u.head) = true := by
    cases t <;> cases u <;> exact h
  simpa [PyData.eqv] using e
theorem dpAll_len {K : PySem.W.Frag} {H : Hp} : ∀ {vs : List V} {ds : List PyData}, DpAll K H vs ds → vs.length = ds.length
  | [], _, h => by cases h; rfl
  | v :: r, _, h => by
    cases h with
    | cons _ h2 => rw [List.length_cons, List.length_cons, dpAll_len h2]
section
variable {X : Cx} {pins : List (Addr × Obj)} {σ : St} {H : Hp} {s : Shared} {op : CmpOp} {cs : Str → Str → Bool} {cn : Nat → Nat → Bool}
/-- two forms, the first pair of parts that differ being ruled by r -/
theorem rc_pair (O : OrdOp op cs cn) (I : Inv X pins σ H s) {t u : Tr} {v w : V} {A : Around} (ht : IsT H t v) (hu : IsT H u w) (ft : t.fine) (fu : u.fine) (hA : A.units + t.dep + 5 < cLine) {r : Nat → Bool} {a b : Value} (ra : RelV v a) (rb : RelV w b)
    (h0 : r 0 = cs t.head u.head)
    (hr : t.head = u.head → ∀ (us ws : List V) (vs ys : List Value), IsT H t v → IsT H u w → (∃ p q, v = .ref p ∧ w = .ref q ∧ H p = some (.tup (.str t.head :: us)) ∧ H q = some (.tup (.str u.head :: ws))) → Vals us vs → Vals ws ys → ∀ j (h1 : j < vs.length) (h2 : j < ys.length), RcOp op A.in1 s vs[j] ys[j] (r (j + 1))) :
    RcOp op A s a b (lexT cn t u r) := by
  obtain ⟨p, us, rfl, hp, dp⟩ := ht.all (K := X.K)
  obtain ⟨q, ws, rfl, hq, dq⟩ := hu.all (K := X.K)
  cases ra
  cases rb
  obtain ⟨its, r1, p1, _⟩ := I.tuple (SqT.of hp)
  obtain ⟨its2, r2, p2, _⟩ := I.tuple (SqT.of hq)
  obtain ⟨as, q1⟩ := Dp.readsAll I _ _ _ dp r1
  obtain ⟨bs, q2⟩ := Dp.readsAll I _ _ _ dq r2
  have l1 : its.length = t.its.length := r1.length.symm.trans (dpAll_len dp)
  have l2 : its2.length = u.its.length := r2.length.symm.trans (dpAll_len dq)
  have hd := its_dep (t := t)
  have hA1 : A.in1.units = A.units + 1 := rfl
  have R := O.tup (A := A) (s := s) (e := SeqAt.pairEq t.its u.its) (r := r) p1 p2 (by omega) (fun j h1 h2 => by
    have h1' : j < its.length := by simpa using h1
    have h2' : j < its2.length := by simpa using h2
    have := SeqAt.eqAt_readsAll t.its u.its A.in1 s its its2 as bs q1 q2 (its_lay ft) (its_lay fu) (by omega) j h1' h2'
    simpa using this) (fun j h1 h2 ah ne => by
    cases r1 with
    | @cons _ u1 _ vs ra1 rv1 =>
      cases r2 with
      | @cons _ u2 _ ys ra2 rv2 =>
        obtain ⟨k1, rfl⟩ := ra1
        obtain ⟨k2, rfl⟩ := ra2
        cases j with
        | zero =>
          rw [h0]
          exact O.str _ _ _ _ _ _
        | succ j =>
          have h1' : j < vs.length := by simpa using h1
          have h2' : j < ys.length := by simpa using h2
          have := hr (head0 (ah 0 (Nat.succ_pos _))) us ws vs ys ht hu ⟨p, q, rfl, rfl, hp, hq⟩ rv1 rv2 j h1' h2'
          simpa using this)
  have e1 : its.toArray.size = t.its.length := by rw [List.size_toArray]; exact l1
  have e2 : its2.toArray.size = u.its.length := by rw [List.size_toArray]; exact l2
  rw [e1, e2] at R
  exact R
theorem rc_T (O : OrdOp op cs cn) (I : Inv X pins σ H s) : ∀ (t u : Tr) {v w : V} {A : Around} {a b : Value}, IsT H t v → IsT H u w → Wf t → Wf u → A.units + t.dep + 5 < cLine → RelV v a → RelV w b → RcOp op A s a b (cmpT cs cn t u) := by
  intro t
  induction t with
  | am k x =>
    intro u v w A a b ht hu wt wu hA ra rb
    cases u with
    | am k' x' =>
      refine rc_pair O I ht hu wt.fine wu.fine hA ra rb rfl fun he us ws vs ys h1 h2 ⟨p, q, e1, e2, hp, hq⟩ r1 r2 j j1 j2 => ?_
      obtain ⟨p', e1', hp'⟩ := h1
      obtain ⟨q', e2', hq'⟩ := h2
      subst e1 e2
      cases e1'
      cases e2'
      rw [hp] at hp'
      rw [hq] at hq'
      cases hp'
      cases hq'
      cases r1 with
      | cons ra1 rn1 =>
        cases rn1
        cases r2 with
        | cons ra2 rn2 =>
          cases rn2
          obtain ⟨k1, rfl⟩ := ra1
          obtain ⟨k2, rfl⟩ := ra2
          cases j with
          | zero => exact O.str _ _ _ _ _ _
          | succ j => exact absurd j1 (by simp)
    | un s' a' => exact rc_pair O I ht hu wt.fine wu.fine hA ra rb rfl fun he => absurd (wt.sort.trans ((congrArg sortOf he).trans wu.sort.symm)) (by show ¬ 0 = 1; decide)
    | bi s' a' b' => exact rc_pair O I ht hu wt.fine wu.fine hA ra rb rfl fun he => absurd (wt.sort.trans ((congrArg sortOf he).trans wu.sort.symm)) (by show ¬ 0 = 2; decide)
  | un s0 a0 ih =>
    intro u v w A a b ht hu wt wu hA ra rb
    cases u with
    | am k' x' => exact rc_pair O I ht hu wt.fine wu.fine hA ra rb rfl fun he => absurd (wt.sort.trans ((congrArg sortOf he).trans wu.sort.symm)) (by show ¬ 1 = 0; decide)
    | bi s' a' b' => exact rc_pair O I ht hu wt.fine wu.fine hA ra rb rfl fun he => absurd (wt.sort.trans ((congrArg sortOf he).trans wu.sort.symm)) (by show ¬ 1 = 2; decide)
    | un s' a' =>
      refine rc_pair O I ht hu wt.fine wu.fine hA ra rb rfl fun he us ws vs ys h1 h2 ⟨p, q, e1, e2, hp, hq⟩ r1 r2 j j1 j2 => ?_
      obtain ⟨p', u1, e1', hp', i1⟩ := h1
      obtain ⟨q', u2, e2', hq', i2⟩ := h2
      subst e1 e2
      cases e1'
      cases e2'
      rw [hp] at hp'
      rw [hq] at hq'
      cases hp'
      cases hq'
      have d1 : (Tr.un s0 a0).dep = a0.dep + 1 := rfl
      have hA1 : A.in1.units = A.units + 1 := rfl
      cases r1 with
      | cons ra1 rn1 =>
        cases rn1
        cases r2 with
        | cons ra2 rn2 =>
          cases rn2
          cases j with
          | zero => exact ih a' i1 i2 (wt.parts_wf _ List.mem_cons_self) (wu.parts_wf _ List.mem_cons_self) (by omega) ra1 ra2
          | succ j => exact absurd j1 (by simp)
  | bi s0 a0 b0 iha ihb =>
    intro u v w A a b ht hu wt wu hA ra rb
    cases u with
    | am k' x' => exact rc_pair O I ht hu wt.fine wu.fine hA ra rb rfl fun he => absurd (wt.sort.trans ((congrArg sortOf he).trans wu.sort.symm)) (by show ¬ 2 = 0; decide)
    | un s' a' => exact rc_pair O I ht hu wt.fine wu.fine hA ra rb rfl fun he => absurd (wt.sort.trans ((congrArg sortOf he).trans wu.sort.symm)) (by show ¬ 2 = 1; decide)
    | bi s' a' b' =>
      refine rc_pair O I ht hu wt.fine wu.fine hA ra rb rfl fun he us ws vs ys h1 h2 ⟨p, q, e1, e2, hp, hq⟩ r1 r2 j j1 j2 => ?_
      obtain ⟨p', u1, v1, e1', hp', i1, i1'⟩ := h1
      obtain ⟨q', u2, v2, e2', hq', i2, i2'⟩ := h2
      subst e1 e2
      cases e1'
      cases e2'
      rw [hp] at hp'
      rw [hq] at hq'
      cases hp'
      cases hq'
      have d1 : (Tr.bi s0 a0 b0).dep = max a0.dep b0.dep + 1 := rfl
      have hA1 : A.in1.units = A.units + 1 := rfl
      cases r1 with
      | cons ra1 rn1 =>
        cases rn1 with
        | cons ra1' rn1 =>
        cases rn1
        cases r2 with
        | cons ra2 rn2 =>
          cases rn2 with
          | cons ra2' rn2 =>
          cases rn2
          match j, j1 with
          | 0, _ => exact iha a' i1 i2 (wt.parts_wf _ List.mem_cons_self) (wu.parts_wf _ List.mem_cons_self) (by omega) ra1 ra2
          | 1, _ => exact ihb b' i1' i2' (wt.parts_wf _ (List.mem_cons_of_mem _ List.mem_cons_self)) (wu.parts_wf _ (List.mem_cons_of_mem _ List.mem_cons_self)) (by omega) ra1' ra2'
          | j + 2, j1 => exact absurd j1 (by simp)
/-- t op u of two forms -/
def rOrd (cs : Str → Str → Bool) (cn : Nat → Nat → Bool) : R2 := fun x y H Q => ∃ t u, IsT H t x ∧ IsT H u y ∧ Wf t ∧ Wf u ∧ t.dep ≤ 40 ∧ Q (.bl (cmpT cs cn t u)) H
theorem op_ord (O : OrdOp op cs cn) (hu : X.A.units + 64 < cLine) (ho : ∀ (M : Model) (A : Around) (E : Value → Shared → Prop) (s : Shared) (a b : Value) (Q : Value → Shared → Prop), wpAny M A (richCompare op a b) Q E s → wpAny M A (compareOp op a b) Q E s) : OpR X (compareOp op) (rOrd cs cn) := by
  intro pins s σ H x y v u Q I rx ry h
  obtain ⟨t, u', h1, h2, w1, w2, hd, q⟩ := h
  exact ho _ _ _ _ _ _ _ (rc_T O I t u' h1 h2 w1 w2 (by omega) rx ry X.prog X.w X.xe (EP X pins σ Q) ⟨.bl _, H, I, rfl, q⟩)
end
end Rd
namespace Rd
open PySem PySem.Spec PyProof.Rows L2
open Ob (RcOp)
/-! ### sorted(forms): the same forms in some order -/
theorem kat_tail {prog : Program} {w : World} {A : Around} {fin : Bool} {s : Shared} : ∀ (l : List (Value × Value)) (i : Nat), 0 < i → (∀ p ∈ l, ∃ e c, SeqAt.EqAt A s p.1 p.2 e ∧ RcOp .Lt A s p.1 p.2 c) → ∃ b, PySem.W.KatLex prog w A true fin (fun r s' => s' = s ∧ r = b) l i s
  | [], i, _, _ => ⟨fin, PySem.W.kat_nil ⟨rfl, rfl⟩⟩
  | (p, q) :: r, i, hi, h => by
    obtain ⟨e, c, he, hc⟩ := h (p, q) List.mem_cons_self
    cases e with
    | true =>
      obtain ⟨b, hb⟩ := kat_tail (prog := prog) (w := w) (fin := fin) r (i + 1) (Nat.succ_pos _) fun p hp => h p (List.mem_cons_of_mem _ hp)
      exact ⟨b, PySem.W.kat_cons (he prog w _ _ (PySem.W.kat_yes hb))⟩
    | false =>
      refine ⟨c, PySem.W.kat_cons (he prog w _ _ (PySem.W.kat_no ?_))⟩
      have e0 : (true && i == 0) = false := by
        cases i with
        | zero => exact absurd hi (by decide)
        | succ i => rfl
      rw [e0]
      exact PySem.W.kat_one _ _ (hc prog w _ _ ⟨rfl, rfl⟩)
section
variable {X : Cx} {pins : List (Addr × Obj)} {σ : L2.St} {H : Hp} {s : Shared}
theorem form_tot (I : Inv X pins σ H s) {t u : Tr} {v w : V} {a b : Value} {A : Around} (ht : IsT H t v) (hu : IsT H u w) (wt : Wf t) (wu : Wf u) (hA : A.units + t.dep + 6 < cLine) (ra : RelV v a) (rb : RelV w b) :
    ∃ c : Bool, wpAny (model X.prog X.w) A (keyLt' (tuples' true) a b) (fun r s' => s' = s ∧ r = c) (fun _ _ => False) s := by
  obtain ⟨p, us, rfl, hp, dp⟩ := ht.all (K := X.K)
  obtain ⟨q, ws, rfl, hq, dq⟩ := hu.all (K := X.K)
  cases ra
  cases rb
  obtain ⟨its, r1, ⟨o1, e1, _, n1, d1⟩, _⟩ := I.tuple (SqT.of hp)
  obtain ⟨its2, r2, ⟨o2, e2, _, n2, d2⟩, _⟩ := I.tuple (SqT.of hq)
  obtain ⟨as, q1⟩ := Dp.readsAll I _ _ _ dp r1
  obtain ⟨bs, q2⟩ := Dp.readsAll I _ _ _ dq r2
  have hd := its_dep (t := t)
  have hE : ∀ j (h1 : j < its.length) (h2 : j < its2.length), SeqAt.EqAt A s its[j] its2[j] (SeqAt.pairEq t.its u.its j) := fun j h1 h2 => SeqAt.eqAt_readsAll t.its u.its A s its its2 as bs q1 q2 (its_lay wt.fine) (its_lay wu.fine) (by omega) j h1 h2
  cases r1 with
  | @cons _ u1 _ vs ra1 rv1 =>
    cases r2 with
    | @cons _ u2 _ ys ra2 rv2 =>
      obtain ⟨k1, rfl⟩ := ra1
      obtain ⟨k2, rfl⟩ := ra2
      have hE0 := hE 0 (Nat.succ_pos _) (Nat.succ_pos _)
      have hEs : ∀ j (h1 : j < vs.length) (h2 : j < ys.length), ∃ e, SeqAt.EqAt A s vs[j] ys[j] e := fun j h1 h2 => ⟨_, by simpa using hE (j + 1) (Nat.succ_lt_succ h1) (Nat.succ_lt_succ h2)⟩
      suffices hs : ∃ c : Bool, PySem.W.KatLex X.prog X.w A true (decide ((Value.str t.head k1 :: vs).toArray.size < (Value.str u.head k2 :: ys).toArray.size)) (fun r s' => s' = s ∧ r = c) ((Value.str t.head k1, Value.str u.head k2) :: vs.zip ys) 0 s by
        obtain ⟨c, hc⟩ := hs
        exact ⟨c, PySem.W.kat_lt e1 d1 e2 d2 hc⟩
      cases h0 : SeqAt.pairEq t.its u.its 0 with
      | false =>
        rw [h0] at hE0
        exact ⟨_, PySem.W.kat_cons (hE0 X.prog X.w _ _ (PySem.W.kat_no (PyProof.Rows.oneLt_any_str ⟨rfl, rfl⟩)))⟩
      | true =>
        rw [h0] at hE0
        have hh := head0 h0
        have key : ∀ pr ∈ vs.zip ys, ∃ e c, SeqAt.EqAt A s pr.1 pr.2 e ∧ RcOp .Lt A s pr.1 pr.2 c := by
          have hsh : t.sort = u.sort := wt.sort.trans ((congrArg sortOf hh).trans wu.sort.symm)
          cases t with
          | am k x =>
            cases u with
            | am k' x' =>
              obtain ⟨p', e', hp'⟩ := ht
              cases e'
              rw [hp] at hp'
              cases hp'
              obtain ⟨q', e', hq'⟩ := hu
              cases e'
              rw [hq] at hq'
              cases hq'
              cases rv1 with
              | cons a1 rn1 =>
                cases rn1
                cases rv2 with
                | cons a2 rn2 =>
                  cases rn2
                  obtain ⟨k3, rfl⟩ := a1
                  obtain ⟨k4, rfl⟩ := a2
                  intro pr hpr
                  rw [List.mem_singleton.mp hpr]
                  obtain ⟨e, he⟩ := hEs 0 (Nat.succ_pos _) (Nat.succ_pos _)
                  exact ⟨e, _, he, ord_lt.str A s x x' k3 k4⟩
            | _ => cases hsh
          | un s0 a0 =>
            cases u with
            | un s1 a1 =>
              obtain ⟨p', w1, e', hp', i1⟩ := ht
              cases e'
              rw [hp] at hp'
              cases hp'
              obtain ⟨q', w2, e', hq', i2⟩ := hu
              cases e'
              rw [hq] at hq'
              cases hq'
              cases rv1 with
              | cons b1 rn1 =>
                cases rn1
                cases rv2 with
                | cons b2 rn2 =>
                  cases rn2
                  intro pr hpr
                  rw [List.mem_singleton.mp hpr]
                  obtain ⟨e, he⟩ := hEs 0 (Nat.succ_pos _) (Nat.succ_pos _)
                  have d3 : (Tr.un s0 a0).dep = a0.dep + 1 := rfl
                  exact ⟨e, _, he, rc_T ord_lt I a0 a1 i1 i2 (wt.parts_wf _ List.mem_cons_self) (wu.parts_wf _ List.mem_cons_self) (by omega) b1 b2⟩
            | _ => cases hsh
          | bi s0 a0 b0 =>
            cases u with
            | bi s1 a1 c1 =>
              obtain ⟨p', w1, w2, e', hp', i1, i1'⟩ := ht
              cases e'
              rw [hp] at hp'
              cases hp'
              obtain ⟨q', w3, w4, e', hq', i2, i2'⟩ := hu
              cases e'
              rw [hq] at hq'
              cases hq'
              cases rv1 with
              | cons b1 rn1 =>
                cases rn1 with
                | cons b1' rn1 =>
                cases rn1
                cases rv2 with
                | cons b2 rn2 =>
                  cases rn2 with
                  | cons b2' rn2 =>
                  cases rn2
                  have d3 : (Tr.bi s0 a0 b0).dep = max a0.dep b0.dep + 1 := rfl
                  intro pr hpr
                  rcases List.mem_cons.mp hpr with rfl | hpr
                  · obtain ⟨e, he⟩ := hEs 0 (Nat.succ_pos _) (Nat.succ_pos _)
                    exact ⟨e, _, he, rc_T ord_lt I a0 a1 i1 i2 (wt.parts_wf _ List.mem_cons_self) (wu.parts_wf _ List.mem_cons_self) (by omega) b1 b2⟩
                  · rw [List.mem_singleton.mp hpr]
                    obtain ⟨e, he⟩ := hEs 1 (by simp) (by simp)
                    exact ⟨e, _, he, rc_T ord_lt I b0 c1 i1' i2' (wt.parts_wf _ (List.mem_cons_of_mem _ List.mem_cons_self)) (wu.parts_wf _ (List.mem_cons_of_mem _ List.mem_cons_self)) (by omega) b1' b2'⟩
            | _ => cases hsh
        obtain ⟨c, hc⟩ := kat_tail (prog := X.prog) (w := X.w) (fin := decide ((Value.str t.head k1 :: vs).toArray.size < (Value.str u.head k2 :: ys).toArray.size)) (vs.zip ys) 1 Nat.one_pos key
        exact ⟨c, PySem.W.kat_cons (hE0 X.prog X.w _ _ (PySem.W.kat_yes hc))⟩
/-- the first items of forms -/
theorem form_firsts (I : Inv X pins σ H s) : ∀ {ts : List Tr} {ws : List V} {us : List Value}, TsAt H ts ws → Vals ws us → ∃ fs : List Value, PySem.W.KatTups s.heap us fs ∧ fs.length = us.length ∧ ∀ f ∈ fs, ∃ x t, f = Value.str x t
  | _, [], _, _, .nil => ⟨[], PySem.W.KatTups.nil, rfl, fun _ h => by cases h⟩
  | ts, v :: ws, u :: us, h, .cons r rr => by
    obtain ⟨t, ts', rfl⟩ : ∃ t ts', ts = t :: ts' := by
      cases ts with
      | nil => exact absurd h.len (by simp)
      | cons t ts' => exact ⟨t, ts', rfl⟩
    obtain ⟨fs, h1, h2, h3⟩ := form_firsts I (ts := ts') (ws := ws) (us := us) ⟨by simpa using h.len, fun i t v a b => h.get (i + 1) t v a b⟩ rr
    obtain ⟨p, zs, rfl, hp⟩ := (h.get 0 t v rfl rfl).hd
    cases r
    obtain ⟨its, r1, ⟨o1, e1, c1, n1, d1⟩, _⟩ := I.tuple (SqT.of hp)
    cases r1 with
    | cons ra1 rv1 =>
      obtain ⟨k1, rfl⟩ := ra1
      refine ⟨_, PySem.W.KatTups.cons e1 c1 d1 rfl h1, by rw [List.length_cons, List.length_cons, h2], fun f hf => ?_⟩
      rcases List.mem_cons.mp hf with rfl | hf
      · exact ⟨_, _, rfl⟩
      · exact h3 f hf
def rSortedF (K : PySem.W.Frag) : List V → Hp → VK → Prop := fun vs H Q => ∃ (a : Addr) (ws : List V) (ts : List Tr), vs = [V.ref a] ∧ SqL K H a ws ∧ TsAt H ts ws ∧ (∀ t ∈ ts, Wf t ∧ t.dep ≤ 40) ∧ ∀ ys p, ys.Perm ws → H p = none → Q (.ref p) (L2.upd H p (.lst ys))
theorem cr_sortedF (hu : X.A.units + 65 < cLine) : CallR X (.builtin "sorted") (rSortedF X.K) := by
  intro pins s σ H vs us Q I r h
  obtain ⟨a, xs, ts, rfl, hs, hts, wf, q⟩ := h
  obtain ⟨its, rv, hl, hz⟩ := I.list hs
  obtain ⟨u, rfl, ru⟩ := vals1 r
  obtain rfl : u = Value.ref a := ru
  obtain ⟨e1, e2⟩ := refs_back rv fun x m => by
    obtain ⟨t, _, it⟩ := hts.mem m
    obtain ⟨p, e⟩ := it.ref
    exact ⟨p, e⟩
  refine Srt.sorted_any hl.isList (by rw [← rv.length]; exact hz) (fun h2 h₁ a' ha' k => ?_) fun out ho => ?_
  · intro h' keep
    have I' : Inv X pins σ H { s with heap := h' } := I.kept (t' := s.toks) fun b o e => keep b o (k b o e).1 (k b o e).2
    obtain ⟨fs, f1, f2, f3⟩ := form_firsts I' hts rv
    refine ⟨tuples' true, fun Q E hq => ?_, fun p q hp hq => ?_⟩
    · refine PySem.W.kat_kind (T := .type "str") f1 (by omega) (fun f hm => ?_) (by rfl) ?_
      · obtain ⟨x, t, rfl⟩ := f3 f hm
        exact PySem.W.Looks.now
      · have e : (Value.type "str" != Value.type "tuple") = true := by first | decide +kernel | rfl | decide
        rw [e]
        exact hq
    · have at_ : ∀ z ∈ its, ∃ t v, IsT H t v ∧ Wf t ∧ t.dep ≤ 40 ∧ RelV v z := fun z hz => by
        obtain ⟨y, rfl⟩ := e2 z hz
        have hm : V.ref y ∈ xs := by rw [e1]; exact List.mem_map.mpr ⟨_, hz, rfl⟩
        obtain ⟨t, ht, it⟩ := hts.mem hm
        exact ⟨t, _, it, (wf t ht).1, (wf t ht).2, rfl⟩
      obtain ⟨t1, v1, i1, w1, d1, r1⟩ := at_ _ hp
      obtain ⟨t2, v2, i2, w2, d2, r2⟩ := at_ _ hq
      have hA : X.A.in1.in1.units = X.A.units + 2 := rfl
      exact form_tot I' i1 i2 w1 w2 (by omega) r1 r2
  · have h3 : ∀ u ∈ out, ∃ a, u = Value.ref a := fun u hu => e2 u (ho.mem_iff.mp hu)
    obtain ⟨n, hn⟩ := PyProof.Rows.sortedAll_at s.heap its out.toArray
    refine ⟨.ref (s.heap.objs.size + 1), L2.upd H (s.heap.objs.size + 1) (.lst (out.map backV)), I.laid (t' := s.toks) (fun b o e => PyProof.Rows.sortedAll_old e) (Nat.le_succ _) ⟨?_, out, n, vals_back h3, hn⟩, rfl, q _ _ ?_ (I.hok.fresh (Nat.le_succ _))⟩
    · rw [List.length_map, ho.length_eq, ← rv.length]; exact hz
    · rw [e1]; exact ho.map backV
end
end Rd
namespace Rd
open PySem L2
/-- [g(x) for x in a list of forms if p(x)], the test may lay new things -/
theorem lcft {K : PySem.W.Frag} {a D : Addr} {xs : List V} {ts : List Tr} {tt : TT} {te : TE} {i0 : Nat} {σ : St} {H1 : Hp} {Qd : Hp → Prop} (p : Tr → Bool) (g : Tr → Tr) (hS : SqL K H1 a xs) (hts : TsAt H1 ts xs) (hl : xs.length ≤ 100000) (hD : H1 D = none)
    (htt : ∀ (i : Nat) (x : V) (t : Tr) (H : Hp) (Q : Bool → Hp → Prop), xs[i]? = some x → ts[i]? = some t → Same H1 H → (∀ H', Same H H' → Q (p t) H') → tt ((wipe σ [i0]).set i0 (some x)) H Q)
    (hte : ∀ (i : Nat) (x : V) (t : Tr) (H : Hp) (Q : VK), xs[i]? = some x → ts[i]? = some t → p t = true → Same H1 H → (∀ v H', Same H H' → IsT H' (g t) v → Q v H') → te ((wipe σ [i0]).set i0 (some x)) H Q)
    (hq : ∀ vs H', Same H1 H' → H' D = some (.lst vs) → TsAt H' ((ts.filter p).map g) vs → Qd H') :
    ∃ W : Nat → Nat → Hp → Prop, (∃ m, W 0 m (L2.upd H1 D (.lst []))) ∧ ∀ i m H, W i m H →
      ((Itl K a).stop i H ∧ Qd H) ∨ ((Itl K a).go i H ∧ ∃ Nx : Hp → Prop, (∀ H', Nx H' → ∃ m', m' < m ∧ W (i + 1) m' H') ∧ ∀ x H', (Itl K a).yld i H x H' → gName i0 x (wipe σ [i0]) H' fun σ2 H2 => wipe σ2 [i0] = wipe σ [i0] ∧ tt σ2 H2 fun b H3 =>
        if b = true then te σ2 H3 fun y H4 => ∃ acc, H4 D = some (.lst acc) ∧ acc.length < sizeLine ∧ Nx (L2.upd H4 D (.lst (acc ++ [y]))) else Nx H3) := by
  have he := hts.len
  refine lc_list (K := K) (a := a) (xs := xs) (fun i H => ∃ vs, Same H1 H ∧ H D = some (.lst vs) ∧ TsAt H (((ts.take i).filter p).map g) vs) ⟨[], Rd.Same.upd hD, upd_same, ⟨rfl, fun i t v h => by simp at h⟩⟩ (fun i H _ ⟨_, s, _⟩ => SqL.kept hS s) ?_ ?_
  · rintro i x H hx ⟨vs, sm, hd, hv⟩
    have hlt := (List.getElem?_eq_some_iff.mp hx).1
    have ht : ts[i]? = some ts[i] := List.getElem?_eq_getElem (by omega)
    have etk : ts.take (i + 1) = ts.take i ++ [ts[i]] := by rw [List.take_succ, ht]; rfl
    refine gName_k ⟨by simp [wipe], ?_⟩
    refine htt i x _ H _ hx ht sm fun H2 s2 => ?_
    cases hp : p ts[i] with
    | false =>
      refine iteF ⟨vs, sm.trans s2, s2 _ _ hd, ?_⟩
      rw [etk, List.filter_append, show [ts[i]].filter p = [] by simp [hp], List.append_nil]
      exact hv.same s2
    | true =>
      refine iteT (hte i x _ H2 _ hx ht hp (sm.trans s2) fun v H3 s3 iv => ?_)
      have hD3 := s3 _ _ (s2 _ _ hd)
      have kp := Kp.upd_lst (C := 0) (ys := vs ++ [v]) hD3
      have h2 := hv.len
      have h3 := List.length_filter_le p (ts.take i)
      rw [List.length_map] at h2
      rw [List.length_take] at h3
      have : 100000 < sizeLine := by decide
      refine ⟨vs, hD3, by omega, vs ++ [v], fun b o e => ?_, upd_same, ?_⟩
      · rw [upd_ne (ne_of_none e hD)]
        exact s3 _ _ (s2 _ _ (sm _ _ e))
      · rw [etk, List.filter_append, show [ts[i]].filter p = [ts[i]] by simp [hp], List.map_append]
        exact (((hv.same s2).same s3).mono kp).app (TsAt.one (iv.mono kp))
  · rintro H ⟨vs, sm, hd, hv⟩
    rw [he, List.take_length] at hv
    exact hq vs H sm hd hv
theorem TsAt.cons_inv {H : Hp} {ts : List Tr} {v : V} {vs : List V} (h : TsAt H ts (v :: vs)) : ∃ t ts', ts = t :: ts' ∧ IsT H t v ∧ TsAt H ts' vs := by
  cases ts with
  | nil => exact absurd h.len (by simp)
  | cons t ts' => exact ⟨t, ts', rfl, h.get 0 t v rfl rfl, ⟨by simpa using h.len, fun i t v a b => h.get (i + 1) t v a b⟩⟩
theorem TsAt.cons {H : Hp} {ts : List Tr} {t : Tr} {v : V} {vs : List V} (h : IsT H t v) (g : TsAt H ts vs) : TsAt H (t :: ts) (v :: vs) := TsAt.app (ts := [t]) (vs := [v]) (TsAt.one h) g
theorem TsAt.perm {H : Hp} {ws ys : List V} (hp : ys.Perm ws) : ∀ {ts : List Tr}, TsAt H ts ws → ∃ ts', ts'.Perm ts ∧ TsAt H ts' ys := by
  induction hp with
  | nil => intro ts h; exact ⟨ts, .refl _, h⟩
  | cons x _ ih =>
    intro ts h
    obtain ⟨t, ts1, rfl, i, h1⟩ := h.cons_inv
    obtain ⟨ts2, p2, h2⟩ := ih h1
    exact ⟨t :: ts2, p2.cons t, TsAt.cons i h2⟩
  | swap x y l =>
    intro ts h
    obtain ⟨t, ts1, rfl, i, h1⟩ := h.cons_inv
    obtain ⟨u, ts2, rfl, j, h2⟩ := h1.cons_inv
    exact ⟨u :: t :: ts2, .swap t u ts2, TsAt.cons j (TsAt.cons i h2)⟩
  | trans _ _ ih1 ih2 =>
    intro ts h
    obtain ⟨ts1, p1, h1⟩ := ih2 h
    obtain ⟨ts2, p2, h2⟩ := ih1 h1
    exact ⟨ts2, p2.trans p1, h2⟩
def opn (O : List Tr) (t : Tr) : Bool := match ukey t with
  | some key => mka O key
  | none => false
def cnt1 : Tr → Tr
  | .bi _ c _ => c
  | t => t
def inn (O : List Tr) : List Tr := (O.filter (opn O)).map cnt1
structure OI (ts o : List Tr) : Prop where
  nd : o.Nodup
  base : ∀ t ∈ ts, t ∈ o
  pcl : PCl o
  least : ∀ O' : List Tr, (∀ t ∈ ts, t ∈ O') → PCl O' → SCl O' O' → ∀ t ∈ o, t ∈ O'
theorem OI.inAll {ts os : List Tr} (h : OI ts os) : ∀ t ∈ os, t ∈ allOf ts := h.least _ (allOf_base ts) (allOf_pcl ts) (allOf_scl ts)
theorem OI.len {ts os : List Tr} (h : OI ts os) : os.length ≤ (allOf ts).length := nodup_sub h.nd h.inAll
theorem OI.first {ts o : List Tr} (h : Halves ts o) : OI ts o := ⟨h.nd, h.base, h.pcl, fun O' a b _ => h.least O' a b⟩
theorem inn_sub {O O' : List Tr} (h : ∀ t ∈ O, t ∈ O') (sc : SCl O' O') : ∀ t ∈ inn O, t ∈ O' := fun t ht => by
  obtain ⟨r, hr, rfl⟩ := List.mem_map.mp ht
  obtain ⟨hr1, hr2⟩ := List.mem_filter.mp hr
  unfold opn at hr2
  cases e : ukey r with
  | none => rw [e] at hr2; cases hr2
  | some key =>
    rw [e] at hr2
    cases r with
    | am k x => cases e
    | un s a => cases e
    | bi s c k => exact sc s c k key (h _ hr1) e (mka_mono h hr2)
theorem OI.next {ts o o' : List Tr} (h : OI ts o) (g : Halves (o ++ inn o) o') : OI ts o' ∧ ∀ t ∈ o, t ∈ o' :=
  ⟨⟨g.nd, fun t ht => g.base t (List.mem_append_left _ (h.base t ht)), g.pcl, fun O' a b c => g.least O' (fun t ht => by
    rcases List.mem_append.mp ht with q | q
    · exact h.least O' a b c t q
    · exact inn_sub (h.least O' a b c) c t q) b⟩, fun t ht => g.base t (List.mem_append_left _ ht)⟩
theorem nodup_full {α : Type} [DecidableEq α] : ∀ {l m : List α}, l.Nodup → (∀ x ∈ l, x ∈ m) → m.length ≤ l.length → ∀ x ∈ m, x ∈ l
  | [], m, _, _, h3, x, hx => by
    rw [List.length_eq_zero_iff.mp (Nat.le_zero.mp h3)] at hx
    exact hx
  | a :: l, m, h1, h2, h3, x, hx => by
    obtain ⟨n1, n2⟩ := List.nodup_cons.mp h1
    obtain ⟨p, q, rfl⟩ := List.append_of_mem (h2 a List.mem_cons_self)
    by_cases e : x = a
    · rw [e]; exact List.mem_cons_self
    · refine List.mem_cons_of_mem _ (nodup_full (l := l) (m := p ++ q) n2 (fun y hy => ?_) ?_ x ?_)
      · rcases List.mem_append.mp (h2 y (List.mem_cons_of_mem _ hy)) with z | z
        · exact List.mem_append_left _ z
        · rcases List.mem_cons.mp z with rfl | z
          · exact absurd hy n1
          · exact List.mem_append_right _ z
      · rw [List.length_append, List.length_cons] at h3
        rw [List.length_append]
        simp only [List.length_cons] at h3
        omega
      · rcases List.mem_append.mp hx with z | z
        · exact List.mem_append_left _ z
        · rcases List.mem_cons.mp z with rfl | z
          · exact absurd rfl e
          · exact List.mem_append_right _ z
theorem OI.done {ts o o' : List Tr} (h : OI ts o) (g : Halves (o ++ inn o) o') (e : o'.length ≤ o.length) : IsOpen ts o' := by
  obtain ⟨h1, h2⟩ := h.next g
  have h3 := nodup_full h.nd h2 e
  refine ⟨h1.base, h1.pcl, fun s c k key a b c' => ?_, h1.least⟩
  have a' := h3 _ a
  have m' : mka o key = true := by rw [mka_congr (fun t => ⟨h2 t, h3 t⟩)]; exact c'
  refine g.base _ (List.mem_append_right _ (List.mem_map.mpr ⟨_, List.mem_filter.mpr ⟨a', ?_⟩, rfl⟩))
  unfold opn
  rw [b]
  exact m'
theorem szs_le {S : Nat} : ∀ {l : List Tr}, (∀ t ∈ l, t.all.length ≤ S) → szs l ≤ l.length * S
  | [], _ => Nat.zero_le _
  | t :: l, h => by
    have h1 := szs_le (l := l) fun t ht => h t (List.mem_cons_of_mem _ ht)
    have h2 := h t List.mem_cons_self
    show szs ([t] ++ l) ≤ (l.length + 1) * S
    rw [szs_app, szs_one, Nat.add_mul, Nat.one_mul]
    omega
theorem all_le : ∀ {t u : Tr}, u ∈ t.all → u.all.length ≤ t.all.length := by
  intro t
  induction t with
  | am k x =>
    intro u hu
    rw [show (Tr.am k x).all = [.am k x] from rfl, List.mem_singleton] at hu
    rw [hu]
    exact Nat.le_refl _
  | un s a ih =>
    intro u hu
    have e : (Tr.un s a).all = .un s a :: a.all := rfl
    rw [e] at hu
    rcases List.mem_cons.mp hu with rfl | hu
    · exact Nat.le_refl _
    · have := ih hu
      rw [e, List.length_cons]
      omega
  | bi s a b iha ihb =>
    intro u hu
    have e : (Tr.bi s a b).all = .bi s a b :: (a.all ++ b.all) := rfl
    rw [e] at hu
    rcases List.mem_cons.mp hu with rfl | hu
    · exact Nat.le_refl _
    · rw [e, List.length_cons, List.length_append]
      rcases List.mem_append.mp hu with z | z
      · have := iha z; omega
      · have := ihb z; omega
theorem inAll_ok {ts : List Tr} {d S : Nat} (h : ∀ t ∈ ts, Wf t ∧ t.dep ≤ d ∧ t.all.length ≤ S) {u : Tr} (hu : u ∈ allOf ts) : Wf u ∧ u.dep ≤ d ∧ u.all.length ≤ S := by
  obtain ⟨t, ht, h1⟩ := List.mem_flatMap.mp hu
  obtain ⟨a, b, c⟩ := h t ht
  obtain ⟨a1, a2⟩ := all_wf a u h1
  exact ⟨a1, by omega, Nat.le_trans (all_le h1) c⟩
theorem shut_iff {t : Tr} (wf : Wf t) : decide (t.head ∈ (["seal", "lock"] : List Str)) = (ukey t).isSome := by
  rcases wf.shp with ⟨k, x, rfl, ko⟩ | ⟨s, a, rfl, hs, _⟩ | ⟨s, a, b, rfl, hs, _⟩
  · rcases ko with ⟨rfl, _⟩ | ⟨rfl, _⟩ | ⟨rfl, _⟩
    · show decide (("word" : Str) ∈ (["seal", "lock"] : List Str)) = false
      decide +kernel
    · show decide (("name" : Str) ∈ (["seal", "lock"] : List Str)) = false
      decide +kernel
    · show decide (("unknown" : Str) ∈ (["seal", "lock"] : List Str)) = false
      decide +kernel
  · have : ∀ z ∈ (["mark", "open", "own"] : List Str), decide (z ∈ (["seal", "lock"] : List Str)) = false := by decide +kernel
    exact this s hs
  · cases wf with
    | bi hs' _ _ =>
      have : ∀ z ∈ (["pair", "seal"] : List Str), decide (z ∈ (["seal", "lock"] : List Str)) = decide (z = "seal") ∧ z ≠ "lock" := by decide +kernel
      obtain ⟨h1, h2⟩ := this s hs'
      show decide (s ∈ (["seal", "lock"] : List Str)) = _
      rw [h1]
      show _ = (if s = "seal" then some b else if s = "lock" then lkey b else none).isSome
      by_cases e : s = "seal"
      · rw [if_pos e, decide_eq_true e]; rfl
      · rw [if_neg e, if_neg h2, decide_eq_false e]; rfl
    | lk hs' _ _ =>
      show decide (("lock" : Str) ∈ (["seal", "lock"] : List Str)) = true
      decide +kernel
theorem ukey_wf {t key : Tr} (wf : Wf t) (h : ukey t = some key) : Wf key ∧ key.dep ≤ t.dep := by
  rcases ukey_inv wf h with ⟨c, rfl⟩ | ⟨c, s, k, rfl, hs, rfl⟩
  · rcases wf.shp with ⟨_, _, e, _⟩ | ⟨_, _, e, _⟩ | ⟨_, _, _, e, _, _, w⟩
    · cases e
    · cases e
    · cases e
      exact ⟨w, by show key.dep ≤ max c.dep key.dep + 1; omega⟩
  · have hp : prt s ∈ (["open", "own"] : List Str) := by
      have : ∀ z ∈ (["open", "own"] : List Str), prt z ∈ (["open", "own"] : List Str) := by decide +kernel
      exact this s hs
    cases wf with
    | bi hs' _ _ => exact absurd hs' (by decide +kernel)
    | lk hs' _ w => exact ⟨.un (mem_to (by decide +kernel) hp) w, by show k.dep + 1 ≤ max c.dep (k.dep + 1) + 1; omega⟩
def sp_opened (d : Nat) : Sp := fun vs H Q _ => ∃ (a : Addr) (ws : List V) (ts : List Tr) (S : Nat), vs = [.ref a] ∧ H a = some (.lst ws) ∧ TsAt H ts ws ∧ (∀ t ∈ ts, Wf t ∧ t.dep ≤ d ∧ t.all.length ≤ S) ∧ d ≤ 12 ∧ 2 * ((allOf ts).length * S) ≤ 100000 ∧ (allOf ts).length ≤ 50000 ∧
  ∀ q us os H', Same H H' → H q = none → H' q = some (.lst us) → TsAt H' os us → IsOpen ts os → os.Nodup → Q (.ref q) H'
section
variable {P : Program} {w : World} {K : PySem.W.Frag} {mg : Str → Option Value} {base : Heap}
abbrev s_opened_parts : Stmt := top 35
theorem sc_opened_parts : FnScope ["trees", "opened", "many", "inner", "tree"] ["trees"] (defScope s_opened_parts) := ⟨rfl, rfl, rfl, by decide +kernel, rfl, by decide +kernel, by decide +kernel⟩
theorem ok_opened_parts (T : Tx w K mg) (d : Nat) : Fk P w K mg base CX0 (d + 5) "opened_parts" ["trees"] (sp_opened d) := by
  refine T.F_opened_parts.ok0 sc_opened_parts (fun _ _ _ _ _ _ us hl => match us, hl with | [_], _ => rfl)
    (fun vs H Q E h => ?_) (fun cdv A outer s H vs Q E hr h => ?_)
  · obtain ⟨a, ws, ts, S, rfl, _⟩ := h
    rfl
  · obtain ⟨a, ws, ts, S, rfl, ha, hts, wf, d12, hbig, hM, k⟩ := h
    refine ⟨_, (pss_cons (ps_set (i := 1) sc_opened_parts.nd rfl (Or.inr rfl) (pe_fk (ok_halves_of T d) (hr.mono (by omega)) rfl pass0 (pa_cons (pv 0) pa_nil)))
  (pss_cons (ps_set (i := 2) sc_opened_parts.nd rfl (Or.inl rfl) (pe_un un_neg pe_int))
  (pss_cons (ps_while PassesOwn.never (pt_cmpR op_ne (pv 2) (pe_callB call_len_seq (by rfl) T.z_len (by decide +kernel) (pa_cons (pv 1) pa_nil)) (nomark _))
  (pss_cons (ps_set (i := 2) sc_opened_parts.nd rfl (Or.inl rfl) (pe_callB call_len_seq (by rfl) T.z_len (by decide +kernel) (pa_cons (pv 1) pa_nil)))
  (pss_cons (ps_setLc (i := 3) (own := [("tree", 4)]) (g := gName 4)  (by rfl) sc_opened_parts.nd rfl rfl (sw_true rfl rfl rfl (by decide +kernel)) (pi_list (pv 1)) (blkOk_by (own := [("tree", 4)]) (N := ["trees", "opened", "many", "inner", "tree"]) (sc := defScope s_opened_parts) (by decide +kernel)) (fun _ _ _ _ _ => (pg_name (i := 4) sc_opened_parts.nd rfl (Or.inl rfl))) (fun _ _ _ _ _ => (pts_one (PW.pt (pw_and (pt_cmpR (kOp (r := rInT) (K := K) rfl op_inT) (pe_ix (kIx (r := rIxT) (K := K) rfl ix_tup) (pv 4) pe_int (fun _ _ => rfl)) (pe_ktk (K := K) rfl T.U_SHUT) (by rfl)) (pw_and1 (pt_val (pe_fk (ok_is_made T d) (hr.mono (by omega)) rfl pass0 (pa_cons (pe_fk (ok_undoing_key T) (hr.mono (by omega)) rfl pass0 (pa_cons (pv 4) pa_nil)) (pa_cons (pv 1) pa_nil))))))))) (fun _ _ _ _ _ => (pe_ix (kIx (r := rIxT) (K := K) rfl ix_tup) (pv 4) pe_int (fun _ _ => rfl))))
  (pss_one (ps_set (i := 1) sc_opened_parts.nd rfl (Or.inr rfl) (pe_fk (ok_halves_of T d) (hr.mono (by omega)) rfl pass0 (pa_cons (pe_op op_cat (pv 1) (pv 3)) pa_nil)))))))
  (pss_one (ps_ret (pe_callB (cr_sortedF hr.units65) (by rfl) T.z_sorted (by decide +kernel) (pa_cons (pv 1) pa_nil))))))), ?_⟩
    have big : 16777216 ≤ sizeLine := by decide
    refine seqAsg ⟨_, rfl, a, ws, ts, rfl, ha, hts, (fun t ht => ⟨(wf t ht).1, (wf t ht).2.1⟩), d12, (by omega), fun q1 us1 o1 H1 s1 nq1 hq1 ht1 hv1 => ?_⟩
    refine gName_k ?_
    try dsimp only
    refine seqAsg ⟨_, rfl, ?_⟩
    refine gName_k ?_
    try dsimp only
    refine ⟨fun m σ Hc => ∃ (n : Nat) (qo : Addr) (us : List V) (o : List Tr) (t3 t4 : Option V), σ = [some (.ref a), some (.ref qo), some (.int ((n : Int) - 1)), t3, t4] ∧ Same H Hc ∧ Hc qo = some (.lst us) ∧ TsAt Hc o us ∧ OI ts o ∧ (n ≤ o.length ∨ (n = o.length + 1 ∧ IsOpen ts o)) ∧ m = (allOf ts).length + 1 - n, ⟨_, 0, q1, us1, o1, _, _, rfl, s1, hq1, ht1, OI.first hv1, .inl (Nat.zero_le _), rfl⟩, ?_⟩
    rintro m σ Hc ⟨n, qo, us, o, t3, t4, rfl, sc, hqo, hto, oi, hn, rfl⟩
    have hol := oi.len
    have hul := hto.len
    have wfo : ∀ t ∈ o, Wf t ∧ t.dep ≤ d ∧ t.all.length ≤ S := fun t ht => inAll_ok wf (oi.inAll t ht)
    refine ⟨_, rfl, _, rfl, qo, us, rfl, .inl (SqL.of hqo), rfl, _, rfl, ?_⟩
    refine ite2 (fun hne => ?_) (fun hne => ?_)
    · have hne : ¬ (V.int ((n : Int) - 1) = V.int us.length) := by
        intro e
        rw [decide_eq_true e] at hne
        cases hne
      have hn1 : n ≤ o.length := by
        rcases hn with h | ⟨h, _⟩
        · exact h
        · exact absurd (by rw [h, hul]; congr 1; omega) hne
      refine ⟨fun σ' H' => ∃ (qo' : Addr) (us' : List V) (o' : List Tr) (t3 t4 : Option V), σ' = [some (.ref a), some (.ref qo'), some (.int (((o.length + 1 : Nat) : Int) - 1)), t3, t4] ∧ Same H H' ∧ H' qo' = some (.lst us') ∧ TsAt H' o' us' ∧ OI ts o' ∧ (o.length + 1 ≤ o'.length ∨ (o.length + 1 = o'.length + 1 ∧ IsOpen ts o')), fun σ' H' ⟨qo', us', o', t3, t4, e1, e2, e3, e4, e5, e6⟩ => ⟨(allOf ts).length + 1 - (o.length + 1), by omega, o.length + 1, qo', us', o', t3, t4, e1, e2, e3, e4, e5, e6, rfl⟩, ?_⟩
      refine seqAsg ⟨_, rfl, qo, us, rfl, .inl (SqL.of hqo), ?_⟩
      refine gName_k ?_
      try dsimp only
      refine ⟨_, rfl, qo, rfl, ⟨_, SqL.of hqo⟩, fun D hD => ?_⟩
      refine lcft (opn o) cnt1 (SqL.of hqo) hto (by omega) hD (fun i x t H2 Q2 hx ht s2 kq => ?_) (fun i x t H2 Q2 hx ht hp s2 kq => ?_) fun vs H2 s2 hD2 hv2 => ?_
      · obtain ⟨w1, w2, _⟩ := wfo t (List.mem_of_getElem? ht)
        have it := (hto.get i t x ht hx).same s2
        obtain ⟨pf, zs, rfl, hpf⟩ := it.hd
        refine ⟨_, rfl, pf, _, _, _, rfl, rfl, SqT.of hpf, at_of (j := 0) rfl rfl, _, He.ga K "SHUT", ["seal", "lock"], rfl, rfl, T.U_SHUT.tp _, _, rfl, ?_⟩
        rw [shut_iff w1]
        unfold opn at kq
        cases e : ukey t with
        | none =>
          rw [e] at kq
          exact iteN (by simp) (kq _ (Same.refl _))
        | some key =>
          rw [e] at kq
          obtain ⟨w3, w4⟩ := ukey_wf w1 e
          refine iteP rfl ⟨_, rfl, _, t, key, rfl, it, w1, e, fun u H3 s3 ik => ⟨_, rfl, u, key, qo, us, o, rfl, ik, w3, (by omega), (by omega), s3 _ _ (s2 _ _ hqo), (hto.same s2).same s3, (fun t ht => ⟨(wfo t ht).1.fine, by have := (wfo t ht).2.1; omega⟩), fun H4 s4 => ⟨_, rfl, kq _ (s3.trans s4)⟩⟩⟩
      · obtain ⟨w1, w2, _⟩ := wfo t (List.mem_of_getElem? ht)
        have it := (hto.get i t x ht hx).same s2
        unfold opn at hp
        cases e : ukey t with
        | none => rw [e] at hp; cases hp
        | some key =>
          rcases ukey_inv w1 e with ⟨c, rfl⟩ | ⟨c, s0, k0, rfl, _, rfl⟩
          · obtain ⟨pf, u1, u2, rfl, hpf, i1, i2⟩ := it
            exact ⟨_, rfl, pf, _, _, _, rfl, rfl, SqT.of hpf, at_of (j := 1) rfl rfl, kq _ _ (Same.refl _) i1⟩
          · obtain ⟨pf, u1, u2, rfl, hpf, i1, i2⟩ := it
            exact ⟨_, rfl, pf, _, _, _, rfl, rfl, SqT.of hpf, at_of (j := 1) rfl rfl, kq _ _ (Same.refl _) i1⟩
      refine gName_k ?_
      try dsimp only
      have hv2l := hv2.len
      have hil : (inn o).length ≤ o.length := by
        rw [inn, List.length_map]
        exact List.length_filter_le _ _
      have hv2l : vs.length = (inn o).length := hv2l
      refine ⟨_, rfl, _, rfl, qo, D, us, vs, rfl, rfl, s2 _ _ hqo, hD2, (by omega), fun q3 hq3 => ?_⟩
      have s3 := Rd.Same.upd (o := .lst (us ++ vs)) hq3
      have h33 : upd H2 q3 (.lst (us ++ vs)) q3 = some (.lst (us ++ vs)) := upd_same
      generalize upd H2 q3 (.lst (us ++ vs)) = H3 at s3 h33 ⊢
      have wfi : ∀ t ∈ o ++ inn o, Wf t ∧ t.dep ≤ d ∧ t.all.length ≤ S := fun t ht => by
        rcases List.mem_append.mp ht with q | q
        · exact wfo t q
        · exact inAll_ok wf (inn_sub oi.inAll (allOf_scl ts) t q)
      have hsz : (allOf (o ++ inn o)).length ≤ 100000 := by
        rw [allOf_len]
        have h1 := szs_le fun t ht => (wfi t ht).2.2
        rw [List.length_append] at h1
        have h2 : (o.length + (inn o).length) * S ≤ (2 * (allOf ts).length) * S := Nat.mul_le_mul_right _ (by omega)
        rw [Nat.mul_assoc] at h2
        omega
      refine ⟨q3, us ++ vs, o ++ inn o, rfl, h33, (((hto.same s2).app hv2).same s3), (fun t ht => ⟨(wfi t ht).1, (wfi t ht).2.1⟩), d12, hsz, fun q4 us4 o4 H4 s4 nq4 hq4 ht4 hv4 => ?_⟩
      refine gName_k ?_
      obtain ⟨oi4, sub4⟩ := oi.next hv4
      have hlen4 := nodup_sub oi.nd sub4
      have e9 : (V.int us.length) = V.int (((o.length + 1 : Nat) : Int) - 1) := by rw [hul]; congr 1; omega
      refine ⟨q4, us4, o4, _, _, by rw [← e9]; rfl, ((sc.trans s2).trans s3).trans s4, hq4, ht4, oi4, ?_⟩
      by_cases hlt : o.length + 1 ≤ o4.length
      · exact .inl hlt
      · have h8 : o4.length = o.length := by omega
        exact .inr ⟨by rw [h8], oi.done hv4 (by omega)⟩
    · have he : V.int ((n : Int) - 1) = V.int us.length := by
        cases hd : decide (V.int ((n : Int) - 1) = V.int us.length) with
        | true => exact of_decide_eq_true hd
        | false => rw [hd] at hne; exact absurd rfl hne
      have he := V.int.inj he
      have hopen : IsOpen ts o := by
        rcases hn with h | ⟨_, h⟩
        · omega
        · exact h
      try dsimp only
      refine ⟨_, rfl, qo, us, o, rfl, SqL.of hqo, hto, (fun t ht => ⟨(wfo t ht).1, by have := (wfo t ht).2.1; omega⟩), fun ys q hpm hq => ?_⟩
      obtain ⟨o', hpo, hto'⟩ := hto.perm hpm
      have sq := Rd.Same.upd (o := .lst ys) hq
      refine k q ys o' _ (sc.trans sq) (sc.free hq) upd_same (hto'.same sq) ?_ (hpo.nodup_iff.mpr oi.nd)
      have hm : ∀ t, t ∈ o' ↔ t ∈ o := fun t => hpo.mem_iff
      exact ⟨fun t ht => (hm t).mpr (hopen.base t ht), fun a b h => ⟨(hm _).mpr (hopen.pcl a b ((hm _).mp h)).1, (hm _).mpr (hopen.pcl a b ((hm _).mp h)).2⟩, fun s c k key h1 h2 h3 => (hm _).mpr (hopen.scl s c k key ((hm _).mp h1) h2 (by rw [← mka_congr hm]; exact h3)), fun O' a b c t ht => hopen.least O' a b c t ((hm t).mp ht)⟩
end
end Rd
namespace Rd
open PySem L2
theorem take_flat1 {τ α : Type} {f : τ → List α} {l : List τ} {i : Nat} {r : τ} (h : l[i]? = some r) : (l.take (i + 1)).flatMap f = (l.take i).flatMap f ++ f r := by
  rw [List.take_add_one, h, List.flatMap_append]
  simp
theorem flat1_le {τ α : Type} {f : τ → List α} (hf : ∀ t, (f t).length ≤ 1) : ∀ l : List τ, (l.flatMap f).length ≤ l.length
  | [] => Nat.le_refl _
  | t :: l => by
    rw [List.flatMap_cons, List.length_append, List.length_cons]
    have := hf t
    have := flat1_le hf l
    omega
/-- {text for x in a list if ..}: f tells of each item no text or one -/
theorem scl {w : World} {K : PySem.W.Frag} {a D : Addr} {xs : List V} {τ : Type} {ts : List τ} {tt : TT} {te : TE} {i0 : Nat} {σ : St} {H1 : Hp} {Qd : Hp → Prop} (f : τ → List Str) (hf : ∀ t, (f t).length ≤ 1) (hS : SqL K H1 a xs) (he : xs.length = ts.length) (hl : xs.length + 1 < scanBound) (hD : H1 D = none)
    (hte : ∀ (i : Nat) (x : V) (t : τ) (H : Hp) (Q : VK), xs[i]? = some x → ts[i]? = some t → Same H1 H → (f t = [] → tt ((wipe σ [i0]).set i0 (some x)) H fun b H' => b = false ∧ H' = H) ∧ ∀ c, f t = [c] → (tt ((wipe σ [i0]).set i0 (some x)) H fun b H' => b = true ∧ H' = H) ∧ (Q (.str c) H → te ((wipe σ [i0]).set i0 (some x)) H Q))
    (tm : ∀ (σ : St) (H : Hp) (P Q : Bool → Hp → Prop), (∀ b H', P b H' → Q b H') → tt σ H P → tt σ H Q)
    (hq : ∀ H', Same H1 H' → H' D = some (SetSO w D (putS [] (ts.flatMap f))) → Qd H') :
    ∃ W : Nat → Nat → Hp → Prop, (∃ m, W 0 m (L2.upd H1 D (SetSO w D []))) ∧ ∀ i m H, W i m H →
      ((Itl K a).stop i H ∧ Qd H) ∨ ((Itl K a).go i H ∧ ∃ Nx : Hp → Prop, (∀ H', Nx H' → ∃ m', m' < m ∧ W (i + 1) m' H') ∧ ∀ x H', (Itl K a).yld i H x H' → gName i0 x (wipe σ [i0]) H' fun σ2 H2 => wipe σ2 [i0] = wipe σ [i0] ∧ tt σ2 H2 fun b H3 =>
        if b = true then te σ2 H3 fun y H4 => ∃ (c : Str) (l : List Str), y = .str c ∧ H4 D = some (SetSO w D l) ∧ l.length + 1 < scanBound ∧ Nx (L2.upd H4 D (SetSO w D (addS l c))) else Nx H3) := by
  refine ⟨fun i m H => m = xs.length - i ∧ i ≤ xs.length ∧ Same H1 H ∧ H D = some (SetSO w D (putS [] ((ts.take i).flatMap f))), ⟨xs.length, by simp, Nat.zero_le _, Rd.Same.upd hD, upd_same⟩, ?_⟩
  rintro i m H ⟨rfl, hi, sm, hd⟩
  have q := SqL.kept hS sm
  by_cases hlt : i < xs.length
  · refine .inr ⟨⟨xs, xs[i], q, by simp [hlt]⟩, fun H' => Same H1 H' ∧ H' D = some (SetSO w D (putS [] ((ts.take (i + 1)).flatMap f))), fun H' p' => ⟨xs.length - (i + 1), by omega, rfl, hlt, p'⟩, fun x H' y => ?_⟩
    obtain ⟨e, y⟩ := y
    subst e
    have hx := y xs q
    have ht : ts[i]? = some ts[i] := List.getElem?_eq_getElem (by omega)
    refine gName_k ⟨by simp [wipe], ?_⟩
    cases hft : f ts[i] with
    | nil =>
      refine tm _ _ _ _ (fun b H2 z => ?_) ((hte i x ts[i] H' (fun _ _ => True) hx ht sm).1 hft)
      obtain ⟨rfl, rfl⟩ := z
      refine iteF ⟨sm, ?_⟩
      rw [take_flat1 ht, hft, List.append_nil]
      exact hd
    | cons c r =>
      have hr : r = [] := by
        have := hf ts[i]
        rw [hft, List.length_cons] at this
        exact List.eq_nil_of_length_eq_zero (by omega)
      subst hr
      refine tm _ _ _ _ (fun b H2 z => ?_) ((hte i x ts[i] H' (fun _ _ => True) hx ht sm).2 c hft).1
      obtain ⟨rfl, rfl⟩ := z
      refine iteT (((hte i x ts[i] _ _ hx ht sm).2 c hft).2 ⟨c, _, rfl, hd, ?_, fun b o e => ?_, ?_⟩)
      · have h1 := putS_len (l := []) (r := (ts.take i).flatMap f)
        have h2 := flat1_le hf (ts.take i)
        rw [List.length_take] at h2
        rw [List.length_nil] at h1
        omega
      · rw [upd_ne (ne_of_none e hD)]
        exact sm _ _ e
      · rw [upd_same, take_flat1 ht, hft, putS_app]
        rfl
  · have e : i = xs.length := by omega
    subst e
    refine .inl ⟨⟨xs, q, Nat.le_refl _⟩, hq H sm ?_⟩
    rw [he, List.take_length] at hd
    exact hd
/-- [text for x in a list if ..] -/
theorem lclF {K : PySem.W.Frag} {a D : Addr} {xs : List V} {τ : Type} {ts : List τ} {tt : TT} {te : TE} {i0 : Nat} {σ : St} {H1 : Hp} {Qd : Hp → Prop} (f : τ → List V) (hf : ∀ t, (f t).length ≤ 1) (hS : SqL K H1 a xs) (he : xs.length = ts.length) (hl : xs.length ≤ 100000) (hD : H1 D = none)
    (hte : ∀ (i : Nat) (x : V) (t : τ) (H : Hp) (Q : VK), xs[i]? = some x → ts[i]? = some t → Same H1 H → (f t = [] → tt ((wipe σ [i0]).set i0 (some x)) H fun b H' => b = false ∧ H' = H) ∧ ∀ c, f t = [c] → (tt ((wipe σ [i0]).set i0 (some x)) H fun b H' => b = true ∧ H' = H) ∧ (Q c H → te ((wipe σ [i0]).set i0 (some x)) H Q))
    (tm : ∀ (σ : St) (H : Hp) (P Q : Bool → Hp → Prop), (∀ b H', P b H' → Q b H') → tt σ H P → tt σ H Q)
    (hq : ∀ H', Same H1 H' → H' D = some (.lst (ts.flatMap f)) → Qd H') :
    ∃ W : Nat → Nat → Hp → Prop, (∃ m, W 0 m (L2.upd H1 D (.lst []))) ∧ ∀ i m H, W i m H →
      ((Itl K a).stop i H ∧ Qd H) ∨ ((Itl K a).go i H ∧ ∃ Nx : Hp → Prop, (∀ H', Nx H' → ∃ m', m' < m ∧ W (i + 1) m' H') ∧ ∀ x H', (Itl K a).yld i H x H' → gName i0 x (wipe σ [i0]) H' fun σ2 H2 => wipe σ2 [i0] = wipe σ [i0] ∧ tt σ2 H2 fun b H3 =>
        if b = true then te σ2 H3 fun y H4 => ∃ acc, H4 D = some (.lst acc) ∧ acc.length < sizeLine ∧ Nx (L2.upd H4 D (.lst (acc ++ [y]))) else Nx H3) := by
  refine lc_list (K := K) (a := a) (xs := xs) (fun i H => Same H1 H ∧ H D = some (.lst ((ts.take i).flatMap f))) ⟨Rd.Same.upd hD, upd_same⟩ (fun i H _ p => SqL.kept hS p.1) ?_ ?_
  · rintro i x H hx ⟨sm, hd⟩
    have hlt := (List.getElem?_eq_some_iff.mp hx).1
    have ht : ts[i]? = some ts[i] := List.getElem?_eq_getElem (by omega)
    refine gName_k ⟨by simp [wipe], ?_⟩
    cases hft : f ts[i] with
    | nil =>
      refine tm _ _ _ _ (fun b H2 z => ?_) ((hte i x ts[i] H (fun _ _ => True) hx ht sm).1 hft)
      obtain ⟨rfl, rfl⟩ := z
      refine iteF ⟨sm, ?_⟩
      rw [take_flat1 ht, hft, List.append_nil]
      exact hd
    | cons c r =>
      have hr : r = [] := by
        have := hf ts[i]
        rw [hft, List.length_cons] at this
        exact List.eq_nil_of_length_eq_zero (by omega)
      subst hr
      refine tm _ _ _ _ (fun b H2 z => ?_) ((hte i x ts[i] H (fun _ _ => True) hx ht sm).2 c hft).1
      obtain ⟨rfl, rfl⟩ := z
      refine iteT (((hte i x ts[i] _ _ hx ht sm).2 c hft).2 ⟨_, hd, ?_, fun b o e => ?_, ?_⟩)
      · have h2 := flat1_le hf (ts.take i)
        rw [List.length_take] at h2
        have : 100000 < sizeLine := by decide
        omega
      · rw [upd_ne (ne_of_none e hD)]
        exact sm _ _ e
      · rw [upd_same, take_flat1 ht, hft]
  · rintro H ⟨sm, hd⟩
    rw [he, List.take_length] at hd
    exact hq H sm hd
theorem txt1_le (k : Str) : ∀ t : Tr, (txt1 k t).length ≤ 1
  | .am k' x => by
    show (if k' = k then [x] else []).length ≤ 1
    split
    · exact Nat.le_refl _
    · exact Nat.zero_le _
  | .un _ _ => Nat.zero_le _
  | .bi _ _ _ => Nat.zero_le _
end Rd
namespace Rd
open PySem L2
def sgns : List Str := ([("pair", 2), ("seal", 2), ("lock", 2), ("mark", 1), ("open", 1), ("own", 1)] : List (Str × Int)).map (·.1)
theorem sgn_yes {t : Tr} (wf : Wf t) (h : t.parts ≠ []) : decide (t.head ∈ sgns) = true := by
  have : ∀ z ∈ (["mark", "open", "own", "pair", "seal", "lock"] : List Str), decide (z ∈ sgns) = true := by decide +kernel
  exact this _ (wf.sign h).1
theorem sgn_no {k x : Str} (ko : kindOk k x) : decide ((Tr.am k x).head ∈ sgns) = false := by
  rcases ko with ⟨rfl, _⟩ | ⟨rfl, _⟩ | ⟨rfl, _⟩
  · show decide (("word" : Str) ∈ sgns) = false; decide +kernel
  · show decide (("name" : Str) ∈ sgns) = false; decide +kernel
  · show decide (("unknown" : Str) ∈ sgns) = false; decide +kernel
section
variable {P : Program} {w : World} {K : PySem.W.Frag} {mg : Str → Option Value} {base : Heap}
abbrev s_parts_of : Stmt := top 21
theorem sc_parts_of : FnScope ["tree", "found", "part"] ["tree"] (defScope s_parts_of) := ⟨rfl, rfl, rfl, by decide +kernel, rfl, by decide +kernel, by decide +kernel⟩
theorem partsOf_step (T : Tx w K mg) (d : Nat) (ih : Fk P w K mg base CX0 (d + 1) "parts_of" ["tree"] (spPR d)) : Fk P w K mg base CX0 (d + 2) "parts_of" ["tree"] (sp_parts d) := by
  refine T.F_parts_of.ok0 sc_parts_of (fun _ _ _ _ _ _ us hl => match us, hl with | [_], _ => rfl)
    (fun vs H Q E h => ?_) (fun cdv A outer s H vs Q E hr h => ?_)
  · obtain ⟨v, t, rfl, _⟩ := h
    rfl
  · obtain ⟨v, t, rfl, it, wf, dp, d12, k⟩ := h
    obtain ⟨pf, vs0, rfl, hpv⟩ := it.hd
    refine ⟨_, (pss_cons (ps_set (i := 1) sc_parts_of.nd rfl (Or.inl rfl) (pe_lst (pa_cons (pv 0) pa_nil)))
  (pss_cons (ps_if (pt_cmpR (op_inK T.D_SIGNS) (pe_ix ix_tup (pv 0) pe_int (fun _ _ => rfl)) (pe_kd T.D_SIGNS) (by rfl))
  (pss_one (ps_for PassesOwn.never rfl (pi_tup (pe_slice sl_tup (pv 0) (po_some pe_int) po_none)) (pg_name (i := 2) sc_parts_of.nd rfl (Or.inl rfl))
  (pss_one (ps_expr (pe_bm PySem.F.plainAttrs_list PySem.F.slot_list_extend PySem.F.type_list_extend mt_extend (pv 1) (pa_cons (pe_fk ih (hr.mono (by omega)) rfl pass0 (pa_cons (pv 2) pa_nil)) pa_nil))))))
  pss_nil)
  (pss_one (ps_ret (pv 1))))), ?_⟩
    refine ⟨_, rfl, (by show 1 ≤ sizeLine; decide), fun p np => ?_⟩
    refine gName_k ?_
    try dsimp only
    have s1 := Rd.Same.upd (o := .lst [.ref pf]) np
    refine ⟨_, rfl, pf, _, _, _, rfl, rfl, SqT.of (s1 _ _ hpv), at_of (j := 0) rfl rfl, _, rfl, rfl, _, rfl, ?_⟩
    show if decide (t.head ∈ sgns) = true then _ else _
    by_cases hpt : t.parts ≠ []
    · obtain ⟨hsg, hws⟩ := wf.sign hpt
      obtain ⟨p', us, e, hpu, hlu, hl2, hne, hus⟩ := it.parts hpt
      cases e
      refine iteP (sgn_yes wf hpt) ?_
      refine ⟨_, rfl, _, rfl, pf, _, rfl, SqT.of (s1 _ _ hpu), ?_, fun p2 hp2 => ?_⟩
      · rintro ⟨z, _⟩
        rw [show (1 : Int) = ((1 : Nat) : Int) from rfl, HT.sIx_nat, List.length_cons] at z
        omega
      rw [cut1]
      have s2 := Rd.Same.upd (o := .tup us) hp2
      refine ⟨p2, rfl, ⟨_, SqT.of upd_same⟩, ?_⟩
      refine for_tup (xs := us) (fun i σ H' => PInv H p p2 us t i H' ∧ ∃ t2, σ = [some (.ref pf), some (.ref p), t2]) ⟨⟨s1.trans s2, np, upd_same, [.ref pf], s2 _ _ upd_same, TsAt.one (it.same (s1.trans s2))⟩, _, rfl⟩ ?_ ?_ ?_
      · rintro i σ H' hi ⟨hI, _⟩
        exact SqT.of hI.tup
      · rintro i x σ H1 hx ⟨⟨sm, _, htu, ws, hws1, hts⟩, t2, rfl⟩
        refine gName_k ?_
        try dsimp only
        obtain ⟨r, hr1, hr2⟩ := hus i x hx
        obtain ⟨w1, w2⟩ := hws r (List.mem_of_getElem? hr1)
        cases d with
        | zero => exact absurd dp (by omega)
        | succ d =>
          refine ⟨_, rfl, .inl ⟨rfl, _, SqL.of hws1⟩, _, rfl, x, r, rfl, hr2.same sm, w1, (by omega), (by omega), fun b zs H2 sm2 nb hb htz => ?_⟩
          have hl1 := all_len t
          have hf := flat_le (t := t) (i + 1)
          rw [take_flat hr1, List.length_append] at hf
          have hpw : 2 ^ (t.dep + 1) ≤ 2 ^ 13 := Nat.pow_le_pow_right (by decide) (by omega)
          have h13 : 2 ^ 13 ≤ sizeLine := by decide
          have e1 := hts.len
          have e2 := htz.len
          rw [List.length_cons] at e1
          refine ⟨p, b, ws, zs, rfl, rfl, sm2 _ _ hws1, hb, (by omega), ?_⟩
          have kp := Kp.upd_lst (C := 0) (ys := ws ++ zs) (sm2 _ _ hws1)
          have nbp : b ≠ p := fun z => by rw [z, hws1] at nb; cases nb
          refine ⟨⟨fun c o e => ?_, np, ?_, ws ++ zs, upd_same, ?_⟩, _, rfl⟩
          · rw [upd_ne (ne_of_none e np)]
            exact sm2 _ _ (sm _ _ e)
          · rw [upd_ne (fun z => by rw [z, hws1] at htu; cases htu)]
            exact sm2 _ _ htu
          · rw [take_flat hr1, ← List.cons_append]
            exact ((hts.same sm2).mono kp).app (htz.mono kp)
      · rintro σ H1 ⟨⟨sm, _, htu, ws, hws1, hts⟩, t2, rfl⟩
        refine ⟨_, rfl, k p ws H1 sm np hws1 ?_⟩
        rw [all_parts]
        rw [hlu, List.take_length] at hts
        exact hts
    · cases wf with
      | @am k0 x0 ko =>
        rw [sgn_no ko]
        exact iteF ⟨_, rfl, k p _ _ s1 np upd_same (TsAt.one (it.same s1))⟩
      | _ => exact absurd (fun e => by cases e) hpt
theorem partsOf_none (T : Tx w K mg) : Fk P w K mg base CX0 1 "parts_of" ["tree"] (spPR 0) := by
  refine T.F_parts_of.ok0 sc_parts_of (fun _ _ _ _ _ _ us hl => match us, hl with | [_], _ => rfl) (fun vs H Q E h => h.elim) (fun cdv A outer s H vs Q E hr h => h.elim)
theorem ok_parts_of (T : Tx w K mg) : ∀ d : Nat, Fk P w K mg base CX0 (d + 2) "parts_of" ["tree"] (sp_parts d)
  | 0 => partsOf_step T 0 (partsOf_none T)
  | d + 1 => partsOf_step T (d + 1) (ok_parts_of T d)
/-- the texts of the atoms of one kind, ascending, each once, in a new list -/
def sp_atoms (d : Nat) : Sp := fun vs H Q _ => ∃ (v : V) (t : Tr) (kd : Str), vs = [v, .str kd] ∧ IsT H t v ∧ Wf t ∧ t.dep ≤ d ∧ d ≤ 10 ∧ ∀ p H', Same H H' → H p = none → H' p = some (.lst ((uniS (t.txt kd)).map V.str)) → Q (.ref p) H'
/-- part[0] == kind, part[1] of a form's part -/
theorem txt_at {H : Hp} {t : Tr} {v : V} {kd : Str} (it : IsT H t v) (wf : Wf t) : ∃ p us, v = .ref p ∧ H p = some (.tup (.str t.head :: us)) ∧ (txt1 kd t = [] → t.head ≠ kd ∨ ∃ u, us[0]? = some u ∧ ¬ ∃ z, u = .str z) ∧ ∀ c, txt1 kd t = [c] → t.head = kd ∧ us = [.str c] := by
  cases t with
  | am k x =>
    obtain ⟨p, rfl, h⟩ := it
    refine ⟨p, [.str x], rfl, h, fun e => .inl fun z => ?_, fun c e => ?_⟩
    · have e : (if k = kd then [x] else []) = [] := e
      rw [if_pos (show k = kd from z)] at e
      cases e
    · have e : (if k = kd then [x] else []) = [c] := e
      by_cases z : k = kd
      · rw [if_pos z] at e
        cases e
        exact ⟨z, rfl⟩
      · rw [if_neg z] at e
        cases e
  | un s a =>
    obtain ⟨p, u, rfl, h, i1⟩ := it
    refine ⟨p, [u], rfl, h, fun _ => .inr ⟨u, rfl, fun ⟨z, e⟩ => ?_⟩, fun c e => by cases e⟩
    obtain ⟨q, e'⟩ := i1.ref
    rw [e'] at e
    cases e
  | bi s a b =>
    obtain ⟨p, u, u2, rfl, h, i1, i2⟩ := it
    refine ⟨p, [u, u2], rfl, h, fun _ => .inr ⟨u, rfl, fun ⟨z, e⟩ => ?_⟩, fun c e => by cases e⟩
    obtain ⟨q, e'⟩ := i1.ref
    rw [e'] at e
    cases e
def kinds : List Str := ["word", "name", "unknown"]
theorem head_kd {t : Tr} {kd : Str} (wf : Wf t) (hk : kd ∈ kinds) (h : txt1 kd t = []) : t.head ≠ kd := fun e => by
  by_cases hp : t.parts ≠ []
  · have a := (wf.sign hp).1
    have : ∀ z ∈ (["mark", "open", "own", "pair", "seal", "lock"] : List Str), z ∉ kinds := by decide +kernel
    exact this _ a (by rw [e]; exact hk)
  · cases t with
    | am k x =>
      have h : (if k = kd then [x] else []) = [] := h
      rw [if_pos (show k = kd from e)] at h
      cases h
    | un s a => exact hp (fun e => by cases e)
    | bi s a b => exact hp (fun e => by cases e)
abbrev s_atoms_of : Stmt := top 22
theorem sc_atoms_of : FnScope ["tree", "kind", "part"] ["tree", "kind"] (defScope s_atoms_of) := ⟨rfl, rfl, rfl, by decide +kernel, rfl, by decide +kernel, by decide +kernel⟩
theorem ok_atoms_of (T : Tx w K mg) (d : Nat) : Fk P w K mg base CX0 (d + 3) "atoms_of" ["tree", "kind"] (fun vs H Q E => sp_atoms d vs H Q E ∧ ∃ kd ∈ kinds, vs[1]? = some (.str kd)) := by
  refine T.F_atoms_of.ok0 sc_atoms_of (fun _ _ _ _ _ _ us hl => match us, hl with | [_, _], _ => rfl)
    (fun vs H Q E h => ?_) (fun cdv A outer s H vs Q E hr h => ?_)
  · obtain ⟨⟨v, t, kd, rfl, _⟩, _⟩ := h
    rfl
  · obtain ⟨⟨v, t, kd, rfl, it, wf, dp, d10, k⟩, kd', hk, e⟩ := h
    obtain rfl : kd = kd' := by cases e; rfl
    refine ⟨_, (pss_one (ps_ret (pe_callB (cr_sortedSS rfl) (by rfl) T.z_sorted (by decide +kernel) (pa_cons (pe_scS (own := [("part", 2)]) (g := gName 2)  (by rfl) sc_atoms_of.nd (pi_list (pe_fk (ok_parts_of T d) (hr.mono (by omega)) rfl pass0 (pa_cons (pv 0) pa_nil))) (blkOk_by (own := [("part", 2)]) (N := ["tree", "kind", "part"]) (sc := defScope s_atoms_of) (by decide +kernel)) (fun _ _ _ _ _ => (pg_name (i := 2) sc_atoms_of.nd rfl (Or.inl rfl))) (fun _ _ _ _ _ => (pts_one (pt_cmpR op_eq (pe_ix (kIx (r := rIxT) (K := K) rfl ix_tup) (pv 2) pe_int (fun _ _ => rfl)) (pv 1) (nomark _)))) (fun _ _ _ _ _ => (pe_ix (kIx (r := rIxT) (K := K) rfl ix_tup) (pv 2) pe_int (fun _ _ => rfl)))) pa_nil)))), ?_⟩
    refine ⟨_, rfl, v, t, rfl, it, wf, dp, (by omega), fun p ws H1 s1 np hp htz => ?_⟩
    refine ⟨p, rfl, ⟨_, SqL.of hp⟩, fun D hD => ?_⟩
    have hl1 := all_len t
    have hpw : 2 ^ (t.dep + 1) ≤ 2 ^ 11 := Nat.pow_le_pow_right (by decide) (by omega)
    have h13 : 2 ^ 11 + 1 < scanBound := by decide
    refine scl (txt1 kd) (txt1_le kd) (SqL.of hp) htz.len (by rw [htz.len]; omega) hD (fun i x t1 H2 Q2 hx ht s2 => ?_) (fun σ H P Q h z => ?_) fun H2 s2 hD2 => ?_
    · have i1 := (htz.get i t1 x ht hx).same s2
      have w1 := (all_wf wf t1 (List.mem_of_getElem? ht)).1
      obtain ⟨q, us, rfl, hq, _, h1⟩ := txt_at (kd := kd) i1 w1
      refine ⟨fun e => ?_, fun c e => ⟨?_, fun z => ?_⟩⟩
      · exact ⟨_, rfl, q, _, _, _, rfl, rfl, SqT.of hq, at_of (j := 0) rfl rfl, _, rfl, rfl, _, rfl, decide_eq_false (fun z => head_kd w1 hk e (by cases z; rfl)), rfl⟩
      · exact ⟨_, rfl, q, _, _, _, rfl, rfl, SqT.of hq, at_of (j := 0) rfl rfl, _, rfl, rfl, _, rfl, decide_eq_true (by rw [(h1 c e).1]), rfl⟩
      · rw [(h1 c e).2] at hq
        exact ⟨_, rfl, q, _, _, _, rfl, rfl, SqT.of hq, at_of (j := 1) rfl rfl, z⟩
    · obtain ⟨_, h1, q, a, b, c, h2, h3, h4, h5, d, h6, h7, e, h8, h9⟩ := z
      exact ⟨_, h1, q, a, b, c, h2, h3, h4, h5, d, h6, h7, e, h8, h _ _ h9⟩
    · refine ⟨D, _, rfl, hD2, fun ys q pm nd so hq => ?_⟩
      have e : ys = uniS (t.txt kd) := uniS_of nd so fun z => by rw [pm.mem_iff, putS_mem, txt_all]; simp
      rw [e]
      exact k q _ ((s1.trans s2).trans (Rd.Same.upd hq)) ((s1.trans s2).free hq) upd_same
def sp_txts (K : PySem.W.Frag) (d : Nat) (kd : Str) : Sp := fun vs H Q _ => ∃ (a : Addr) (v : V) (t : Tr), vs = [.ref a] ∧ IsL K H a v ∧ IsT H t v ∧ Wf t ∧ t.dep ≤ d ∧ d ≤ 10 ∧ ∀ p H', Same H H' → H p = none → H' p = some (.lst ((uniS (t.txt kd)).map V.str)) → Q (.ref p) H'
abbrev s_Letter_unknowns : Stmt := inClass (top 26) 5
theorem sc_Letter_unknowns : FnScope ["self"] ["self"] (defScope s_Letter_unknowns) := ⟨rfl, rfl, rfl, by decide +kernel, rfl, by decide +kernel, by decide +kernel⟩
theorem ok_unknowns (T : Tx w K mg) (d : Nat) : Fm P w K mg base CX0 (d + 4) "Letter" "unknowns" ["self"] (sp_txts K d "unknown") := by
  refine T.M_Letter_unknowns.ok0 sc_Letter_unknowns (fun _ _ _ _ _ _ us hl => match us, hl with | [_], _ => rfl)
    (fun vs H Q E h => ?_) (fun cdv A outer s H vs Q E hr h => ?_)
  · obtain ⟨a, v, t, rfl, _⟩ := h
    rfl
  · obtain ⟨a, v, t, rfl, ⟨dx, ha⟩, it, wf, dp, d10, k⟩ := h
    refine ⟨_, (pss_one (ps_ret (pe_fk (ok_atoms_of T d) (hr.mono (by omega)) rfl pass0 (pa_cons (pe_fld (pv 0) rfl) (pa_cons pe_str pa_nil))))), ?_⟩
    exact ⟨_, rfl, a, _, dx, _, v, rfl, ha, T.k_Letter, T.n_Letter_tree, look1 _, ⟨v, t, "unknown", rfl, it, wf, dp, d10, k⟩, "unknown", (by decide +kernel), rfl⟩
end
end Rd
namespace Rd
open PySem L2
/-! ### things: what is given where a form is asked for -/
inductive Th where
  | non
  | int (n : Int)
  | str (s : Str)
  | tup (l : List Th)
  | lst (l : List Th)
/-- at most n deep -/
def Th.le : Nat → Th → Prop
  | _, .non => True
  | _, .int _ => True
  | _, .str _ => True
  | 0, .tup l => l = []
  | 0, .lst l => l = []
  | n + 1, .tup l => ∀ u ∈ l, u.le n
  | n + 1, .lst l => ∀ u ∈ l, u.le n
/-- such a thing at v; q is none of its objects -/
inductive IsTh (q : Addr) (H : Hp) : Th → V → Prop
  | non : IsTh q H .non .non
  | int (n : Int) : IsTh q H (.int n) (.int n)
  | str (s : Str) : IsTh q H (.str s) (.str s)
  | tup {p : Addr} {us : List V} {l : List Th} : p ≠ q → H p = some (.tup us) → us.length = l.length → (∀ (i : Nat) t u, l[i]? = some t → us[i]? = some u → IsTh q H t u) → IsTh q H (.tup l) (.ref p)
  | lst {p : Addr} {us : List V} {l : List Th} : p ≠ q → H p = some (.lst us) → us.length = l.length → (∀ (i : Nat) t u, l[i]? = some t → us[i]? = some u → IsTh q H t u) → IsTh q H (.lst l) (.ref p)
theorem IsTh.but {q : Addr} {H H' : Hp} {t : Th} {v : V} (b : But q H H') (h : IsTh q H t v) : IsTh q H' t v := by
  induction h with
  | non => exact .non
  | int n => exact .int n
  | str s => exact .str s
  | tup hq hp hl _ ih => exact .tup hq (b _ _ hq hp) hl ih
  | lst hq hp hl _ ih => exact .lst hq (b _ _ hq hp) hl ih
theorem IsTh.same {q : Addr} {H H' : Hp} {t : Th} {v : V} (s : Same H H') (h : IsTh q H t v) : IsTh q H' t v := h.but (But.of_same s)
/-- a form as a thing -/
def Tr.th : Tr → Th
  | .am k x => .tup [.str k, .str x]
  | .un s a => .tup [.str s, a.th]
  | .bi s a b => .tup [.str s, a.th, b.th]
theorem get2 {α β : Type} {R : α → β → Prop} {a1 a2 : α} {b1 b2 : β} (h1 : R a1 b1) (h2 : R a2 b2) : ∀ (i : Nat) a b, [a1, a2][i]? = some a → [b1, b2][i]? = some b → R a b
  | 0, _, _, e, e' => by cases e; cases e'; exact h1
  | 1, _, _, e, e' => by cases e; cases e'; exact h2
  | _ + 2, _, _, e, _ => by simp at e
theorem get3 {α β : Type} {R : α → β → Prop} {a1 a2 a3 : α} {b1 b2 b3 : β} (h1 : R a1 b1) (h2 : R a2 b2) (h3 : R a3 b3) : ∀ (i : Nat) a b, [a1, a2, a3][i]? = some a → [b1, b2, b3][i]? = some b → R a b
  | 0, _, _, e, e' => by cases e; cases e'; exact h1
  | 1, _, _, e, e' => by cases e; cases e'; exact h2
  | 2, _, _, e, e' => by cases e; cases e'; exact h3
  | _ + 3, _, _, e, _ => by simp at e
theorem IsT.th {q : Addr} {H : Hp} {t : Tr} {v : V} (hq : ∀ us, H q ≠ some (.tup us)) (h : IsT H t v) : IsTh q H t.th v := by
  have ne : ∀ {p : Addr} {us : List V}, H p = some (.tup us) → p ≠ q := fun {p us} e z => hq us (by rw [← z]; exact e)
  induction t generalizing v with
  | am k x =>
    obtain ⟨p, rfl, h⟩ := h
    exact .tup (ne h) h rfl (get2 (.str _) (.str _))
  | un s a ih =>
    obtain ⟨p, u, rfl, h, h1⟩ := h
    exact .tup (ne h) h rfl (get2 (.str _) (ih h1))
  | bi s a b iha ihb =>
    obtain ⟨p, u, u2, rfl, h, h1, h2⟩ := h
    exact .tup (ne h) h rfl (get3 (.str _) (iha h1) (ihb h2))
theorem Tr.th_le : ∀ {t : Tr} {n : Nat}, t.dep + 1 ≤ n → t.th.le n
  | .am k x, n + 1, _ => fun u hu => by
    rcases List.mem_cons.mp hu with rfl | hu
    · cases n <;> exact trivial
    · rw [List.mem_singleton.mp hu]
      cases n <;> exact trivial
  | .un s a, n + 1, h => fun u hu => by
    have h : a.dep + 1 + 1 ≤ n + 1 := h
    rcases List.mem_cons.mp hu with rfl | hu
    · cases n <;> exact trivial
    · rw [List.mem_singleton.mp hu]
      exact Tr.th_le (t := a) (by omega)
  | .bi s a b, n + 1, h => fun u hu => by
    have h : max a.dep b.dep + 1 + 1 ≤ n + 1 := h
    rcases List.mem_cons.mp hu with rfl | hu
    · cases n <;> exact trivial
    rcases List.mem_cons.mp hu with rfl | hu
    · exact Tr.th_le (t := a) (by omega)
    · rw [List.mem_singleton.mp hu]
      exact Tr.th_le (t := b) (by omega)
/-! ### the first part that is no form -/
def kindL : List Str := ["word", "name", "unknown"]
def kOk (h x : Str) : Bool := if h = "word" then isWord x else if h = "name" then isName x else isUnk x
def atOk (h : Str) : List Th → Bool
  | [.str x] => kOk h x
  | _ => false
def sgv : List (Str × Int) := [("pair", 2), ("seal", 2), ("lock", 2), ("mark", 1), ("open", 1), ("own", 1)]
def keyTh : List Th → Bool
  | _ :: .tup (.str h :: _) :: _ => decide (h ∈ (["open", "own"] : List Str))
  | _ => false
def fltL (f : Th → Option (List Int)) : Int → List Th → Option (List Int)
  | _, [] => none
  | k, t :: r => match f t with
    | some p => some (k :: p)
    | none => fltL f (k + 1) r
def flt : Nat → Th → Option (List Int)
  | 0, _ => some []
  | n + 1, .tup (.str h :: r) =>
    if h ∈ kindL then (if atOk h r = true then none else some [])
    else match sgv.lookup h with
      | none => some []
      | some m => if (r.length : Int) ≠ m then some [] else match fltL (flt n) 1 r with
        | some p => some p
        | none => if h = "lock" ∧ keyTh r = false then some [] else none
  | _ + 1, _ => some []
theorem kOk_of {k x : Str} (h : kindOk k x) : k ∈ kindL ∧ kOk k x = true := by
  rcases h with ⟨rfl, h⟩ | ⟨rfl, h⟩ | ⟨rfl, h⟩
  · exact ⟨by decide +kernel, by rw [kOk, if_pos rfl]; exact h⟩
  · exact ⟨by decide +kernel, by rw [kOk, if_neg (by decide +kernel), if_pos rfl]; exact h⟩
  · exact ⟨by decide +kernel, by rw [kOk, if_neg (by decide +kernel), if_neg (by decide +kernel)]; exact h⟩
theorem flt_form : ∀ {t : Tr}, Wf t → ∀ n, t.dep + 1 ≤ n → flt n t.th = none
  | .am k x, wf, n + 1, _ => by
    cases wf with
    | am ko =>
      obtain ⟨h1, h2⟩ := kOk_of ko
      show (if k ∈ kindL then (if kOk k x = true then none else some []) else _) = none
      rw [if_pos h1, if_pos h2]
  | .un s a, wf, n + 1, h => by
    cases wf with
    | un hs wa =>
      have h : a.dep + 1 + 1 ≤ n + 1 := h
      have ih := flt_form wa n (by omega)
      have h1 : ∀ z ∈ (["mark", "open", "own"] : List Str), z ∉ kindL ∧ sgv.lookup z = some 1 ∧ z ≠ "lock" := by decide +kernel
      obtain ⟨a1, a2, a3⟩ := h1 s hs
      show (if s ∈ kindL then _ else match sgv.lookup s with | none => some [] | some m => if (([a.th] : List Th).length : Int) ≠ m then some [] else match fltL (flt n) 1 [a.th] with | some p => some p | none => if s = "lock" ∧ keyTh [a.th] = false then some [] else none) = none
      rw [if_neg a1, a2]
      simp only [List.length_singleton, fltL, ih]
      rw [if_neg (fun z => z rfl), if_neg (fun z => a3 z.1)]
  | .bi s a b, wf, n + 1, h => by
    have h : max a.dep b.dep + 1 + 1 ≤ n + 1 := h
    cases wf with
    | bi hs wa wb =>
      have ia := flt_form wa n (by omega)
      have ib := flt_form wb n (by omega)
      have h1 : ∀ z ∈ (["pair", "seal"] : List Str), z ∉ kindL ∧ sgv.lookup z = some 2 ∧ z ≠ "lock" := by decide +kernel
      obtain ⟨a1, a2, a3⟩ := h1 s hs
      show (if s ∈ kindL then _ else match sgv.lookup s with | none => some [] | some m => if (([a.th, b.th] : List Th).length : Int) ≠ m then some [] else match fltL (flt n) 1 [a.th, b.th] with | some p => some p | none => if s = "lock" ∧ keyTh [a.th, b.th] = false then some [] else none) = none
      rw [if_neg a1, a2]
      simp only [fltL, ia, ib]
      rw [if_neg (fun z => z rfl), if_neg (fun z => a3 z.1)]
    | @lk s' _ b' hs wa wb =>
      have ia := flt_form wa n (by omega)
      have hs' : s' ∈ (["mark", "open", "own"] : List Str) := List.mem_cons_of_mem _ hs
      have ib := flt_form (t := .un s' b') (.un hs' wb) n (by omega)
      have a1 : ("lock" : Str) ∉ kindL := by decide +kernel
      have a2 : sgv.lookup ("lock" : Str) = some 2 := by decide +kernel
      show (if ("lock" : Str) ∈ kindL then _ else match sgv.lookup ("lock" : Str) with | none => some [] | some m => if (([a.th, (Tr.un s' b').th] : List Th).length : Int) ≠ m then some [] else match fltL (flt n) 1 [a.th, (Tr.un s' b').th] with | some p => some p | none => if ("lock" : Str) = "lock" ∧ keyTh [a.th, (Tr.un s' b').th] = false then some [] else none) = none
      rw [if_neg a1, a2]
      simp only [fltL, ia, ib]
      rw [if_neg (fun z => z rfl), if_neg]
      rintro ⟨_, z⟩
      have z : decide (s' ∈ (["open", "own"] : List Str)) = false := z
      rw [decide_eq_true hs] at z
      cases z
end Rd
namespace Rd
open PySem L2
theorem look_mem {β : Type} {k : Str} {v : β} : ∀ {l : List (Str × β)}, l.lookup k = some v → (k, v) ∈ l
  | [], h => by cases h
  | (a, b) :: l, h => by
    rw [List.lookup_cons] at h
    cases e : k == a with
    | true =>
      rw [e] at h
      cases h
      rw [eq_of_beq e]
      exact List.mem_cons_self
    | false =>
      rw [e] at h
      exact List.mem_cons_of_mem _ (look_mem h)
theorem fltL_none {f : Th → Option (List Int)} : ∀ {r : List Th} {k : Int}, (∀ (j : Nat) t, r[j]? = some t → f t = none) → fltL f k r = none
  | [], _, _ => rfl
  | t :: r, k, h => by
    rw [fltL, h 0 t rfl]
    exact fltL_none fun j t h' => h (j + 1) t h'
theorem fltL_at {f : Th → Option (List Int)} {rel : List Int} {u : Th} : ∀ {r : List Th} {k : Int} {i : Nat}, (∀ (j : Nat) t, j < i → r[j]? = some t → f t = none) → r[i]? = some u → f u = some rel → fltL f k r = some ((k + i) :: rel)
  | [], _, _, _, h, _ => by cases h
  | t :: r, k, 0, _, h, e => by
    cases h
    rw [fltL, e]
    show some (k :: rel) = some ((k + 0) :: rel)
    rw [Int.add_zero]
  | t :: r, k, i + 1, h, h1, e => by
    rw [fltL, h 0 t (Nat.succ_pos _) rfl]
    have ih := fltL_at (r := r) (k := k + 1) (i := i) (fun j t hj h' => h (j + 1) t (Nat.succ_lt_succ hj) h') h1 e
    rw [show k + ((i + 1 : Nat) : Int) = k + 1 + i by omega]
    exact ih
theorem flt_sg {n : Nat} {h : Str} {r : List Th} {m : Int} (hk : h ∉ kindL) (hm : sgv.lookup h = some m) (hl : ¬ (r.length : Int) ≠ m) :
    (∀ rel, fltL (flt n) 1 r = some rel → flt (n + 1) (.tup (.str h :: r)) = some rel) ∧ (fltL (flt n) 1 r = none → flt (n + 1) (.tup (.str h :: r)) = if h = "lock" ∧ keyTh r = false then some [] else none) := by
  refine ⟨fun rel e => ?_, fun e => ?_⟩
  · rw [flt, if_neg hk, hm]
    dsimp only
    rw [if_neg hl, e]
  · rw [flt, if_neg hk, hm]
    dsimp only
    rw [if_neg hl, e]
theorem flt_hd {n : Nat} {t : Th} (h : flt n t = none) : ∃ s r, t = .tup (.str s :: r) := by
  cases n with
  | zero => cases h
  | succ n =>
    cases t with
    | tup l =>
      cases l with
      | nil => cases h
      | cons x r =>
        cases x with
        | str s => exact ⟨s, r, rfl⟩
        | _ => cases h
    | _ => cases h
def spAF : Sp := fun vs H Q _ => ∃ (v : V) (q : Addr) (h : Str) (r : List Th), vs = [v] ∧ IsTh q H (.tup (.str h :: r)) v ∧ h ∈ kindL ∧ (∀ x, r = [.str x] → x.length ≤ 200000) ∧ ∀ H', Same H H' → Q (.bl (atOk h r)) H'
def lookL : List (Str × Sp) := [("is_word", spTB isWord), ("is_name", spTB isName), ("is_unknown", spTB isUnk)]
theorem IsTh.tup_inv {q : Addr} {H : Hp} {l : List Th} {v : V} (h : IsTh q H (.tup l) v) : ∃ p us, v = .ref p ∧ H p = some (.tup us) ∧ us.length = l.length ∧ (∀ (i : Nat) t u, l[i]? = some t → us[i]? = some u → IsTh q H t u) := by
  cases h with
  | tup hq hp hl hi => exact ⟨_, _, rfl, hp, hl, hi⟩
theorem IsTh.str_inv {q : Addr} {H : Hp} {s : Str} {v : V} (h : IsTh q H (.str s) v) : v = .str s := by
  cases h
  rfl
/-- the built-in type of a thing -/
def Th.ty : Th → String
  | .non => "NoneType"
  | .int _ => "int"
  | .str _ => "str"
  | .tup _ => "tuple"
  | .lst _ => "list"
theorem IsTh.tyx {K : PySem.W.Frag} {q : Addr} {H : Hp} {t : Th} {v : V} (h : IsTh q H t v) : TyX K H v (.type t.ty) := by
  cases h with
  | non => exact .base .non
  | int n => exact .base (.int n)
  | str s => exact .base (.str s)
  | tup _ hp _ _ => exact .base (.tup hp)
  | lst _ hp _ _ => exact .base (.lst hp)
theorem isi_th {K : PySem.W.Frag} {t : Th} {n : String} (hn : n = "tuple" ∨ n = "str") : PySem.W.kitOne K (.type t.ty) (.type n) = some (decide (t.ty = n)) := by
  have h1 : ∀ m ∈ (["NoneType", "int", "str", "tuple", "list"] : List String), kitB m "tuple" = some (decide (m = "tuple")) ∧ kitB m "str" = some (decide (m = "str")) := by decide +kernel
  have h2 : t.ty ∈ (["NoneType", "int", "str", "tuple", "list"] : List String) := by cases t <;> simp [Th.ty]
  rcases hn with rfl | rfl
  · exact kit_ty (h1 _ h2).1
  · exact kit_ty (h1 _ h2).2
section
variable {P : Program} {w : World} {K : PySem.W.Frag} {mg : Str → Option Value} {base : Heap}
theorem lookL_ok (T : Tx w K mg) : ∀ p ∈ lookL, ∃ ps, Fk P w K mg base CX0 2 p.1 ps p.2 := by
  intro p hp
  rcases List.mem_cons.mp hp with rfl | hp
  · exact ⟨_, (ok_is_word T).mono (by decide)⟩
  rcases List.mem_cons.mp hp with rfl | hp
  · exact ⟨_, (ok_is_name T).mono (by decide)⟩
  rw [List.mem_singleton.mp hp]
  exact ⟨_, ok_is_unknown T⟩
abbrev s_is_atom_form : Stmt := top 19
theorem sc_is_atom_form : FnScope ["form", "looks"] ["form"] (defScope s_is_atom_form) := ⟨rfl, rfl, rfl, by decide +kernel, rfl, by decide +kernel, by decide +kernel⟩
theorem ok_is_atom_form (T : Tx w K mg) : Fk P w K mg base CX0 3 "is_atom_form" ["form"] spAF := by
  refine T.F_is_atom_form.ok0 sc_is_atom_form (fun _ _ _ _ _ _ us hl => match us, hl with | [_], _ => rfl)
    (fun vs H Q E h => ?_) (fun cdv A outer s H vs Q E hr h => ?_)
  · obtain ⟨v, q, h, r, rfl, _⟩ := h
    rfl
  · obtain ⟨v, q, h, r, rfl, it, hk, hs, k⟩ := h
    obtain ⟨p, us, rfl, hp, hl, hi⟩ := it.tup_inv
    refine ⟨_, (pss_cons (ps_set (i := 1) sc_is_atom_form.nd rfl (Or.inl rfl) (pe_disp (pps_cons pe_str (pe_gcls rfl T.F_is_word.g) (pps_cons pe_str (pe_gcls rfl T.F_is_name.g) (pps_cons pe_str (pe_gcls rfl T.F_is_unknown.g) pps_nil))) (by rfl) (by rfl) (fun z => by cases z) (by decide)))
  (pss_one (ps_ret (pe_and (pe_cmpR op_eq (pe_callB call_len_seq (by rfl) T.z_len (by decide +kernel) (pa_cons (pv 0) pa_nil)) pe_int (nomark _)) (pe_and (pe_callB call_isi (by rfl) T.z_isinstance (by decide +kernel) (pa_cons (pe_ix ix_tup (pv 0) pe_int (fun _ _ => rfl)) (pa_cons (pe_bltn (v := .ty "str") (u := .type "str") rfl T.z_str (by decide +kernel) rfl) pa_nil))) (pe_one (pe_callE lookL (lookL_ok T) (hr.mono (by omega)) (pe_dget (hu_of hr) (pv 1) (pe_ix ix_tup (pv 0) pe_int (fun _ _ => rfl)) (fun _ _ => rfl)) (pa_cons (pe_ix ix_tup (pv 0) pe_int (fun _ _ => rfl)) pa_nil)))))))), ?_⟩
    refine fun dp hdp => ⟨upd_same, [(.inr "word", .ref (He.ga K "is_word")), (.inr "name", .ref (He.ga K "is_name")), (.inr "unknown", .ref (He.ga K "is_unknown"))], rfl, (by show 3 ≤ 15; decide), ?_⟩
    refine gName_k ?_
    try dsimp only
    rw [upd_upd]
    have s1 := Rd.Same.upd (o := .dK (mergeK [] [(.inr "word", .ref (He.ga K "is_word")), (.inr "name", .ref (He.ga K "is_name")), (.inr "unknown", .ref (He.ga K "is_unknown"))])) hdp
    have hd1 : upd H dp (.dK (mergeK [] [(.inr "word", .ref (He.ga K "is_word")), (.inr "name", .ref (He.ga K "is_name")), (.inr "unknown", .ref (He.ga K "is_unknown"))])) dp = _ := upd_same
    generalize upd H dp (.dK (mergeK [] [(.inr "word", .ref (He.ga K "is_word")), (.inr "name", .ref (He.ga K "is_name")), (.inr "unknown", .ref (He.ga K "is_unknown"))])) = H1 at s1 hd1 ⊢
    have hp1 := s1 _ _ hp
    refine ⟨_, rfl, p, _, rfl, .inr (SqT.of hp1), rfl, _, rfl, ?_⟩
    match us, r, hl, hi, it, hp, hp1, hs, k with
    | [u0], [], _, _, _, _, _, _, k => exact iteN (by show ¬ decide (V.int 1 = V.int 2) = true; decide) (k _ s1)
    | [u0, u1], [x1], _, hi, _, _, hp1, hs, k =>
      refine iteP (by show decide (V.int 2 = V.int 2) = true; decide) ?_
      have i1 := (hi 1 x1 u1 rfl rfl).same s1
      refine ⟨_, rfl, p, _, _, _, rfl, rfl, SqT.of hp1, at_of (j := 1) rfl rfl, u1, .ty "str", _, _, _, rfl, .ty "str", i1.tyx, isi_th (.inr rfl), _, rfl, ?_⟩
      cases x1 with
      | str x =>
        refine iteP (by show decide (("str" : String) = "str") = true; decide) ?_
        obtain rfl := i1.str_inv
        obtain rfl := (hi 0 (.str h) u0 rfl rfl).str_inv
        have hx := hs x rfl
        obtain ⟨f, g, hf, e1, e2⟩ : ∃ f g, ((f, spTB g) ∈ lookL) ∧ valV (mergeK [] [(.inr "word", .ref (He.ga K "is_word")), (.inr "name", .ref (He.ga K "is_name")), (.inr "unknown", .ref (He.ga K "is_unknown"))]) (.inr h) = some (.ref (He.ga K f)) ∧ kOk h x = g x := by
          unfold mergeK
          simp only [List.foldl]
          rcases List.mem_cons.mp hk with rfl | hk
          · exact ⟨"is_word", isWord, List.mem_cons_self, by rw [valV_put, if_neg (by decide +kernel), valV_put, if_neg (by decide +kernel), valV_put, if_pos rfl], by rw [kOk, if_pos rfl]⟩
          rcases List.mem_cons.mp hk with rfl | hk
          · exact ⟨"is_name", isName, List.mem_cons_of_mem _ List.mem_cons_self, by rw [valV_put, if_neg (by decide +kernel), valV_put, if_pos rfl], by rw [kOk, if_neg (by decide +kernel), if_pos rfl]⟩
          cases List.mem_singleton.mp hk
          exact ⟨"is_unknown", isUnk, List.mem_cons_of_mem _ (List.mem_cons_of_mem _ List.mem_cons_self), by rw [valV_put, if_pos rfl], by rw [kOk, if_neg (by decide +kernel), if_neg (by decide +kernel)]⟩
        have dg := DGet.k (k := .inr h) hd1
        rw [e1] at dg
        refine ⟨_, rfl, _, rfl, p, _, _, _, rfl, rfl, SqT.of hp1, at_of (j := 0) rfl rfl, dp, _, rfl, dg, (f, spTB g), hf, rfl, _, rfl, p, _, _, _, rfl, rfl, SqT.of hp1, at_of (j := 1) rfl rfl, x, rfl, hx, fun H2 s2 => ?_⟩
        have e3 : atOk h [.str x] = g x := e2
        rw [← e3]
        exact k _ (s1.trans s2)
      | non => exact iteN (by show ¬ decide (("NoneType" : String) = "str") = true; decide) (k _ s1)
      | int n => exact iteN (by show ¬ decide (("int" : String) = "str") = true; decide) (k _ s1)
      | tup l => exact iteN (by show ¬ decide (("tuple" : String) = "str") = true; decide) (k _ s1)
      | lst l => exact iteN (by show ¬ decide (("list" : String) = "str") = true; decide) (k _ s1)
    | u0 :: u1 :: u2 :: us, x1 :: x2 :: r, hl, _, _, _, _, _, k =>
      have e0 : atOk h (x1 :: x2 :: r) = false := by cases x1 <;> rfl
      rw [e0] at k
      refine iteN (fun z => ?_) (k _ s1)
      have z := of_decide_eq_true z
      rw [V.int.injEq, List.length_cons, List.length_cons, List.length_cons] at z
      omega
abbrev s_BadForm_init : Stmt := inClass (top 4) 0
theorem sc_BadForm_init : FnScope ["self", "path"] ["self", "path"] (defScope s_BadForm_init) := ⟨rfl, rfl, rfl, by decide +kernel, rfl, by decide +kernel, by decide +kernel⟩
theorem ok_BadForm (T : Tx w K mg) : Fm P w K mg base CX0 1 "BadForm" "__init__" ["self", "path"] (spX1 K "path") := by
  refine T.X_BadForm.init.ok0 sc_BadForm_init (fun _ _ _ _ _ _ us hl => match us, hl with | [_, _], _ => rfl)
    (fun vs H Q E h => ?_) (fun cdv A outer s H vs Q E hr h => ?_)
  · obtain ⟨a, C, v, rfl, _⟩ := h
    rfl
  · obtain ⟨a, C, v, rfl, TC, no, ha, k⟩ := h
    refine ⟨_, (pss_cons (ps_expr (pe_reinit rfl T.g_RoadError T.r_RoadError (pa_cons (pv 0) (pa_cons pe_str pa_nil))))
  (pss_one (ps_ost (pv 0) (pv 1)))), ?_⟩
    refine ⟨_, rfl, a, C, [.str "no form"], rfl, (by show 1 ≤ 1000; decide), TC, ha, _, rfl, _, rfl, a, C, rfl, TC, no, .inl ⟨ha, fun dx hdx ne => k dx hdx ne⟩⟩
/-- texts in a thing are not too long -/
def Th.short : Nat → Th → Prop
  | _, .str s => s.length ≤ 200000
  | n + 1, .tup l => l.length ≤ 1000 ∧ ∀ u ∈ l, u.short n
  | 0, .tup l => l.length ≤ 1000
  | _, _ => True
def sp_chk (K : PySem.W.Frag) (n : Nat) : Sp := fun vs H Q E => ∃ (v : V) (t : Th) (q0 q : Addr) (pth : List Int), vs = [v, .ref q] ∧ IsTh q0 H t v ∧ t.le n ∧ t.short n ∧ SqT K H q (pth.map V.int) ∧ pth.length + n ≤ 100 ∧
  (flt (n + 1) t = none → ∀ H', Same H H' → Q .non H') ∧
  ∀ rel, flt (n + 1) t = some rel → ∀ d r H', Same H H' → H' d = some (.xd [("path", .ref r)]) → SqT K H' r ((pth ++ rel).map V.int) → E (.ref (He.ga K "BadForm")) (some d) H'
def spCR (K : PySem.W.Frag) : Nat → Sp
  | 0 => fun _ _ _ _ => False
  | n + 1 => sp_chk K n
abbrev s_check_form : Stmt := top 20
theorem sc_check_form : FnScope ["form", "path", "k"] ["form", "path"] (defScope s_check_form) := ⟨rfl, rfl, rfl, by decide +kernel, rfl, by decide +kernel, by decide +kernel⟩
theorem chk_step (T : Tx w K mg) (n : Nat) (ih : Fk P w K mg base (L2N.CX P w) (n + 4) "check_form" ["form", "path"] (spCR K n)) : Fk P w K mg base (L2N.CX P w) (n + 5) "check_form" ["form", "path"] (sp_chk K n) := by
  refine T.F_check_form.ok sc_check_form (fun _ _ _ _ _ _ us hl => match us, hl with | [_, _], _ => rfl)
    (fun vs H Q E h => ?_) (fun cdv A outer s H vs Q E hr h => ?_)
  · obtain ⟨v, t, q0, q, pth, rfl, _⟩ := h
    rfl
  · obtain ⟨v, t, q0, q, pth, rfl, it, le, sh, hq, hl, k1, k0⟩ := h
    refine ⟨_, (pss_cons (ps_if (PW.pt (pw_or (pt_not (pt_val (pe_callB call_isi (by rfl) T.z_isinstance (by decide +kernel) (pa_cons (pv 0) (pa_cons (pe_bltn (v := .ty "tuple") (u := .type "tuple") rfl T.z_tuple (by decide +kernel) rfl) pa_nil))))) (pw_or (pt_cmpR op_eq (pe_callB call_len_seq (by rfl) T.z_len (by decide +kernel) (pa_cons (pv 0) pa_nil)) pe_int (nomark _)) (pw_or1 (pt_not (pt_val (pe_callB call_isi (by rfl) T.z_isinstance (by decide +kernel) (pa_cons (pe_ix ix_tup (pv 0) pe_int (fun _ _ => rfl)) (pa_cons (pe_bltn (v := .ty "str") (u := .type "str") rfl T.z_str (by decide +kernel) rfl) pa_nil)))))))))
  (pss_one (L2N.ps_raise rfl (L2N.takes_of rfl rfl rfl rfl) (pmk_xN T.X_BadForm (ok_BadForm T) (hr.mono (by omega)) rfl (pa_cons (pv 1) pa_nil))))
  pss_nil)
  (pss_one (ps_if (pt_cmpR op_inT (pe_ix ix_tup (pv 0) pe_int (fun _ _ => rfl)) (pe_tup (pa_cons pe_str (pa_cons pe_str (pa_cons pe_str pa_nil)))) (by rfl))
  (pss_one (ps_if (pt_not (pt_val (pe_fk (ok_is_atom_form T) (hr.mono (by omega)) rfl pass0 (pa_cons (pv 0) pa_nil))))
  (pss_one (L2N.ps_raise rfl (L2N.takes_of rfl rfl rfl rfl) (pmk_xN T.X_BadForm (ok_BadForm T) (hr.mono (by omega)) rfl (pa_cons (pv 1) pa_nil))))
  pss_nil))
  (pss_one (ps_if (PW.pt (pw_or (pt_cmpR (op_notInK T.D_SIGNS) (pe_ix ix_tup (pv 0) pe_int (fun _ _ => rfl)) (pe_kd T.D_SIGNS) (by rfl)) (pw_or1 (pt_cmpR op_ne (pe_callB call_len_seq (by rfl) T.z_len (by decide +kernel) (pa_cons (pv 0) pa_nil)) (pe_op op_add (pe_ix (ix_K T.D_SIGNS) (pe_kd T.D_SIGNS) (pe_ix ix_tup (pv 0) pe_int (fun _ _ => rfl)) (fun _ _ => rfl)) pe_int) (nomark _)))))
  (pss_one (L2N.ps_raise rfl (L2N.takes_of rfl rfl rfl rfl) (pmk_xN T.X_BadForm (ok_BadForm T) (hr.mono (by omega)) rfl (pa_cons (pv 1) pa_nil))))
  (pss_cons (ps_for (passes_of rfl) rfl (pi_range2 rfl T.z_range (pa_cons pe_int (pa_cons (pe_callB call_len_seq (by rfl) T.z_len (by decide +kernel) (pa_cons (pv 0) pa_nil)) pa_nil))) (pg_name (i := 2) sc_check_form.nd rfl (Or.inl rfl))
  (pss_one (ps_expr (pe_fk ih (hr.mono (by omega)) rfl (L2N.passes_call (L2N.takes_of rfl rfl rfl rfl) (fun _ _ _ _ h => h)) (pa_cons (pe_ix ix_tup (pv 0) (pv 2) (fun _ _ => rfl)) (pa_cons (pe_op op_catA (pv 1) (pe_tup (pa_cons (pv 2) pa_nil))) pa_nil))))))
  (pss_one (ps_if (PW.pt (pw_and (pt_cmpR op_eq (pe_ix ix_tup (pv 0) pe_int (fun _ _ => rfl)) pe_str (nomark _)) (pw_and1 (pt_cmpR op_notInT (pe_ix ix_tup (pe_ix ix_tup (pv 0) pe_int (fun _ _ => rfl)) pe_int (fun _ _ => rfl)) (pe_tup (pa_cons pe_str (pa_cons pe_str pa_nil))) (by rfl)))))
  (pss_one (L2N.ps_raise rfl (L2N.takes_of rfl rfl rfl rfl) (pmk_xN T.X_BadForm (ok_BadForm T) (hr.mono (by omega)) rfl (pa_cons (pv 1) pa_nil))))
  pss_nil)))))))), ?_⟩
    have rz : ∀ {H1 : Hp} {σ : St}, Same H H1 → flt (n + 1) t = some [] → σ[1]? = some (some (.ref q)) → tMkO (He.ga K "BadForm") (spX1 K "path") [] (tCons (tVar 1) tNil) σ H1 (fun cls d H' => E cls d H') := fun {H1 σ} s1 e e1 => by
      refine ⟨_, e1, rd_raise1 T.X_BadForm.oex T.X_BadForm.no fun d H' s' nd hd => k0 [] e d q H' (s1.trans s') hd ?_⟩
      rw [List.append_nil]
      exact SqT.kept hq (s1.trans s')
    cases t with
    | tup l =>
      cases l with
      | nil =>
        obtain ⟨p, us, rfl, hp, hl2, hi⟩ := it.tup_inv
        refine seqIf (b := true) (tb_or (b := false) (c := true) (tb_not (b := true) fun Q2 kq => ⟨_, rfl, .ref p, .ty "tuple", _, _, _, rfl, .ty "tuple", it.tyx, isi_th (.inl rfl), _, rfl, kq _ (Same.refl _)⟩) (fun H2 s2 _ => tb_or (b := true) (c := true) (fun Q2 kq => ⟨_, rfl, p, _, rfl, .inr (SqT.of (s2 _ _ hp)), rfl, _, rfl, ?_⟩) (fun _ _ h => by cases h))) fun H1 s1 => iteT (rz s1 (by rfl) rfl)
        rw [hl2]
        exact kq _ (Same.refl _)
      | cons x r =>
        obtain ⟨p, us, rfl, hp, hl2, hi⟩ := it.tup_inv
        cases us with
        | nil => cases hl2
        | cons u us =>
          have i0 := hi 0 x u rfl rfl
          cases x with
          | str h =>
            obtain rfl := i0.str_inv
            refine seqIf (tb_or (b := false) (c := (false || !true)) (tb_not (b := true) fun Q2 kq => ⟨_, rfl, .ref p, .ty "tuple", _, _, _, rfl, .ty "tuple", it.tyx, isi_th (.inl rfl), _, rfl, kq _ (Same.refl _)⟩) (fun H2 s2 _ => tb_or (b := false) (c := !true) (fun Q2 kq => ⟨_, rfl, p, _, rfl, .inr (SqT.of (s2 _ _ hp)), rfl, _, rfl, (by
              rw [decide_eq_false (fun z => by
                rw [V.int.injEq, List.length_cons] at z
                omega)]
              exact kq _ (Same.refl _))⟩) (fun H3 s3 _ => tb_not (b := true) fun Q2 kq => ⟨_, rfl, p, _, _, _, rfl, rfl, SqT.of (s3 _ _ (s2 _ _ hp)), at_of (j := 0) rfl rfl, _, .ty "str", _, _, _, rfl, .ty "str", (i0.same (s2.trans s3)).tyx, isi_th (.inr rfl), _, rfl, (by rw [show decide (_ = ("str" : String)) = true from (by show decide (("str" : String) = "str") = true; decide)]; exact kq _ (Same.refl _))⟩))) fun H1 s1 => iteF (nxt ?_)
            try dsimp only
            refine ⟨_, rfl, p, _, _, _, rfl, rfl, SqT.of (s1 _ _ hp), at_of (j := 0) rfl rfl, (by show 3 ≤ sizeLine; decide), fun q1 hq1 => ⟨_, q1, ["word", "name", "unknown"], rfl, rfl, SqT.of upd_same, _, rfl, ?_⟩⟩
            have s2 := s1.trans (Rd.Same.upd (o := .tup [.str "word", .str "name", .str "unknown"]) hq1)
            generalize upd H1 q1 (.tup [.str "word", .str "name", .str "unknown"]) = H2 at s2 ⊢
            have shr : r.length + 1 ≤ 1000 := by
              cases n with
              | zero => exact sh
              | succ n => exact sh.1
            by_cases hk : h ∈ kindL
            · refine iteP (decide_eq_true hk) ?_
              refine ⟨_, rfl, .ref p, q0, h, r, rfl, it.same s2, hk, (fun x e => ?_), fun H3 s3 => ⟨_, rfl, ?_⟩⟩
              · cases n with
                | zero => cases le
                | succ n =>
                  subst e
                  have z := sh.2 (.str x) (List.mem_cons_of_mem _ List.mem_cons_self)
                  cases n <;> exact z
              · have e : flt (n + 1) (.tup (.str h :: r)) = if atOk h r = true then none else some [] := by rw [flt, if_pos hk]
                cases ha : atOk h r with
                | true =>
                  rw [if_pos ha] at e
                  exact iteF (nxt (k1 e H3 (s2.trans s3)))
                | false =>
                  rw [if_neg (by rw [ha]; decide)] at e
                  exact iteT (rz (s2.trans s3) e rfl)
            · refine iteN (fun z => hk (of_decide_eq_true z)) ?_
              cases hm : sgv.lookup h with
              | none =>
                have e : flt (n + 1) (.tup (.str h :: r)) = some [] := by
                  rw [flt, if_neg hk, hm]
                have nin : h ∉ sgv.map (·.1) := fun z => by
                  have : ∀ y ∈ sgv.map (·.1), sgv.lookup y ≠ none := by decide +kernel
                  exact this h z hm
                refine oneIf (b := true) (tb_or (b := true) (c := true) (fun Q2 kq => ⟨_, rfl, p, _, _, _, rfl, rfl, SqT.of (s2 _ _ hp), at_of (j := 0) rfl rfl, _, rfl, rfl, _, rfl, ?_⟩) (fun _ _ z => by cases z)) fun H3 s3 => iteT (rz (s2.trans s3) e rfl)
                rw [show decide (h ∈ ([("pair", 2), ("seal", 2), ("lock", 2), ("mark", 1), ("open", 1), ("own", 1)] : List (Str × Int)).map (·.1)) = false from decide_eq_false nin]
                exact kq _ (Same.refl _)
              | some m =>
                have mem := look_mem hm
                have hin : h ∈ sgv.map (·.1) := List.mem_map.mpr ⟨_, mem, rfl⟩
                refine oneIf (b := (false || decide ((r.length : Int) ≠ m))) (tb_or (b := false) (c := decide ((r.length : Int) ≠ m)) (fun Q2 kq => ⟨_, rfl, p, _, _, _, rfl, rfl, SqT.of (s2 _ _ hp), at_of (j := 0) rfl rfl, _, rfl, rfl, _, rfl, ?_⟩) (fun H3 s3 _ Q2 kq => ⟨_, rfl, p, _, rfl, .inr (SqT.of (s3 _ _ (s2 _ _ hp))), _, rfl, p, _, _, _, rfl, rfl, SqT.of (s3 _ _ (s2 _ _ hp)), at_of (j := 0) rfl rfl, (h, m), mem, rfl, rfl, _, _, rfl, rfl, rfl, _, rfl, ?_⟩)) fun H3 s3 => ?_
                · rw [show decide (h ∈ ([("pair", 2), ("seal", 2), ("lock", 2), ("mark", 1), ("open", 1), ("own", 1)] : List (Str × Int)).map (·.1)) = true from decide_eq_true hin]
                  exact kq _ (Same.refl _)
                · have e : (!decide (V.int ((V.str h :: us).length : Int) = V.int (m + 1))) = decide ((r.length : Int) ≠ m) := by
                    have hl3 : us.length = r.length := Nat.succ.inj hl2
                    rw [List.length_cons, hl3]
                    by_cases z : (r.length : Int) = m
                    · rw [decide_eq_true (show V.int ((r.length + 1 : Nat) : Int) = V.int (m + 1) by rw [← z]; rfl)]
                      simp [z]
                    · rw [decide_eq_false (show ¬ V.int ((r.length + 1 : Nat) : Int) = V.int (m + 1) from fun y => z (by rw [V.int.injEq] at y; omega))]
                      simp [z]
                  show Q2 (!decide (V.int ((V.str h :: us).length : Int) = V.int (m + 1))) H3
                  rw [e]
                  exact kq _ (Same.refl _)
                rw [Bool.false_or]
                have hl3 : us.length = r.length := Nat.succ.inj hl2
                have s23 := s2.trans s3
                by_cases hlen : (r.length : Int) ≠ m
                · refine iteP (decide_eq_true hlen) (rz s23 ?_ rfl)
                  rw [flt, if_neg hk, hm]
                  show (if _ then _ else _) = _
                  rw [if_pos hlen]
                · refine iteN (fun z => hlen (of_decide_eq_true z)) ?_
                  obtain ⟨ef1, ef0⟩ := flt_sg (n := n) hk hm hlen
                  cases n with
                  | zero => cases le
                  | succ n =>
                    refine ⟨_, rfl, p, _, rfl, .inr (SqT.of (s23 _ _ hp)), _, _, rfl, ⟨(by decide), (by decide), (by rw [List.length_cons]; omega), (by rw [List.length_cons]; omega)⟩, for_range (lo := 1) (fun i σ Hc => Same H Hc ∧ (∀ (j : Nat) t, j < i → r[j]? = some t → flt (n + 1) t = none) ∧ ∃ t2, σ = [some (.ref p), some (.ref q), t2]) ⟨s23, (fun j t hj => by omega), _, rfl⟩ ?_ ?_⟩
                    · rintro i σ Hc hi2 ⟨sc, hno, t2, rfl⟩
                      refine gName_k ?_
                      try dsimp only
                      have hi3 : i < r.length := by
                        rw [List.length_cons] at hi2
                        omega
                      have hr1 : r[i]? = some r[i] := List.getElem?_eq_getElem hi3
                      have hu1 : us[i]? = some us[i] := List.getElem?_eq_getElem (by omega)
                      have iu := (hi (i + 1) r[i] us[i] hr1 hu1).same sc
                      have hle : r[i].le n := le r[i] (List.mem_cons_of_mem _ (List.getElem_mem hi3))
                      have hsh : r[i].short n := sh.2 r[i] (List.mem_cons_of_mem _ (List.getElem_mem hi3))
                      have fin : ∀ {q2 : Addr} {H4 : Hp}, Same H H4 → SqT K H4 q2 ((pth ++ [1 + (i : Int)]).map V.int) → sp_chk K n [us[i], .ref q2] H4 (fun _ H5 => Same H H5 ∧ (∀ (j : Nat) t, j < i + 1 → r[j]? = some t → flt (n + 1) t = none) ∧ ∃ t2, ([some (.ref p), some (.ref q), some (.int (1 + (i : Int)))] : St) = [some (.ref p), some (.ref q), t2]) E := fun {q2 H4} s4 hq2 => by
                        refine ⟨us[i], r[i], q0, q2, pth ++ [1 + (i : Int)], rfl, (hi (i + 1) r[i] us[i] hr1 hu1).same s4, hle, hsh, hq2, (by rw [List.length_append, List.length_singleton]; omega), fun e H5 s5 => ⟨s4.trans s5, fun j t hj ht => ?_, _, rfl⟩, fun rel e d r2 H5 s5 hd hr2 => ?_⟩
                        · by_cases hji : j < i
                          · exact hno j t hji ht
                          · have : j = i := by omega
                            subst this
                            rw [hr1] at ht
                            cases ht
                            exact e
                        · have e1 := ef1 _ (fltL_at (k := 1) hno hr1 e)
                          refine k0 _ e1 d r2 H5 (s4.trans s5) hd ?_
                          rw [List.append_assoc] at hr2
                          exact hr2
                      refine ⟨_, rfl, _, rfl, p, _, _, us[i], rfl, rfl, SqT.of (sc _ _ hp), (by rw [show (1 + (i : Int)) = ((i + 1 : Nat) : Int) by omega]; exact atI_nat hu1), ?_⟩
                      refine ⟨_, rfl, _, rfl, (by show 1 ≤ sizeLine; decide), fun q1 hq1 => ?_⟩
                      have s4 := sc.trans (Rd.Same.upd (o := .tup [.int (1 + (i : Int))]) hq1)
                      refine ⟨q, q1, _, _, rfl, rfl, SqT.kept hq s4, SqT.of upd_same, (by rw [List.length_map, List.length_singleton]; have : 1000 ≤ sizeLine := by decide
                                                                                          omega), fun e => fin s4 ?_, (fun _ e => by cases e), fun _ _ q2 hq2 => fin (s4.trans (Rd.Same.upd hq2)) ?_⟩
                      · have e : pth = [] := List.map_eq_nil_iff.mp e
                        subst e
                        exact SqT.of upd_same
                      · rw [List.map_append]
                        exact SqT.of upd_same
                    · rintro σ Hc ⟨sc, hno, t2, rfl⟩
                      have hall : ∀ (j : Nat) t, r[j]? = some t → flt (n + 1) t = none := fun j t ht => by
                        have := (List.getElem?_eq_some_iff.mp ht).1
                        exact hno j t (by rw [List.length_cons]; omega) ht
                      have ef2 := ef0 (fltL_none hall)
                      have hpc := sc _ _ hp
                      try dsimp only
                      by_cases hlk : h = "lock"
                      · subst hlk
                        have em : m = 2 := by
                          have z : sgv.lookup ("lock" : Str) = some 2 := by decide +kernel
                          rw [z] at hm
                          exact (Option.some.inj hm).symm
                        subst em
                        have hr2 : r.length = 2 := by omega
                        obtain ⟨x1, x2, rfl⟩ : ∃ x1 x2, r = [x1, x2] := by
                          match r, hr2 with
                          | [x1, x2], _ => exact ⟨x1, x2, rfl⟩
                        obtain ⟨u1, u2, rfl⟩ : ∃ u1 u2, us = [u1, u2] := by
                          match us, hl3 with
                          | [u1, u2], _ => exact ⟨u1, u2, rfl⟩
                        · skip
                          obtain ⟨h2, r2, rfl⟩ := flt_hd (hall 1 x2 rfl)
                          obtain ⟨p2, us2, rfl, hp2, hl4, hi4⟩ := ((hi 2 _ u2 rfl rfl).same sc).tup_inv
                          cases us2 with
                          | nil => cases hl4
                          | cons u3 us2 =>
                            obtain rfl := (hi4 0 (.str h2) u3 rfl rfl).str_inv
                            refine oneIf (b := (true && !decide (h2 ∈ (["open", "own"] : List Str)))) (tb_and (b := true) (c := !decide (h2 ∈ (["open", "own"] : List Str))) (fun Q2 kq => ⟨_, rfl, p, _, _, _, rfl, rfl, SqT.of hpc, at_of (j := 0) rfl rfl, rfl, _, rfl, kq _ (Same.refl _)⟩) (fun H3 s3 _ Q2 kq => ⟨_, rfl, p, _, _, _, rfl, rfl, SqT.of (s3 _ _ hpc), at_of (j := 2) rfl rfl, p2, _, _, _, rfl, rfl, SqT.of (s3 _ _ hp2), at_of (j := 0) rfl rfl, (by show 2 ≤ sizeLine; decide), fun q3 hq3 => ⟨_, q3, ["open", "own"], rfl, rfl, SqT.of upd_same, _, rfl, kq _ (Rd.Same.upd hq3)⟩⟩)) fun H3 s3 => ?_
                            have ek : keyTh [x1, .tup (.str h2 :: r2)] = decide (h2 ∈ (["open", "own"] : List Str)) := rfl
                            rw [← ek]
                            cases hky : keyTh [x1, .tup (.str h2 :: r2)] with
                            | true =>
                              rw [if_neg (fun z => by rw [hky] at z; cases z.2)] at ef2
                              exact iteF (nxt (k1 ef2 H3 (sc.trans s3)))
                            | false =>
                              rw [if_pos ⟨rfl, hky⟩] at ef2
                              exact iteT (rz (sc.trans s3) ef2 rfl)
                      · rw [if_neg (fun z => hlk z.1)] at ef2
                        refine oneIf (b := false) (tb_and (b := false) (c := false) (fun Q2 kq => ⟨_, rfl, p, _, _, _, rfl, rfl, SqT.of hpc, at_of (j := 0) rfl rfl, rfl, _, rfl, ?_⟩) (fun _ _ z => by cases z)) fun H3 s3 => iteF (nxt (k1 ef2 H3 (sc.trans s3)))
                        rw [decide_eq_false (fun z => hlk (by cases z; rfl))]
                        exact kq _ (Same.refl _)
          | non => exact seqIf (tb_or (b := false) (c := (false || !false)) (tb_not (b := true) fun Q2 kq => ⟨_, rfl, .ref p, .ty "tuple", _, _, _, rfl, .ty "tuple", it.tyx, isi_th (.inl rfl), _, rfl, kq _ (Same.refl _)⟩) (fun H2 s2 _ => tb_or (b := false) (c := !false) (fun Q2 kq => ⟨_, rfl, p, _, rfl, .inr (SqT.of (s2 _ _ hp)), rfl, _, rfl, (by
              rw [decide_eq_false (fun z => by
                rw [V.int.injEq, List.length_cons] at z
                omega)]
              exact kq _ (Same.refl _))⟩) (fun H3 s3 _ => tb_not (b := false) fun Q2 kq => ⟨_, rfl, p, _, _, _, rfl, rfl, SqT.of (s3 _ _ (s2 _ _ hp)), at_of (j := 0) rfl rfl, _, .ty "str", _, _, _, rfl, .ty "str", (i0.same (s2.trans s3)).tyx, isi_th (.inr rfl), _, rfl, (by rw [show decide (_ = ("str" : String)) = false from (by show decide (("NoneType" : String) = "str") = false; decide)]; exact kq _ (Same.refl _))⟩))) fun H1 s1 => iteT (rz s1 (by rfl) rfl)
          | int m => exact seqIf (tb_or (b := false) (c := (false || !false)) (tb_not (b := true) fun Q2 kq => ⟨_, rfl, .ref p, .ty "tuple", _, _, _, rfl, .ty "tuple", it.tyx, isi_th (.inl rfl), _, rfl, kq _ (Same.refl _)⟩) (fun H2 s2 _ => tb_or (b := false) (c := !false) (fun Q2 kq => ⟨_, rfl, p, _, rfl, .inr (SqT.of (s2 _ _ hp)), rfl, _, rfl, (by
              rw [decide_eq_false (fun z => by
                rw [V.int.injEq, List.length_cons] at z
                omega)]
              exact kq _ (Same.refl _))⟩) (fun H3 s3 _ => tb_not (b := false) fun Q2 kq => ⟨_, rfl, p, _, _, _, rfl, rfl, SqT.of (s3 _ _ (s2 _ _ hp)), at_of (j := 0) rfl rfl, _, .ty "str", _, _, _, rfl, .ty "str", (i0.same (s2.trans s3)).tyx, isi_th (.inr rfl), _, rfl, (by rw [show decide (_ = ("str" : String)) = false from (by show decide (("int" : String) = "str") = false; decide)]; exact kq _ (Same.refl _))⟩))) fun H1 s1 => iteT (rz s1 (by rfl) rfl)
          | tup m => exact seqIf (tb_or (b := false) (c := (false || !false)) (tb_not (b := true) fun Q2 kq => ⟨_, rfl, .ref p, .ty "tuple", _, _, _, rfl, .ty "tuple", it.tyx, isi_th (.inl rfl), _, rfl, kq _ (Same.refl _)⟩) (fun H2 s2 _ => tb_or (b := false) (c := !false) (fun Q2 kq => ⟨_, rfl, p, _, rfl, .inr (SqT.of (s2 _ _ hp)), rfl, _, rfl, (by
              rw [decide_eq_false (fun z => by
                rw [V.int.injEq, List.length_cons] at z
                omega)]
              exact kq _ (Same.refl _))⟩) (fun H3 s3 _ => tb_not (b := false) fun Q2 kq => ⟨_, rfl, p, _, _, _, rfl, rfl, SqT.of (s3 _ _ (s2 _ _ hp)), at_of (j := 0) rfl rfl, _, .ty "str", _, _, _, rfl, .ty "str", (i0.same (s2.trans s3)).tyx, isi_th (.inr rfl), _, rfl, (by rw [show decide (_ = ("str" : String)) = false from (by show decide (("tuple" : String) = "str") = false; decide)]; exact kq _ (Same.refl _))⟩))) fun H1 s1 => iteT (rz s1 (by rfl) rfl)
          | lst m => exact seqIf (tb_or (b := false) (c := (false || !false)) (tb_not (b := true) fun Q2 kq => ⟨_, rfl, .ref p, .ty "tuple", _, _, _, rfl, .ty "tuple", it.tyx, isi_th (.inl rfl), _, rfl, kq _ (Same.refl _)⟩) (fun H2 s2 _ => tb_or (b := false) (c := !false) (fun Q2 kq => ⟨_, rfl, p, _, rfl, .inr (SqT.of (s2 _ _ hp)), rfl, _, rfl, (by
              rw [decide_eq_false (fun z => by
                rw [V.int.injEq, List.length_cons] at z
                omega)]
              exact kq _ (Same.refl _))⟩) (fun H3 s3 _ => tb_not (b := false) fun Q2 kq => ⟨_, rfl, p, _, _, _, rfl, rfl, SqT.of (s3 _ _ (s2 _ _ hp)), at_of (j := 0) rfl rfl, _, .ty "str", _, _, _, rfl, .ty "str", (i0.same (s2.trans s3)).tyx, isi_th (.inr rfl), _, rfl, (by rw [show decide (_ = ("str" : String)) = false from (by show decide (("list" : String) = "str") = false; decide)]; exact kq _ (Same.refl _))⟩))) fun H1 s1 => iteT (rz s1 (by rfl) rfl)
    | _ =>
      refine seqIf (b := true) (tb_or (b := true) (c := true) (tb_not (b := false) fun Q2 kq => ⟨_, rfl, v, .ty "tuple", _, _, _, rfl, .ty "tuple", it.tyx, isi_th (.inl rfl), _, rfl, kq _ (Same.refl _)⟩) (fun _ _ h => by cases h)) fun H1 s1 => iteT (rz s1 (by rfl) rfl)
theorem chk_none (T : Tx w K mg) : Fk P w K mg base (L2N.CX P w) 1 "check_form" ["form", "path"] (spCR K 0) := by
  refine T.F_check_form.ok sc_check_form (fun _ _ _ _ _ _ us hl => match us, hl with | [_, _], _ => rfl) (fun vs H Q E h => h.elim) (fun cdv A outer s H vs Q E hr h => h.elim)
theorem ok_check_form (T : Tx w K mg) : ∀ n : Nat, Fk P w K mg base (L2N.CX P w) (n + 5) "check_form" ["form", "path"] (sp_chk K n)
  | 0 => chk_step T 0 ((chk_none T).mono (by decide))
  | n + 1 => chk_step T (n + 1) (ok_check_form T n)
/-- Letter.of(form) -/
def sp_of (K : PySem.W.Frag) (n : Nat) : Sp := fun vs H Q E => ∃ (v : V) (t : Th) (q0 : Addr), vs = [v] ∧ IsTh q0 H t v ∧ t.le n ∧ t.short n ∧ n ≤ 100 ∧
  (flt (n + 1) t = none → ∀ x H', Same H H' → IsL K H' x v → Q (.ref x) H') ∧
  ∀ rel, flt (n + 1) t = some rel → ∀ d r H', Same H H' → H' d = some (.xd [("path", .ref r)]) → SqT K H' r (rel.map V.int) → E (.ref (He.ga K "BadForm")) (some d) H'
abbrev s_Letter_of : Stmt := inClass (top 26) 1
theorem sc_Letter_of : FnScope ["form"] ["form"] (defScope s_Letter_of) := ⟨rfl, rfl, rfl, by decide +kernel, rfl, by decide +kernel, by decide +kernel⟩
theorem ok_of (T : Tx w K mg) (d : Nat) : Fs P w K mg base (L2N.CX P w) (d + 6) "Letter" "of" "Letter.of" (inClass (top 26) 1) ["form"] (sp_of K d) := by
  refine T.S_Letter_of.ok sc_Letter_of (fun _ _ _ _ _ _ us hl => match us, hl with | [_], _ => rfl)
    (fun vs H Q E h => ?_) (fun cdv A outer s H vs Q E hr h => ?_)
  · obtain ⟨v, t, q0, rfl, _⟩ := h
    rfl
  · obtain ⟨v, t, q0, rfl, it, le, sh, hn, k1, k0⟩ := h
    refine ⟨_, (pss_cons (ps_expr (pe_fk (ok_check_form T d) (hr.mono (by omega)) rfl (L2N.passes_call (L2N.takes_of rfl rfl rfl rfl) (fun _ _ _ _ h => h)) (pa_cons (pv 0) (pa_cons (pe_tup pa_nil) pa_nil))))
  (pss_one (ps_ret (pe_mk2 (ok_Letter T) (hr.mono (by omega)) (by rfl) passN (pa_cons pe_str (pa_cons (pv 0) pa_nil)))))), ?_⟩
    refine ⟨_, rfl, (by show 0 ≤ sizeLine; decide), fun q hq => ?_⟩
    have s1 := Rd.Same.upd (o := .tup []) hq
    refine ⟨v, t, q0, q, [], rfl, it.same s1, le, sh, SqT.of upd_same, (by show 0 + d ≤ 100; omega), fun e H2 s2 => ?_, fun rel e dd r H2 s2 hd hr2 => k0 rel e dd r H2 (s1.trans s2) hd hr2⟩
    obtain ⟨s0, r0, rfl⟩ := flt_hd e
    obtain ⟨p, us, rfl, hp, _⟩ := it.tup_inv
    exact ⟨_, rfl, rd_mkL ((s1.trans s2) _ _ hp) fun x H' s' hl' => k1 e x H' ((s1.trans s2).trans s') hl'⟩
end
end Rd
namespace Rd
open PySem L2
section
variable {P : Program} {w : World} {K : PySem.W.Frag} {mg : Str → Option Value} {base : Heap}
theorem bls_of {vs : List V} {b : Bool} (h : ∀ (i : Nat) v, vs[i]? = some v → v = .bl b) : vs = (List.replicate vs.length b).map V.bl := by
  refine List.ext_getElem? fun i => ?_
  rw [List.getElem?_map]
  by_cases hi : i < vs.length
  · rw [List.getElem?_eq_getElem hi, h i _ (List.getElem?_eq_getElem hi), List.getElem?_replicate, if_pos hi]
    rfl
  · rw [List.getElem?_eq_none (by omega), List.getElem?_replicate, if_neg hi]
    rfl
theorem any_rep (n : Nat) : (List.replicate n false).any id = false := by
  rw [List.any_eq_false]
  intro x hx
  rw [(List.mem_replicate.mp hx).2]
  decide
theorem Wf.short {t : Tr} (w : Wf t) : ∀ n, t.dep + 1 ≤ n → t.th.short n := by
  have kd : ∀ {k x : Str}, kindOk k x → k.length ≤ 200000 ∧ x.length ≤ 200000 := fun {k x} h => by
    rcases h with ⟨rfl, h⟩ | ⟨rfl, h⟩ | ⟨rfl, h⟩
    · exact ⟨by decide, by have := (word_len h).2.1; omega⟩
    · exact ⟨by decide, by have := (name_len h).1; omega⟩
    · exact ⟨by decide, by have := (unk_len h).1; omega⟩
  have st : ∀ {n : Nat} {s : Str}, s.length ≤ 200000 → (Th.str s).short n := fun {n s} h => by cases n <;> exact h
  have sg : ∀ {s : Str} {l : List Str}, s ∈ l → l.all (fun z => decide (z.length ≤ 200000)) = true → s.length ≤ 200000 := fun {s l} h e => of_decide_eq_true (List.all_eq_true.mp e s h)
  induction w with
  | @am k x ko =>
    intro n h
    cases n with
    | zero => omega
    | succ n =>
      refine ⟨(by show 2 ≤ 1000; decide), fun u hu => ?_⟩
      rcases List.mem_cons.mp hu with rfl | hu
      · exact st (kd ko).1
      · rw [List.mem_singleton.mp hu]
        exact st (kd ko).2
  | @un s a hs _ ih =>
    intro n h
    have h : a.dep + 1 + 1 ≤ n := h
    cases n with
    | zero => omega
    | succ n =>
      refine ⟨(by show 2 ≤ 1000; decide), fun u hu => ?_⟩
      rcases List.mem_cons.mp hu with rfl | hu
      · exact st (sg hs (by decide))
      · rw [List.mem_singleton.mp hu]
        exact ih n (by omega)
  | @bi s a b hs _ _ iha ihb =>
    intro n h
    have h : max a.dep b.dep + 1 + 1 ≤ n := h
    cases n with
    | zero => omega
    | succ n =>
      refine ⟨(by show 3 ≤ 1000; decide), fun u hu => ?_⟩
      rcases List.mem_cons.mp hu with rfl | hu
      · exact st (sg hs (by decide))
      rcases List.mem_cons.mp hu with rfl | hu
      · exact iha n (by omega)
      · rw [List.mem_singleton.mp hu]
        exact ihb n (by omega)
  | @lk s a b hs _ _ iha ihb =>
    intro n h
    have h : max a.dep (b.dep + 1) + 1 + 1 ≤ n := h
    cases n with
    | zero => omega
    | succ n =>
      refine ⟨(by show 3 ≤ 1000; decide), fun u hu => ?_⟩
      rcases List.mem_cons.mp hu with rfl | hu
      · exact st (by decide)
      rcases List.mem_cons.mp hu with rfl | hu
      · exact iha n (by omega)
      · rw [List.mem_singleton.mp hu]
        cases n with
        | zero => omega
        | succ n =>
          refine ⟨(by show 2 ≤ 1000; decide), fun u hu => ?_⟩
          rcases List.mem_cons.mp hu with rfl | hu
          · exact st (sg hs (by decide))
          · rw [List.mem_singleton.mp hu]
            exact ihb n (by omega)
def sp_right : Sp := fun vs H Q _ => ∃ (v : V) (t : Tr), vs = [v] ∧ IsT H t v ∧ Wf t ∧ t.dep ≤ 8 ∧ ∀ H', Same H H' → Q (.bl true) H'
end
end Rd
namespace Rd
open PySem L2
theorem pe_new {X : Cx} {CX : CXT} {k : Nat} {c : Str} {ps : List Str} {sp : Sp} {e : Expr} {es : List Expr} {t : TA} {p pos : Pos} {E : XK} (M : Mk X.K (He.ga X.K c) (He.ma X.K (He.ga X.K c) "__init__")) (g : X.mg c = some (.ref (He.ga X.K c))) (F : Fm X.prog X.w X.K X.mg X.base CX k c "__init__" ps sp) (hr : Room (k + 1) X.A) (hg : Gl X c) (hx : Passes CX X E) (ha : PA X (e :: es) t)
    (hdb : (c == ("__debug__" : Str)) = false := by decide) (he : starEach (e :: es) X.env = (false, eval e X.env) :: starEach es X.env := by rfl) (hpl : (backTo pos (starEach es X.env)).any (·.1) = false := by rfl) :
    PE X (.Call (.Name c p) (e :: es) [] pos) (tMake (He.ga X.K c) sp [] E t) := by
  obtain ⟨⟨fd, a, b⟩, me⟩ := F
  exact pe_make M a hr hg g b .nil hx ha hdb he hpl
section
variable {X : Cx} {CX : CXT} {k : Nat} {ps : List Str} {sp : Sp} {E : XK} {c : Str} {p pos : Pos} {e : Expr} {es : List Expr} {t : TA} {v : V} {K : PySem.W.Frag}
theorem pe_mk2k (hK : X.K = K) (F : Fi X.prog X.w X.K X.mg X.base CX k c ps sp v) (hr : Room (k + 1) X.A) (hg : Gl X c) (hx : Passes CX X E)
    (ha : PA X (e :: es) t) (hdb : (c == ("__debug__" : Str)) = false := by decide) (he : starEach (e :: es) X.env = (false, eval e X.env) :: starEach es X.env := by rfl) (hpl : (backTo pos (starEach es X.env)).any (·.1) = false := by rfl) :
    PE X (.Call (.Name c p) (e :: es) [] pos) (tMake (He.ga K c) sp [] E t) := by subst hK; exact pe_mk2 F hr hg hx ha hdb he hpl
end
/-- a list of letters -/
structure LsAt (K : PySem.W.Frag) (H : Hp) (ts : List Tr) (vs : List V) : Prop where
  len : vs.length = ts.length
  get : ∀ (i : Nat) t v, ts[i]? = some t → vs[i]? = some v → IsLet K H t v
theorem LsAt.mono {K : PySem.W.Frag} {H H' : Hp} {ts : List Tr} {vs : List V} (k : Kp (He.ga K "Letter") H H') (h : LsAt K H ts vs) : LsAt K H' ts vs := ⟨h.len, fun i t v h1 h2 => (h.get i t v h1 h2).mono k⟩
theorem LsAt.same {K : PySem.W.Frag} {H H' : Hp} {ts : List Tr} {vs : List V} (s : Same H H') (h : LsAt K H ts vs) : LsAt K H' ts vs := h.mono (Kp.of_same s)
theorem LsAt.one {K : PySem.W.Frag} {H : Hp} {t : Tr} {v : V} (h : IsLet K H t v) : LsAt K H [t] [v] := ⟨rfl, fun i t' v' h1 h2 => by
  cases i with
  | zero => cases h1; cases h2; exact h
  | succ i => cases i <;> cases h1⟩
theorem LsAt.app {K : PySem.W.Frag} {H : Hp} {ts us : List Tr} {vs ws : List V} (h : LsAt K H ts vs) (g : LsAt K H us ws) : LsAt K H (ts ++ us) (vs ++ ws) := ⟨by rw [List.length_append, List.length_append, h.len, g.len], fun i t v h1 h2 => by
  by_cases hi : i < ts.length
  · rw [List.getElem?_append_left hi] at h1
    rw [List.getElem?_append_left (by rw [h.len]; exact hi)] at h2
    exact h.get i t v h1 h2
  · rw [List.getElem?_append_right (by omega)] at h1
    rw [List.getElem?_append_right (by rw [h.len]; omega), h.len] at h2
    exact g.get _ t v h1 h2⟩
theorem LsAt.of {K : PySem.W.Frag} {H : Hp} {ts : List Tr} {vs : List V} (hl : vs.length = ts.length) (h : ∀ (i : Nat) v, vs[i]? = some v → ∃ t, ts[i]? = some t ∧ IsLet K H t v) : LsAt K H ts vs := ⟨hl, fun i t v h1 h2 => by
  obtain ⟨t', e, q⟩ := h i v h2
  rw [h1] at e
  cases e
  exact q⟩
theorem TsAt.of {H : Hp} {ts : List Tr} {vs : List V} (hl : vs.length = ts.length) (h : ∀ (i : Nat) v, vs[i]? = some v → ∃ t, ts[i]? = some t ∧ IsT H t v) : TsAt H ts vs := ⟨hl, fun i t v h1 h2 => by
  obtain ⟨t', e, q⟩ := h i v h2
  rw [h1] at e
  cases e
  exact q⟩
/-- the heap at h holds the forms ts -/
def IsHp (K : PySem.W.Frag) (H : Hp) (h : Addr) (ts : List Tr) : Prop := ∃ dx q ws, H h = some (.ins (He.ga K "Heap") dx [("trees", .ref q)]) ∧ H q = some (.lst ws) ∧ TsAt H ts ws
theorem IsHp.same {K : PySem.W.Frag} {H H' : Hp} {h : Addr} {ts : List Tr} (s : Same H H') (x : IsHp K H h ts) : IsHp K H' h ts := by
  obtain ⟨dx, q, ws, a, b, c⟩ := x
  exact ⟨dx, q, ws, s _ _ a, s _ _ b, c.same s⟩
theorem lookTr (v : V) : ([("trees", v)] : List (Str × V)).lookup ("trees" : Str) = some v := by simp [List.lookup]
theorem lookTn {m : Str} {v : V} (h : (m == ("trees" : Str)) = false) : ([("trees", v)] : List (Str × V)).lookup m = none := by simp [List.lookup, h]
def plainT (t : Tr) : Prop := t.txt "unknown" = []
def sp_isPlain (K : PySem.W.Frag) (d : Nat) : Sp := fun vs H Q _ => ∃ (a : Addr) (v : V) (t : Tr), vs = [.ref a] ∧ IsL K H a v ∧ IsT H t v ∧ Wf t ∧ t.dep ≤ d ∧ d ≤ 10 ∧ plainT t ∧ ∀ H', Same H H' → Q (.bl true) H'
def sp_chkPlain (K : PySem.W.Frag) (d : Nat) : Sp := fun vs H Q _ => ∃ (a : Addr) (v i : V) (t : Tr), vs = [.ref a, i] ∧ IsL K H a v ∧ IsT H t v ∧ Wf t ∧ t.dep ≤ d ∧ d ≤ 10 ∧ plainT t ∧ ∀ H', Same H H' → Q .non H'
def okTs (d : Nat) (ts : List Tr) : Prop := ts.length ≤ 1000 ∧ ∀ t ∈ ts, Wf t ∧ t.dep ≤ d ∧ plainT t
def sp_Hinit (K : PySem.W.Frag) (d : Nat) : Sp := fun vs H Q _ => ∃ (x dx a : Addr) (ws : List V) (ts : List Tr), vs = [.ref x, .ref a] ∧ H x = some (.ins (He.ga K "Heap") dx []) ∧ H a = some (.lst ws) ∧ LsAt K H ts ws ∧ okTs d ts ∧ d ≤ 10 ∧
  ∀ q us H', But x H H' → H q = none → H' x = some (.ins (He.ga K "Heap") dx [("trees", .ref q)]) → H' q = some (.lst us) → TsAt H' ts us → Q .non H'
def sp_letters (K : PySem.W.Frag) : Sp := fun vs H Q _ => ∃ (h : Addr) (ts : List Tr), vs = [.ref h] ∧ IsHp K H h ts ∧ ts.length ≤ 1000 ∧ ∀ q us H', Same H H' → H q = none → H' q = some (.lst us) → LsAt K H' ts us → Q (.ref q) H'
def bigTs (d : Nat) (ts : List Tr) : Prop := ∃ S, (∀ t ∈ ts, Wf t ∧ t.dep ≤ d ∧ t.all.length ≤ S) ∧ 2 * ((allOf ts).length * S) ≤ 100000 ∧ (allOf ts).length ≤ 50000
def sp_partsH (K : PySem.W.Frag) (d : Nat) : Sp := fun vs H Q _ => ∃ (h : Addr) (ts : List Tr), vs = [.ref h] ∧ IsHp K H h ts ∧ bigTs d ts ∧ d ≤ 12 ∧ ∀ q us os H', Same H H' → H q = none → H' q = some (.lst us) → LsAt K H' os us → IsOpen ts os → os.Nodup → Q (.ref q) H'
def sp_addH (K : PySem.W.Frag) (d : Nat) : Sp := fun vs H Q _ => ∃ (h a : Addr) (v : V) (ts : List Tr) (t : Tr), vs = [.ref h, .ref a] ∧ IsHp K H h ts ∧ IsL K H a v ∧ IsT H t v ∧ okTs d (ts ++ [t]) ∧ d ≤ 10 ∧ ∀ h' H', Same H H' → IsHp K H' h' (ts ++ [t]) → Q (.ref h') H'
def sp_hasH (K : PySem.W.Frag) (d e : Nat) : Sp := fun vs H Q _ => ∃ (h a : Addr) (v : V) (ts : List Tr) (t : Tr), vs = [.ref h, .ref a] ∧ IsHp K H h ts ∧ bigTs d ts ∧ d ≤ 12 ∧ IsL K H a v ∧ IsT H t v ∧ Wf t ∧ t.dep ≤ e ∧ e ≤ 60 ∧ ∀ os H', Same H H' → IsOpen ts os → Q (.bl (mka os t)) H'
/-- Heap(letters) behind its argument -/
theorem rd_mkH {K : PySem.W.Frag} {H1 : Hp} {a : Addr} {ws : List V} {ts : List Tr} {d : Nat} {Q : VK} {E : XK} (ha : H1 a = some (.lst ws)) (hl : LsAt K H1 ts ws) (ok : okTs d ts) (hd : d ≤ 10)
    (k : ∀ h H', Same H1 H' → IsHp K H' h ts → Q (.ref h) H') :
    ∀ x dx, H1 x = none → H1 dx = none → dx ≠ x → sp_Hinit K d (.ref x :: ([.ref a] ++ [])) (upd (upd H1 dx (.own x)) x (.ins (He.ga K "Heap") dx [])) (fun v H2 => v = .non ∧ Q (.ref x) H2) E := fun x dx nx ndx ne => by
  have s0 : Same H1 (upd (upd H1 dx (.own x)) x (.ins (He.ga K "Heap") dx [])) := fun b o e => by
    rw [upd_ne (ne_of_none e nx), upd_ne (ne_of_none e ndx)]
    exact e
  exact ⟨x, dx, a, ws, ts, rfl, upd_same, s0 _ _ ha, hl.same s0, ok, hd, fun q us H' b nq hx hq ht => ⟨rfl, k x H' (fun c o e => b c o (ne_of_none e nx) (s0 _ _ e)) ⟨dx, q, us, hx, hq, ht⟩⟩⟩
section
variable {P : Program} {w : World} {K : PySem.W.Frag} {mg : Str → Option Value} {base : Heap}
abbrev s_is_plain : Stmt := top 27
theorem sc_is_plain : FnScope ["letter"] ["letter"] (defScope s_is_plain) := ⟨rfl, rfl, rfl, by decide +kernel, rfl, by decide +kernel, by decide +kernel⟩
theorem ok_is_plain (T : Tx w K mg) (d : Nat) : Fk P w K mg base CX0 (d + 5) "is_plain" ["letter"] (sp_isPlain K d) := by
  refine T.F_is_plain.ok0 sc_is_plain (fun _ _ _ _ _ _ us hl => match us, hl with | [_], _ => rfl)
    (fun vs H Q E h => ?_) (fun cdv A outer s H vs Q E hr h => ?_)
  · obtain ⟨a, v, t, rfl, _⟩ := h
    rfl
  · obtain ⟨a, v, t, rfl, ⟨dx, ha⟩, it, wf, dp, d10, hp, k⟩ := h
    refine ⟨_, (pss_one (ps_ret (pe_cmpR (op_eqD hr.units) (pe_fm0 (pv 0) T.k_Letter (ok_unknowns T d) (hr.mono (by omega)) pass0) (pe_lst pa_nil) (nomark _)))), ?_⟩
    refine ⟨_, rfl, a, dx, _, rfl, ha, lookT (by decide +kernel), a, v, t, rfl, ⟨dx, ha⟩, it, wf, dp, d10, fun p H1 s1 np hp1 => ?_⟩
    have hp : t.txt "unknown" = [] := hp
    rw [hp] at hp1
    refine ⟨Nat.zero_le _, fun q hq => ?_⟩
    have sq := Rd.Same.upd (o := .lst []) hq
    exact ⟨.list [], .list [], .lst (SqL.of (sq _ _ hp1)) .nil, .lst (SqL.of upd_same) .nil, rfl, rfl, k _ (s1.trans sq)⟩
abbrev s_check_plain : Stmt := top 47
theorem sc_check_plain : FnScope ["letter", "index"] ["letter", "index"] (defScope s_check_plain) := ⟨rfl, rfl, rfl, by decide +kernel, rfl, by decide +kernel, by decide +kernel⟩
theorem ok_check_plain (T : Tx w K mg) (d : Nat) : Fk P w K mg base CX0 (d + 6) "check_plain" ["letter", "index"] (sp_chkPlain K d) := by
  refine T.F_check_plain.ok0 sc_check_plain (fun _ _ _ _ _ _ us hl => match us, hl with | [_, _], _ => rfl)
    (fun vs H Q E h => ?_) (fun cdv A outer s H vs Q E hr h => ?_)
  · obtain ⟨a, v, i, t, rfl, _⟩ := h
    rfl
  · obtain ⟨a, v, i, t, rfl, hL, it, wf, dp, d10, hp, k⟩ := h
    refine ⟨_, (pss_one (ps_if (pt_not (pt_val (pe_fk (ok_is_plain T d) (hr.mono (by omega)) rfl pass0 (pa_cons (pv 0) pa_nil)))) pss_never pss_nil)), ?_⟩
    exact ⟨_, rfl, a, v, t, rfl, hL, it, wf, dp, d10, hp, fun H1 s1 => ⟨_, rfl, iteN (by decide) (k _ s1)⟩⟩
abbrev s_Heap_init : Stmt := inClass (top 48) 0
theorem sc_Heap_init : FnScope ["self", "letters", "index", "letter"] ["self", "letters"] (defScope s_Heap_init) := ⟨rfl, rfl, rfl, by decide +kernel, rfl, by decide +kernel, by decide +kernel⟩
theorem ok_Hinit (T : Tx w K mg) (d : Nat) : Fm P w K mg base CX0 (d + 7) "Heap" "__init__" ["self", "letters"] (sp_Hinit K d) := by
  refine T.M_Heap_init.ok0 sc_Heap_init (fun _ _ _ _ _ _ us hl => match us, hl with | [_, _], _ => rfl)
    (fun vs H Q E h => ?_) (fun cdv A outer s H vs Q E hr h => ?_)
  · obtain ⟨x, dx, a, ws, ts, rfl, _⟩ := h
    rfl
  · obtain ⟨x, dx, a, ws, ts, rfl, hx, ha, hl, ok, d10, k⟩ := h
    refine ⟨_, (pss_cons (ps_for PassesOwn.never rfl (pi_enum rfl T.z_enumerate (pa_cons (pv 1) pa_nil)) (pg_tup rfl (pgs_cons (pg_name (i := 2) sc_Heap_init.nd rfl (Or.inl rfl)) (pgs_cons (pg_name (i := 3) sc_Heap_init.nd rfl (Or.inl rfl)) pgs_nil)))
  (pss_one (ps_expr (pe_fk (ok_check_plain T d) (hr.mono (by omega)) rfl pass0 (pa_cons (pv 3) (pa_cons (pv 2) pa_nil))))))
  (pss_one (ps_fld (pv 0) (pe_lc (own := [("letter", 3)]) (g := gName 3) (tt := tYes) (by rfl) sc_Heap_init.nd (pi_list (pv 1)) (blkOk_by (own := [("letter", 3)]) (N := ["self", "letters", "index", "letter"]) (sc := defScope s_Heap_init) (by decide +kernel)) (fun _ _ _ _ _ => (pg_name (i := 3) sc_Heap_init.nd rfl (Or.inl rfl))) (fun _ _ _ _ _ => pts_nil) (fun _ _ _ _ _ => (pe_fldk (K := K) rfl (pv 3) rfl))) rfl))), ?_⟩
    have big : 16777216 ≤ sizeLine := by decide
    have hll := hl.len
    have hlo := ok.1
    refine ⟨_, rfl, a, ws, rfl, SqL.of ha, ?_⟩
    refine ⟨fun i m σ Hc => m = ws.length - i ∧ i ≤ ws.length ∧ (∃ t2 t3 : Option V, σ = [some (.ref x), some (.ref a), t2, t3]) ∧ Same H Hc, ⟨_, rfl, Nat.zero_le _, ⟨_, _, rfl⟩, Same.refl _⟩, ?_⟩
    rintro i m σ Hc ⟨rfl, hi, ⟨t2, t3, rfl⟩, sc⟩
    by_cases hlt : i < ws.length
    · refine .inr ⟨⟨ws, ws[i], SqL.of (sc _ _ ha), List.getElem?_eq_getElem hlt⟩, fun σ H' => (∃ t2 t3 : Option V, σ = [some (.ref x), some (.ref a), t2, t3]) ∧ Same H H', fun σ' H' h => ⟨ws.length - (i + 1), by omega, rfl, hlt, h⟩, ?_⟩
      rintro _ _ ⟨Tq, v, rfl, hT, rfl, gx⟩
      have ex := gx _ (SqL.of (sc _ _ ha))
      have ht : ts[i]? = some ts[i] := List.getElem?_eq_getElem (by omega)
      obtain ⟨w1, w2, w3⟩ := ok.2 _ (List.mem_of_getElem? ht)
      obtain ⟨b, u, rfl, hb, iu⟩ := hl.get i _ v ht ex
      have sT := sc.trans (Rd.Same.upd (o := .tup [.int (i : Nat), .ref b]) hT)
      refine ⟨Tq, [.int (i : Nat), .ref b], rfl, SqT.of upd_same, rfl, _, _, rfl, _, _, rfl, rfl, ?_⟩
      exact ⟨_, rfl, _, rfl, b, u, _, ts[i], rfl, hb.same sT, iu.same sT, w1, w2, d10, w3, fun H2 s2 => ⟨⟨_, _, rfl⟩, sT.trans s2⟩⟩
    · refine .inl ⟨⟨ws, SqL.of (sc _ _ ha), by omega⟩, ?_⟩
      try dsimp only
      refine ⟨_, rfl, a, rfl, ⟨_, SqL.of (sc _ _ ha)⟩, fun D hD => ?_⟩
      refine lcl (C := He.ga K "Letter") (fun i H v => ∃ t, ts[i]? = some t ∧ IsT H t v) (fun i H H' v kp ⟨t, e, h⟩ => ⟨t, e, h.mono kp⟩) (SqL.of (sc _ _ ha)) (by omega) hD (fun i y H2 Q2 hy s2 k2 => ?_) fun vs H2 s2 hD2 hv2 hvs => ?_
      · have hil := (List.getElem?_eq_some_iff.mp hy).1
        have ht : ts[i]? = some ts[i] := List.getElem?_eq_getElem (by omega)
        obtain ⟨b, u, rfl, ⟨db, hb⟩, iu⟩ := hl.get i _ y ht hy
        have sT := sc.trans s2
        exact ⟨_, rfl, b, _, db, _, u, rfl, sT _ _ hb, T.k_Letter, T.n_Letter_tree, look1 _, k2 _ _ (Same.refl _) ⟨_, ht, iu.same sT⟩⟩
      · have sT := sc.trans s2
        refine ⟨_, rfl, x, _, dx, [], rfl, sT _ _ hx, T.k_Heap, T.n_Heap_trees, (by show 0 < 1000; decide), ?_⟩
        have nDx : D ≠ x := fun z => by rw [z, sc _ _ hx] at hD; cases hD
        have nDH : H D = none := sc.free hD
        have kp : Kp (He.ga K "Letter") H2 (upd H2 x (.ins (He.ga K "Heap") dx [("trees", .ref D)])) := fun c o hi e => by
          rw [upd_ne (fun z => by rw [z, sT _ _ hx] at e; cases e; exact T.B_Heap.ne (of_decide_eq_true hi))]
          exact e
        exact k D vs _ (fun c o hc e => by rw [upd_ne hc]; exact sT _ _ e) nDH upd_same (by rw [upd_ne nDx]; exact hD2) ((TsAt.of (hv2.trans hll) hvs).mono kp)
abbrev s_Heap_letters : Stmt := inClass (top 48) 1
theorem sc_Heap_letters : FnScope ["self", "tree"] ["self"] (defScope s_Heap_letters) := ⟨rfl, rfl, rfl, by decide +kernel, rfl, by decide +kernel, by decide +kernel⟩
theorem ok_letters (T : Tx w K mg) : Fm P w K mg base CX0 6 "Heap" "letters" ["self"] (sp_letters K) := by
  refine T.M_Heap_letters.ok0 sc_Heap_letters (fun _ _ _ _ _ _ us hl => match us, hl with | [_], _ => rfl)
    (fun vs H Q E h => ?_) (fun cdv A outer s H vs Q E hr h => ?_)
  · obtain ⟨h, ts, rfl, _⟩ := h
    rfl
  · obtain ⟨h, ts, rfl, ⟨dx, q, ws, hh, hq, hts⟩, hl, k⟩ := h
    refine ⟨_, (pss_one (ps_ret (pe_lc (own := [("tree", 1)]) (g := gName 1) (tt := tYes) (by rfl) sc_Heap_letters.nd (pi_list (pe_fld (pv 0) rfl)) (blkOk_by (own := [("tree", 1)]) (N := ["self", "tree"]) (sc := defScope s_Heap_letters) (by decide +kernel)) (fun _ _ _ _ _ => (pg_name (i := 1) sc_Heap_letters.nd rfl (Or.inl rfl))) (fun _ _ _ _ _ => pts_nil) (fun _ _ _ _ _ => (pe_mk2k (K := K) rfl (ok_Letter T) (hr.mono (by omega)) (by rfl) passN (pa_cons pe_str (pa_cons (pv 1) pa_nil))))))), ?_⟩
    have htl := hts.len
    refine ⟨_, rfl, h, _, dx, _, _, rfl, hh, T.k_Heap, T.n_Heap_trees, lookTr _, q, rfl, ⟨_, SqL.of hq⟩, fun D hD => ?_⟩
    refine lcl (C := He.ga K "Letter") (fun i H v => ∃ t, ts[i]? = some t ∧ IsLet K H t v) (fun i H H' v kp ⟨t, e, h⟩ => ⟨t, e, h.mono kp⟩) (SqL.of hq) (by omega) hD (fun i y H2 Q2 hy s2 k2 => ?_) fun vs H2 s2 hD2 hv2 hvs => ?_
    · have hil := (List.getElem?_eq_some_iff.mp hy).1
      have ht : ts[i]? = some ts[i] := List.getElem?_eq_getElem (by omega)
      have iu := (hts.get i _ y ht hy).same s2
      obtain ⟨p, us, rfl, hp⟩ := iu.hd
      exact ⟨_, rfl, rd_mkL hp fun x' H' s' hl' => k2 _ H' s' ⟨_, ht, x', _, rfl, hl', iu.same s'⟩⟩
    · exact k D vs H2 s2 hD hD2 (LsAt.of (hv2.trans htl) hvs)
abbrev s_Heap_parts : Stmt := inClass (top 48) 2
theorem sc_Heap_parts : FnScope ["self", "tree"] ["self"] (defScope s_Heap_parts) := ⟨rfl, rfl, rfl, by decide +kernel, rfl, by decide +kernel, by decide +kernel⟩
theorem ok_parts (T : Tx w K mg) (d : Nat) : Fm P w K mg base CX0 (d + 7) "Heap" "parts" ["self"] (sp_partsH K d) := by
  refine T.M_Heap_parts.ok0 sc_Heap_parts (fun _ _ _ _ _ _ us hl => match us, hl with | [_], _ => rfl)
    (fun vs H Q E h => ?_) (fun cdv A outer s H vs Q E hr h => ?_)
  · obtain ⟨h, ts, rfl, _⟩ := h
    rfl
  · obtain ⟨h, ts, rfl, ⟨dx, q, ws, hh, hq, hts⟩, ⟨S, b1, b2, b3⟩, d12, k⟩ := h
    refine ⟨_, (pss_one (ps_ret (pe_lc (own := [("tree", 1)]) (g := gName 1) (tt := tYes) (by rfl) sc_Heap_parts.nd (pi_list (pe_fk (ok_opened_parts T d) (hr.mono (by omega)) rfl pass0 (pa_cons (pe_fld (pv 0) rfl) pa_nil))) (blkOk_by (own := [("tree", 1)]) (N := ["self", "tree"]) (sc := defScope s_Heap_parts) (by decide +kernel)) (fun _ _ _ _ _ => (pg_name (i := 1) sc_Heap_parts.nd rfl (Or.inl rfl))) (fun _ _ _ _ _ => pts_nil) (fun _ _ _ _ _ => (pe_mk2k (K := K) rfl (ok_Letter T) (hr.mono (by omega)) (by rfl) passN (pa_cons pe_str (pa_cons (pv 1) pa_nil))))))), ?_⟩
    refine ⟨_, rfl, h, _, dx, _, _, rfl, hh, T.k_Heap, T.n_Heap_trees, lookTr _, q, ws, ts, S, rfl, hq, hts, b1, d12, b2, b3, fun q1 us os H1 s1 nq1 hq1 ht1 hop nd => ?_⟩
    have hos : os.length ≤ 100000 := Nat.le_trans (nodup_sub nd hop.inAll) (by omega)
    have htl := ht1.len
    refine ⟨q1, rfl, ⟨_, SqL.of hq1⟩, fun D hD => ?_⟩
    refine lcl (C := He.ga K "Letter") (fun i H v => ∃ t, os[i]? = some t ∧ IsLet K H t v) (fun i H H' v kp ⟨t, e, h⟩ => ⟨t, e, h.mono kp⟩) (SqL.of hq1) (by omega) hD (fun i y H2 Q2 hy s2 k2 => ?_) fun vs H2 s2 hD2 hv2 hvs => ?_
    · have hil := (List.getElem?_eq_some_iff.mp hy).1
      have ht : os[i]? = some os[i] := List.getElem?_eq_getElem (by omega)
      have iu := (ht1.get i _ y ht hy).same s2
      obtain ⟨p, us, rfl, hp⟩ := iu.hd
      exact ⟨_, rfl, rd_mkL hp fun x' H' s' hl' => k2 _ H' s' ⟨_, ht, x', _, rfl, hl', iu.same s'⟩⟩
    · exact k D vs os H2 (s1.trans s2) (s1.free hD) hD2 (LsAt.of (hv2.trans htl) hvs) hop nd
abbrev s_Heap_add : Stmt := inClass (top 48) 5
theorem sc_Heap_add : FnScope ["self", "letter"] ["self", "letter"] (defScope s_Heap_add) := ⟨rfl, rfl, rfl, by decide +kernel, rfl, by decide +kernel, by decide +kernel⟩
theorem ok_Hadd (T : Tx w K mg) (d : Nat) : Fm P w K mg base CX0 (d + 9) "Heap" "__add__" ["self", "letter"] (sp_addH K d) := by
  refine T.M_Heap_add.ok0 sc_Heap_add (fun _ _ _ _ _ _ us hl => match us, hl with | [_, _], _ => rfl)
    (fun vs H Q E h => ?_) (fun cdv A outer s H vs Q E hr h => ?_)
  · obtain ⟨h, a, v, ts, t, rfl, _⟩ := h
    rfl
  · obtain ⟨h, a, v, ts, t, rfl, hH, hL, it, ok, d10, k⟩ := h
    refine ⟨_, (pss_cons (ps_expr (pe_fk (ok_check_plain T d) (hr.mono (by omega)) rfl pass0 (pa_cons (pv 1) (pa_cons (pe_callB call_len_seq (by rfl) T.z_len (by decide +kernel) (pa_cons (pe_fld (pv 0) rfl) pa_nil)) pa_nil))))
  (pss_one (ps_ret (pe_new T.J_Heap T.g_Heap (ok_Hinit T d) (hr.mono (by omega)) (by rfl) pass0 (pa_cons (pe_op op_cat (pe_fm0 (pv 0) T.k_Heap (ok_letters T) (hr.mono (by omega)) pass0) (pe_lst (pa_cons (pv 1) pa_nil))) pa_nil))))), ?_⟩
    have big : 16777216 ≤ sizeLine := by decide
    obtain ⟨dx, q, ws, hh, hq, hts⟩ := id hH
    obtain ⟨w1, w2, w3⟩ := ok.2 t (by simp)
    have hlo := ok.1
    rw [List.length_append] at hlo
    refine ⟨_, rfl, _, rfl, h, _, dx, _, _, rfl, hh, T.k_Heap, T.n_Heap_trees, lookTr _, q, ws, rfl, .inl (SqL.of hq), a, v, _, t, rfl, hL, it, w1, w2, d10, w3, fun H1 s1 => ?_⟩
    try dsimp only
    refine ⟨_, rfl, h, dx, _, rfl, s1 _ _ hh, lookTn (by decide +kernel), h, ts, rfl, hH.same s1, (by omega), fun q2 us H2 s2 nq2 hq2 hl2 => ?_⟩
    refine ⟨_, rfl, (by show 1 ≤ sizeLine; decide), fun q3 hq3 => ?_⟩
    have s3 := Rd.Same.upd (o := .lst [.ref a]) hq3
    have h33 : upd H2 q3 (.lst [.ref a]) q3 = some (.lst [.ref a]) := upd_same
    generalize upd H2 q3 (.lst [.ref a]) = H3 at s3 h33 ⊢
    have hul := hl2.len
    refine ⟨q2, q3, us, [.ref a], rfl, rfl, s3 _ _ hq2, h33, (by show us.length + 1 ≤ sizeLine; omega), fun q4 hq4 => ?_⟩
    have s4 := Rd.Same.upd (o := .lst (us ++ [.ref a])) hq4
    have S4 := ((s1.trans s2).trans s3).trans s4
    have ila : IsLet K _ t (.ref a) := ⟨a, v, rfl, hL.same S4, it.same S4⟩
    exact rd_mkH upd_same (((hl2.same s3).same s4).app (LsAt.one ila)) ok d10 fun h' H' s' hp' => k h' H' (S4.trans s') hp'
abbrev s_Heap_contains : Stmt := inClass (top 48) 10
theorem sc_Heap_contains : FnScope ["self", "letter"] ["self", "letter"] (defScope s_Heap_contains) := ⟨rfl, rfl, rfl, by decide +kernel, rfl, by decide +kernel, by decide +kernel⟩
theorem ok_hasH (T : Tx w K mg) (d e : Nat) : Fm P w K mg base CX0 (d + e + 7) "Heap" "__contains__" ["self", "letter"] (sp_hasH K d e) := by
  refine T.M_Heap_contains.ok0 sc_Heap_contains (fun _ _ _ _ _ _ us hl => match us, hl with | [_, _], _ => rfl)
    (fun vs H Q E h => ?_) (fun cdv A outer s H vs Q E hr h => ?_)
  · obtain ⟨h, a, v, ts, t, rfl, _⟩ := h
    rfl
  · obtain ⟨h, a, v, ts, t, rfl, ⟨dx, q, ws, hh, hq, hts⟩, ⟨S, b1, b2, b3⟩, d12, ⟨da, ha⟩, it, wf, dp, e60, k⟩ := h
    refine ⟨_, (pss_one (ps_ret (pe_fk (ok_is_made T e) (hr.mono (by omega)) rfl pass0 (pa_cons (pe_fld (pv 1) rfl) (pa_cons (pe_fk (ok_opened_parts T d) (hr.mono (by omega)) rfl pass0 (pa_cons (pe_fld (pv 0) rfl) pa_nil)) pa_nil))))), ?_⟩
    refine ⟨_, rfl, a, _, da, _, v, rfl, ha, T.k_Letter, T.n_Letter_tree, look1 _, _, rfl, h, _, dx, _, _, rfl, hh, T.k_Heap, T.n_Heap_trees, lookTr _, q, ws, ts, S, rfl, hq, hts, b1, d12, b2, b3, fun q1 us os H1 s1 nq1 hq1 ht1 hop nd => ?_⟩
    exact ⟨v, t, q1, us, os, rfl, it.same s1, wf, dp, e60, hq1, ht1, (fun t ht => by
      obtain ⟨x1, x2, _⟩ := inAll_ok b1 (hop.inAll t ht)
      exact ⟨x1.fine, by omega⟩), fun H2 s2 => k os H2 (s1.trans s2) hop⟩
end
end Rd
namespace Rd
open PySem L2
def sp_cell (K : PySem.W.Frag) : Sp := fun vs H Q _ => ∃ (a : Addr) (ns : List Int) (k : Int), vs = [.ref a, .int k] ∧ SqL K H a (ns.map V.int) ∧ ns.length ≤ 63 ∧ 0 ≤ k ∧ ∀ c : Int, Q (.int c) H
def sp_mixed : Sp := fun vs H Q _ => ∃ (c k : Int), vs = [.int c, .int k] ∧ 0 ≤ k ∧ k ≤ 1000 ∧ ∀ r : Int, 0 ≤ r → Q (.int r) H
def rowOk (m : Nat) (ds : List Int) : Prop := ds.length = m ∧ ∀ d ∈ ds, 0 ≤ d ∧ d < 1000
def sp_row : Sp := fun vs H Q _ => ∃ (c : Int) (m : Nat), vs = [.int c, .int m] ∧ m ≤ 1000 ∧ ∀ q ds H', Same H H' → H q = none → H' q = some (.lst (ds.map V.int)) → rowOk m ds → Q (.ref q) H'
def sp_apart : Sp := fun vs H Q _ => ∃ (c k : Int), vs = [.int c, .int k] ∧ ∀ r : Int, Q (.int r) H
section
variable {P : Program} {w : World} {K : PySem.W.Frag} {mg : Str → Option Value} {base : Heap}
abbrev s__law_cell_at : Stmt := top 50
theorem sc__law_cell_at : FnScope ["_law_script", "_law_k"] ["_law_script", "_law_k"] (defScope s__law_cell_at) := ⟨rfl, rfl, rfl, by decide +kernel, rfl, by decide +kernel, by decide +kernel⟩
theorem ok__law_cell_at (T : Tx w K mg) : Fk P w K mg base CX0 1 "_law_cell_at" ["_law_script", "_law_k"] (sp_cell K) := by
  refine T.F__law_cell_at.ok0 sc__law_cell_at (fun _ _ _ _ _ _ us hl => match us, hl with | [_, _], _ => rfl)
    (fun vs H Q E h => ?_) (fun cdv A outer s H vs Q E hr h => ?_)
  · obtain ⟨a, ns, k, rfl, _⟩ := h
    rfl
  · obtain ⟨a, ns, k, rfl, hS, hn, hk, kk⟩ := h
    refine ⟨_, (pss_cons (ps_if (pt_cmpR op_lt (pv 1) (pe_callB call_len_seq (by rfl) T.z_len (by decide +kernel) (pa_cons (pv 0) pa_nil)) (nomark _))
  (pss_one (ps_ret (pe_ix ix_list (pv 0) (pv 1) (fun _ _ => rfl))))
  pss_nil)
  (pss_one (ps_ret pe_int))), ?_⟩
    refine ⟨_, rfl, _, rfl, a, _, rfl, .inl hS, _, _, rfl, rfl, _, rfl, ite2 (fun h1 => ?_) (fun h1 => ?_)⟩
    · have hk : k.toNat < ns.length := by
        have := of_decide_eq_true h1
        rw [List.length_map] at this
        omega
      have ea : atI (ns.map V.int) k = some (V.int (ns[k.toNat]'hk)) := at_of (j := k.toNat) (by omega) (by rw [List.getElem?_map, List.getElem?_eq_getElem hk]; rfl)
      exact ⟨_, rfl, _, rfl, a, _, _, _, rfl, rfl, hS, ea, kk _⟩
    · exact kk 0
abbrev s__law_mixed : Stmt := top 51
theorem sc__law_mixed : FnScope ["_law_cell", "_law_k", "_law_spread"] ["_law_cell", "_law_k"] (defScope s__law_mixed) := ⟨rfl, rfl, rfl, by decide +kernel, rfl, by decide +kernel, by decide +kernel⟩
theorem ok__law_mixed (T : Tx w K mg) : Fk P w K mg base CX0 1 "_law_mixed" ["_law_cell", "_law_k"] sp_mixed := by
  refine T.F__law_mixed.ok0 sc__law_mixed (fun _ _ _ _ _ _ us hl => match us, hl with | [_, _], _ => rfl)
    (fun vs H Q E h => ?_) (fun cdv A outer s H vs Q E hr h => ?_)
  · obtain ⟨c, k, rfl, _⟩ := h
    rfl
  · obtain ⟨c, k, rfl, hk0, hk1, kk⟩ := h
    refine ⟨_, (pss_cons (ps_set (i := 2) sc__law_mixed.nd rfl (Or.inl rfl) (pe_op op_mod (pe_callTy call_int1 (by rfl) T.z_int (by decide +kernel) (pa_cons (pe_op op_pow (pe_op op_add (pe_op op_add (pe_op op_mod (pe_callTy call_int1 (by rfl) T.z_int (by decide +kernel) (pa_cons (pv 0) pa_nil)) pe_int) (pe_op op_mul pe_int (pv 1))) pe_int) pe_int) pa_nil)) pe_int))
  (pss_one (ps_ret (pe_op op_mod (pe_callTy call_int1 (by rfl) T.z_int (by decide +kernel) (pa_cons (pe_op op_mul (pe_op op_add (pv 2) (pv 1)) pe_int) pa_nil)) pe_int)))), ?_⟩
    have m0 : 0 ≤ c % 2147483647 := Int.emod_nonneg _ (by decide)
    have m1 : c % 2147483647 < 2147483647 := Int.emod_lt_of_pos _ (by decide)
    refine ⟨_, rfl, .inl ⟨_, rfl, _, _, rfl, rfl, (by show (0 : Int) < 2147483647; decide), _, rfl, _, _, rfl, rfl, .inl ⟨by decide, by decide⟩, _, _, rfl, rfl, _, _, rfl, rfl, _, _, rfl, rfl, ⟨by decide, by decide, ?_⟩, .inl ⟨_, rfl, _, _, rfl, rfl, (by show (0 : Int) < 2147483647; decide), ?_⟩⟩⟩
    · show (c % 2147483647 + 7919 * k + 104729).natAbs < 18446744073709551616
      omega
    have s0 : 0 ≤ (c % 2147483647 + 7919 * k + 104729) ^ Int.toNat 5 % 2147483647 := Int.emod_nonneg _ (by decide)
    have s1 : (c % 2147483647 + 7919 * k + 104729) ^ Int.toNat 5 % 2147483647 < 2147483647 := Int.emod_lt_of_pos _ (by decide)
    refine ⟨_, rfl, _, rfl, _, _, rfl, rfl, _, _, rfl, rfl, .inl ⟨?_, ?_⟩, .inl ⟨_, rfl, _, _, rfl, rfl, (by show (0 : Int) < 2147483629; decide), ?_⟩⟩
    · show -(18446744073709551616 : Int) < (c % 2147483647 + 7919 * k + 104729) ^ Int.toNat 5 % 2147483647 + k
      generalize (c % 2147483647 + 7919 * k + 104729) ^ Int.toNat 5 % 2147483647 = sp at s0 s1 ⊢
      omega
    · show (c % 2147483647 + 7919 * k + 104729) ^ Int.toNat 5 % 2147483647 + k < (18446744073709551616 : Int)
      generalize (c % 2147483647 + 7919 * k + 104729) ^ Int.toNat 5 % 2147483647 = sp at s0 s1 ⊢
      omega
    · exact kk _ (Int.emod_nonneg _ (by decide))
abbrev s__law_apart : Stmt := top 63
theorem sc__law_apart : FnScope ["_law_cell", "_law_k"] ["_law_cell", "_law_k"] (defScope s__law_apart) := ⟨rfl, rfl, rfl, by decide +kernel, rfl, by decide +kernel, by decide +kernel⟩
theorem ok__law_apart (T : Tx w K mg) : Fk P w K mg base CX0 1 "_law_apart" ["_law_cell", "_law_k"] sp_apart := by
  refine T.F__law_apart.ok0 sc__law_apart (fun _ _ _ _ _ _ us hl => match us, hl with | [_, _], _ => rfl)
    (fun vs H Q E h => ?_) (fun cdv A outer s H vs Q E hr h => ?_)
  · obtain ⟨c, k, rfl, _⟩ := h
    rfl
  · obtain ⟨c, k, rfl, kk⟩ := h
    refine ⟨_, (pss_cons (ps_if (pt_cmpR op_ge (pe_callB call_abs (by rfl) T.z_abs (by decide +kernel) (pa_cons (pv 0) pa_nil)) (pe_op op_pow pe_int pe_int) (nomark _))
  (pss_one (ps_ret (pv 0)))
  pss_nil)
  (pss_one (ps_ret (pe_op op_add (pv 0) (pe_op op_mul pe_int (pv 1)))))), ?_⟩
    refine ⟨_, rfl, _, rfl, _, _, rfl, rfl, ⟨by decide, by decide, by decide⟩, _, _, rfl, rfl, _, rfl, ite2 (fun h1 => ?_) (fun h1 => ?_)⟩
    · exact ⟨_, rfl, kk _⟩
    · refine ⟨_, rfl, _, rfl, _, _, rfl, rfl, .inl ⟨by decide, by decide⟩, _, _, rfl, rfl, kk _⟩
abbrev s__law_row : Stmt := top 52
theorem sc__law_row : FnScope ["_law_cell", "_law_many", "_law_rest", "_law_row_here", "_law_k"] ["_law_cell", "_law_many"] (defScope s__law_row) := ⟨rfl, rfl, rfl, by decide +kernel, rfl, by decide +kernel, by decide +kernel⟩
theorem ok__law_row (T : Tx w K mg) : Fk P w K mg base CX0 2 "_law_row" ["_law_cell", "_law_many"] sp_row := by
  refine T.F__law_row.ok0 sc__law_row (fun _ _ _ _ _ _ us hl => match us, hl with | [_, _], _ => rfl)
    (fun vs H Q E h => ?_) (fun cdv A outer s H vs Q E hr h => ?_)
  · obtain ⟨c, m, rfl, _⟩ := h
    rfl
  · obtain ⟨c, m, rfl, hm, kk⟩ := h
    refine ⟨_, (pss_cons (ps_set (i := 2) sc__law_row.nd rfl (Or.inl rfl) (pe_ifExp (pt_cmpR op_ge (pe_callB call_abs (by rfl) T.z_abs (by decide +kernel) (pa_cons (pv 0) pa_nil)) (pe_op op_pow pe_int pe_int) (nomark _)) (pe_callB call_abs (by rfl) T.z_abs (by decide +kernel) (pa_cons (pv 0) pa_nil)) pe_int))
  (pss_cons (ps_set (i := 3) sc__law_row.nd rfl (Or.inl rfl) (pe_lst pa_nil))
  (pss_cons (ps_for PassesOwn.never rfl (pi_range1 rfl T.z_range (pa_cons (pv 1) pa_nil)) (pg_name (i := 4) sc__law_row.nd rfl (Or.inl rfl))
  (pss_cons (ps_expr (pe_bm PySem.F.plainAttrs_list PySem.F.slot_list_append PySem.F.type_list_append mt_append (pv 3) (pa_cons (pe_op op_mod (pe_callTy call_int1 (by rfl) T.z_int (by decide +kernel) (pa_cons (pe_ifExp (pt_cmpR op_gt (pv 2) pe_int (nomark _)) (pv 2) (pe_fk (ok__law_mixed T) (hr.mono (by omega)) rfl pass0 (pa_cons (pv 0) (pa_cons (pv 4) pa_nil)))) pa_nil)) pe_int) pa_nil)))
  (pss_one (ps_set (i := 2) sc__law_row.nd rfl (Or.inl rfl) (pe_op op_fdiv (pv 2) pe_int)))))
  (pss_one (ps_ret (pv 3)))))), ?_⟩
    have big : 16777216 ≤ sizeLine := by decide
    refine seqJoin (fun σ' H' => H' = H ∧ ∃ (r : Int), 0 ≤ r ∧ σ' = [some (.int c), some (.int m), some (.int r), none, none]) (fun KK hK => ?_) ?_
    · refine ⟨_, rfl, _, rfl, _, _, rfl, rfl, ⟨by decide, by decide, by decide⟩, _, _, rfl, rfl, _, rfl, ite2 (fun h1 => ?_) (fun h1 => ?_)⟩
      · refine ⟨_, rfl, _, rfl, ?_⟩
        refine gName_k ?_
        exact hK _ _ ⟨rfl, _, by split <;> omega, rfl⟩
      · refine gName_k ?_
        exact hK _ _ ⟨rfl, 0, Int.le_refl _, rfl⟩
    rintro σ' H ⟨rfl, r0, hr0, rfl⟩
    refine seqAsg ⟨Nat.zero_le _, fun p hp => ?_⟩
    refine gName_k ?_
    try dsimp only
    refine ⟨_, rfl, m, rfl, by omega, by omega, for_range (n := m) (fun i σ Hc => ∃ (ds : List Int) (r : Int) (t4 : Option V), σ = [some (.int c), some (.int m), some (.int r), some (.ref p), t4] ∧ 0 ≤ r ∧ Same H Hc ∧ Hc p = some (.lst (ds.map V.int)) ∧ rowOk i ds) ⟨[], r0, _, rfl, hr0, Rd.Same.upd hp, upd_same, rfl, fun d hd => by cases hd⟩ ?_ ?_⟩
    · rintro i σ Hc hi ⟨ds, r, t4, rfl, hr0, sc, hpc, hds⟩
      refine gName_k ?_
      try dsimp only
      have hdl := hds.1
      have nxt1 : ∀ x : Int, ∃ l xs y, V.ref p = .ref l ∧ [V.int (x % 1000)] = [y] ∧ Hc l = some (.lst xs) ∧ xs.length < sizeLine ∧ (tAsg (tOp (rI CDiv fun i j => V.int (i / j)) (tVar 2) (tC (V.int 1000))) (gName 2)) { nx := fun σ Hc => ∃ (ds : List Int) (r : Int) (t4 : Option V), σ = [some (.int c), some (.int m), some (.int r), some (.ref p), t4] ∧ 0 ≤ r ∧ Same H Hc ∧ Hc p = some (.lst (ds.map V.int)) ∧ rowOk (i + 1) ds, rt := Q, bk := fun _ _ => False, ct := fun _ _ => False } [some (.int c), some (.int m), some (.int r), some (.ref p), some (.int (0 + (i : Int)))] (upd Hc l (.lst (xs ++ [y]))) := fun x => by
        refine ⟨p, ds.map V.int, _, rfl, rfl, hpc, by rw [List.length_map]; omega, _, rfl, _, _, rfl, rfl, ⟨by decide, by decide⟩, ?_⟩
        refine gName_k ?_
        refine ⟨ds ++ [x % 1000], r / 1000, _, rfl, Int.ediv_nonneg hr0 (by decide), fun c o e => by rw [upd_ne (ne_of_none e hp)]; exact sc _ _ e, by rw [upd_same, List.map_append]; rfl, by rw [List.length_append, hdl]; rfl, fun d hd => ?_⟩
        rcases List.mem_append.mp hd with q | q
        · exact hds.2 d q
        · rw [List.mem_singleton.mp q]
          exact ⟨Int.emod_nonneg _ (by decide), Int.emod_lt_of_pos _ (by decide)⟩
      refine ⟨_, rfl, .inl ⟨rfl, _, SqL.of hpc⟩, _, rfl, _, _, rfl, rfl, _, rfl, ite2 (fun _ => ?_) (fun _ => ?_)⟩
      · refine ⟨_, rfl, .inl ⟨_, rfl, _, _, rfl, rfl, (by show (0 : Int) < 1000; decide), nxt1 _⟩⟩
      · refine ⟨_, rfl, _, rfl, _, _, rfl, by omega, by omega, fun r1 _ => .inl ⟨_, rfl, _, _, rfl, rfl, (by show (0 : Int) < 1000; decide), nxt1 _⟩⟩
    · rintro σ Hc ⟨ds, r, t4, rfl, hr0, sc, hpc, hds⟩
      exact ⟨_, rfl, kk p ds Hc sc hp hpc hds⟩
end
end Rd
namespace Rd
open PySem L2
def atomT (t : Tr) : Prop := ∃ k x, t = .am k x ∧ kindOk k x ∧ k ≠ "unknown"
def atomsOk (ts : List Tr) : Prop := ts.length = 6 ∧ ∀ t ∈ ts, atomT t
def sp_atoms6 : Sp := fun vs H Q _ => ∃ (a : Addr) (d0 d1 : Int), vs = [.ref a] ∧ H a = some (.lst [.int d0, .int d1]) ∧ ∀ q ws ts H', Same H H' → H q = none → H' q = some (.lst ws) → TsAt H' ts ws → atomsOk ts → Q (.ref q) H'
def NMS : List (List Str) := [["K", "L", "M"], ["A", "B", "K"], ["NAME", "ZZZZZZZZ", "A"], ["A1", "A", "B22"]]
def WDS : List (List Str) := [["a", "yes", "no"], ["k", "open", "zzzzzzzz"], ["pair", "a", "b"]]
theorem nms_ok {l : List Str} (h : l ∈ NMS) : l.length = 3 ∧ ∀ x ∈ l, isName x = true := by
  have : ∀ l ∈ NMS, l.length = 3 ∧ ∀ x ∈ l, isName x = true := by decide +kernel
  exact this l h
theorem wds_ok {l : List Str} (h : l ∈ WDS) : l.length = 3 ∧ ∀ x ∈ l, isWord x = true := by
  have : ∀ l ∈ WDS, l.length = 3 ∧ ∀ x ∈ l, isWord x = true := by decide +kernel
  exact this l h
section
variable {P : Program} {w : World} {K : PySem.W.Frag} {mg : Str → Option Value} {base : Heap}
abbrev s__law_atoms : Stmt := top 53
theorem sc__law_atoms : FnScope ["_law_draws", "_law_names", "_law_words", "_law_name", "_law_word"] ["_law_draws"] (defScope s__law_atoms) := ⟨rfl, rfl, rfl, by decide +kernel, rfl, by decide +kernel, by decide +kernel⟩
theorem ok__law_atoms (T : Tx w K mg) : Fk P w K mg base CX0 1 "_law_atoms" ["_law_draws"] sp_atoms6 := by
  refine T.F__law_atoms.ok0 sc__law_atoms (fun _ _ _ _ _ _ us hl => match us, hl with | [_], _ => rfl)
    (fun vs H Q E h => ?_) (fun cdv A outer s H vs Q E hr h => ?_)
  · obtain ⟨a, d0, d1, rfl, _⟩ := h
    rfl
  · obtain ⟨a, d0, d1, rfl, ha, k⟩ := h
    refine ⟨_, (pss_cons (ps_set (i := 1) sc__law_atoms.nd rfl (Or.inl rfl) (pe_ix ix_list (pe_lst (pa_cons (pe_lst (pa_cons pe_str (pa_cons pe_str (pa_cons pe_str pa_nil)))) (pa_cons (pe_lst (pa_cons pe_str (pa_cons pe_str (pa_cons pe_str pa_nil)))) (pa_cons (pe_lst (pa_cons pe_str (pa_cons pe_str (pa_cons pe_str pa_nil)))) (pa_cons (pe_lst (pa_cons pe_str (pa_cons pe_str (pa_cons pe_str pa_nil)))) pa_nil))))) (pe_op op_mod (pe_callTy call_int1 (by rfl) T.z_int (by decide +kernel) (pa_cons (pe_ix ix_list (pv 0) pe_int (fun _ _ => rfl)) pa_nil)) pe_int) (fun _ _ => rfl)))
  (pss_cons (ps_set (i := 2) sc__law_atoms.nd rfl (Or.inl rfl) (pe_ix ix_list (pe_lst (pa_cons (pe_lst (pa_cons pe_str (pa_cons pe_str (pa_cons pe_str pa_nil)))) (pa_cons (pe_lst (pa_cons pe_str (pa_cons pe_str (pa_cons pe_str pa_nil)))) (pa_cons (pe_lst (pa_cons pe_str (pa_cons pe_str (pa_cons pe_str pa_nil)))) pa_nil)))) (pe_op op_mod (pe_callTy call_int1 (by rfl) T.z_int (by decide +kernel) (pa_cons (pe_ix ix_list (pv 0) pe_int (fun _ _ => rfl)) pa_nil)) pe_int) (fun _ _ => rfl)))
  (pss_one (ps_ret (pe_op op_cat (pe_lc (own := [("_law_name", 3)]) (g := gName 3) (tt := tYes) (by rfl) sc__law_atoms.nd (pi_list (pv 1)) (blkOk_by (own := [("_law_name", 3)]) (N := ["_law_draws", "_law_names", "_law_words", "_law_name", "_law_word"]) (sc := defScope s__law_atoms) (by decide +kernel)) (fun _ _ _ _ _ => (pg_name (i := 3) sc__law_atoms.nd rfl (Or.inl rfl))) (fun _ _ _ _ _ => pts_nil) (fun _ _ _ _ _ => (pe_tup (pa_cons pe_str (pa_cons (pv 3) pa_nil))))) (pe_lc (own := [("_law_word", 4)]) (g := gName 4) (tt := tYes) (by rfl) sc__law_atoms.nd (pi_list (pv 2)) (blkOk_by (own := [("_law_word", 4)]) (N := ["_law_draws", "_law_names", "_law_words", "_law_name", "_law_word"]) (sc := defScope s__law_atoms) (by decide +kernel)) (fun _ _ _ _ _ => (pg_name (i := 4) sc__law_atoms.nd rfl (Or.inl rfl))) (fun _ _ _ _ _ => pts_nil) (fun _ _ _ _ _ => (pe_tup (pa_cons pe_str (pa_cons (pv 4) pa_nil)))))))))), ?_⟩
    have three : 3 ≤ sizeLine := by decide
    refine seqJoin (fun σ' H' => ∃ (q : Addr) (l : List Str), l ∈ NMS ∧ Same H H' ∧ H' q = some (.lst (l.map V.str)) ∧ σ' = [some (.ref a), some (.ref q), none, none, none]) (fun KK hK => ?_) ?_
    · refine ⟨three, fun q0 hq0 => ?_⟩
      have s0 := Rd.Same.upd (o := .lst [V.str "K", V.str "L", V.str "M"]) hq0
      have h0 : upd H q0 (.lst [V.str "K", V.str "L", V.str "M"]) q0 = some (.lst ((["K", "L", "M"] : List Str).map V.str)) := upd_same
      generalize upd H q0 (.lst [V.str "K", V.str "L", V.str "M"]) = T0 at s0 h0 ⊢
      refine ⟨three, fun q1 hq1 => ?_⟩
      have s1 := Rd.Same.upd (o := .lst [V.str "A", V.str "B", V.str "K"]) hq1
      have h1 : upd T0 q1 (.lst [V.str "A", V.str "B", V.str "K"]) q1 = some (.lst ((["A", "B", "K"] : List Str).map V.str)) := upd_same
      generalize upd T0 q1 (.lst [V.str "A", V.str "B", V.str "K"]) = T1 at s1 h1 ⊢
      refine ⟨three, fun q2 hq2 => ?_⟩
      have s2 := Rd.Same.upd (o := .lst [V.str "NAME", V.str "ZZZZZZZZ", V.str "A"]) hq2
      have h2 : upd T1 q2 (.lst [V.str "NAME", V.str "ZZZZZZZZ", V.str "A"]) q2 = some (.lst ((["NAME", "ZZZZZZZZ", "A"] : List Str).map V.str)) := upd_same
      generalize upd T1 q2 (.lst [V.str "NAME", V.str "ZZZZZZZZ", V.str "A"]) = T2 at s2 h2 ⊢
      refine ⟨three, fun q3 hq3 => ?_⟩
      have s3 := Rd.Same.upd (o := .lst [V.str "A1", V.str "A", V.str "B22"]) hq3
      have h3 : upd T2 q3 (.lst [V.str "A1", V.str "A", V.str "B22"]) q3 = some (.lst ((["A1", "A", "B22"] : List Str).map V.str)) := upd_same
      generalize upd T2 q3 (.lst [V.str "A1", V.str "A", V.str "B22"]) = T3 at s3 h3 ⊢
      refine ⟨(by show 4 ≤ sizeLine; decide), fun q9 hq9 => ?_⟩
      have s9 := Rd.Same.upd (o := .lst [V.ref q0, V.ref q1, V.ref q2, V.ref q3]) hq9
      have h9 : upd T3 q9 (.lst [V.ref q0, V.ref q1, V.ref q2, V.ref q3]) q9 = some (.lst [V.ref q0, V.ref q1, V.ref q2, V.ref q3]) := upd_same
      generalize upd T3 q9 (.lst [V.ref q0, V.ref q1, V.ref q2, V.ref q3]) = T9 at s9 h9 ⊢
      have S := (((s0.trans s1).trans s2).trans s3).trans s9
      have m0 : 0 ≤ d0 % 4 := Int.emod_nonneg _ (by decide)
      have m1 : d0 % 4 < (4 : Nat) := Int.emod_lt_of_pos _ (by decide)
      obtain ⟨j, z, hj, ea⟩ := atI_of (us := [V.ref q0, V.ref q1, V.ref q2, V.ref q3]) (m := 4) m0 m1 rfl
      refine ⟨_, rfl, a, _, _, _, rfl, rfl, SqL.of (S _ _ ha), at_of (j := 0) rfl rfl, .inl ⟨_, rfl, _, _, rfl, rfl, (by show (0 : Int) < 4; decide), q9, _, _, z, rfl, rfl, SqL.of h9, ea, ?_⟩⟩
      refine gName_k ?_
      match j, hj with
      | 0, hj =>
        cases hj
        exact hK _ _ ⟨q0, _, (by show [("K" : Str), ("L" : Str), ("M" : Str)] ∈ NMS; decide +kernel), S, s9 _ _ (s3 _ _ (s2 _ _ (s1 _ _ (h0)))), rfl⟩
      | 1, hj =>
        cases hj
        exact hK _ _ ⟨q1, _, (by show [("A" : Str), ("B" : Str), ("K" : Str)] ∈ NMS; decide +kernel), S, s9 _ _ (s3 _ _ (s2 _ _ (h1))), rfl⟩
      | 2, hj =>
        cases hj
        exact hK _ _ ⟨q2, _, (by show [("NAME" : Str), ("ZZZZZZZZ" : Str), ("A" : Str)] ∈ NMS; decide +kernel), S, s9 _ _ (s3 _ _ (h2)), rfl⟩
      | 3, hj =>
        cases hj
        exact hK _ _ ⟨q3, _, (by show [("A1" : Str), ("A" : Str), ("B22" : Str)] ∈ NMS; decide +kernel), S, s9 _ _ (h3), rfl⟩
      | j + 4, hj => cases hj
    rintro σ' Hn ⟨qn, ln, hln, sn, hqn, rfl⟩
    refine seqJoin (fun σ' H' => ∃ (q : Addr) (l : List Str), l ∈ WDS ∧ Same H H' ∧ H' q = some (.lst (l.map V.str)) ∧ H' qn = some (.lst (ln.map V.str)) ∧ σ' = [some (.ref a), some (.ref qn), some (.ref q), none, none]) (fun KK hK => ?_) ?_
    · refine ⟨three, fun q0 hq0 => ?_⟩
      have s0 := Rd.Same.upd (o := .lst [V.str "a", V.str "yes", V.str "no"]) hq0
      have h0 : upd Hn q0 (.lst [V.str "a", V.str "yes", V.str "no"]) q0 = some (.lst ((["a", "yes", "no"] : List Str).map V.str)) := upd_same
      generalize upd Hn q0 (.lst [V.str "a", V.str "yes", V.str "no"]) = T0 at s0 h0 ⊢
      refine ⟨three, fun q1 hq1 => ?_⟩
      have s1 := Rd.Same.upd (o := .lst [V.str "k", V.str "open", V.str "zzzzzzzz"]) hq1
      have h1 : upd T0 q1 (.lst [V.str "k", V.str "open", V.str "zzzzzzzz"]) q1 = some (.lst ((["k", "open", "zzzzzzzz"] : List Str).map V.str)) := upd_same
      generalize upd T0 q1 (.lst [V.str "k", V.str "open", V.str "zzzzzzzz"]) = T1 at s1 h1 ⊢
      refine ⟨three, fun q2 hq2 => ?_⟩
      have s2 := Rd.Same.upd (o := .lst [V.str "pair", V.str "a", V.str "b"]) hq2
      have h2 : upd T1 q2 (.lst [V.str "pair", V.str "a", V.str "b"]) q2 = some (.lst ((["pair", "a", "b"] : List Str).map V.str)) := upd_same
      generalize upd T1 q2 (.lst [V.str "pair", V.str "a", V.str "b"]) = T2 at s2 h2 ⊢
      refine ⟨(by show 3 ≤ sizeLine; decide), fun q9 hq9 => ?_⟩
      have s9 := Rd.Same.upd (o := .lst [V.ref q0, V.ref q1, V.ref q2]) hq9
      have h9 : upd T2 q9 (.lst [V.ref q0, V.ref q1, V.ref q2]) q9 = some (.lst [V.ref q0, V.ref q1, V.ref q2]) := upd_same
      generalize upd T2 q9 (.lst [V.ref q0, V.ref q1, V.ref q2]) = T9 at s9 h9 ⊢
      have S := ((s0.trans s1).trans s2).trans s9
      have m0 : 0 ≤ d1 % 3 := Int.emod_nonneg _ (by decide)
      have m1 : d1 % 3 < (3 : Nat) := Int.emod_lt_of_pos _ (by decide)
      obtain ⟨j, z, hj, ea⟩ := atI_of (us := [V.ref q0, V.ref q1, V.ref q2]) (m := 3) m0 m1 rfl
      refine ⟨_, rfl, a, _, _, _, rfl, rfl, SqL.of (S _ _ (sn _ _ ha)), at_of (j := 1) rfl rfl, .inl ⟨_, rfl, _, _, rfl, rfl, (by show (0 : Int) < 3; decide), q9, _, _, z, rfl, rfl, SqL.of h9, ea, ?_⟩⟩
      refine gName_k ?_
      match j, hj with
      | 0, hj =>
        cases hj
        exact hK _ _ ⟨q0, _, (by show [("a" : Str), ("yes" : Str), ("no" : Str)] ∈ WDS; decide +kernel), sn.trans S, s9 _ _ (s2 _ _ (s1 _ _ (h0))), S _ _ hqn, rfl⟩
      | 1, hj =>
        cases hj
        exact hK _ _ ⟨q1, _, (by show [("k" : Str), ("open" : Str), ("zzzzzzzz" : Str)] ∈ WDS; decide +kernel), sn.trans S, s9 _ _ (s2 _ _ (h1)), S _ _ hqn, rfl⟩
      | 2, hj =>
        cases hj
        exact hK _ _ ⟨q2, _, (by show [("pair" : Str), ("a" : Str), ("b" : Str)] ∈ WDS; decide +kernel), sn.trans S, s9 _ _ (h2), S _ _ hqn, rfl⟩
      | j + 3, hj => cases hj
    rintro σ' Hw ⟨qw, lw, hlw, sw, hqw, hqn', rfl⟩
    obtain ⟨ln3, hnn⟩ := nms_ok hln
    obtain ⟨lw3, hww⟩ := wds_ok hlw
    refine ⟨_, rfl, qn, rfl, ⟨_, SqL.of hqn'⟩, fun D1 hD1 => ?_⟩
    refine lcl (C := 0) (fun i H v => ∃ t, (ln.map (Tr.am "name"))[i]? = some t ∧ IsT H t v) (fun i H H' v kp ⟨t, e, h⟩ => ⟨t, e, h.mono kp⟩) (SqL.of hqn') (by rw [List.length_map]; omega) hD1 (fun i y H2 Q2 hy s2 k2 => ?_) fun vs1 H2 s2 hD2 hv2 hvs2 => ?_
    · rw [List.getElem?_map] at hy
      obtain ⟨z, hz, rfl⟩ := Option.map_eq_some_iff.mp hy
      refine ⟨_, rfl, (by show 2 ≤ sizeLine; decide), fun q hq => ?_⟩
      exact k2 _ _ (Rd.Same.upd hq) ⟨.am "name" z, by rw [List.getElem?_map, hz]; rfl, q, rfl, upd_same⟩
    have t1 := TsAt.of (ts := ln.map (Tr.am "name")) (by rw [hv2, List.length_map, List.length_map]) hvs2
    refine ⟨_, rfl, qw, rfl, ⟨_, SqL.of (s2 _ _ hqw)⟩, fun D2 hD2' => ?_⟩
    refine lcl (C := 0) (fun i H v => ∃ t, (lw.map (Tr.am "word"))[i]? = some t ∧ IsT H t v) (fun i H H' v kp ⟨t, e, h⟩ => ⟨t, e, h.mono kp⟩) (SqL.of (s2 _ _ hqw)) (by rw [List.length_map]; omega) hD2' (fun i y H3 Q3 hy s3 k3 => ?_) fun vs2 H3 s3 hD3 hv3 hvs3 => ?_
    · rw [List.getElem?_map] at hy
      obtain ⟨z, hz, rfl⟩ := Option.map_eq_some_iff.mp hy
      refine ⟨_, rfl, (by show 2 ≤ sizeLine; decide), fun q hq => ?_⟩
      exact k3 _ _ (Rd.Same.upd hq) ⟨.am "word" z, by rw [List.getElem?_map, hz]; rfl, q, rfl, upd_same⟩
    have t2 := TsAt.of (ts := lw.map (Tr.am "word")) (by rw [hv3, List.length_map, List.length_map]) hvs3
    rw [List.length_map] at hv2 hv3
    have big : 1000 ≤ sizeLine := by decide
    refine ⟨D1, D2, vs1, vs2, rfl, rfl, s3 _ _ hD2, hD3, by omega, fun q4 hq4 => ?_⟩
    have s4 := Rd.Same.upd (o := .lst (vs1 ++ vs2)) hq4
    have S4 := (sw.trans (s2.trans s3)).trans s4
    refine k q4 _ (ln.map (Tr.am "name") ++ lw.map (Tr.am "word")) _ S4 ((sw.trans (s2.trans s3)).free hq4) upd_same (((t1.same s3).app t2).same s4) ⟨by rw [List.length_append, List.length_map, List.length_map, ln3, lw3], fun t ht => ?_⟩
    rcases List.mem_append.mp ht with h | h
    · obtain ⟨z, hz, rfl⟩ := List.mem_map.mp h
      exact ⟨_, _, rfl, .inr (.inl ⟨rfl, hnn z hz⟩), by decide +kernel⟩
    · obtain ⟨z, hz, rfl⟩ := List.mem_map.mp h
      exact ⟨_, _, rfl, .inl ⟨rfl, hww z hz⟩, by decide +kernel⟩
end
end Rd
namespace Rd
open PySem L2
def NodeAt : Nat → Int → Prop
  | 0, n => 7 ≤ n ∧ n ≤ 14
  | 1, n => 3 ≤ n ∧ n ≤ 6
  | 2, n => 1 ≤ n ∧ n ≤ 2
  | _, n => n = 0
theorem NodeAt.le {d : Nat} {n : Int} (h : NodeAt d n) : 0 ≤ n ∧ n ≤ 14 := by
  match d, h with
  | 0, h => exact ⟨by have := h.1; omega, h.2⟩
  | 1, h => exact ⟨by have := h.1; omega, by have := h.2; omega⟩
  | 2, h => exact ⟨by have := h.1; omega, by have := h.2; omega⟩
  | d + 3, h => have h : n = 0 := h; exact ⟨by omega, by omega⟩
theorem NodeAt.kids {d : Nat} {n : Int} (hd : d + 1 ≤ 3) (h : NodeAt (d + 1) n) : NodeAt d (2 * n + 1) ∧ NodeAt d (2 * n + 2) ∧ n ≤ 6 := by
  match d, hd, h with
  | 0, _, h => obtain ⟨h1, h2⟩ := h; exact ⟨⟨by omega, by omega⟩, ⟨by omega, by omega⟩, h2⟩
  | 1, _, h => obtain ⟨h1, h2⟩ := h; exact ⟨⟨by omega, by omega⟩, ⟨by omega, by omega⟩, by omega⟩
  | 2, _, h => have h : n = 0 := h; subst h; exact ⟨⟨by decide, by decide⟩, ⟨by decide, by decide⟩, by decide⟩
structure Fo (d : Nat) (t : Tr) : Prop where
  wf : Wf t
  dep : t.dep ≤ 2 * d
  nod : t.nod + 2 ≤ 2 ^ (d + 1)
  pl : plainT t
theorem Fo.atom {d : Nat} {t : Tr} (h : atomT t) : Fo d t := by
  obtain ⟨k, x, rfl, ko, hk⟩ := h
  refine ⟨.am ko, Nat.zero_le _, ?_, ?_⟩
  · show 0 + 2 ≤ 2 ^ (d + 1)
    rw [Nat.pow_succ]
    have := Nat.pow_pos (n := d) (show 0 < 2 by decide)
    omega
  · show (if k = "unknown" then [x] else []) = []
    rw [if_neg hk]
theorem Fo.un {d : Nat} {s : Str} {a : Tr} (hs : s ∈ (["mark", "open", "own"] : List Str)) (h : Fo d a) : Fo (d + 1) (.un s a) := by
  have e : 2 ^ (d + 1 + 1) = 2 * 2 ^ (d + 1) := by rw [Nat.pow_succ]; omega
  have h1 := h.dep
  have h2 := h.nod
  exact ⟨.un hs h.wf, by show a.dep + 1 ≤ 2 * (d + 1); omega, by show a.nod + 1 + 2 ≤ 2 ^ (d + 1 + 1); omega, h.pl⟩
theorem Fo.bi {d : Nat} {s : Str} {a b : Tr} (hs : s ∈ (["pair", "seal"] : List Str)) (h : Fo d a) (g : Fo d b) : Fo (d + 1) (.bi s a b) := by
  have e : 2 ^ (d + 1 + 1) = 2 * 2 ^ (d + 1) := by rw [Nat.pow_succ]; omega
  have h1 := h.dep
  have h2 := h.nod
  have g1 := g.dep
  have g2 := g.nod
  exact ⟨.bi hs h.wf g.wf, by show max a.dep b.dep + 1 ≤ 2 * (d + 1); omega, by show a.nod + b.nod + 1 + 2 ≤ 2 ^ (d + 1 + 1); omega, by show a.txt "unknown" ++ b.txt "unknown" = []; rw [h.pl, g.pl]; rfl⟩
theorem Fo.lk {d : Nat} {s : Str} {a b : Tr} (hs : s ∈ (["open", "own"] : List Str)) (h : Fo d a) (g : Fo d b) : Fo (d + 1) (.bi "lock" a (.un s b)) := by
  have e : 2 ^ (d + 1 + 1) = 2 * 2 ^ (d + 1) := by rw [Nat.pow_succ]; omega
  have h1 := h.dep
  have h2 := h.nod
  have g1 := g.dep
  have g2 := g.nod
  exact ⟨.lk hs h.wf g.wf, by show max a.dep (b.dep + 1) + 1 ≤ 2 * (d + 1); omega, by show a.nod + (b.nod + 1) + 1 + 2 ≤ 2 ^ (d + 1 + 1); omega, by show a.txt "unknown" ++ b.txt "unknown" = []; rw [h.pl, g.pl]; rfl⟩
/-- what a drawn form is made of -/
structure FoC (Pd : Nat → Tr → Prop) : Prop where
  un : ∀ {d s a}, s ∈ (["mark", "open", "own"] : List Str) → Pd d a → Pd (d + 1) (.un s a)
  bi : ∀ {d s a b}, s ∈ (["pair", "seal"] : List Str) → Pd d a → Pd d b → Pd (d + 1) (.bi s a b)
  lk : ∀ {d s a b}, s ∈ (["open", "own"] : List Str) → Pd d a → Pd d b → Pd (d + 1) (.bi "lock" a (.un s b))
theorem FoC.fo : FoC Fo := ⟨Fo.un, Fo.bi, Fo.lk⟩
/-- with other forms in the atoms' place -/
structure FoG (e d : Nat) (t : Tr) : Prop where
  wf : Wf t
  dep : t.dep ≤ e + 2 * d
  pl : plainT t
theorem FoC.g (e : Nat) : FoC (FoG e) := ⟨fun {d s a} hs h => ⟨.un hs h.wf, by show a.dep + 1 ≤ e + 2 * (d + 1); have := h.dep; omega, h.pl⟩,
  fun {d s a b} hs h g => ⟨.bi hs h.wf g.wf, by show max a.dep b.dep + 1 ≤ e + 2 * (d + 1); have := h.dep; have := g.dep; omega, by show a.txt "unknown" ++ b.txt "unknown" = []; rw [h.pl, g.pl]; rfl⟩,
  fun {d s a b} hs h g => ⟨.lk hs h.wf g.wf, by show max a.dep (b.dep + 1) + 1 ≤ e + 2 * (d + 1); have := h.dep; have := g.dep; omega, by show a.txt "unknown" ++ b.txt "unknown" = []; rw [h.pl, g.pl]; rfl⟩⟩
def sp_foP (d : Nat) : Sp := fun vs H Q _ => ∃ (r a : Addr) (at_ node : Int) (ds : List Int) (ws : List V) (ts : List Tr) (Pd : Nat → Tr → Prop), vs = [.ref r, .int at_, .int node, .ref a] ∧ H r = some (.lst (ds.map V.int)) ∧ (∀ d ∈ ds, 0 ≤ d ∧ d < 1000) ∧ 0 ≤ at_ ∧ NodeAt d node ∧ at_ + 14 < ds.length ∧ H a = some (.lst ws) ∧ TsAt H ts ws ∧ 0 < ts.length ∧ ts.length ≤ 100000 ∧ FoC Pd ∧ (∀ t ∈ ts, ∀ d, Pd d t) ∧ d ≤ 3 ∧
  ∀ t v H', Same H H' → Pd d t → IsT H' t v → Q v H'
def sp_fo (d : Nat) : Sp := fun vs H Q _ => ∃ (r a : Addr) (at_ node : Int) (ds : List Int) (ws : List V) (ts : List Tr), vs = [.ref r, .int at_, .int node, .ref a] ∧ H r = some (.lst (ds.map V.int)) ∧ (∀ d ∈ ds, 0 ≤ d ∧ d < 1000) ∧ 0 ≤ at_ ∧ NodeAt d node ∧ at_ + 14 < ds.length ∧ H a = some (.lst ws) ∧ TsAt H ts ws ∧ 0 < ts.length ∧ ts.length ≤ 1000 ∧ (∀ t ∈ ts, atomT t) ∧ d ≤ 3 ∧
  ∀ t v H', Same H H' → Fo d t → IsT H' t v → Q v H'
def spFoR : Nat → Sp
  | 0 => fun _ _ _ _ => False
  | d + 1 => sp_foP d
section
variable {P : Program} {w : World} {K : PySem.W.Frag} {mg : Str → Option Value} {base : Heap}
abbrev s__law_form : Stmt := top 54
theorem sc__law_form : FnScope ["_law_row_here", "_law_at", "_law_node", "_law_atoms_here", "_law_draw", "_law_way_here", "_law_atom", "_law_one"] ["_law_row_here", "_law_at", "_law_node", "_law_atoms_here"] (defScope s__law_form) := ⟨rfl, rfl, rfl, by decide +kernel, rfl, by decide +kernel, by decide +kernel⟩
theorem fo_step (T : Tx w K mg) (d : Nat) (ih : Fk P w K mg base CX0 (d + 1) "_law_form" ["_law_row_here", "_law_at", "_law_node", "_law_atoms_here"] (spFoR d)) : Fk P w K mg base CX0 (d + 2) "_law_form" ["_law_row_here", "_law_at", "_law_node", "_law_atoms_here"] (sp_foP d) := by
  refine T.F__law_form.ok0 sc__law_form (fun _ _ _ _ _ _ us hl => match us, hl with | [_, _, _, _], _ => rfl)
    (fun vs H Q E h => ?_) (fun cdv A outer s H vs Q E hr h => ?_)
  · obtain ⟨r, a, at_, node, ds, ws, ts, Pd, rfl, _⟩ := h
    rfl
  · obtain ⟨r, a, at_, node, ds, ws, ts, Pd, rfl, hr0, hds, hat, hno, hlen, ha, hts, ht0, ht1, fc, hat1, hd3, k⟩ := h
    refine ⟨_, (pss_cons (ps_set (i := 4) sc__law_form.nd rfl (Or.inl rfl) (pe_callTy call_int1 (by rfl) T.z_int (by decide +kernel) (pa_cons (pe_ix ix_list (pv 0) (pe_op op_add (pv 1) (pv 2)) (fun _ _ => rfl)) pa_nil)))
  (pss_cons (ps_set (i := 5) sc__law_form.nd rfl (Or.inl rfl) (pe_op op_mod (pv 4) pe_int))
  (pss_cons (ps_set (i := 6) sc__law_form.nd rfl (Or.inl rfl) (pe_ix ix_list (pv 3) (pe_op op_mod (pe_op op_fdiv (pv 4) pe_int) (pe_callB call_len_seq (by rfl) T.z_len (by decide +kernel) (pa_cons (pv 3) pa_nil))) (fun _ _ => rfl)))
  (pss_cons (ps_if (PW.pt (pw_or (pt_cmpR op_gt (pv 2) pe_int (nomark _)) (pw_or1 (pt_cmpR op_lt (pv 5) pe_int (nomark _)))))
  (pss_one (ps_ret (pv 6)))
  pss_nil)
  (pss_cons (ps_set (i := 7) sc__law_form.nd rfl (Or.inl rfl) (pe_fk ih (hr.mono (by omega)) rfl pass0 (pa_cons (pv 0) (pa_cons (pv 1) (pa_cons (pe_op op_add (pe_op op_mul pe_int (pv 2)) pe_int) (pa_cons (pv 3) pa_nil))))))
  (pss_cons (ps_if (pt_cmpR op_lt (pv 5) pe_int (nomark _))
  (pss_one (ps_ret (pe_tup (pa_cons pe_str (pa_cons (pv 7) (pa_cons (pe_fk ih (hr.mono (by omega)) rfl pass0 (pa_cons (pv 0) (pa_cons (pv 1) (pa_cons (pe_op op_add (pe_op op_mul pe_int (pv 2)) pe_int) (pa_cons (pv 3) pa_nil))))) pa_nil))))))
  pss_nil)
  (pss_cons (ps_if (pt_cmpR op_lt (pv 5) pe_int (nomark _))
  (pss_one (ps_ret (pe_tup (pa_cons pe_str (pa_cons (pv 7) (pa_cons (pe_fk ih (hr.mono (by omega)) rfl pass0 (pa_cons (pv 0) (pa_cons (pv 1) (pa_cons (pe_op op_add (pe_op op_mul pe_int (pv 2)) pe_int) (pa_cons (pv 3) pa_nil))))) pa_nil))))))
  pss_nil)
  (pss_cons (ps_if (pt_cmpR op_lt (pv 5) pe_int (nomark _))
  (pss_one (ps_ret (pe_tup (pa_cons pe_str (pa_cons (pv 7) (pa_cons (pe_tup (pa_cons (pe_ix ix_list (pe_lst (pa_cons pe_str (pa_cons pe_str pa_nil))) (pe_op op_mod (pe_op op_fdiv (pv 4) pe_int) pe_int) (fun _ _ => rfl)) (pa_cons (pe_fk ih (hr.mono (by omega)) rfl pass0 (pa_cons (pv 0) (pa_cons (pv 1) (pa_cons (pe_op op_add (pe_op op_mul pe_int (pv 2)) pe_int) (pa_cons (pv 3) pa_nil))))) pa_nil))) pa_nil))))))
  pss_nil)
  (pss_one (ps_ret (pe_tup (pa_cons (pe_ix ix_list (pe_lst (pa_cons pe_str (pa_cons pe_str (pa_cons pe_str pa_nil)))) (pe_op op_sub (pv 5) pe_int) (fun _ _ => rfl)) (pa_cons (pv 7) pa_nil))))))))))))), ?_⟩
    obtain ⟨n0, n14⟩ := hno.le
    have hj : (at_ + node).toNat < ds.length := by omega
    obtain ⟨e0, e1⟩ := hds ds[(at_ + node).toNat] (List.getElem_mem hj)
    have ea : atI (ds.map V.int) (at_ + node) = some (V.int (ds[(at_ + node).toNat]'hj)) := at_of (j := (at_ + node).toNat) (by omega) (by rw [List.getElem?_map, List.getElem?_eq_getElem hj]; rfl)
    generalize ds[(at_ + node).toNat]'hj = dv at e0 e1 ea
    refine seqAsg ⟨_, rfl, _, rfl, _, rfl, _, _, rfl, rfl, r, _, _, _, rfl, rfl, SqL.of hr0, ea, .inl ⟨_, rfl, ?_⟩⟩
    refine gName_k ?_
    try dsimp only
    refine seqAsg ⟨_, rfl, _, _, rfl, rfl, (by show (0 : Int) < 14; decide), ?_⟩
    refine gName_k ?_
    try dsimp only
    have hwl := hts.len
    have m0 : 0 ≤ dv / 14 % (ws.length : Int) := Int.emod_nonneg _ (by omega)
    have m1 : dv / 14 % (ws.length : Int) < (ws.length : Nat) := Int.emod_lt_of_pos _ (by omega)
    obtain ⟨j, z, hz, ez⟩ := atI_of (us := ws) (m := ws.length) m0 m1 rfl
    obtain ⟨t0, ht0', it0⟩ := hts.at_ hz
    refine seqAsg ⟨_, rfl, _, rfl, _, _, rfl, rfl, ⟨by decide, by decide⟩, _, rfl, a, ws, rfl, .inl (SqL.of ha), _, _, rfl, rfl, (by show (0 : Int) < ws.length; omega), a, _, _, z, rfl, rfl, SqL.of ha, ez, ?_⟩
    refine gName_k ?_
    try dsimp only
    refine seqIf (tb_or (fun R r => ⟨_, rfl, _, _, rfl, rfl, _, rfl, r _ (Same.refl _)⟩) fun H' s' _ R r => ⟨_, rfl, _, _, rfl, rfl, _, rfl, r _ (Same.refl _)⟩) fun H1 s1 => ite2 (fun _ => ?_) (fun hno1 => nxt ?_)
    · exact ⟨_, rfl, k t0 z H1 s1 (hat1 t0 (List.mem_of_getElem? ht0') _) (it0.same s1)⟩
    try dsimp only
    have hno2 : ¬ (6 < node) ∧ ¬ (dv % 14 < 4) := by
      rw [Bool.or_eq_true, decide_eq_true_eq, decide_eq_true_eq] at hno1
      exact ⟨fun e => hno1 (.inl e), fun e => hno1 (.inr e)⟩
    have w0 : 0 ≤ dv % 14 := Int.emod_nonneg _ (by decide)
    have w1 : dv % 14 < 14 := Int.emod_lt_of_pos _ (by decide)
    cases d with
    | zero => exact absurd hno.1 (by omega)
    | succ d =>
      obtain ⟨k1, k2, _⟩ := NodeAt.kids hd3 hno
      have call : ∀ {n' : Int} {H1 : Hp} {Q1 : VK}, NodeAt d n' → Same H H1 → (∀ t v H', Same H1 H' → Pd d t → IsT H' t v → Q1 v H') → sp_foP d [.ref r, .int at_, .int n', .ref a] H1 Q1 E0 := fun {n' H1 Q1} hn s1 kk => ⟨r, a, at_, n', ds, ws, ts, Pd, rfl, s1 _ _ hr0, hds, hat, hn, hlen, s1 _ _ ha, hts.same s1, ht0, ht1, fc, hat1, by omega, kk⟩
      refine seqAsg ⟨_, rfl, _, rfl, _, rfl, _, _, rfl, rfl, .inl ⟨by decide, by decide⟩, _, _, rfl, rfl, _, rfl, call k1 s1 fun t1 v1 H2 s2 f1 i1 => ?_⟩
      refine gName_k ?_
      try dsimp only
      have S2 := s1.trans s2
      refine ⟨_, rfl, _, _, rfl, rfl, _, rfl, ite2 (fun h7 => ?_) (fun h7 => nxt ?_)⟩
      · refine ⟨_, rfl, _, rfl, _, rfl, _, rfl, _, _, rfl, rfl, .inl ⟨by decide, by decide⟩, _, _, rfl, rfl, _, rfl, call k2 S2 fun t2 v2 H3 s3 f2 i2 => ⟨(by show 3 ≤ sizeLine; decide), fun q hq => ?_⟩⟩
        have sq := Rd.Same.upd (o := .tup [.str "pair", v1, v2]) hq
        exact k (.bi "pair" t1 t2) _ _ ((S2.trans s3).trans sq) (fc.bi (by decide +kernel) f1 f2) ⟨q, v1, v2, rfl, upd_same, (i1.same s3).same sq, i2.same sq⟩
      try dsimp only
      refine ⟨_, rfl, _, _, rfl, rfl, _, rfl, ite2 (fun h9 => ?_) (fun h9 => nxt ?_)⟩
      · refine ⟨_, rfl, _, rfl, _, rfl, _, rfl, _, _, rfl, rfl, .inl ⟨by decide, by decide⟩, _, _, rfl, rfl, _, rfl, call k2 S2 fun t2 v2 H3 s3 f2 i2 => ⟨(by show 3 ≤ sizeLine; decide), fun q hq => ?_⟩⟩
        have sq := Rd.Same.upd (o := .tup [.str "seal", v1, v2]) hq
        exact k (.bi "seal" t1 t2) _ _ ((S2.trans s3).trans sq) (fc.bi (by decide +kernel) f1 f2) ⟨q, v1, v2, rfl, upd_same, (i1.same s3).same sq, i2.same sq⟩
      try dsimp only
      refine ⟨_, rfl, _, _, rfl, rfl, _, rfl, ite2 (fun h11 => ?_) (fun h11 => nxt ?_)⟩
      · refine ⟨_, rfl, (by show 2 ≤ sizeLine; decide), fun qo hqo => ?_⟩
        have so := Rd.Same.upd (o := .lst [.str "open", .str "own"]) hqo
        have p0 : 0 ≤ dv / 14 % 2 := Int.emod_nonneg _ (by decide)
        have p1 : dv / 14 % 2 < (2 : Nat) := Int.emod_lt_of_pos _ (by decide)
        obtain ⟨j2, z2, hj2, ez2⟩ := atI_of (us := [.str "open", .str "own"]) (m := 2) p0 p1 rfl
        obtain ⟨sg, rfl, hsg⟩ : ∃ sg : Str, z2 = .str sg ∧ sg ∈ (["open", "own"] : List Str) := by
          match j2, hj2 with
          | 0, h => cases h; exact ⟨_, rfl, by decide +kernel⟩
          | 1, h => cases h; exact ⟨_, rfl, by decide +kernel⟩
          | j + 2, h => cases h
        refine ⟨_, rfl, _, _, rfl, rfl, ⟨by decide, by decide⟩, _, _, rfl, rfl, (by show (0 : Int) < 2; decide), qo, _, _, _, rfl, rfl, SqL.of upd_same, ez2, ?_⟩
        refine ⟨_, rfl, _, rfl, _, rfl, _, _, rfl, rfl, .inl ⟨by decide, by decide⟩, _, _, rfl, rfl, _, rfl, call k2 (S2.trans so) fun t2 v2 H3 s3 f2 i2 => ⟨(by show 2 ≤ sizeLine; decide), fun q hq => ⟨(by show 3 ≤ sizeLine; decide), fun q2 hq2 => ?_⟩⟩⟩
        have sq := Rd.Same.upd (o := .tup [.str sg, v2]) hq
        have sq2 := Rd.Same.upd (o := .tup [.str "lock", v1, .ref q]) hq2
        have hqq := sq2 _ _ (upd_same (H := H3) (a := q) (o := .tup [.str sg, v2]))
        exact k (.bi "lock" t1 (.un sg t2)) _ _ ((((S2.trans so).trans s3).trans sq).trans sq2) (fc.lk hsg f1 f2) ⟨q2, v1, .ref q, rfl, upd_same, (((i1.same so).same s3).same sq).same sq2, q, v2, rfl, hqq, (i2.same sq).same sq2⟩
      try dsimp only
      refine ⟨(by show 3 ≤ sizeLine; decide), fun qo hqo => ?_⟩
      have so := Rd.Same.upd (o := .lst [.str "mark", .str "open", .str "own"]) hqo
      have h11 : ¬ (dv % 14 < 11) := by simpa using h11
      obtain ⟨j2, z2, hj2, ez2⟩ := atI_of (us := [.str "mark", .str "open", .str "own"]) (m := 3) (d := dv % 14 - 11) (by omega) (by omega) rfl
      obtain ⟨sg, rfl, hsg⟩ : ∃ sg : Str, z2 = .str sg ∧ sg ∈ (["mark", "open", "own"] : List Str) := by
        match j2, hj2 with
        | 0, h => cases h; exact ⟨_, rfl, by decide +kernel⟩
        | 1, h => cases h; exact ⟨_, rfl, by decide +kernel⟩
        | 2, h => cases h; exact ⟨_, rfl, by decide +kernel⟩
        | j + 3, h => cases h
      refine ⟨_, rfl, _, _, rfl, rfl, qo, _, _, _, rfl, rfl, SqL.of upd_same, ez2, _, rfl, (by show 2 ≤ sizeLine; decide), fun q hq => ?_⟩
      have sq := Rd.Same.upd (o := .tup [.str sg, v1]) hq
      exact k (.un sg t1) _ _ ((S2.trans so).trans sq) (fc.un hsg f1) ⟨q, v1, rfl, upd_same, (i1.same so).same sq⟩
theorem fo_none (T : Tx w K mg) : Fk P w K mg base CX0 1 "_law_form" ["_law_row_here", "_law_at", "_law_node", "_law_atoms_here"] (spFoR 0) := by
  refine T.F__law_form.ok0 sc__law_form (fun _ _ _ _ _ _ us hl => match us, hl with | [_, _, _, _], _ => rfl) (fun vs H Q E h => h.elim) (fun cdv A outer s H vs Q E hr h => h.elim)
theorem ok__law_formP (T : Tx w K mg) : ∀ d : Nat, Fk P w K mg base CX0 (d + 2) "_law_form" ["_law_row_here", "_law_at", "_law_node", "_law_atoms_here"] (sp_foP d)
  | 0 => fo_step T 0 (fo_none T)
  | d + 1 => fo_step T (d + 1) (ok__law_formP T d)
theorem ok__law_form (T : Tx w K mg) (d : Nat) : Fk P w K mg base CX0 (d + 2) "_law_form" ["_law_row_here", "_law_at", "_law_node", "_law_atoms_here"] (sp_fo d) := by
  obtain ⟨⟨fd, a, b⟩, c, e⟩ := ok__law_formP (P := P) (base := base) T d
  exact ⟨⟨fd, a.imp fun vs H Q E ⟨r, a, at_, node, ds, ws, ts, h1, h2, h3, h4, h5, h6, h7, h8, h9, h10, h11, h12, k⟩ => ⟨r, a, at_, node, ds, ws, ts, Fo, h1, h2, h3, h4, h5, h6, h7, h8, h9, by omega, FoC.fo, fun t ht d => Fo.atom (h11 t ht), h12, k⟩, b⟩, c, e⟩
end
end Rd
namespace Rd
open PySem L2
def sp_foL : Sp := fun vs H Q _ => ∃ (r a : Addr) (at_ : Int) (m : Nat) (ds : List Int) (ws : List V) (ts : List Tr), vs = [.ref r, .int at_, .int m, .ref a] ∧ H r = some (.lst (ds.map V.int)) ∧ (∀ d ∈ ds, 0 ≤ d ∧ d < 1000) ∧ 0 ≤ at_ ∧ at_ + 16 * m ≤ ds.length ∧ m ≤ 100 ∧ H a = some (.lst ws) ∧ TsAt H ts ws ∧ 0 < ts.length ∧ ts.length ≤ 1000 ∧ (∀ t ∈ ts, atomT t) ∧
  ∀ q us fs H', Same H H' → H q = none → H' q = some (.lst us) → TsAt H' fs us → fs.length = m → (∀ t ∈ fs, Fo 3 t) → Q (.ref q) H'
section
variable {P : Program} {w : World} {K : PySem.W.Frag} {mg : Str → Option Value} {base : Heap}
abbrev s__law_forms : Stmt := top 55
theorem sc__law_forms : FnScope ["_law_row_here", "_law_at", "_law_many", "_law_atoms_here", "_law_found", "_law_k", "_law_draw"] ["_law_row_here", "_law_at", "_law_many", "_law_atoms_here"] (defScope s__law_forms) := ⟨rfl, rfl, rfl, by decide +kernel, rfl, by decide +kernel, by decide +kernel⟩
theorem ok__law_forms (T : Tx w K mg) : Fk P w K mg base CX0 6 "_law_forms" ["_law_row_here", "_law_at", "_law_many", "_law_atoms_here"] sp_foL := by
  refine T.F__law_forms.ok0 sc__law_forms (fun _ _ _ _ _ _ us hl => match us, hl with | [_, _, _, _], _ => rfl)
    (fun vs H Q E h => ?_) (fun cdv A outer s H vs Q E hr h => ?_)
  · obtain ⟨r, a, at_, m, ds, ws, ts, rfl, _⟩ := h
    rfl
  · obtain ⟨r, a, at_, m, ds, ws, ts, rfl, hr0, hds, hat, hlen, hm, ha, hts, ht0, ht1, hat1, k⟩ := h
    refine ⟨_, (pss_cons (ps_set (i := 4) sc__law_forms.nd rfl (Or.inl rfl) (pe_lst pa_nil))
  (pss_cons (ps_for PassesOwn.never rfl (pi_range1 rfl T.z_range (pa_cons (pv 2) pa_nil)) (pg_name (i := 5) sc__law_forms.nd rfl (Or.inl rfl))
  (pss_cons (ps_set (i := 6) sc__law_forms.nd rfl (Or.inl rfl) (pe_callTy call_int1 (by rfl) T.z_int (by decide +kernel) (pa_cons (pe_ix ix_list (pv 0) (pe_op op_add (pv 1) (pe_op op_mul pe_int (pv 5))) (fun _ _ => rfl)) pa_nil)))
  (pss_one (ps_if (PW.pt (pw_and (pt_cmpR op_eq (pe_op op_mod (pv 6) pe_int) pe_int (nomark _)) (pw_and1 (pt_cmpR (op_neD hr.units) (pv 4) (pe_lst pa_nil) (nomark _)))))
  (pss_one (ps_expr (pe_bm PySem.F.plainAttrs_list PySem.F.slot_list_append PySem.F.type_list_append mt_append (pv 4) (pa_cons (pe_ix ix_list (pv 4) (pe_op op_mod (pe_op op_fdiv (pv 6) pe_int) (pe_callB call_len_seq (by rfl) T.z_len (by decide +kernel) (pa_cons (pv 4) pa_nil))) (fun _ _ => rfl)) pa_nil))))
  (pss_one (ps_if (pt_cmpR op_eq (pe_op op_mod (pv 6) pe_int) pe_int (nomark _))
  (pss_one (ps_expr (pe_bm PySem.F.plainAttrs_list PySem.F.slot_list_append PySem.F.type_list_append mt_append (pv 4) (pa_cons (pe_ix ix_list (pv 3) (pe_op op_mod (pe_op op_fdiv (pv 6) pe_int) (pe_callB call_len_seq (by rfl) T.z_len (by decide +kernel) (pa_cons (pv 3) pa_nil))) (fun _ _ => rfl)) pa_nil))))
  (pss_one (ps_expr (pe_bm PySem.F.plainAttrs_list PySem.F.slot_list_append PySem.F.type_list_append mt_append (pv 4) (pa_cons (pe_fk (ok__law_form T 3) (hr.mono (by omega)) rfl pass0 (pa_cons (pv 0) (pa_cons (pe_op op_add (pe_op op_add (pv 1) (pe_op op_mul pe_int (pv 5))) pe_int) (pa_cons pe_int (pa_cons (pv 3) pa_nil))))) pa_nil))))))))))
  (pss_one (ps_ret (pv 4))))), ?_⟩
    have big : 16777216 ≤ sizeLine := by decide
    have hwl := hts.len
    refine seqAsg ⟨Nat.zero_le _, fun p hp => ?_⟩
    refine gName_k ?_
    try dsimp only
    refine ⟨_, rfl, m, rfl, by omega, by omega, for_range (n := m) (fun i σ Hc => ∃ (us : List V) (fs : List Tr) (t5 t6 : Option V), σ = [some (.ref r), some (.int at_), some (.int m), some (.ref a), some (.ref p), t5, t6] ∧ Same H Hc ∧ Hc p = some (.lst us) ∧ TsAt Hc fs us ∧ fs.length = i ∧ ∀ t ∈ fs, Fo 3 t) ⟨[], [], _, _, rfl, Rd.Same.upd hp, upd_same, ⟨rfl, fun i t v h => by simp at h⟩, rfl, fun t ht => by cases ht⟩ ?_ ?_⟩
    · rintro i σ Hc hi ⟨us, fs, t5, t6, rfl, sc, hpc, hfs, hfl, hfo⟩
      refine gName_k ?_
      try dsimp only
      have hul := hfs.len
      have hj : (at_ + 16 * (0 + (i : Int))).toNat < ds.length := by omega
      obtain ⟨e0, e1⟩ := hds ds[(at_ + 16 * (0 + (i : Int))).toNat] (List.getElem_mem hj)
      have ea : atI (ds.map V.int) (at_ + 16 * (0 + (i : Int))) = some (V.int (ds[(at_ + 16 * (0 + (i : Int))).toNat]'hj)) := at_of (j := (at_ + 16 * (0 + (i : Int))).toNat) (by omega) (by rw [List.getElem?_map, List.getElem?_eq_getElem hj]; rfl)
      generalize ds[(at_ + 16 * (0 + (i : Int))).toNat]'hj = dv at e0 e1 ea
      refine seqAsg ⟨_, rfl, _, rfl, _, rfl, _, _, rfl, rfl, .inl ⟨by decide, by decide⟩, _, _, rfl, rfl, r, _, _, _, rfl, rfl, SqL.of (sc _ _ hr0), ea, .inl ⟨_, rfl, ?_⟩⟩
      refine gName_k ?_
      try dsimp only
      have app : ∀ {H1 : Hp} {t : Tr} {v : V}, Same Hc H1 → Fo 3 t → IsT H1 t v → ∃ (us' : List V) (fs' : List Tr) (t5 t6 : Option V), [some (.ref r), some (.int at_), some (.int m), some (.ref a), some (.ref p), some (.int (0 + (i : Int))), some (.int dv)] = [some (.ref r), some (.int at_), some (.int m), some (.ref a), some (.ref p), t5, t6] ∧ Same H (upd H1 p (.lst (us ++ [v]))) ∧ upd H1 p (.lst (us ++ [v])) p = some (.lst us') ∧ TsAt (upd H1 p (.lst (us ++ [v]))) fs' us' ∧ fs'.length = i + 1 ∧ ∀ t ∈ fs', Fo 3 t := fun {H1 t v} s1 f it => by
        have kp := Kp.upd_lst (C := 0) (ys := us ++ [v]) (s1 _ _ hpc)
        refine ⟨us ++ [v], fs ++ [t], _, _, rfl, fun c o e => by rw [upd_ne (ne_of_none e hp)]; exact (sc.trans s1) _ _ e, upd_same, ((hfs.same s1).mono kp).app (TsAt.one (it.mono kp)), by rw [List.length_append, hfl]; rfl, fun u hu => ?_⟩
        rcases List.mem_append.mp hu with q | q
        · exact hfo u q
        · rw [List.mem_singleton.mp q]; exact f
      have fine : ∀ t ∈ fs, t.fine ∧ t.dep ≤ 60 := fun t ht => ⟨(hfo t ht).wf.fine, by have := (hfo t ht).dep; omega⟩
      refine oneIf (tb_and (fun R r => ⟨_, rfl, _, _, rfl, rfl, (by show (0 : Int) < 3; decide), rfl, _, rfl, r _ (Same.refl _)⟩) fun H1 s1 _ R r => ⟨_, rfl, Nat.zero_le _, fun q hq => ⟨.list (fs.map dat), .list [], .lst (SqL.of ((s1.trans (Rd.Same.upd hq)) _ _ hpc)) (dpAll_ts (hfs.same (s1.trans (Rd.Same.upd hq)))), .lst (SqL.of upd_same) .nil, ts_shaped fine, rfl, _, rfl, r _ (Rd.Same.upd hq)⟩⟩) fun H1 s1 => ?_
      rw [eqv_nil]
      have hp1 := s1 _ _ hpc
      refine ite2 (fun h1 => ?_) (fun h1 => ?_)
      · have hne : 0 < us.length := by
          obtain ⟨_, h3⟩ := He.ba h1
          rw [hul]
          cases fs with
          | nil => cases h3
          | cons x y => exact Nat.succ_pos _
        obtain ⟨j, z, hz, ez⟩ := atI_of (us := us) (m := us.length) (d := dv / 3 % (us.length : Int)) (Int.emod_nonneg _ (by omega)) (Int.emod_lt_of_pos _ (by omega)) rfl
        obtain ⟨t0, ht0', it0⟩ := hfs.at_ hz
        exact ⟨_, rfl, .inl ⟨rfl, _, SqL.of hp1⟩, _, rfl, _, rfl, _, _, rfl, rfl, ⟨by decide, by decide⟩, _, rfl, p, us, rfl, .inl (SqL.of hp1), _, _, rfl, rfl, (by show (0 : Int) < us.length; omega), p, _, _, z, rfl, rfl, SqL.of hp1, ez, p, us, z, rfl, rfl, hp1, (by omega), app s1 (hfo t0 (List.mem_of_getElem? ht0')) (it0.same s1)⟩
      · refine ⟨_, rfl, _, _, rfl, rfl, (by show (0 : Int) < 3; decide), rfl, _, rfl, ite2 (fun h2 => ?_) (fun h2 => ?_)⟩
        · obtain ⟨j, z, hz, ez⟩ := atI_of (us := ws) (m := ws.length) (d := dv / 3 % (ws.length : Int)) (Int.emod_nonneg _ (by omega)) (Int.emod_lt_of_pos _ (by omega)) rfl
          obtain ⟨t0, ht0', it0⟩ := hts.at_ hz
          have ha1 := (sc.trans s1) _ _ ha
          exact ⟨_, rfl, .inl ⟨rfl, _, SqL.of hp1⟩, _, rfl, _, rfl, _, _, rfl, rfl, ⟨by decide, by decide⟩, _, rfl, a, ws, rfl, .inl (SqL.of ha1), _, _, rfl, rfl, (by show (0 : Int) < ws.length; omega), a, _, _, z, rfl, rfl, SqL.of ha1, ez, p, us, z, rfl, rfl, hp1, (by omega), app s1 (Fo.atom (hat1 t0 (List.mem_of_getElem? ht0'))) (it0.same (sc.trans s1))⟩
        · have S1 := sc.trans s1
          refine ⟨_, rfl, .inl ⟨rfl, _, SqL.of hp1⟩, _, rfl, _, rfl, _, rfl, _, _, rfl, rfl, .inl ⟨by decide, by decide⟩, _, _, rfl, rfl, _, _, rfl, rfl, _, rfl, r, a, _, 0, ds, ws, ts, rfl, S1 _ _ hr0, hds, (by omega), rfl, (by omega), S1 _ _ ha, hts.same S1, ht0, ht1, hat1, (by decide), fun t v H2 s2 f it => ?_⟩
          exact ⟨p, us, v, rfl, rfl, s2 _ _ hp1, (by omega), app (s1.trans s2) f it⟩
    · rintro σ Hc ⟨us, fs, t5, t6, rfl, sc, hpc, hfs, hfl, hfo⟩
      exact ⟨_, rfl, k p us fs Hc sc hp hpc hfs hfl hfo⟩
def sp_dh (K : PySem.W.Frag) : Sp := fun vs H Q _ => ∃ (a : Addr) (ns : List Int), vs = [.ref a] ∧ SqL K H a (ns.map V.int) ∧ ns.length ≤ 63 ∧
  ∀ q qf qa us fs ws ts H', Same H H' → H' q = some (.tup [.ref qf, .ref qa]) → H' qf = some (.lst us) → TsAt H' fs us → 0 < fs.length → fs.length ≤ 6 → (∀ t ∈ fs, Fo 3 t) → H' qa = some (.lst ws) → TsAt H' ts ws → atomsOk ts → Q (.ref q) H'
abbrev s__law_drawn_heap : Stmt := top 68
theorem sc__law_drawn_heap : FnScope ["_law_script", "_law_row_here", "_law_atoms_here"] ["_law_script"] (defScope s__law_drawn_heap) := ⟨rfl, rfl, rfl, by decide +kernel, rfl, by decide +kernel, by decide +kernel⟩
theorem ok__law_drawn_heap (T : Tx w K mg) : Fk P w K mg base CX0 8 "_law_drawn_heap" ["_law_script"] (sp_dh K) := by
  refine T.F__law_drawn_heap.ok0 sc__law_drawn_heap (fun _ _ _ _ _ _ us hl => match us, hl with | [_], _ => rfl)
    (fun vs H Q E h => ?_) (fun cdv A outer s H vs Q E hr h => ?_)
  · obtain ⟨a, ns, rfl, _⟩ := h
    rfl
  · obtain ⟨a, ns, rfl, hS, hn, k⟩ := h
    refine ⟨_, (pss_cons (ps_set (i := 1) sc__law_drawn_heap.nd rfl (Or.inl rfl) (pe_fk (ok__law_row T) (hr.mono (by omega)) rfl pass0 (pa_cons (pe_fk (ok__law_cell_at T) (hr.mono (by omega)) rfl pass0 (pa_cons (pv 0) (pa_cons pe_int pa_nil))) (pa_cons pe_int pa_nil))))
  (pss_cons (ps_set (i := 2) sc__law_drawn_heap.nd rfl (Or.inl rfl) (pe_fk (ok__law_atoms T) (hr.mono (by omega)) rfl pass0 (pa_cons (pe_slice sl_list (pv 1) po_none (po_some pe_int)) pa_nil)))
  (pss_one (ps_ret (pe_tup (pa_cons (pe_fk (ok__law_forms T) (hr.mono (by omega)) rfl pass0 (pa_cons (pv 1) (pa_cons pe_int (pa_cons (pe_op op_add pe_int (pe_op op_mod (pe_callTy call_int1 (by rfl) T.z_int (by decide +kernel) (pa_cons (pe_ix ix_list (pv 1) pe_int (fun _ _ => rfl)) pa_nil)) pe_int)) (pa_cons (pv 2) pa_nil))))) (pa_cons (pv 2) pa_nil))))))), ?_⟩
    refine seqAsg ⟨_, rfl, a, ns, 0, rfl, hS, hn, (by decide), fun c => ⟨c, 100, rfl, (by decide), fun r ds H1 s1 nr hr1 hrow => ?_⟩⟩
    refine gName_k ?_
    try dsimp only
    obtain ⟨hdl, hds⟩ := hrow
    obtain ⟨d0, d1, d2, dr, rfl⟩ : ∃ d0 d1 d2 dr, ds = d0 :: d1 :: d2 :: dr := by
      match ds, hdl with
      | d0 :: d1 :: d2 :: dr, _ => exact ⟨d0, d1, d2, dr, rfl⟩
    refine seqAsg ⟨_, rfl, _, rfl, r, _, rfl, SqL.of hr1, fun q2 hq2 => ?_⟩
    have ec : cutV ((d0 :: d1 :: d2 :: dr).map V.int) none (some 2) = [.int d0, .int d1] := by
      unfold cutV
      rw [show (2 : Int) = ((2 : Nat) : Int) from rfl, HT.sIx_nat]
      have : min 2 ((d0 :: d1 :: d2 :: dr).map V.int).length = 2 := by simp
      rw [this]
      rfl
    rw [ec]
    have s2 := Rd.Same.upd (o := .lst [.int d0, .int d1]) hq2
    have h22 : upd H1 q2 (.lst [.int d0, .int d1]) q2 = some (.lst [.int d0, .int d1]) := upd_same
    generalize upd H1 q2 (.lst [.int d0, .int d1]) = H2 at s2 h22 ⊢
    refine ⟨q2, d0, d1, rfl, h22, fun qa ws ts H3 s3 nqa hqa hts hat => ?_⟩
    refine gName_k ?_
    try dsimp only
    have hr3 := s3 _ _ (s2 _ _ hr1)
    have m0 : 0 ≤ d2 % 6 := Int.emod_nonneg _ (by decide)
    have m1 : d2 % 6 < 6 := Int.emod_lt_of_pos _ (by decide)
    have em : V.int (1 + d2 % 6) = V.int (((1 + d2 % 6).toNat : Nat) : Int) := by congr 1; omega
    refine ⟨_, rfl, _, rfl, r, _, _, _, rfl, rfl, SqL.of hr3, at_of (j := 2) rfl rfl, .inl ⟨_, rfl, _, _, rfl, rfl, (by show (0 : Int) < 6; decide), _, _, rfl, rfl, _, rfl, r, qa, 3, (1 + d2 % 6).toNat, d0 :: d1 :: d2 :: dr, ws, ts, by rw [← em]; rfl, hr3, hds, (by decide), (by rw [hdl]; omega), (by omega), hqa, hts, (by rw [hat.1]; decide), (by rw [hat.1]; decide), hat.2, fun qf us fs H4 s4 nqf hqf hfs hfl hfo => ?_⟩⟩
    refine ⟨_, rfl, (by show 2 ≤ sizeLine; decide), fun q hq => ?_⟩
    have sq := Rd.Same.upd (o := .tup [.ref qf, .ref qa]) hq
    exact k q qf qa us fs ws ts _ ((((s1.trans s2).trans s3).trans s4).trans sq) upd_same (sq _ _ hqf) (hfs.same sq) (by omega) (by omega) hfo ((s4.trans sq) _ _ hqa) (hts.same (s4.trans sq)) hat
end
end Rd
namespace Rd
open PySem L2
theorem rd_of {K : PySem.W.Frag} {H : Hp} {t : Tr} {v : V} {n : Nat} {q0 : Addr} {Q : VK} {E : XK} (hq : ∀ us, H q0 ≠ some (.tup us)) (it : IsT H t v) (wf : Wf t) (hn : t.dep + 1 ≤ n) (h100 : n ≤ 100) (k : ∀ x H', Same H H' → IsL K H' x v → IsT H' t v → Q (.ref x) H') : sp_of K n [v] H Q E := by
  have no := flt_form wf (n + 1) (by omega)
  exact ⟨v, t.th, q0, rfl, it.th hq, Tr.th_le (by omega), wf.short n (by omega), h100, fun _ x H' s' hx => k x H' s' hx (it.same s'), fun rel e => by rw [no] at e; cases e⟩
theorem IsOpen.eq {ts o1 o2 : List Tr} (h : IsOpen ts o1) (g : IsOpen ts o2) (t : Tr) : t ∈ o1 ↔ t ∈ o2 := ⟨h.least _ g.base g.pcl g.scl t, g.least _ h.base h.pcl h.scl t⟩
section
variable {P : Program} {w : World} {K : PySem.W.Frag} {mg : Str → Option Value} {base : Heap}
abbrev s__law_partner : Stmt := top 56
theorem sc__law_partner : FnScope ["_law_key"] ["_law_key"] (defScope s__law_partner) := ⟨rfl, rfl, rfl, by decide +kernel, rfl, by decide +kernel, by decide +kernel⟩
theorem ok__law_partner (T : Tx w K mg) : Fk P w K mg base CX0 1 "_law_partner" ["_law_key"] sp_partner := by
  refine T.F__law_partner.ok0 sc__law_partner (fun _ _ _ _ _ _ us hl => match us, hl with | [_], _ => rfl)
    (fun vs H Q E h => ?_) (fun cdv A outer s H vs Q E hr h => ?_)
  · obtain ⟨v, s, a, rfl, _⟩ := h
    rfl
  · obtain ⟨v, s, a, rfl, it, hs, k⟩ := h
    refine ⟨_, (pss_one (ps_ret (pe_tup (pa_cons (pe_ix ix_list (pe_lst (pa_cons pe_str (pa_cons pe_str pa_nil))) (pe_callTy call_int1 (by rfl) T.z_int (by decide +kernel) (pa_cons (pe_cmpR op_eq (pe_ix ix_tup (pv 0) pe_int (fun _ _ => rfl)) pe_str (nomark _)) pa_nil)) (fun _ _ => rfl)) (pa_cons (pe_ix ix_tup (pv 0) pe_int (fun _ _ => rfl)) pa_nil))))), ?_⟩
    obtain ⟨p, u, rfl, hp, iu⟩ := it
    refine ⟨(by show 2 ≤ sizeLine; decide), fun q1 hq1 => ?_⟩
    have s1 := Rd.Same.upd (o := .lst [.str "own", .str "open"]) hq1
    have h11 : upd H q1 (.lst [.str "own", .str "open"]) q1 = some (.lst [.str "own", .str "open"]) := upd_same
    generalize upd H q1 (.lst [.str "own", .str "open"]) = H1 at s1 h11 ⊢
    have fin : ∀ (z : Str), z = prt s → (∃ z', (V.str z = z') ∧ True) := fun z _ => ⟨_, rfl, trivial⟩
    refine ⟨_, rfl, p, _, _, _, rfl, rfl, SqT.of (s1 _ _ hp), at_of (j := 0) rfl rfl, rfl, .inr ⟨_, rfl, ?_⟩⟩
    rw [decS]
    by_cases e : s = "own"
    · subst e
      refine ⟨q1, _, _, .str "open", rfl, rfl, SqL.of h11, at_of (j := 1) (by decide +kernel) rfl, _, rfl, p, _, _, _, rfl, rfl, SqT.of (s1 _ _ hp), at_of (j := 1) rfl rfl, (by show 2 ≤ sizeLine; decide), fun q hq => ?_⟩
      have sq := Rd.Same.upd (o := .tup [.str "open", u]) hq
      exact k _ _ (s1.trans sq) ⟨q, u, rfl, upd_same, (iu.same s1).same sq⟩
    · have eo : s = "open" := by
        rcases List.mem_cons.mp hs with h | h
        · exact h
        · exact absurd (List.mem_singleton.mp h) e
      subst eo
      refine ⟨q1, _, _, .str "own", rfl, rfl, SqL.of h11, at_of (j := 0) (by decide +kernel) rfl, _, rfl, p, _, _, _, rfl, rfl, SqT.of (s1 _ _ hp), at_of (j := 1) rfl rfl, (by show 2 ≤ sizeLine; decide), fun q hq => ?_⟩
      have sq := Rd.Same.upd (o := .tup [.str "own", u]) hq
      exact k _ _ (s1.trans sq) ⟨q, u, rfl, upd_same, (iu.same s1).same sq⟩
abbrev s__law_undoing : Stmt := top 57
theorem sc__law_undoing : FnScope ["_law_form_here"] ["_law_form_here"] (defScope s__law_undoing) := ⟨rfl, rfl, rfl, by decide +kernel, rfl, by decide +kernel, by decide +kernel⟩
theorem ok__law_undoing (T : Tx w K mg) : Fk P w K mg base CX0 2 "_law_undoing" ["_law_form_here"] sp_ukey := by
  refine T.F__law_undoing.ok0 sc__law_undoing (fun _ _ _ _ _ _ us hl => match us, hl with | [_], _ => rfl)
    (fun vs H Q E h => ?_) (fun cdv A outer s H vs Q E hr h => ?_)
  · obtain ⟨v, t, key, rfl, _⟩ := h
    rfl
  · obtain ⟨v, t, key, rfl, it, wf, hk, k⟩ := h
    refine ⟨_, (pss_cons (ps_if (pt_cmpR op_eq (pe_ix ix_tup (pv 0) pe_int (fun _ _ => rfl)) pe_str (nomark _))
  (pss_one (ps_ret (pe_ix ix_tup (pv 0) pe_int (fun _ _ => rfl))))
  pss_nil)
  (pss_one (ps_ret (pe_fk (ok__law_partner T) (hr.mono (by omega)) rfl pass0 (pa_cons (pe_ix ix_tup (pv 0) pe_int (fun _ _ => rfl)) pa_nil))))), ?_⟩
    rcases ukey_inv wf hk with ⟨c, rfl⟩ | ⟨c, s, k0, rfl, hs, rfl⟩
    · obtain ⟨p, u1, u2, rfl, hp, i1, i2⟩ := it
      refine ⟨_, rfl, p, _, _, _, rfl, rfl, SqT.of hp, at_of (j := 0) rfl rfl, rfl, _, rfl, iteP (by decide +kernel) ?_⟩
      exact ⟨_, rfl, p, _, _, _, rfl, rfl, SqT.of hp, at_of (j := 2) rfl rfl, k _ _ (Same.refl _) i2⟩
    · obtain ⟨p, u1, u2, rfl, hp, i1, i2⟩ := it
      refine ⟨_, rfl, p, _, _, _, rfl, rfl, SqT.of hp, at_of (j := 0) rfl rfl, rfl, _, rfl, iteN (by decide +kernel) (nxt ?_)⟩
      try dsimp only
      exact ⟨_, rfl, p, _, _, _, rfl, rfl, SqT.of hp, at_of (j := 2) rfl rfl, u2, s, k0, rfl, i2, hs, fun u H' s' iu => k _ _ s' iu⟩
def sp_mkHeap (K : PySem.W.Frag) : Sp := fun vs H Q _ => ∃ (a : Addr) (ws : List V) (ts : List Tr), vs = [.ref a] ∧ H a = some (.lst ws) ∧ TsAt H ts ws ∧ okTs 6 ts ∧ ∀ h H', Same H H' → IsHp K H' h ts → Q (.ref h) H'
abbrev s__law_heap : Stmt := top 58
theorem sc__law_heap : FnScope ["_law_forms_here", "_law_form_here"] ["_law_forms_here"] (defScope s__law_heap) := ⟨rfl, rfl, rfl, by decide +kernel, rfl, by decide +kernel, by decide +kernel⟩
theorem ok__law_heap (T : Tx w K mg) : Fk P w K mg base CX0 30 "_law_heap" ["_law_forms_here"] (sp_mkHeap K) := by
  refine T.F__law_heap.ok0 sc__law_heap (fun _ _ _ _ _ _ us hl => match us, hl with | [_], _ => rfl)
    (fun vs H Q E h => ?_) (fun cdv A outer s H vs Q E hr h => ?_)
  · obtain ⟨a, ws, ts, rfl, _⟩ := h
    rfl
  · obtain ⟨a, ws, ts, rfl, ha, hts, ok, k⟩ := h
    refine ⟨_, (pss_one (ps_ret (pe_new T.J_Heap T.g_Heap (ok_Hinit T 6) (hr.mono (by omega)) (by rfl) pass0 (pa_cons (pe_lc (own := [("_law_form_here", 1)]) (g := gName 1) (tt := tYes) (by rfl) sc__law_heap.nd (pi_list (pv 0)) (blkOk_by (own := [("_law_form_here", 1)]) (N := ["_law_forms_here", "_law_form_here"]) (sc := defScope s__law_heap) (by decide +kernel)) (fun _ _ _ _ _ => (pg_name (i := 1) sc__law_heap.nd rfl (Or.inl rfl))) (fun _ _ _ _ _ => pts_nil) (fun _ _ _ _ _ => (pe_fs (ok_of T 17) (hr.mono (by omega)) rfl (fun _ => atN) (pa_cons (pv 1) pa_nil)))) pa_nil)))), ?_⟩
    have htl := hts.len
    have hok := ok.1
    refine ⟨_, rfl, a, rfl, ⟨_, SqL.of ha⟩, fun D hD => ?_⟩
    refine lcl (C := He.ga K "Letter") (fun i H v => ∃ t, ts[i]? = some t ∧ IsLet K H t v) (fun i H H' v kp ⟨t, e, h⟩ => ⟨t, e, h.mono kp⟩) (SqL.of ha) (by omega) hD (fun i y H2 Q2 hy s2 k2 => ?_) fun vs H2 s2 hD2 hv2 hvs => ?_
    · have hil := (List.getElem?_eq_some_iff.mp hy).1
      have ht : ts[i]? = some ts[i] := List.getElem?_eq_getElem (by omega)
      obtain ⟨w1, w2, w3⟩ := ok.2 _ (List.mem_of_getElem? ht)
      have iu := (hts.get i _ y ht hy).same s2
      exact ⟨_, rfl, rd_of (q0 := a) (fun us z => by rw [s2 _ _ ha] at z; cases z) iu w1 (by omega) (by decide) fun x H3 s3 hx ix => k2 _ H3 s3 ⟨_, ht, x, y, rfl, hx, ix⟩⟩
    · exact rd_mkH hD2 (LsAt.of (hv2.trans htl) hvs) ok (by decide) fun h H3 s3 hp => k h H3 (s2.trans s3) hp
def sp_toldL (K : PySem.W.Frag) : Sp := fun vs H Q _ => ∃ (a : Addr) (ws : List V) (ts : List Tr), vs = [.ref a] ∧ H a = some (.lst ws) ∧ LsAt K H ts ws ∧ ts.length ≤ 100000 ∧ ∀ q us H', Same H H' → H q = none → H' q = some (.lst us) → TsAt H' ts us → Q (.ref q) H'
abbrev s__law_told : Stmt := top 59
theorem sc__law_told : FnScope ["_law_letters", "_law_letter"] ["_law_letters"] (defScope s__law_told) := ⟨rfl, rfl, rfl, by decide +kernel, rfl, by decide +kernel, by decide +kernel⟩
theorem ok__law_toldL (T : Tx w K mg) : Fk P w K mg base CX0 4 "_law_told" ["_law_letters"] (sp_toldL K) := by
  refine T.F__law_told.ok0 sc__law_told (fun _ _ _ _ _ _ us hl => match us, hl with | [_], _ => rfl)
    (fun vs H Q E h => ?_) (fun cdv A outer s H vs Q E hr h => ?_)
  · obtain ⟨a, ws, ts, rfl, _⟩ := h
    rfl
  · obtain ⟨a, ws, ts, rfl, ha, hts, hl, k⟩ := h
    refine ⟨_, (pss_one (ps_ret (pe_lc (own := [("_law_letter", 1)]) (g := gName 1) (tt := tYes) (by rfl) sc__law_told.nd (pi_list (pv 0)) (blkOk_by (own := [("_law_letter", 1)]) (N := ["_law_letters", "_law_letter"]) (sc := defScope s__law_told) (by decide +kernel)) (fun _ _ _ _ _ => (pg_name (i := 1) sc__law_told.nd rfl (Or.inl rfl))) (fun _ _ _ _ _ => pts_nil) (fun _ _ _ _ _ => (pe_fm0k (K := K) rfl (pv 1) T.k_Letter (ok_form T) (hr.mono (by omega)) pass0))))), ?_⟩
    have htl := hts.len
    refine ⟨_, rfl, a, rfl, ⟨_, SqL.of ha⟩, fun D hD => ?_⟩
    refine lcl (C := 0) (fun i H v => ∃ t, ts[i]? = some t ∧ IsT H t v) (fun i H H' v kp ⟨t, e, h⟩ => ⟨t, e, h.mono kp⟩) (SqL.of ha) (by omega) hD (fun i y H2 Q2 hy s2 k2 => ?_) fun vs H2 s2 hD2 hv2 hvs => ?_
    · have hil := (List.getElem?_eq_some_iff.mp hy).1
      have ht : ts[i]? = some ts[i] := List.getElem?_eq_getElem (by omega)
      obtain ⟨b, u, rfl, ⟨db, hb⟩, iu⟩ := (hts.get i _ y ht hy).same s2
      exact ⟨_, rfl, b, db, _, rfl, hb, lookT (by decide +kernel), b, u, rfl, ⟨db, hb⟩, k2 _ _ (Same.refl _) ⟨_, ht, iu⟩⟩
    · exact k D vs H2 s2 hD hD2 (TsAt.of (hv2.trans htl) hvs)
def sp_inH (K : PySem.W.Frag) : Sp := fun vs H Q _ => ∃ (a h : Addr) (ws : List V) (fs ts os : List Tr), vs = [.ref a, .ref h] ∧ H a = some (.lst ws) ∧ TsAt H fs ws ∧ fs.length ≤ 1000 ∧ (∀ t ∈ fs, Wf t ∧ t.dep ≤ 16) ∧ IsHp K H h ts ∧ bigTs 6 ts ∧ IsOpen ts os ∧ ∀ H', Same H H' → Q (.bl (fs.all (mka os))) H'
def inn1 (O : List Tr) (t : Tr) : List Tr := if t.head = "pair" then t.parts else if opn O t = true then [cnt1 t] else []
def sp_inner (K : PySem.W.Frag) : Sp := fun vs H Q _ => ∃ (v : V) (h : Addr) (t : Tr) (ts os : List Tr), vs = [v, .ref h] ∧ IsT H t v ∧ Wf t ∧ t.dep ≤ 15 ∧ IsHp K H h ts ∧ bigTs 6 ts ∧ IsOpen ts os ∧ ∀ q us H', Same H H' → H q = none → H' q = some (.lst us) → TsAt H' (inn1 os t) us → Q (.ref q) H'
end
end Rd
namespace Rd
open PySem L2
/-- any walk over a list -/
theorem walkL {K : PySem.W.Frag} {a : Addr} {xs : List V} {GG : V → Hp → (Hp → Prop) → Prop} {H0 : Hp} {Qd : Hp → Prop} (Pv : Nat → Hp → Prop) (h0 : Pv 0 H0) (hl : ∀ i H, i ≤ xs.length → Pv i H → SqL K H a xs) (hs : ∀ i x H, xs[i]? = some x → Pv i H → GG x H (Pv (i + 1))) (hd : ∀ H, Pv xs.length H → Qd H) :
    ∃ W : Nat → Nat → Hp → Prop, (∃ m, W 0 m H0) ∧ ∀ i m H, W i m H →
      ((Itl K a).stop i H ∧ Qd H) ∨ ((Itl K a).go i H ∧ ∃ Nx : Hp → Prop, (∀ H', Nx H' → ∃ m', m' < m ∧ W (i + 1) m' H') ∧ ∀ x H', (Itl K a).yld i H x H' → GG x H' Nx) := by
  refine ⟨fun i m H => m = xs.length - i ∧ i ≤ xs.length ∧ Pv i H, ⟨xs.length, by simp, Nat.zero_le _, h0⟩, ?_⟩
  rintro i m H ⟨rfl, hi, p⟩
  have q := hl i H hi p
  by_cases hlt : i < xs.length
  · refine .inr ⟨⟨xs, xs[i], q, by simp [hlt]⟩, Pv (i + 1), fun H' p' => ⟨xs.length - (i + 1), by omega, rfl, hlt, p'⟩, fun x H' y => ?_⟩
    obtain ⟨e, y⟩ := y
    subst e
    exact hs i x _ (y xs q) p
  · have e : i = xs.length := by omega
    subst e
    exact .inl ⟨⟨xs, q, Nat.le_refl _⟩, hd H p⟩
structure AtL {β : Type} (R : Hp → β → V → Prop) (H : Hp) (bs : List β) (vs : List V) : Prop where
  len : vs.length = bs.length
  get : ∀ (i : Nat) b v, bs[i]? = some b → vs[i]? = some v → R H b v
theorem AtL.ts {H : Hp} {bs : List Tr} {vs : List V} (h : AtL IsT H bs vs) : TsAt H bs vs := ⟨h.len, h.get⟩
theorem AtL.nil {β : Type} {R : Hp → β → V → Prop} {H : Hp} : AtL R H [] [] := ⟨rfl, fun i r v h => by simp at h⟩
theorem AtL.snoc {β : Type} {R : Hp → β → V → Prop} {H : Hp} {rs : List β} {vs : List V} {r : β} {v : V} (h : AtL R H rs vs) (g : R H r v) : AtL R H (rs ++ [r]) (vs ++ [v]) := by
  have hl := h.len
  refine ⟨by rw [List.length_append, List.length_append, hl]; rfl, fun i p u a b => ?_⟩
  by_cases hi : i < rs.length
  · rw [List.getElem?_append_left hi] at a
    rw [List.getElem?_append_left (by omega)] at b
    exact h.get i p u a b
  · rw [List.getElem?_append_right (by omega)] at a
    rw [List.getElem?_append_right (by omega)] at b
    rw [hl] at b
    cases e : i - rs.length with
    | zero =>
      rw [e] at a b
      cases a
      cases b
      exact g
    | succ j =>
      rw [e] at a
      simp at a
theorem AtL.mp {β : Type} {R R' : Hp → β → V → Prop} {H H' : Hp} {rs : List β} {vs : List V} (h : AtL R H rs vs) (f : ∀ r v, R H r v → R' H' r v) : AtL R' H' rs vs := ⟨h.len, fun i r v a b => f r v (h.get i r v a b)⟩
/-- [te for x in xs if tt] -/
theorem lcg {α β : Type} {K : PySem.W.Frag} {C a D : Addr} {xs : List V} {ds : List α} {R : Hp → β → V → Prop} {tt : TT} {te : TE} {i0 : Nat} {σ : St} {H1 : Hp} {Qd : Hp → Prop} (p : α → Bool) (g : α → β) (rm : ∀ H H' b v, Kp C H H' → R H b v → R H' b v) (hS : SqL K H1 a xs) (he : xs.length = ds.length) (hl : xs.length ≤ 100000) (hD : H1 D = none)
    (htt : ∀ (i : Nat) (x : V) (d : α) (H : Hp) (Q : Bool → Hp → Prop), xs[i]? = some x → ds[i]? = some d → Same H1 H → (∀ H', Same H H' → Q (p d) H') → tt ((wipe σ [i0]).set i0 (some x)) H Q)
    (hte : ∀ (i : Nat) (x : V) (d : α) (H : Hp) (Q : VK), xs[i]? = some x → ds[i]? = some d → p d = true → Same H1 H → (∀ v H', Same H H' → R H' (g d) v → Q v H') → te ((wipe σ [i0]).set i0 (some x)) H Q)
    (hq : ∀ vs H', Same H1 H' → H' D = some (.lst vs) → AtL R H' ((ds.filter p).map g) vs → Qd H') :
    ∃ W : Nat → Nat → Hp → Prop, (∃ m, W 0 m (L2.upd H1 D (.lst []))) ∧ ∀ i m H, W i m H →
      ((Itl K a).stop i H ∧ Qd H) ∨ ((Itl K a).go i H ∧ ∃ Nx : Hp → Prop, (∀ H', Nx H' → ∃ m', m' < m ∧ W (i + 1) m' H') ∧ ∀ x H', (Itl K a).yld i H x H' → gName i0 x (wipe σ [i0]) H' fun σ2 H2 => wipe σ2 [i0] = wipe σ [i0] ∧ tt σ2 H2 fun b H3 =>
        if b = true then te σ2 H3 fun y H4 => ∃ acc, H4 D = some (.lst acc) ∧ acc.length < sizeLine ∧ Nx (L2.upd H4 D (.lst (acc ++ [y]))) else Nx H3) := by
  refine walkL (K := K) (a := a) (xs := xs) (fun i H => ∃ vs, Same H1 H ∧ H D = some (.lst vs) ∧ AtL R H (((ds.take i).filter p).map g) vs) ⟨[], Rd.Same.upd hD, upd_same, AtL.nil⟩ (fun i H _ ⟨_, s, _⟩ => SqL.kept hS s) ?_ ?_
  · rintro i x H hx ⟨vs, sm, hd, hv⟩
    have hlt := (List.getElem?_eq_some_iff.mp hx).1
    have ht : ds[i]? = some ds[i] := List.getElem?_eq_getElem (by omega)
    have etk : ds.take (i + 1) = ds.take i ++ [ds[i]] := by rw [List.take_succ, ht]; rfl
    refine gName_k ⟨by simp [wipe], ?_⟩
    refine htt i x _ H _ hx ht sm fun H2 s2 => ?_
    cases ep : p ds[i] with
    | false =>
      refine iteF ⟨vs, sm.trans s2, s2 _ _ hd, ?_⟩
      rw [etk, List.filter_append, List.filter_cons_of_neg (by rw [ep]; decide), List.filter_nil, List.append_nil]
      exact hv.mp fun r v h => rm _ _ _ _ (Kp.of_same s2) h
    | true =>
      refine iteT (hte i x _ H2 _ hx ht ep (sm.trans s2) fun v H3 s3 h3 => ?_)
      have hD3 := s3 _ _ (s2 _ _ hd)
      have kp := Kp.upd_lst (C := C) (ys := vs ++ [v]) hD3
      have hvl := hv.len
      have hfl : (((ds.take i).filter p).map g).length ≤ i := by
        rw [List.length_map]
        refine Nat.le_trans (List.length_filter_le _ _) ?_
        rw [List.length_take]
        omega
      have big : 16777216 ≤ sizeLine := by decide
      refine ⟨vs, hD3, by omega, vs ++ [v], fun c o e => ?_, upd_same, ?_⟩
      · rw [upd_ne (ne_of_none e hD)]
        exact s3 _ _ (s2 _ _ (sm _ _ e))
      · rw [etk, List.filter_append, List.filter_cons_of_pos ep, List.filter_nil, List.map_append]
        exact (hv.mp fun r v h => rm _ _ _ _ ((Kp.of_same (s2.trans s3)).trans kp) h).snoc (rm _ _ _ _ kp h3)
  · rintro H ⟨vs, sm, hd, hv⟩
    rw [he, List.take_length] at hv
    exact hq vs H sm hd hv
theorem dpAll_app {K : PySem.W.Frag} {H : Hp} : ∀ {vs us : List V} {ds es : List PyData}, DpAll K H vs ds → DpAll K H us es → DpAll K H (vs ++ us) (ds ++ es)
  | _, _, _, _, .nil, h => h
  | _, _, _, _, .cons a b, h => .cons a (dpAll_app b h)
theorem dpAll_at {β : Type} {K : PySem.W.Frag} {H : Hp} {R : Hp → β → V → Prop} {f : β → PyData} (hf : ∀ b v, R H b v → Dp K H v (f b)) : ∀ {bs : List β} {vs : List V}, AtL R H bs vs → DpAll K H vs (bs.map f)
  | [], [], _ => .nil
  | [], v :: vs, h => by have := h.len; cases this
  | b :: bs, [], h => by have := h.len; cases this
  | b :: bs, v :: vs, h => .cons (hf b v (h.get 0 b v rfl rfl)) (dpAll_at hf ⟨by have := h.len; simpa using this, fun i b v h1 h2 => h.get (i + 1) b v h1 h2⟩)
theorem tYes_k {σ : St} {H : Hp} {A B : Hp → Prop} (h : A H) : tYes σ H fun b H3 => if b = true then A H3 else B H3 := by
  show (if true = true then A H else B H)
  rw [if_pos rfl]
  exact h
end Rd
namespace Rd
open PySem L2
/-! ### dicts from texts to anything, in their order -/
def AlG {α : Type} (R : Hp → α → V → Prop) (H : Hp) : List (Str × α) → List (Key × V) → Prop
  | [], [] => True
  | (x, t) :: l, (k, v) :: kvs => k = .inr x ∧ R H t v ∧ AlG R H l kvs
  | _, _ => False
def lookG {α : Type} (l : List (Str × α)) (x : Str) : Option α := (l.find? fun p => decide (p.1 = x)).map (·.2)
theorem AlG.len {α : Type} {R : Hp → α → V → Prop} {H : Hp} : ∀ {l : List (Str × α)} {kvs : List (Key × V)}, AlG R H l kvs → kvs.length = l.length
  | [], [], _ => rfl
  | (x, t) :: l, (k, v) :: kvs, h => congrArg (· + 1) (AlG.len h.2.2)
theorem AlG.mono {α : Type} {R S : Hp → α → V → Prop} {H H' : Hp} (m : ∀ t v, R H t v → S H' t v) : ∀ {l : List (Str × α)} {kvs : List (Key × V)}, AlG R H l kvs → AlG S H' l kvs
  | [], [], _ => trivial
  | (x, t) :: l, (k, v) :: kvs, h => ⟨h.1, m _ _ h.2.1, AlG.mono m h.2.2⟩
theorem AlG.get {α : Type} {R : Hp → α → V → Prop} {H : Hp} : ∀ {l : List (Str × α)} {kvs : List (Key × V)} {i : Nat} {k : Key} {v : V}, AlG R H l kvs → kvs[i]? = some (k, v) → ∃ x t, l[i]? = some (x, t) ∧ k = .inr x ∧ R H t v
  | (x, t) :: l, (k, v) :: kvs, 0, _, _, h, e => by
    cases e
    exact ⟨x, t, rfl, h.1, h.2.1⟩
  | (x, t) :: l, (k, v) :: kvs, i + 1, _, _, h, e => by
    obtain ⟨y, u, e1, e2, e3⟩ := AlG.get (l := l) (kvs := kvs) (i := i) h.2.2 (by simpa using e)
    exact ⟨y, u, by simpa using e1, e2, e3⟩
  | [], [], _, _, _, _, e => by simp at e
theorem AlG.snoc {α : Type} {R : Hp → α → V → Prop} {H : Hp} {x : Str} {t : α} {v : V} (r : R H t v) : ∀ {l : List (Str × α)} {kvs : List (Key × V)}, AlG R H l kvs → AlG R H (l ++ [(x, t)]) (kvs ++ [(.inr x, v)])
  | [], [], _ => ⟨rfl, r, trivial⟩
  | (y, u) :: l, (k, z) :: kvs, h => ⟨h.1, h.2.1, AlG.snoc r h.2.2⟩
theorem AlG.look {α : Type} {R : Hp → α → V → Prop} {H : Hp} {x : Str} : ∀ {l : List (Str × α)} {kvs : List (Key × V)}, AlG R H l kvs → (∀ t, lookG l x = some t → ∃ v, valV kvs (.inr x) = some v ∧ R H t v) ∧ (lookG l x = none → valV kvs (.inr x) = none)
  | [], [], _ => ⟨fun t e => (by cases e), fun _ => rfl⟩
  | (y, u) :: l, (k, z) :: kvs, h => by
    obtain ⟨rfl, h2, h3⟩ := h
    by_cases e : y = x
    · subst e
      have e1 : lookG ((y, u) :: l) y = some u := by simp [lookG]
      refine ⟨fun t e => ?_, fun e => ?_⟩
      · rw [e1] at e
        cases e
        exact ⟨z, valV_pos rfl, h2⟩
      · rw [e1] at e
        cases e
    · have e1 : lookG ((y, u) :: l) x = lookG l x := by simp [lookG, e]
      rw [e1, valV_neg (fun q => e (by cases q; rfl))]
      exact AlG.look h3
theorem lookG_mem {α : Type} {l : List (Str × α)} {x : Str} {t : α} (h : lookG l x = some t) : (x, t) ∈ l := by
  unfold lookG at h
  obtain ⟨p, hp, rfl⟩ := Option.map_eq_some_iff.mp h
  have h1 := List.mem_of_find?_eq_some hp
  have h2 := of_decide_eq_true (List.find?_some (p := fun p : Str × α => decide (p.1 = x)) hp)
  rw [← h2]
  exact h1
theorem lookG_none {α : Type} {l : List (Str × α)} {x : Str} (h : lookG l x = none) : x ∉ l.map (·.1) := by
  unfold lookG at h
  rw [Option.map_eq_none_iff, List.find?_eq_none] at h
  intro hm
  obtain ⟨p, hp, e⟩ := List.mem_map.mp hm
  exact h p hp (decide_eq_true e)
theorem lookG_some {α : Type} {l : List (Str × α)} {x : Str} (h : x ∈ l.map (·.1)) : ∃ t, lookG l x = some t := by
  cases e : lookG l x with
  | some t => exact ⟨t, rfl⟩
  | none => exact absurd h (lookG_none e)
/-! ### recipes -/
inductive Rc : Type
  | at_ (k : Int) : Rc
  | wd (x : Str) : Rc
  | un (s : Str) (r : Rc) : Rc
  | bi (s : Str) (r q : Rc) : Rc
def IsR (H : Hp) : Rc → V → Prop
  | .at_ k, v => ∃ p, v = .ref p ∧ H p = some (.tup [.str "at", .int k])
  | .wd x, v => ∃ p, v = .ref p ∧ H p = some (.tup [.str "word", .str x])
  | .un s r, v => ∃ p u, v = .ref p ∧ H p = some (.tup [.str s, u]) ∧ IsR H r u
  | .bi s r q, v => ∃ p u u2, v = .ref p ∧ H p = some (.tup [.str s, u, u2]) ∧ IsR H r u ∧ IsR H q u2
theorem IsR.mono {C : Addr} {H H' : Hp} (k : Kp C H H') : ∀ {r : Rc} {v : V}, IsR H r v → IsR H' r v
  | .at_ _, v, ⟨p, e, h⟩ => ⟨p, e, k _ _ rfl h⟩
  | .wd _, v, ⟨p, e, h⟩ => ⟨p, e, k _ _ rfl h⟩
  | .un s r, v, ⟨p, u, e, h, g⟩ => ⟨p, u, e, k _ _ rfl h, IsR.mono k g⟩
  | .bi s r q, v, ⟨p, u, u2, e, h, g1, g2⟩ => ⟨p, u, u2, e, k _ _ rfl h, IsR.mono k g1, IsR.mono k g2⟩
theorem IsR.same {H H' : Hp} {r : Rc} {v : V} (s : Same H H') (h : IsR H r v) : IsR H' r v := h.mono (C := 0) (Kp.of_same s)
def Rc.tag : Rc → Str
  | .at_ _ => "at"
  | .wd _ => "word"
  | .un s _ => s
  | .bi s _ _ => s
def Rc.kids : Rc → List Rc
  | .un _ r => [r]
  | .bi _ r q => [r, q]
  | _ => []
/-- what one step makes -/
def wk1 (s : Str) (t : Tr) : Option Tr :=
  if s = "first" then (match t with | .bi z a _ => if z = "pair" then some a else none | _ => none)
  else if s = "second" then (match t with | .bi z _ b => if z = "pair" then some b else none | _ => none)
  else some (.un s t)
def wk2 (s : Str) (t u : Tr) : Option Tr :=
  if s = "unseal" then (match t with | .bi z a k => if z = "seal" ∧ k = u then some a else none | _ => none)
  else if s = "unlock" then (match t with | .bi z a k => if z = "lock" ∧ ukey (.bi z a k) = some u then some a else none | _ => none)
  else if s = "lock" then (if u.head = "open" ∨ u.head = "own" then some (.bi s t u) else none)
  else some (.bi s t u)
/-- the first part that does not work, or what is made -/
def rcx (ts : List Tr) : Rc → Rc ⊕ Tr
  | .at_ k => if 0 ≤ k then (match ts[k.toNat]? with | some t => .inr t | none => .inl (.at_ k)) else .inl (.at_ k)
  | .wd x => .inr (.am "word" x)
  | .un s r => match rcx ts r with
    | .inl e => .inl e
    | .inr t => match wk1 s t with
      | some u => .inr u
      | none => .inl (.un s r)
  | .bi s r q => match rcx ts r with
    | .inl e => .inl e
    | .inr t => match rcx ts q with
      | .inl e => .inl e
      | .inr t2 => match wk2 s t t2 with
        | some u => .inr u
        | none => .inl (.bi s r q)
def UNL : List Str := ["first", "second", "mark", "open"]
def BIL : List Str := ["unseal", "unlock", "pair", "seal", "lock"]
/-- it is a recipe -/
def RcOk : Rc → Prop
  | .at_ _ => True
  | .wd x => isWord x = true
  | .un s r => s ∈ UNL ∧ RcOk r
  | .bi s r q => s ∈ BIL ∧ RcOk r ∧ RcOk q
/-! ### ways -/
abbrev WayL := List (Str × Tr × Rc)
def wtr (W : WayL) : List Tr := W.map fun p => p.2.1
def wy (W : WayL) (t : Tr) : Option Rc := (lookG W (textOf t)).map (·.2)
def mkR (W : WayL) : Tr → Option Rc
  | .am k x => if k = "word" then some (.wd x) else wy W (.am k x)
  | .un s a => match wy W (.un s a) with
    | some r => some r
    | none => if s = "own" then none else (mkR W a).map (Rc.un s)
  | .bi s a b => match wy W (.bi s a b) with
    | some r => some r
    | none => match mkR W a, mkR W b with
      | some r, some q => some (.bi s r q)
      | _, _ => none
/-- the ways are right -/
structure WayOk (d : Nat) (ts : List Tr) (W : WayL) : Prop where
  tx : ∀ p ∈ W, p.1 = textOf p.2.1
  wf : ∀ p ∈ W, Wf p.2.1 ∧ p.2.1.dep ≤ d
  rc : ∀ p ∈ W, rcx ts p.2.2 = .inr p.2.1 ∧ RcOk p.2.2
  nd : (W.map (·.1)).Nodup
  lst : ∀ O', (∀ t ∈ ts, t ∈ O') → PCl O' → SCl O' O' → ∀ t ∈ wtr W, t ∈ O'
theorem WayOk.nil {d : Nat} {ts : List Tr} : WayOk d ts [] := ⟨(fun p h => by cases h), (fun p h => by cases h), (fun p h => by cases h), List.nodup_nil, (fun O' _ _ _ t h => by cases h)⟩
theorem WayOk.look {d : Nat} {ts : List Tr} {W : WayL} (h : WayOk d ts W) {t : Tr} (wf : Wf t) {u : Tr} {r : Rc} (e : lookG W (textOf t) = some (u, r)) : u = t ∧ (textOf t, t, r) ∈ W := by
  have hm := lookG_mem e
  have h1 := h.tx _ hm
  have h2 := (h.wf _ hm).1
  have : u = t := text_inj h2 wf h1.symm
  subst this
  exact ⟨rfl, hm⟩
theorem WayOk.has {d : Nat} {ts : List Tr} {W : WayL} (h : WayOk d ts W) {t : Tr} (wf : Wf t) : (lookG W (textOf t)).isSome = decide (t ∈ wtr W) := by
  rw [Bool.eq_iff_iff, decide_eq_true_eq, Option.isSome_iff_exists]
  constructor
  · rintro ⟨⟨u, r⟩, e⟩
    obtain ⟨rfl, hm⟩ := h.look wf e
    exact List.mem_map.mpr ⟨_, hm, rfl⟩
  · intro hm
    obtain ⟨p, hp, e⟩ := List.mem_map.mp hm
    obtain ⟨q, hq⟩ := lookG_some (l := W) (x := textOf t) (List.mem_map.mpr ⟨p, hp, by rw [h.tx p hp, e]⟩)
    exact ⟨q, hq⟩
theorem WayOk.wy {d : Nat} {ts : List Tr} {W : WayL} (h : WayOk d ts W) {t : Tr} (wf : Wf t) : (wy W t).isSome = decide (t ∈ wtr W) := by
  rw [← h.has wf]
  unfold Rd.wy
  cases lookG W (textOf t) <;> rfl
theorem WayOk.wyr {d : Nat} {ts : List Tr} {W : WayL} (h : WayOk d ts W) {t : Tr} (wf : Wf t) {r : Rc} (e : Rd.wy W t = some r) : rcx ts r = .inr t ∧ RcOk r := by
  unfold Rd.wy at e
  obtain ⟨⟨u, r'⟩, e1, rfl⟩ := Option.map_eq_some_iff.mp e
  obtain ⟨rfl, hm⟩ := h.look wf e1
  exact h.rc _ hm
/-- what is told is a recipe that makes the form -/
theorem Wf.lockKey {a b : Tr} (h : Wf (.bi "lock" a b)) : ∃ s k, b = .un s k ∧ s ∈ (["open", "own"] : List Str) := by
  cases h with
  | bi hs _ _ => exact absurd hs (by decide +kernel)
  | lk hs _ _ => exact ⟨_, _, rfl, hs⟩
theorem mkR_ok {d : Nat} {ts : List Tr} {W : WayL} (h : WayOk d ts W) : ∀ {t : Tr}, Wf t → ∀ {r : Rc}, mkR W t = some r → rcx ts r = .inr t ∧ RcOk r
  | .am k x, wf, r, e => by
    unfold mkR at e
    by_cases hk : k = "word"
    · rw [if_pos hk] at e
      cases e
      subst hk
      refine ⟨rfl, ?_⟩
      rcases wf.shp with ⟨_, _, e, ko⟩ | ⟨_, _, e, _⟩ | ⟨_, _, _, e, _⟩
      · cases e
        rcases ko with ⟨_, h⟩ | ⟨e, _⟩ | ⟨e, _⟩
        · exact h
        · exact absurd e (by decide +kernel)
        · exact absurd e (by decide +kernel)
      · cases e
      · cases e
    · rw [if_neg hk] at e
      exact h.wyr wf e
  | .un s a, wf, r, e => by
    unfold mkR at e
    cases ew : Rd.wy W (.un s a) with
    | some r' =>
      rw [ew] at e
      cases e
      exact h.wyr wf ew
    | none =>
      rw [ew] at e
      by_cases hs : s = "own"
      · rw [show (match (none : Option Rc) with | some r => some r | none => if s = "own" then none else (mkR W a).map (Rc.un s)) = if s = "own" then none else (mkR W a).map (Rc.un s) from rfl, if_pos hs] at e
        cases e
      · rw [show (match (none : Option Rc) with | some r => some r | none => if s = "own" then none else (mkR W a).map (Rc.un s)) = if s = "own" then none else (mkR W a).map (Rc.un s) from rfl, if_neg hs] at e
        obtain ⟨q, hq, rfl⟩ := Option.map_eq_some_iff.mp e
        rcases wf.shp with ⟨_, _, e, _⟩ | ⟨_, _, e, hs2, wa⟩ | ⟨_, _, _, e, _⟩
        · cases e
        · cases e
          obtain ⟨h1, h2⟩ := mkR_ok h wa hq
          have hs3 : s ∈ UNL ∧ s ≠ "first" ∧ s ≠ "second" := by
            have : ∀ z ∈ (["mark", "open", "own"] : List Str), z ≠ "own" → z ∈ UNL ∧ z ≠ "first" ∧ z ≠ "second" := by decide +kernel
            exact this s hs2 hs
          refine ⟨?_, hs3.1, h2⟩
          unfold rcx
          rw [h1]
          show (match wk1 s a with | some u => Sum.inr u | none => Sum.inl (Rc.un s q)) = _
          unfold wk1
          rw [if_neg hs3.2.1, if_neg hs3.2.2]
        · cases e
  | .bi s a b, wf, r, e => by
    unfold mkR at e
    cases ew : Rd.wy W (.bi s a b) with
    | some r' =>
      rw [ew] at e
      cases e
      exact h.wyr wf ew
    | none =>
      rw [ew] at e
      rcases wf.shp with ⟨_, _, z, _⟩ | ⟨_, _, z, _⟩ | ⟨s', a', b', z, hs, wa, wb⟩
      · cases z
      · cases z
      · cases z
        cases ea : mkR W a with
        | none => rw [ea] at e; cases e
        | some ra =>
          cases eb : mkR W b with
          | none => rw [ea, eb] at e; cases e
          | some rb =>
            rw [ea, eb] at e
            cases e
            obtain ⟨h1, h2⟩ := mkR_ok h wa ea
            obtain ⟨h3, h4⟩ := mkR_ok h wb eb
            have hs3 : s ∈ BIL ∧ s ≠ "unseal" ∧ s ≠ "unlock" := by
              have : ∀ z ∈ (["pair", "seal", "lock"] : List Str), z ∈ BIL ∧ z ≠ "unseal" ∧ z ≠ "unlock" := by decide +kernel
              exact this s hs
            refine ⟨?_, hs3.1, h2, h4⟩
            unfold rcx
            rw [h1, h3]
            show (match wk2 s a b with | some u => Sum.inr u | none => Sum.inl (Rc.bi s ra rb)) = _
            unfold wk2
            rw [if_neg hs3.2.1, if_neg hs3.2.2]
            by_cases hl : s = "lock"
            · subst hl
              rw [if_pos rfl, if_pos]
              obtain ⟨sk, kk, rfl, hk⟩ := wf.lockKey
              have : sk = "open" ∨ sk = "own" := by simpa using hk
              exact this
            · rw [if_neg hl]
/-- something is told just if it can be made -/
theorem mkR_some {d : Nat} {ts : List Tr} {W : WayL} (h : WayOk d ts W) : ∀ {t : Tr}, Wf t → (mkR W t).isSome = mka (wtr W) t
  | .am k x, wf => by
    rw [mka_step wf]
    unfold mkR
    by_cases hk : k = "word"
    · rw [if_pos hk, show (Tr.am k x).head = k from rfl, decide_eq_true hk]
      rfl
    · rw [if_neg hk, show (Tr.am k x).head = k from rfl, decide_eq_false hk, Bool.false_or, h.wy wf]
      have : decide (k ∈ MKL) = false := by
        rcases wf.shp with ⟨_, _, e, ko⟩ | ⟨_, _, e, _⟩ | ⟨_, _, _, e, _⟩
        · cases e
          rcases ko with ⟨rfl, _⟩ | ⟨rfl, _⟩ | ⟨rfl, _⟩ <;> decide +kernel
        · cases e
        · cases e
      rw [this, Bool.false_and, Bool.or_false]
  | .un s a, wf => by
    rw [mka_step wf]
    rcases wf.shp with ⟨_, _, e, _⟩ | ⟨_, _, e, hs, wa⟩ | ⟨_, _, _, e, _⟩
    · cases e
    · cases e
      have hw := h.wy wf
      have hnw : decide (s = "word") = false := decide_eq_false fun e => by subst e; revert hs; decide +kernel
      rw [show (Tr.un s a).head = s from rfl, hnw, Bool.false_or, ← hw, show (Tr.un s a).parts = [a] from rfl]
      unfold mkR
      cases ew : Rd.wy W (.un s a) with
      | some r => rfl
      | none =>
        show (if s = "own" then none else (mkR W a).map (Rc.un s)).isSome = (false || (decide (s ∈ MKL) && ([a].all (mka (wtr W)))))
        by_cases ho : s = "own"
        · rw [if_pos ho, ho]
          have : decide (("own" : Str) ∈ MKL) = false := by decide +kernel
          rw [this]
          rfl
        · have hm : decide (s ∈ MKL) = true := by
            have : ∀ z ∈ (["mark", "open", "own"] : List Str), z ≠ "own" → decide (z ∈ MKL) = true := by decide +kernel
            exact this s hs ho
          rw [if_neg ho, Option.isSome_map, mkR_some h wa, hm, List.all_cons, List.all_nil, Bool.and_true, Bool.true_and, Bool.false_or]
    · cases e
  | .bi s a b, wf => by
    rw [mka_step wf]
    rcases wf.shp with ⟨_, _, e, _⟩ | ⟨_, _, e, _⟩ | ⟨_, _, _, e, hs, wa, wb⟩
    · cases e
    · cases e
    · cases e
      have hw := h.wy wf
      have hnw : decide (s = "word") = false := decide_eq_false fun e => by subst e; revert hs; decide +kernel
      have hm : decide (s ∈ MKL) = true := by
        have : ∀ z ∈ (["pair", "seal", "lock"] : List Str), decide (z ∈ MKL) = true := by decide +kernel
        exact this s hs
      rw [show (Tr.bi s a b).head = s from rfl, hnw, Bool.false_or, ← hw, hm, Bool.true_and, show (Tr.bi s a b).parts = [a, b] from rfl, List.all_cons, List.all_cons, List.all_nil, Bool.and_true, ← mkR_some h wa, ← mkR_some h wb]
      have em : mkR W (.bi s a b) = (match Rd.wy W (.bi s a b) with
        | some r => some r
        | none => match mkR W a, mkR W b with
          | some r, some q => some (.bi s r q)
          | _, _ => none) := rfl
      rw [em]
      cases ew : Rd.wy W (.bi s a b) with
      | some r => rfl
      | none =>
        cases ea : mkR W a with
        | none => rfl
        | some ra =>
          cases eb : mkR W b with
          | none => rfl
          | some rb => rfl
def addW : Tr → Rc → WayL → WayL
  | .am k x, r, W => if (lookG W (textOf (.am k x))).isSome = true then W else W ++ [(textOf (.am k x), .am k x, r)]
  | .un s a, r, W => if (lookG W (textOf (.un s a))).isSome = true then W else W ++ [(textOf (.un s a), .un s a, r)]
  | .bi s a b, r, W => if (lookG W (textOf (.bi s a b))).isSome = true then W else
    if s = "pair" then addW b (.un "second" r) (addW a (.un "first" r) (W ++ [(textOf (.bi s a b), .bi s a b, r)])) else W ++ [(textOf (.bi s a b), .bi s a b, r)]
theorem WayOk.snoc {d : Nat} {ts : List Tr} {W : WayL} (h : WayOk d ts W) {t : Tr} {r : Rc} (wf : Wf t) (dp : t.dep ≤ d) (hr : rcx ts r = .inr t) (ok : RcOk r) (hl : (lookG W (textOf t)).isSome = false) (hO : ∀ O', (∀ t ∈ ts, t ∈ O') → PCl O' → SCl O' O' → t ∈ O') : WayOk d ts (W ++ [(textOf t, t, r)]) := by
  refine ⟨fun p hp => ?_, fun p hp => ?_, fun p hp => ?_, ?_, fun O' a b c u hu => ?_⟩
  · rcases List.mem_append.mp hp with hp | hp
    · exact h.tx p hp
    · rw [List.mem_singleton.mp hp]
  · rcases List.mem_append.mp hp with hp | hp
    · exact h.wf p hp
    · rw [List.mem_singleton.mp hp]; exact ⟨wf, dp⟩
  · rcases List.mem_append.mp hp with hp | hp
    · exact h.rc p hp
    · rw [List.mem_singleton.mp hp]; exact ⟨hr, ok⟩
  · rw [List.map_append, List.nodup_append]
    refine ⟨h.nd, by simp, fun x hx y hy e => ?_⟩
    have hy : y = textOf t := by simpa using hy
    subst e
    rw [hy] at hx
    obtain ⟨q, hq⟩ := lookG_some hx
    rw [hq] at hl
    cases hl
  · unfold wtr at hu
    rw [List.map_append] at hu
    rcases List.mem_append.mp hu with hu | hu
    · exact h.lst O' a b c u hu
    · have : u = t := by simpa using hu
      rw [this]
      exact hO O' a b c
/-- what a call of add_way does -/
structure AddOk (W W' : WayL) (t : Tr) : Prop where
  pre : ∃ m, W' = W ++ m
  mem : t ∈ wtr W'
  pcl : ∀ a b, Tr.bi "pair" a b ∈ wtr W' → Tr.bi "pair" a b ∈ wtr W ∨ (a ∈ wtr W' ∧ b ∈ wtr W')
theorem AddOk.sub {W W' : WayL} {t : Tr} (h : AddOk W W' t) : ∀ u ∈ wtr W, u ∈ wtr W' := by
  obtain ⟨m, rfl⟩ := h.pre
  intro u hu
  unfold wtr
  rw [List.map_append]
  exact List.mem_append_left _ hu
theorem addW_ok {d : Nat} {ts : List Tr} : ∀ {t : Tr} {r : Rc} {W : WayL}, WayOk d ts W → Wf t → t.dep ≤ d → rcx ts r = .inr t → RcOk r → (∀ O', (∀ t ∈ ts, t ∈ O') → PCl O' → SCl O' O' → t ∈ O') → WayOk d ts (addW t r W) ∧ AddOk W (addW t r W) t := by
  have base : ∀ {t : Tr} {r : Rc} {W : WayL}, WayOk d ts W → Wf t → t.dep ≤ d → rcx ts r = .inr t → RcOk r → (∀ O', (∀ t ∈ ts, t ∈ O') → PCl O' → SCl O' O' → t ∈ O') → t.head ≠ "pair" → ∀ b, (lookG W (textOf t)).isSome = b → WayOk d ts (if b = true then W else W ++ [(textOf t, t, r)]) ∧ AddOk W (if b = true then W else W ++ [(textOf t, t, r)]) t := by
    intro t r W h wf dp hr ok hO hp b hb
    cases b with
    | true =>
      rw [if_pos rfl]
      have hm : t ∈ wtr W := by
        rw [h.has wf] at hb
        exact of_decide_eq_true hb
      exact ⟨h, ⟨[], (List.append_nil _).symm⟩, hm, fun a b e => .inl e⟩
    | false =>
      rw [if_neg (by decide)]
      refine ⟨h.snoc wf dp hr ok hb hO, ⟨_, rfl⟩, by unfold wtr; rw [List.map_append]; simp, fun a b e => ?_⟩
      unfold wtr at e
      rw [List.map_append] at e
      rcases List.mem_append.mp e with e | e
      · exact .inl e
      · have : Tr.bi "pair" a b = t := by simpa using e
        exact absurd (by rw [← this]; rfl) hp
  intro t
  induction t with
  | am k x =>
    intro r W h wf dp hr ok hO
    refine base h wf dp hr ok hO (fun e => ?_) _ rfl
    have e : k = "pair" := e
    subst e
    rcases wf.shp with ⟨_, _, e, ko⟩ | ⟨_, _, e, _⟩ | ⟨_, _, _, e, _⟩
    · cases e
      rcases ko with ⟨e, _⟩ | ⟨e, _⟩ | ⟨e, _⟩ <;> exact absurd e (by decide +kernel)
    · cases e
    · cases e
  | un s a =>
    intro r W h wf dp hr ok hO
    refine base h wf dp hr ok hO (fun e => ?_) _ rfl
    have e : s = "pair" := e
    subst e
    rcases wf.shp with ⟨_, _, e, _⟩ | ⟨_, _, e, hs, _⟩ | ⟨_, _, _, e, _⟩
    · cases e
    · cases e
      revert hs
      decide +kernel
    · cases e
  | bi s a b iha ihb =>
    intro r W h wf dp hr ok hO
    by_cases hs : s = "pair"
    · subst hs
      obtain ⟨wa, wb⟩ : Wf a ∧ Wf b := by
        rcases wf.shp with ⟨_, _, e, _⟩ | ⟨_, _, e, _⟩ | ⟨_, _, _, e, _, wa, wb⟩
        · cases e
        · cases e
        · cases e; exact ⟨wa, wb⟩
      have ed : (Tr.bi "pair" a b).dep = max a.dep b.dep + 1 := rfl
      cases hb : (lookG W (textOf (.bi "pair" a b))).isSome with
      | true =>
        have hm : Tr.bi "pair" a b ∈ wtr W := by
          rw [h.has wf] at hb
          exact of_decide_eq_true hb
        have e : addW (.bi "pair" a b) r W = W := by unfold addW; rw [if_pos hb]
        rw [e]
        exact ⟨h, ⟨[], (List.append_nil _).symm⟩, hm, fun a b e => .inl e⟩
      | false =>
        have e : addW (.bi "pair" a b) r W = addW b (.un "second" r) (addW a (.un "first" r) (W ++ [(textOf (.bi "pair" a b), .bi "pair" a b, r)])) := by
          conv => lhs; unfold addW
          rw [if_neg (by rw [hb]; decide), if_pos rfl]
        rw [e]
        have h1 := h.snoc wf dp hr ok hb hO
        have ra : rcx ts (.un "first" r) = .inr a := by
          show (match rcx ts r with | .inl e => Sum.inl e | .inr t => match wk1 "first" t with | some u => .inr u | none => .inl (Rc.un "first" r)) = _
          rw [hr]
          rfl
        have rb : rcx ts (.un "second" r) = .inr b := by
          show (match rcx ts r with | .inl e => Sum.inl e | .inr t => match wk1 "second" t with | some u => .inr u | none => .inl (Rc.un "second" r)) = _
          rw [hr]
          rfl
        obtain ⟨h2, g2⟩ := iha (r := .un "first" r) h1 wa (by omega) ra ⟨by decide +kernel, ok⟩ fun O' x y z => (y a b (hO O' x y z)).1
        obtain ⟨h3, g3⟩ := ihb (r := .un "second" r) h2 wb (by omega) rb ⟨by decide +kernel, ok⟩ fun O' x y z => (y a b (hO O' x y z)).2
        obtain ⟨m2, e2⟩ := g2.pre
        obtain ⟨m3, e3⟩ := g3.pre
        refine ⟨h3, ⟨[(textOf (.bi "pair" a b), .bi "pair" a b, r)] ++ m2 ++ m3, e3.trans (by rw [e2]; simp [List.append_assoc])⟩, g3.sub _ (g2.sub _ (by unfold wtr; rw [List.map_append]; simp)), fun x y hxy => ?_⟩
        rcases g3.pcl x y hxy with q | q
        · rcases g2.pcl x y q with q | q
          · unfold wtr at q
            rw [List.map_append] at q
            rcases List.mem_append.mp q with q | q
            · exact .inl q
            · have : Tr.bi "pair" x y = .bi "pair" a b := by simpa using q
              cases this
              exact .inr ⟨g3.sub _ g2.mem, g3.mem⟩
          · exact .inr ⟨g3.sub _ q.1, g3.sub _ q.2⟩
        · exact .inr q
    · have e : addW (.bi s a b) r W = if (lookG W (textOf (.bi s a b))).isSome = true then W else W ++ [(textOf (.bi s a b), .bi s a b, r)] := by
        conv => lhs; unfold addW
        rw [if_neg hs]
      rw [e]
      exact base h wf dp hr ok hO hs _ rfl
/-- an open part behind a key -/
theorem rcx_open {ts : List Tr} {t key : Tr} {r q : Rc} (wf : Wf t) (hk : ukey t = some key) (hr : rcx ts r = .inr t) (hq : rcx ts q = .inr key) : rcx ts (.bi (if t.head = "seal" then "unseal" else "unlock") r q) = .inr (cnt1 t) := by
  have e : rcx ts (.bi (if t.head = "seal" then "unseal" else "unlock") r q) = (match wk2 (if t.head = "seal" then "unseal" else "unlock") t key with | some u => Sum.inr u | none => Sum.inl (Rc.bi (if t.head = "seal" then "unseal" else "unlock") r q)) := by
    conv => lhs; unfold rcx
    rw [hr, hq]
  rw [e]
  rcases ukey_inv wf hk with ⟨c, rfl⟩ | ⟨c, s, k, rfl, hs, rfl⟩
  · rw [show (Tr.bi "seal" c key).head = "seal" from rfl, if_pos rfl]
    unfold wk2
    rw [if_pos rfl]
    show (match (if ("seal" : Str) = "seal" ∧ key = key then some c else none) with | some u => Sum.inr u | none => _) = _
    rw [if_pos ⟨rfl, rfl⟩]
    rfl
  · have hne : ¬ ((Tr.bi "lock" c (.un s k)).head = "seal") := by show ¬ (("lock" : Str) = "seal"); decide +kernel
    rw [if_neg hne]
    unfold wk2
    rw [if_neg (by decide +kernel), if_pos rfl]
    show (match (if ("lock" : Str) = "lock" ∧ ukey (.bi "lock" c (.un s k)) = some (.un (prt s) k) then some c else none) with | some u => Sum.inr u | none => _) = _
    rw [if_pos ⟨rfl, hk⟩]
    rfl
theorem wtr_len {d : Nat} {ts : List Tr} {W : WayL} (h : WayOk d ts W) : W.length ≤ (allOf ts).length := by
  have e : W.length = (wtr W).length := by unfold wtr; rw [List.length_map]
  rw [e]
  refine nodup_sub ?_ (h.lst _ (allOf_base ts) (allOf_pcl ts) (allOf_scl ts))
  have h1 := h.nd
  have h2 := h.tx
  clear h e
  induction W with
  | nil => exact List.nodup_nil
  | cons p W ih =>
    rw [List.map_cons, List.nodup_cons] at h1
    unfold wtr
    rw [List.map_cons, List.nodup_cons]
    refine ⟨fun hm => h1.1 ?_, ih h1.2 fun q hq => h2 q (List.mem_cons_of_mem _ hq)⟩
    obtain ⟨q, hq, e⟩ := List.mem_map.mp hm
    refine List.mem_map.mpr ⟨q, hq, ?_⟩
    rw [h2 q (List.mem_cons_of_mem _ hq), h2 p List.mem_cons_self, e]
/-- closed ways are the opened parts -/
theorem WayOk.done {d : Nat} {ts : List Tr} {W : WayL} (h : WayOk d ts W) (hb : ∀ t ∈ ts, t ∈ wtr W) (hp : PCl (wtr W)) (hs : ∀ t ∈ wtr W, ∀ key, ukey t = some key → (mkR W key).isSome = true → cnt1 t ∈ wtr W) : IsOpen ts (wtr W) := by
  refine ⟨hb, hp, fun s c k key hm hk hmk => ?_, h.lst⟩
  obtain ⟨p, hp1, e⟩ := List.mem_map.mp hm
  have wf := (h.wf p hp1).1
  rw [e] at wf
  obtain ⟨wk, _⟩ := ukey_wf wf hk
  exact hs _ hm key hk (by rw [mkR_some h wk]; exact hmk)
end Rd
namespace Rd
open PySem L2
/-! ### recipes as data -/
def rcd : Rc → PyData
  | .at_ k => .tuple [.str "at", .int k]
  | .wd x => .tuple [.str "word", .str x]
  | .un s r => .tuple [.str s, rcd r]
  | .bi s r q => .tuple [.str s, rcd r, rcd q]
theorem IsR.dp {K : PySem.W.Frag} {H : Hp} : ∀ {r : Rc} {v : V}, IsR H r v → Dp K H v (rcd r)
  | .at_ _, v, ⟨p, e, h⟩ => by subst e; exact .tup (SqT.of h) (.cons (.str _) (.cons (.int _) .nil))
  | .wd _, v, ⟨p, e, h⟩ => by subst e; exact .tup (SqT.of h) (.cons (.str _) (.cons (.str _) .nil))
  | .un s r, v, ⟨p, u, e, h, g⟩ => by subst e; exact .tup (SqT.of h) (.cons (.str _) (.cons g.dp .nil))
  | .bi s r q, v, ⟨p, u, u2, e, h, g1, g2⟩ => by subst e; exact .tup (SqT.of h) (.cons (.str _) (.cons g1.dp (.cons g2.dp .nil)))
theorem unl_ok {s : Str} (h : s ∈ UNL) : okS s := okS_of (l := UNL) (by decide +kernel) h
theorem bil_ok {s : Str} (h : s ∈ BIL) : okS s := okS_of (l := BIL) (by decide +kernel) h
theorem atw_ok {s : Str} (h : s ∈ (["at", "word"] : List Str)) : okS s := okS_of (l := ["at", "word"]) (by decide +kernel) h
theorem RcOk.lay : ∀ {r : Rc}, RcOk r → (rcd r).canLay0 = true
  | .at_ k, _ => by
    show (PyData.strOk ("at" : Str) && (true && true)) = true
    rw [strOk_of (atw_ok (by simp))]
    rfl
  | .wd x, h => by
    show (PyData.strOk ("word" : Str) && (PyData.strOk x && true)) = true
    rw [strOk_of (atw_ok (by simp)), strOk_of (word_len h).2.2]
    rfl
  | .un s r, h => by
    show (PyData.strOk s && ((rcd r).canLay0 && true)) = true
    rw [strOk_of (unl_ok h.1), RcOk.lay h.2]
    rfl
  | .bi s r q, h => by
    show (PyData.strOk s && ((rcd r).canLay0 && ((rcd q).canLay0 && true))) = true
    rw [strOk_of (bil_ok h.1), RcOk.lay h.2.1, RcOk.lay h.2.2]
    rfl
/-- a recipe or None -/
def MkV (H : Hp) (o : Option Rc) (v : V) : Prop := (o = none ∧ v = .non) ∨ ∃ r, o = some r ∧ IsR H r v
theorem MkV.mono {C : Addr} {H H' : Hp} {o : Option Rc} {v : V} (k : Kp C H H') (h : MkV H o v) : MkV H' o v := by
  rcases h with h | ⟨r, e, h⟩
  · exact .inl h
  · exact .inr ⟨r, e, h.mono k⟩
theorem MkV.same {H H' : Hp} {o : Option Rc} {v : V} (s : Same H H') (h : MkV H o v) : MkV H' o v := h.mono (C := 0) (Kp.of_same s)
def mkd : Option Rc → PyData
  | none => .none
  | some r => rcd r
theorem MkV.dp {K : PySem.W.Frag} {H : Hp} {o : Option Rc} {v : V} (h : MkV H o v) : Dp K H v (mkd o) := by
  rcases h with ⟨rfl, rfl⟩ | ⟨r, rfl, h⟩
  · exact .non
  · exact h.dp
/-- a way: a form and its recipe -/
def IsW (H : Hp) (p : Tr × Rc) (v : V) : Prop := ∃ q u r, v = .ref q ∧ H q = some (.tup [u, r]) ∧ IsT H p.1 u ∧ IsR H p.2 r
theorem IsW.mono {C : Addr} {H H' : Hp} {p : Tr × Rc} {v : V} (k : Kp C H H') (h : IsW H p v) : IsW H' p v := by
  obtain ⟨q, u, r, e, h1, h2, h3⟩ := h
  exact ⟨q, u, r, e, k _ _ rfl h1, h2.mono k, h3.mono k⟩
theorem IsW.same {H H' : Hp} {p : Tr × Rc} {v : V} (s : Same H H') (h : IsW H p v) : IsW H' p v := h.mono (C := 0) (Kp.of_same s)
/-- built of its letters -/
def bdR (W : WayL) : Tr → Option Rc
  | .am _ _ => none
  | .un s a => if s = "own" then none else (mkR W a).map (Rc.un s)
  | .bi s a b => match mkR W a, mkR W b with
    | some r, some q => some (.bi s r q)
    | _, _ => none
theorem mkR_bd {W : WayL} {t : Tr} (h : t.head ≠ "word") : mkR W t = (match wy W t with | some r => some r | none => bdR W t) := by
  cases t with
  | am k x =>
    have h : k ≠ "word" := h
    show (if k = "word" then some (Rc.wd x) else wy W (.am k x)) = _
    rw [if_neg h]
    cases wy W (.am k x) <;> rfl
  | un s a => rfl
  | bi s a b => rfl
theorem mkR_word {W : WayL} {t : Tr} (wf : Wf t) (h : t.head = "word") : ∃ x, t = .am "word" x ∧ mkR W t = some (.wd x) := by
  rcases wf.shp with ⟨k, x, rfl, ko⟩ | ⟨s, a, rfl, hs, _⟩ | ⟨s, a, b, rfl, hs, _⟩
  · have h : k = "word" := h
    subst h
    exact ⟨x, rfl, if_pos rfl⟩
  · have h : s = "word" := h
    subst h
    exact absurd hs (by decide +kernel)
  · have h : s = "word" := h
    subst h
    exact absurd hs (by decide +kernel)
theorem bdR_parts {W : WayL} {t : Tr} (hp : t.parts ≠ []) (ho : t.head ≠ "own") : ((t.parts.map (mkR W)).any Option.isNone = true → bdR W t = none) ∧ ((t.parts.map (mkR W)).any Option.isNone = false →
    (∃ s a r, t = .un s a ∧ mkR W a = some r ∧ bdR W t = some (.un s r)) ∨ ∃ s a b r q, t = .bi s a b ∧ mkR W a = some r ∧ mkR W b = some q ∧ bdR W t = some (.bi s r q)) := by
  cases t with
  | am k x => exact absurd rfl hp
  | un s a =>
    have e : bdR W (.un s a) = (mkR W a).map (Rc.un s) := if_neg ho
    rw [e]
    show (((mkR W a).isNone || false) = true → _) ∧ (((mkR W a).isNone || false) = false → _)
    cases ea : mkR W a with
    | none => exact ⟨fun _ => rfl, (fun z => nomatch z)⟩
    | some r => exact ⟨(fun z => nomatch z), fun _ => .inl ⟨s, a, r, rfl, ea, rfl⟩⟩
  | bi s a b =>
    have e : bdR W (.bi s a b) = (match mkR W a, mkR W b with | some r, some q => some (.bi s r q) | _, _ => none) := rfl
    rw [e]
    show (((mkR W a).isNone || ((mkR W b).isNone || false)) = true → _) ∧ (((mkR W a).isNone || ((mkR W b).isNone || false)) = false → _)
    cases ea : mkR W a with
    | none => exact ⟨fun _ => rfl, (fun z => nomatch z)⟩
    | some r =>
      cases eb : mkR W b with
      | none => exact ⟨fun _ => rfl, (fun z => nomatch z)⟩
      | some q => exact ⟨(fun z => nomatch z), fun _ => .inr ⟨s, a, b, r, q, rfl, ea, eb, rfl⟩⟩
theorem rcd_none {r : Rc} : PyData.eqv (rcd r) .none = false := by cases r <;> rfl
theorem any_none : ∀ os : List (Option Rc), (os.map mkd).any (fun z => PyData.eqv z .none) = os.any Option.isNone
  | [] => rfl
  | none :: os => by rw [List.map_cons, List.any_cons, List.any_cons, any_none os]; rfl
  | some r :: os => by
    rw [List.map_cons, List.any_cons, List.any_cons, any_none os]
    show (PyData.eqv (rcd r) .none || _) = _
    rw [rcd_none]
    rfl
def sp_mkR (f : WayL → Tr → Option Rc) (d : Nat) : Sp := fun vs H Q _ => ∃ (v : V) (F : Addr) (t : Tr) (W : WayL) (kvs : List (Key × V)) (dd : Nat) (ts : List Tr), vs = [v, .ref F] ∧ IsT H t v ∧ Wf t ∧ t.dep ≤ d ∧ d ≤ 12 ∧ H F = some (.dK kvs) ∧ AlG IsW H W kvs ∧ WayOk dd ts W ∧ ∀ u H', Same H H' → MkV H' (f W t) u → Q u H'
def spMR : Nat → Sp
  | 0 => fun _ _ _ _ => False
  | d + 1 => sp_mkR mkR d
section
variable {P : Program} {w : World} {K : PySem.W.Frag} {mg : Str → Option Value} {base : Heap}
abbrev s_built_recipe : Stmt := top 43
theorem sc_built_recipe : FnScope ["tree", "ways", "inner", "part"] ["tree", "ways"] (defScope s_built_recipe) := ⟨rfl, rfl, rfl, by decide +kernel, rfl, by decide +kernel, by decide +kernel⟩
theorem bd_step (T : Tx w K mg) (d : Nat) (ih : Fk P w K mg base CX0 (2 * d + 2) "made_recipe" ["tree", "ways"] (spMR d)) : Fk P w K mg base CX0 (2 * d + 3) "built_recipe" ["tree", "ways"] (sp_mkR bdR d) := by
  refine T.F_built_recipe.ok0 sc_built_recipe (fun _ _ _ _ _ _ us hl => match us, hl with | [_, _], _ => rfl)
    (fun vs H Q E h => ?_) (fun cdv A outer s H vs Q E hr h => ?_)
  · obtain ⟨v, F, t, W, kvs, dd, ts, rfl, _⟩ := h
    rfl
  · obtain ⟨v, F, t, W, kvs, dd, ts, rfl, it, wf, dp, d12, hF, al, wok, k⟩ := h
    refine ⟨_, (pss_cons (ps_if (pt_cmpR op_notInT (pe_ix ix_tup (pv 0) pe_int (fun _ _ => rfl)) (pe_ktk (K := K) rfl T.U_MAKEABLE) (by rfl))
  (pss_one (ps_ret pe_non))
  pss_nil)
  (pss_cons (ps_setLc (i := 2) (own := [("part", 3)]) (g := gName 3) (tt := tYes) (by rfl) sc_built_recipe.nd rfl rfl (sw_true rfl rfl rfl (by decide +kernel)) (pi_tup (pe_slice sl_tup (pv 0) (po_some pe_int) po_none)) (blkOk_by (own := [("part", 3)]) (N := ["tree", "ways", "inner", "part"]) (sc := defScope s_built_recipe) (by decide +kernel)) (fun _ _ _ _ _ => (pg_name (i := 3) sc_built_recipe.nd rfl (Or.inl rfl))) (fun _ _ _ _ _ => pts_nil) (fun _ _ _ _ _ => (pe_fk ih (hr.mono (by omega)) rfl pass0 (pa_cons (pv 3) (pa_cons (pv 1) pa_nil)))))
  (pss_cons (ps_if (pt_cmpR (op_inNone hr.units65) pe_non (pv 2) (by rfl))
  (pss_one (ps_ret pe_non))
  pss_nil)
  (pss_one (ps_ret (pe_op op_catT (pe_tup (pa_cons (pe_ix ix_tup (pv 0) pe_int (fun _ _ => rfl)) pa_nil)) (pe_callTy call_tuple_of (by rfl) T.z_tuple (by decide +kernel) (pa_cons (pv 2) pa_nil)))))))), ?_⟩
    have big : 16777216 ≤ sizeLine := by decide
    obtain ⟨pf, us, rfl, hp⟩ := it.hd
    refine ⟨_, rfl, pf, _, _, _, rfl, rfl, SqT.of hp, at_of (j := 0) rfl rfl, _, He.ga K "MAKEABLE", MKL, rfl, rfl, T.U_MAKEABLE.tp _, _, rfl, ?_⟩
    by_cases hm : t.head ∈ MKL
    · refine iteN (by rw [decide_eq_true hm]; decide) (nxt ?_)
      try dsimp only
      have hpt := mkl_parts wf hm
      have hno : t.head ≠ "own" := fun e => by rw [e] at hm; exact absurd hm (by decide +kernel)
      obtain ⟨b1, b2⟩ := bdR_parts (W := W) hpt hno
      obtain ⟨hsg, hws⟩ := wf.sign hpt
      obtain ⟨pf', us', e', hp', hlu, hl2, hne, hus⟩ := it.parts hpt
      cases e'
      rw [hp] at hp'
      cases hp'
      refine seqAsg ⟨_, rfl, _, rfl, pf, _, rfl, SqT.of hp, ?_, fun p2 hp2 => ?_⟩
      · rintro ⟨z, _⟩
        rw [show (1 : Int) = ((1 : Nat) : Int) from rfl, HT.sIx_nat, List.length_cons] at z
        omega
      rw [cut1]
      have s2 := Rd.Same.upd (o := .tup us) hp2
      refine ⟨p2, rfl, ⟨_, SqT.of upd_same⟩, fun D hD => ?_⟩
      refine lct (C := 0) (fun i H v => ∃ r, t.parts[i]? = some r ∧ MkV H (mkR W r) v) (fun i H H' v kp ⟨r, e, h⟩ => ⟨r, e, h.mono kp⟩) (SqT.of upd_same) (by omega) hD (fun i x H1 Q1 hx s3 k1 => ?_) fun vs H3 s3 hD3 hlv hvs => ?_
      · obtain ⟨r, hr1, hr2⟩ := hus i x hx
        obtain ⟨w1, w2⟩ := hws r (List.mem_of_getElem? hr1)
        have s01 := s2.trans s3
        cases d with
        | zero => exact absurd dp (by omega)
        | succ d => exact ⟨_, rfl, _, rfl, x, F, r, W, kvs, dd, ts, rfl, hr2.same s01, w1, (by omega), (by omega), s01 _ _ hF, al.mono (fun t v h => h.same s01), wok, fun u H' s' hu => k1 _ H' s' ⟨r, hr1, hu⟩⟩
      have S3 := s2.trans s3
      have hla : AtL (fun H r v => MkV H (mkR W r) v) H3 t.parts vs := ⟨by omega, fun i r v h1 h2 => by
        obtain ⟨r', e, h⟩ := hvs i v h2
        rw [h1] at e
        cases e
        exact h⟩
      refine gName_k ?_
      try dsimp only
      have hcl : PyData.canLayAll0 ((t.parts.map (mkR W)).map mkd) = true := by
        have : ∀ os : List (Option Rc), (∀ o ∈ os, ∀ r, o = some r → RcOk r) → PyData.canLayAll0 (os.map mkd) = true := by
          intro os
          induction os with
          | nil => intro _; rfl
          | cons o os ih =>
            intro h
            show ((mkd o).canLay0 && PyData.canLayAll0 (os.map mkd)) = true
            rw [ih fun o ho => h o (List.mem_cons_of_mem _ ho)]
            cases o with
            | none => rfl
            | some r =>
              show ((rcd r).canLay0 && true) = true
              rw [RcOk.lay (h _ List.mem_cons_self r rfl)]
              rfl
        refine this _ fun o ho r e => ?_
        obtain ⟨q, hq, rfl⟩ := List.mem_map.mp ho
        exact (mkR_ok wok (hws q hq).1 e).2
      have hdl : DpAll K H3 vs ((t.parts.map (mkR W)).map mkd) := by
        rw [List.map_map]
        exact dpAll_at (R := fun H r v => MkV H (mkR W r) v) (fun r v h => h.dp) hla
      refine ⟨_, rfl, (t.parts.map (mkR W)).map mkd, rfl, .lst (SqL.of hD3) hdl, hcl, _, rfl, ?_⟩
      rw [any_none]
      refine ite2 (fun h1 => ?_) (fun h1 => nxt ?_)
      · exact k _ _ S3 (.inl ⟨b1 h1, rfl⟩)
      try dsimp only
      have h1 : (t.parts.map (mkR W)).any Option.isNone = false := by simpa using h1
      have hpt3 := S3 _ _ hp
      refine ⟨_, rfl, pf, _, _, _, rfl, rfl, SqT.of hpt3, at_of (j := 0) rfl rfl, (by show 1 ≤ sizeLine; decide), fun q4 hq4 => ?_⟩
      have s4 := Rd.Same.upd (o := .tup [.str t.head]) hq4
      have h41 : upd H3 q4 (.tup [.str t.head]) q4 = some (.tup [.str t.head]) := upd_same
      generalize upd H3 q4 (.tup [.str t.head]) = H4 at s4 h41 ⊢
      refine ⟨_, rfl, D, _, rfl, .inl ⟨SqL.of (s4 _ _ hD3), fun q5 hq5 => ?_⟩⟩
      have s5 := Rd.Same.upd (o := .tup vs) hq5
      have h51 : upd H4 q5 (.tup vs) q5 = some (.tup vs) := upd_same
      generalize upd H4 q5 (.tup vs) = H5 at s5 h51 ⊢
      have hvl : vs ≠ [] := fun z => by rw [z] at hlv; exact hne (List.length_eq_zero_iff.mp (by rw [← hlv]; rfl))
      have one : ([V.str t.head] : List V).length = 1 := rfl
      refine ⟨q4, q5, _, _, rfl, rfl, SqT.of (s5 _ _ h41), SqT.of h51, (fun z => by cases z), (by omega), (fun z => absurd z hvl), fun _ q6 hq6 => ?_⟩
      have s6 := Rd.Same.upd (o := .tup ([.str t.head] ++ vs)) hq6
      have S6 := ((S3.trans s4).trans s5).trans s6
      have s36 := (s4.trans s5).trans s6
      rcases b2 h1 with ⟨sg, a, r, rfl, ea, eb⟩ | ⟨sg, a, b, r, q, rfl, ea, eb2, eb⟩
      · obtain ⟨v1, rfl⟩ : ∃ v1, vs = [v1] := by
          match vs, hlv.trans hlu with
          | [v1], _ => exact ⟨v1, rfl⟩
        have m1 := hla.get 0 a v1 rfl rfl
        rw [ea] at m1
        rcases m1 with ⟨e, _⟩ | ⟨r', e, ir⟩
        · cases e
        · cases e
          exact k _ _ S6 (.inr ⟨_, eb, q6, v1, rfl, upd_same, ir.same s36⟩)
      · obtain ⟨v1, v2, rfl⟩ : ∃ v1 v2, vs = [v1, v2] := by
          match vs, hlv.trans hlu with
          | [v1, v2], _ => exact ⟨v1, v2, rfl⟩
        have m1 := hla.get 0 a v1 rfl rfl
        have m2 := hla.get 1 b v2 rfl rfl
        rw [ea] at m1
        rw [eb2] at m2
        rcases m1 with ⟨e, _⟩ | ⟨r', e, ir⟩
        · cases e
        · cases e
          rcases m2 with ⟨e, _⟩ | ⟨r', e, ir2⟩
          · cases e
          · cases e
            exact k _ _ S6 (.inr ⟨_, eb, q6, v1, v2, rfl, upd_same, ir.same s36, ir2.same s36⟩)
    · refine iteP (by rw [decide_eq_false hm]; decide) ?_
      refine k _ _ (Same.refl _) (.inl ⟨?_, rfl⟩)
      rcases wf.shp with ⟨k0, x, rfl, ko⟩ | ⟨s0, a, rfl, hs, _⟩ | ⟨s0, a, b, rfl, hs, _⟩
      · rfl
      · have : ∀ z ∈ (["mark", "open", "own"] : List Str), z ∉ MKL → z = "own" := by decide +kernel
        exact if_pos (this s0 hs hm)
      · have : ∀ z ∈ (["pair", "seal", "lock"] : List Str), z ∈ MKL := by decide +kernel
        exact absurd (this s0 hs) hm
abbrev s_made_recipe : Stmt := top 42
theorem sc_made_recipe : FnScope ["tree", "ways", "text"] ["tree", "ways"] (defScope s_made_recipe) := ⟨rfl, rfl, rfl, by decide +kernel, rfl, by decide +kernel, by decide +kernel⟩
theorem mkr_step (T : Tx w K mg) (d : Nat) (bd : Fk P w K mg base CX0 (2 * d + 3) "built_recipe" ["tree", "ways"] (sp_mkR bdR d)) : Fk P w K mg base CX0 (2 * d + 4) "made_recipe" ["tree", "ways"] (sp_mkR mkR d) := by
  refine T.F_made_recipe.ok0 sc_made_recipe (fun _ _ _ _ _ _ us hl => match us, hl with | [_, _], _ => rfl)
    (fun vs H Q E h => ?_) (fun cdv A outer s H vs Q E hr h => ?_)
  · obtain ⟨v, F, t, W, kvs, dd, ts, rfl, _⟩ := h
    rfl
  · obtain ⟨v, F, t, W, kvs, dd, ts, rfl, it, wf, dp, d12, hF, al, wok, k⟩ := h
    refine ⟨_, (pss_cons (ps_if (pt_cmpR op_eq (pe_ix ix_tup (pv 0) pe_int (fun _ _ => rfl)) pe_str (nomark _))
  (pss_one (ps_ret (pv 0)))
  pss_nil)
  (pss_cons (ps_set (i := 2) sc_made_recipe.nd rfl (Or.inl rfl) (pe_fk (ok_tree_text T d) (hr.mono (by omega)) rfl pass0 (pa_cons (pv 0) pa_nil)))
  (pss_cons (ps_if (pt_cmp (pc_din (hu_of hr) (pv 2) (pv 1)))
  (pss_one (ps_ret (pe_ix ix_tup (pe_dget (hu_of hr) (pv 1) (pv 2) (fun _ _ => rfl)) pe_int (fun _ _ => rfl))))
  pss_nil)
  (pss_one (ps_ret (pe_fk bd (hr.mono (by omega)) rfl pass0 (pa_cons (pv 0) (pa_cons (pv 1) pa_nil)))))))), ?_⟩
    obtain ⟨pf, us, rfl, hp⟩ := it.hd
    refine ⟨_, rfl, pf, _, _, _, rfl, rfl, SqT.of hp, at_of (j := 0) rfl rfl, rfl, _, rfl, ?_⟩
    rw [decS]
    by_cases hw : t.head = "word"
    · obtain ⟨x, rfl, ex⟩ := mkR_word (W := W) wf hw
      refine iteP (decide_eq_true hw) ?_
      obtain ⟨p, e, h⟩ := it
      cases e
      exact ⟨_, rfl, k _ _ (Same.refl _) (.inr ⟨_, ex, pf, rfl, h⟩)⟩
    · refine iteN (by rw [decide_eq_false hw]; decide) (nxt ?_)
      try dsimp only
      have em := mkR_bd (W := W) hw
      refine seqAsg ⟨_, rfl, _, t, rfl, it, wf, dp, d12, fun H1 s1 => ?_⟩
      refine gName_k ?_
      try dsimp only
      have hF1 := s1 _ _ hF
      have al1 := al.mono fun t v (h : IsW H t v) => h.same s1
      refine ⟨_, rfl, _, rfl, F, _, rfl, DGet.k (k := .inr (textOf t)) hF1, _, rfl, ?_⟩
      cases el : lookG W (textOf t) with
      | some p =>
        obtain ⟨v0, e0, hv0⟩ := (al1.look (x := textOf t)).1 p el
        rw [e0]
        refine iteP (by simp) ?_
        obtain ⟨u, r⟩ := p
        have ew : wy W t = some r := by unfold wy; rw [el]; rfl
        rw [ew] at em
        obtain ⟨q, u', r', rfl, h1, h2, h3⟩ := hv0
        exact ⟨_, rfl, _, rfl, F, _, rfl, (by rw [← e0]; exact DGet.k (k := .inr (textOf t)) hF1), q, _, _, _, rfl, rfl, SqT.of h1, at_of (j := 1) rfl rfl, k _ _ s1 (.inr ⟨r, em, h3⟩)⟩
      | none =>
        have hv0 := (al1.look (x := textOf t)).2 el
        rw [hv0]
        refine iteN (by simp) (nxt ?_)
        try dsimp only
        have ew : wy W t = none := by unfold wy; rw [el]; rfl
        rw [ew] at em
        refine ⟨_, rfl, _, rfl, _, F, t, W, kvs, dd, ts, rfl, it.same s1, wf, dp, d12, hF1, al1, wok, fun u H2 s2 hu => k _ _ (s1.trans s2) ?_⟩
        rw [em]
        exact hu
theorem mkr_none (T : Tx w K mg) : Fk P w K mg base CX0 2 "made_recipe" ["tree", "ways"] (spMR 0) := by
  refine Fk.mono (j := 1) ?_ (by decide)
  refine T.F_made_recipe.ok0 sc_made_recipe (fun _ _ _ _ _ _ us hl => match us, hl with | [_, _], _ => rfl) (fun vs H Q E h => h.elim) (fun cdv A outer s H vs Q E hr h => h.elim)
theorem ok_made_recipe (T : Tx w K mg) : ∀ d : Nat, Fk P w K mg base CX0 (2 * d + 4) "made_recipe" ["tree", "ways"] (sp_mkR mkR d)
  | 0 => mkr_step T 0 (bd_step T 0 (mkr_none T))
  | d + 1 => mkr_step T (d + 1) (bd_step T (d + 1) (ok_made_recipe T d))
end
end Rd
namespace Rd
open PySem L2
theorem all_bi' (s : Str) (a b : Tr) : (Tr.bi s a b).all.length = a.all.length + b.all.length + 1 := by simp [Tr.all]
theorem addW_len : ∀ {t : Tr} {r : Rc} {W : WayL}, (addW t r W).length ≤ W.length + t.all.length
  | .am k x, r, W => by
    show (if (lookG W (textOf (.am k x))).isSome = true then W else W ++ [(textOf (.am k x), .am k x, r)]).length ≤ W.length + 1
    split
    · omega
    · rw [List.length_append]; exact Nat.le_refl _
  | .un s a, r, W => by
    show (if (lookG W (textOf (.un s a))).isSome = true then W else W ++ [(textOf (.un s a), .un s a, r)]).length ≤ W.length + (a.all.length + 1)
    split
    · omega
    · rw [List.length_append]
      show W.length + 1 ≤ _
      omega
  | .bi s a b, r, W => by
    rw [all_bi']
    have h1 := addW_len (t := a) (r := .un "first" r) (W := W ++ [(textOf (.bi s a b), .bi s a b, r)])
    have h2 := addW_len (t := b) (r := .un "second" r) (W := addW a (.un "first" r) (W ++ [(textOf (.bi s a b), .bi s a b, r)]))
    rw [List.length_append] at h1
    have h3 : ([(textOf (.bi s a b), .bi s a b, r)] : WayL).length = 1 := rfl
    unfold addW
    split
    · omega
    · split
      · omega
      · rw [List.length_append]; omega
def sp_addW (d : Nat) : Sp := fun vs H Q _ => ∃ (F : Addr) (v rv : V) (t : Tr) (r : Rc) (W : WayL) (kvs : List (Key × V)), vs = [.ref F, v, rv] ∧ IsT H t v ∧ IsR H r rv ∧ Wf t ∧ t.dep ≤ d ∧ d ≤ 12 ∧ H F = some (.dK kvs) ∧ AlG IsW H W kvs ∧ W.length + t.all.length ≤ 100000 ∧
  ∀ kvs' H', But F H H' → H' F = some (.dK kvs') → AlG IsW H' (addW t r W) kvs' → Q .non H'
def spAW : Nat → Sp
  | 0 => fun _ _ _ _ => False
  | d + 1 => sp_addW d
theorem But.kpd {C F : Addr} {H H' : Hp} {kvs : List (Key × V)} (b : But F H H') (hF : H F = some (.dK kvs)) : Kp C H H' := fun c o hi e => b c o (fun z => by rw [z, hF] at e; cases e; cases hi) e
section
variable {P : Program} {w : World} {K : PySem.W.Frag} {mg : Str → Option Value} {base : Heap}
abbrev s_add_way : Stmt := top 44
theorem sc_add_way : FnScope ["ways", "tree", "recipe", "text"] ["ways", "tree", "recipe"] (defScope s_add_way) := ⟨rfl, rfl, rfl, by decide +kernel, rfl, by decide +kernel, by decide +kernel⟩
theorem aw_step (T : Tx w K mg) (d : Nat) (ih : Fk P w K mg base CX0 (d + 2) "add_way" ["ways", "tree", "recipe"] (spAW d)) : Fk P w K mg base CX0 (d + 3) "add_way" ["ways", "tree", "recipe"] (sp_addW d) := by
  refine T.F_add_way.ok0 sc_add_way (fun _ _ _ _ _ _ us hl => match us, hl with | [_, _, _], _ => rfl)
    (fun vs H Q E h => ?_) (fun cdv A outer s H vs Q E hr h => ?_)
  · obtain ⟨F, v, rv, t, r, W, kvs, rfl, _⟩ := h
    rfl
  · obtain ⟨F, v, rv, t, r, W, kvs, rfl, it, ir, wf, dp, d12, hF, al, hsz, k⟩ := h
    refine ⟨_, (pss_cons (ps_set (i := 3) sc_add_way.nd rfl (Or.inl rfl) (pe_fk (ok_tree_text T d) (hr.mono (by omega)) rfl pass0 (pa_cons (pv 1) pa_nil)))
  (pss_one (ps_if (pt_cmp (pc_dnotin (hu_of hr) (pv 3) (pv 0)))
  (pss_cons (ps_dput (hu_of hr) (pv 0) (pv 3) (pe_tup (pa_cons (pv 1) (pa_cons (pv 2) pa_nil))) (by rfl))
  (pss_one (ps_if (pt_cmpR op_eq (pe_ix ix_tup (pv 1) pe_int (fun _ _ => rfl)) pe_str (nomark _))
  (pss_cons (ps_expr (pe_fk ih (hr.mono (by omega)) rfl pass0 (pa_cons (pv 0) (pa_cons (pe_ix ix_tup (pv 1) pe_int (fun _ _ => rfl)) (pa_cons (pe_tup (pa_cons pe_str (pa_cons (pv 2) pa_nil))) pa_nil)))))
  (pss_one (ps_expr (pe_fk ih (hr.mono (by omega)) rfl pass0 (pa_cons (pv 0) (pa_cons (pe_ix ix_tup (pv 1) pe_int (fun _ _ => rfl)) (pa_cons (pe_tup (pa_cons pe_str (pa_cons (pv 2) pa_nil))) pa_nil)))))))
  pss_nil)))
  pss_nil))), ?_⟩
    have big : 16777216 ≤ sizeLine := by decide
    have hkl := al.len
    have tp := all_pos t
    refine seqAsg ⟨_, rfl, _, t, rfl, it, wf, dp, d12, fun H1 s1 => ?_⟩
    refine gName_k ?_
    try dsimp only
    have hF1 := s1 _ _ hF
    have al1 := al.mono fun t v (h : IsW H t v) => h.same s1
    refine ⟨_, rfl, _, rfl, F, _, rfl, DGet.k (k := .inr (textOf t)) hF1, _, rfl, ?_⟩
    cases el : lookG W (textOf t) with
    | some p =>
      obtain ⟨v0, e0, hv0⟩ := (al1.look (x := textOf t)).1 p el
      rw [e0]
      refine iteN (by simp) ?_
      have e : addW t r W = W := by
        cases t with
        | am k x => exact if_pos (by rw [el]; rfl)
        | un s a => exact if_pos (by rw [el]; rfl)
        | bi s a b => exact if_pos (by rw [el]; rfl)
      rw [e] at k
      exact k _ _ (But.of_same s1) hF1 al1
    | none =>
      have hv0 := (al1.look (x := textOf t)).2 el
      rw [hv0]
      refine iteP (by simp) ?_
      refine ⟨_, rfl, _, rfl, (by show 2 ≤ sizeLine; decide), fun q hq => ?_⟩
      have s2 := Rd.Same.upd (o := .tup [v, rv]) hq
      have hq1 : upd H1 q (.tup [v, rv]) q = some (.tup [v, rv]) := upd_same
      generalize upd H1 q (.tup [v, rv]) = H2 at s2 hq1 ⊢
      have hF2 := s2 _ _ hF1
      refine ⟨_, rfl, _, rfl, F, _, rfl, DPut.k (k := .inr (textOf t)) hF2 (by omega), ?_⟩
      rw [putK_new (.ref q) hv0]
      have S2 := s1.trans s2
      have kp : Kp 0 H2 (upd H2 F (.dK (kvs ++ [(.inr (textOf t), .ref q)]))) := Kp.upd_dK hF2
      have b3 : But F H (upd H2 F (.dK (kvs ++ [(.inr (textOf t), .ref q)]))) := (But.of_same S2).trans But.upd
      have hF3 : upd H2 F (.dK (kvs ++ [(.inr (textOf t), .ref q)])) F = some (.dK (kvs ++ [(.inr (textOf t), .ref q)])) := upd_same
      have it3 := (it.same S2).mono kp
      have ir3 := (ir.same S2).mono kp
      have al3 : AlG IsW (upd H2 F (.dK (kvs ++ [(.inr (textOf t), .ref q)]))) (W ++ [(textOf t, t, r)]) (kvs ++ [(.inr (textOf t), .ref q)]) := AlG.snoc (t := (t, r)) ⟨q, v, rv, rfl, kp _ _ rfl hq1, it3, ir3⟩ (al1.mono fun t v h => (h.same s2).mono kp)
      generalize upd H2 F (.dK (kvs ++ [(.inr (textOf t), .ref q)])) = H3 at kp b3 hF3 it3 ir3 al3 ⊢
      try dsimp only
      obtain ⟨pf, us, rfl, hpf⟩ := it3.hd
      refine ⟨_, rfl, pf, _, _, _, rfl, rfl, SqT.of hpf, at_of (j := 0) rfl rfl, rfl, _, rfl, ?_⟩
      rw [decS]
      by_cases hp : t.head = "pair"
      · obtain ⟨ta, tb, rfl, wa, wb⟩ : ∃ ta tb, t = .bi "pair" ta tb ∧ Wf ta ∧ Wf tb := by
          rcases wf.shp with ⟨k0, x0, rfl, ko⟩ | ⟨s0, a0, rfl, hs, _⟩ | ⟨s0, a0, b0, rfl, hs, wa, wb⟩
          · rcases ko with ⟨rfl, _⟩ | ⟨rfl, _⟩ | ⟨rfl, _⟩
            · exact absurd (show ("word" : Str) = "pair" from hp) (by decide +kernel)
            · exact absurd (show ("name" : Str) = "pair" from hp) (by decide +kernel)
            · exact absurd (show ("unknown" : Str) = "pair" from hp) (by decide +kernel)
          · have : ∀ z ∈ (["mark", "open", "own"] : List Str), z ≠ "pair" := by decide +kernel
            exact absurd hp (this s0 hs)
          · have hp : s0 = "pair" := hp
            subst hp
            exact ⟨a0, b0, rfl, wa, wb⟩
        have ed : (Tr.bi "pair" ta tb).dep = max ta.dep tb.dep + 1 := rfl
        have ea := all_bi' "pair" ta tb
        have e : addW (.bi "pair" ta tb) r W = addW tb (.un "second" r) (addW ta (.un "first" r) (W ++ [(textOf (.bi "pair" ta tb), .bi "pair" ta tb, r)])) := by
          conv => lhs; unfold addW
          rw [if_neg (by rw [el]; decide), if_pos rfl]
        rw [e] at k
        refine iteP (decide_eq_true hp) ?_
        obtain ⟨pf', u1, u2, e', hpf', i1, i2⟩ := it3
        cases e'
        have l1 : (W ++ [(textOf (Tr.bi "pair" ta tb), Tr.bi "pair" ta tb, r)]).length = W.length + 1 := by rw [List.length_append]; rfl
        have l2 := addW_len (t := ta) (r := .un "first" r) (W := W ++ [(textOf (.bi "pair" ta tb), .bi "pair" ta tb, r)])
        cases d with
        | zero => exact absurd dp (by omega)
        | succ d =>
          refine ⟨_, rfl, _, rfl, pf, _, _, _, rfl, rfl, SqT.of hpf', at_of (j := 1) rfl rfl, _, rfl, (by show 2 ≤ sizeLine; decide), fun q4 hq4 => ?_⟩
          have s4 := Rd.Same.upd (o := .tup [.str "first", rv]) hq4
          have h41 : upd H3 q4 (.tup [.str "first", rv]) q4 = some (.tup [.str "first", rv]) := upd_same
          generalize upd H3 q4 (.tup [.str "first", rv]) = H4 at s4 h41 ⊢
          refine ⟨F, u1, .ref q4, ta, .un "first" r, _, _, rfl, i1.same s4, ⟨q4, rv, rfl, h41, ir3.same s4⟩, wa, by omega, by omega, s4 _ _ hF3, al3.mono (fun t v h => h.same s4), by omega, fun kvs5 H5 b5 hF5 al5 => ?_⟩
          try dsimp only
          have k5 : Kp 0 H4 H5 := b5.kpd (s4 _ _ hF3)
          have k35 : Kp 0 H3 H5 := (Kp.of_same s4).trans k5
          refine ⟨_, rfl, _, rfl, pf, _, _, _, rfl, rfl, SqT.of (k35 _ _ rfl hpf'), at_of (j := 2) rfl rfl, _, rfl, (by show 2 ≤ sizeLine; decide), fun q6 hq6 => ?_⟩
          have s6 := Rd.Same.upd (o := .tup [.str "second", rv]) hq6
          have h61 : upd H5 q6 (.tup [.str "second", rv]) q6 = some (.tup [.str "second", rv]) := upd_same
          generalize upd H5 q6 (.tup [.str "second", rv]) = H6 at s6 h61 ⊢
          refine ⟨F, u2, .ref q6, tb, .un "second" r, _, _, rfl, (i2.mono k35).same s6, ⟨q6, rv, rfl, h61, (ir3.mono k35).same s6⟩, wb, by omega, by omega, s6 _ _ hF5, al5.mono (fun t v h => h.same s6), by omega, fun kvs7 H7 b7 hF7 al7 => ?_⟩
          exact k _ _ (b3.trans ((But.of_same s4).trans (b5.trans ((But.of_same s6).trans b7)))) hF7 al7
      · refine iteN (by rw [decide_eq_false hp]; decide) ?_
        have e : addW t r W = W ++ [(textOf t, t, r)] := by
          cases t with
          | am k x => exact if_neg (by rw [el]; decide)
          | un s a => exact if_neg (by rw [el]; decide)
          | bi s a b =>
            have hp : s ≠ "pair" := hp
            conv => lhs; unfold addW
            rw [if_neg (by rw [el]; decide), if_neg hp]
        rw [e] at k
        exact k _ _ b3 hF3 al3
theorem aw_none (T : Tx w K mg) : Fk P w K mg base CX0 2 "add_way" ["ways", "tree", "recipe"] (spAW 0) := by
  refine Fk.mono (j := 1) ?_ (by decide)
  refine T.F_add_way.ok0 sc_add_way (fun _ _ _ _ _ _ us hl => match us, hl with | [_, _, _], _ => rfl) (fun vs H Q E h => h.elim) (fun cdv A outer s H vs Q E hr h => h.elim)
theorem ok_add_way (T : Tx w K mg) : ∀ d : Nat, Fk P w K mg base CX0 (d + 3) "add_way" ["ways", "tree", "recipe"] (sp_addW d)
  | 0 => aw_step T 0 (aw_none T)
  | d + 1 => aw_step T (d + 1) (ok_add_way T d)
end
end Rd
namespace Rd
open PySem L2
def ClW (W0 W : WayL) : Prop := ∀ p ∈ W0, ∀ key, ukey p.2.1 = some key → (mkR W key).isSome = true → cnt1 p.2.1 ∈ wtr W
theorem AlG.vals {α : Type} {R : Hp → α → V → Prop} {H : Hp} : ∀ {l : List (Str × α)} {kvs : List (Key × V)}, AlG R H l kvs → ∀ {i : Nat} {v : V}, (kvs.map (·.2))[i]? = some v → ∃ x t, l[i]? = some (x, t) ∧ R H t v := by
  intro l kvs h i v e
  rw [List.getElem?_map] at e
  obtain ⟨⟨k, v'⟩, e1, rfl⟩ := Option.map_eq_some_iff.mp e
  obtain ⟨x, t, e2, _, h2⟩ := h.get e1
  exact ⟨x, t, e2, h2⟩
theorem allOf_mem_len {ts : List Tr} {t : Tr} (h : t ∈ ts) : t.all.length ≤ (allOf ts).length := by
  rw [allOf_len]
  unfold szs
  induction ts with
  | nil => cases h
  | cons u ts ih =>
    rw [List.map_cons, List.sum_cons]
    rcases List.mem_cons.mp h with rfl | h
    · omega
    · have := ih h
      omega
theorem inAll_len {ts : List Tr} {t : Tr} (h : t ∈ allOf ts) : t.all.length ≤ (allOf ts).length := by
  obtain ⟨u, hu, ht⟩ := List.mem_flatMap.mp h
  exact Nat.le_trans (all_le ht) (allOf_mem_len hu)
structure WIn (d : Nat) (ts : List Tr) (W : WayL) (b : List Tr) : Prop where
  ok : WayOk d ts W
  base : ∀ t ∈ b, t ∈ wtr W
  pcl : PCl (wtr W)
theorem WIn.add {d : Nat} {ts b : List Tr} {W : WayL} (h : WIn d ts W b) {t : Tr} {r : Rc} (wf : Wf t) (dp : t.dep ≤ d) (hr : rcx ts r = .inr t) (ok : RcOk r) (hO : ∀ O', (∀ t ∈ ts, t ∈ O') → PCl O' → SCl O' O' → t ∈ O') : WIn d ts (addW t r W) b ∧ t ∈ wtr (addW t r W) ∧ ∃ m, addW t r W = W ++ m := by
  obtain ⟨h1, h2⟩ := addW_ok h.ok wf dp hr ok hO
  exact ⟨⟨h1, fun u hu => h2.sub u (h.base u hu), fun x y hxy => by
    rcases h2.pcl x y hxy with q | q
    · exact ⟨h2.sub _ (h.pcl x y q).1, h2.sub _ (h.pcl x y q).2⟩
    · exact q⟩, h2.mem, h2.pre⟩
theorem WayOk.inAll {d : Nat} {ts : List Tr} {W : WayL} (h : WayOk d ts W) : ∀ t ∈ wtr W, t ∈ allOf ts := h.lst _ (allOf_base ts) (allOf_pcl ts) (allOf_scl ts)
def sp_waysOf (d : Nat) : Sp := fun vs H Q _ => ∃ (a : Addr) (ws : List V) (ts : List Tr), vs = [.ref a] ∧ H a = some (.lst ws) ∧ TsAt H ts ws ∧ (∀ t ∈ ts, Wf t ∧ t.dep ≤ d) ∧ d ≤ 12 ∧ (allOf ts).length ≤ 50000 ∧
  ∀ F kvs W H', Same H H' → H F = none → H' F = some (.dK kvs) → AlG IsW H' W kvs → WayOk d ts W → IsOpen ts (wtr W) → Q (.ref F) H'
section
variable {P : Program} {w : World} {K : PySem.W.Frag} {mg : Str → Option Value} {base : Heap}
abbrev s_ways_of : Stmt := top 45
theorem sc_ways_of : FnScope ["trees", "ways", "index", "tree", "many", "recipe", "key"] ["trees"] (defScope s_ways_of) := ⟨rfl, rfl, rfl, by decide +kernel, rfl, by decide +kernel, by decide +kernel⟩
theorem ok_ways_of (T : Tx w K mg) (d : Nat) : Fk P w K mg base CX0 (2 * d + 5) "ways_of" ["trees"] (sp_waysOf d) := by
  refine T.F_ways_of.ok0 sc_ways_of (fun _ _ _ _ _ _ us hl => match us, hl with | [_], _ => rfl)
    (fun vs H Q E h => ?_) (fun cdv A outer s H vs Q E hr h => ?_)
  · obtain ⟨a, ws, ts, rfl, _⟩ := h
    rfl
  · obtain ⟨a, ws, ts, rfl, ha, hts, wf, d12, hbig, k⟩ := h
    refine ⟨_, (pss_cons (ps_set (i := 1) sc_ways_of.nd rfl (Or.inl rfl) pe_dnewK)
  (pss_cons (ps_for PassesOwn.never rfl (pi_enum rfl T.z_enumerate (pa_cons (pv 0) pa_nil)) (pg_tup rfl (pgs_cons (pg_name (i := 2) sc_ways_of.nd rfl (Or.inl rfl)) (pgs_cons (pg_name (i := 3) sc_ways_of.nd rfl (Or.inl rfl)) pgs_nil)))
  (pss_one (ps_expr (pe_fk (ok_add_way T d) (hr.mono (by omega)) rfl pass0 (pa_cons (pv 1) (pa_cons (pv 3) (pa_cons (pe_tup (pa_cons pe_str (pa_cons (pv 2) pa_nil))) pa_nil)))))))
  (pss_cons (ps_set (i := 4) sc_ways_of.nd rfl (Or.inl rfl) (pe_un un_neg pe_int))
  (pss_cons (ps_while PassesOwn.never (pt_cmpR op_ne (pv 4) (pe_callB call_lenD (by rfl) T.z_len (by decide +kernel) (pa_cons (pv 1) pa_nil)) (nomark _))
  (pss_cons (ps_set (i := 4) sc_ways_of.nd rfl (Or.inl rfl) (pe_callB call_lenD (by rfl) T.z_len (by decide +kernel) (pa_cons (pv 1) pa_nil)))
  (pss_one (ps_for PassesOwn.never rfl (pi_list (pe_listVals rfl (by rfl) T.z_list (pv 1))) (pg_tup rfl (pgs_cons (pg_name (i := 3) sc_ways_of.nd rfl (Or.inl rfl)) (pgs_cons (pg_name (i := 5) sc_ways_of.nd rfl (Or.inl rfl)) pgs_nil)))
  (pss_one (ps_if (pt_cmpR op_inT (pe_ix ix_tup (pv 3) pe_int (fun _ _ => rfl)) (pe_ktk (K := K) rfl T.U_SHUT) (by rfl))
  (pss_cons (ps_set (i := 6) sc_ways_of.nd rfl (Or.inl rfl) (pe_fk (ok_made_recipe T d) (hr.mono (by omega)) rfl pass0 (pa_cons (pe_fk (ok_undoing_key T) (hr.mono (by omega)) rfl pass0 (pa_cons (pv 3) pa_nil)) (pa_cons (pv 1) pa_nil))))
  (pss_one (ps_if (pt_cmpR op_notN (pv 6) pe_non (nomark _))
  (pss_one (ps_expr (pe_fk (ok_add_way T d) (hr.mono (by omega)) rfl pass0 (pa_cons (pv 1) (pa_cons (pe_ix ix_tup (pv 3) pe_int (fun _ _ => rfl)) (pa_cons (pe_tup (pa_cons (pe_ix (ix_KS T.D_OPENERS) (pe_kdS T.D_OPENERS) (pe_ix ix_tup (pv 3) pe_int (fun _ _ => rfl)) (fun _ _ => rfl)) (pa_cons (pv 5) (pa_cons (pv 6) pa_nil)))) pa_nil))))))
  pss_nil)))
  pss_nil))))))
  (pss_one (ps_ret (pv 1))))))), ?_⟩
    have big : 16777216 ≤ sizeLine := by decide
    refine fun F hF => ?_
    refine gName_k ?_
    try dsimp only
    have sF := Rd.Same.upd (o := .dK []) hF
    have hF1 : upd H F (.dK []) F = some (.dK []) := upd_same
    generalize upd H F (.dK []) = H1 at sF hF1 ⊢
    have nFa : a ≠ F := fun z => by rw [z, hF] at ha; cases ha
    have ha1 := sF _ _ ha
    have hts1 := hts.same sF
    have hwl := hts.len
    have hsl : ts.length ≤ (allOf ts).length := by rw [allOf_len]; exact szs_len ts
    refine seqJoin (fun σ' Hc => ∃ (t2 t3 t4 t5 t6 : Option V) (kvs : List (Key × V)) (W : WayL), σ' = [some (.ref a), some (.ref F), t2, t3, t4, t5, t6] ∧ But F H1 Hc ∧ Hc F = some (.dK kvs) ∧ AlG IsW Hc W kvs ∧ WIn d ts W ts) (fun KK hK => ?_) ?_
    · refine ⟨_, rfl, a, ws, rfl, SqL.of ha1, ?_⟩
      refine ⟨fun i m σ Hc => m = ws.length - i ∧ i ≤ ws.length ∧ ∃ (t2 t3 t4 t5 t6 : Option V) (kvs : List (Key × V)) (W : WayL), σ = [some (.ref a), some (.ref F), t2, t3, t4, t5, t6] ∧ But F H1 Hc ∧ Hc F = some (.dK kvs) ∧ AlG IsW Hc W kvs ∧ WIn d ts W (ts.take i), ⟨_, rfl, Nat.zero_le _, _, _, _, _, _, _, [], rfl, But.refl, hF1, trivial, WayOk.nil, (fun t ht => by cases ht), fun x y h => by cases h⟩, ?_⟩
      rintro i m σ Hc ⟨rfl, hi, t2, t3, t4, t5, t6, kvs, W, rfl, bc, hFc, alc, wi⟩
      by_cases hlt : i < ws.length
      · refine .inr ⟨⟨ws, ws[i], SqL.of (bc _ _ nFa ha1), List.getElem?_eq_getElem hlt⟩, fun σ H' => ∃ (t2 t3 t4 t5 t6 : Option V) (kvs : List (Key × V)) (W : WayL), σ = [some (.ref a), some (.ref F), t2, t3, t4, t5, t6] ∧ But F H1 H' ∧ H' F = some (.dK kvs) ∧ AlG IsW H' W kvs ∧ WIn d ts W (ts.take (i + 1)), fun σ' H' h => ⟨ws.length - (i + 1), by omega, rfl, hlt, h⟩, ?_⟩
        rintro _ _ ⟨Tq, v, rfl, hT, rfl, gx⟩
        have ex := gx _ (SqL.of (bc _ _ nFa ha1))
        have ht : ts[i]? = some ts[i] := List.getElem?_eq_getElem (by omega)
        have etk : ts.take (i + 1) = ts.take i ++ [ts[i]] := by rw [List.take_succ, ht]; rfl
        obtain ⟨w1, w2⟩ := wf _ (List.mem_of_getElem? ht)
        have hmem := List.mem_of_getElem? ht
        have kc : Kp 0 H1 Hc := bc.kpd hF1
        have iu := (hts1.get i _ v ht ex).mono kc
        have hrc : rcx ts (Rc.at_ (i : Nat)) = .inr ts[i] := by
          show (if 0 ≤ ((i : Nat) : Int) then (match ts[((i : Nat) : Int).toNat]? with | some t => Sum.inr t | none => .inl (Rc.at_ (i : Nat))) else .inl (Rc.at_ (i : Nat))) = _
          rw [if_pos (by omega), Int.toNat_natCast, ht]
        generalize ts[i] = t at etk w1 w2 hmem iu hrc
        have sT := Rd.Same.upd (o := .tup [.int (i : Nat), v]) hT
        have hT1 : upd Hc Tq (.tup [.int (i : Nat), v]) Tq = some (.tup [.int (i : Nat), v]) := upd_same
        generalize upd Hc Tq (.tup [.int (i : Nat), v]) = H2 at sT hT1 ⊢
        refine ⟨Tq, [.int (i : Nat), v], rfl, SqT.of hT1, rfl, _, _, rfl, _, _, rfl, rfl, ?_⟩
        try dsimp only
        refine ⟨_, rfl, _, rfl, _, rfl, (by show 2 ≤ sizeLine; decide), fun q hq => ?_⟩
        have sq := Rd.Same.upd (o := .tup [.str "at", .int (i : Nat)]) hq
        have hq1 : upd H2 q (.tup [.str "at", .int (i : Nat)]) q = some (.tup [.str "at", .int (i : Nat)]) := upd_same
        generalize upd H2 q (.tup [.str "at", .int (i : Nat)]) = H3 at sq hq1 ⊢
        have s3 := sT.trans sq
        have hW := wtr_len wi.ok
        have htl := allOf_mem_len hmem
        refine ⟨F, v, .ref q, t, Rc.at_ (i : Nat), W, kvs, rfl, iu.same s3, ⟨q, rfl, hq1⟩, w1, w2, d12, s3 _ _ hFc, alc.mono (fun t v h => h.same s3), by omega, fun kvs' H4 b4 hF4 al4 => ?_⟩
        obtain ⟨wi2, hm2, m2, e2⟩ := wi.add w1 w2 hrc trivial fun O' x _ _ => x _ hmem
        refine ⟨_, _, _, _, _, kvs', _, rfl, bc.trans ((But.of_same s3).trans b4), hF4, al4, wi2.ok, fun u hu => ?_, wi2.pcl⟩
        rw [etk] at hu
        rcases List.mem_append.mp hu with hu | hu
        · exact wi2.base u hu
        · rw [List.mem_singleton.mp hu]; exact hm2
      · have ei : i = ws.length := by omega
        subst ei
        rw [hwl, List.take_length] at wi
        refine .inl ⟨⟨ws, SqL.of (bc _ _ nFa ha1), by omega⟩, hK _ _ ⟨_, _, _, _, _, kvs, W, rfl, bc, hFc, alc, wi⟩⟩
    rintro σ' H2 ⟨t2, t3, t4, t5, t6, kvs, W, rfl, b2, hF2, al2, wi2⟩
    try dsimp only
    refine seqAsg ⟨_, rfl, ?_⟩
    refine gName_k ?_
    try dsimp only
    refine ⟨fun m σ Hc => ∃ (n : Nat) (t2 t3 t5 t6 : Option V) (kvs : List (Key × V)) (W : WayL), σ = [some (.ref a), some (.ref F), t2, t3, some (.int ((n : Int) - 1)), t5, t6] ∧ But F H1 Hc ∧ Hc F = some (.dK kvs) ∧ AlG IsW Hc W kvs ∧ WIn d ts W ts ∧ (n ≤ W.length ∨ (n = W.length + 1 ∧ ClW W W)) ∧ m = (allOf ts).length + 1 - n, ⟨_, 0, _, _, _, _, kvs, W, rfl, b2, hF2, al2, wi2, .inl (Nat.zero_le _), rfl⟩, ?_⟩
    rintro m σ Hc ⟨n, t2, t3, t5, t6, kvs, W, rfl, bc, hFc, alc, wi, hn, rfl⟩
    have hW := wtr_len wi.ok
    have hkl := alc.len
    refine ⟨_, rfl, _, rfl, F, kvs, rfl, hFc, rfl, _, rfl, ?_⟩
    refine ite2 (fun hne => ?_) (fun hne => ?_)
    · have hne : ¬ (V.int ((n : Int) - 1) = V.int kvs.length) := by
        intro e
        rw [decide_eq_true e] at hne
        cases hne
      have hn1 : n ≤ W.length := by
        rcases hn with h | ⟨h, _⟩
        · exact h
        · exact absurd (by rw [h, hkl]; congr 1; omega) hne
      refine ⟨fun σ' H' => ∃ (t2 t3 t5 t6 : Option V) (kvs' : List (Key × V)) (W' : WayL), σ' = [some (.ref a), some (.ref F), t2, t3, some (.int (((W.length + 1 : Nat) : Int) - 1)), t5, t6] ∧ But F H1 H' ∧ H' F = some (.dK kvs') ∧ AlG IsW H' W' kvs' ∧ WIn d ts W' ts ∧ (W.length + 1 ≤ W'.length ∨ (W.length + 1 = W'.length + 1 ∧ ClW W' W')), fun σ' H' ⟨t2, t3, t5, t6, kvs', W', e1, e2, e3, e4, e5, e6⟩ => ⟨(allOf ts).length + 1 - (W.length + 1), by omega, W.length + 1, t2, t3, t5, t6, kvs', W', e1, e2, e3, e4, e5, e6, rfl⟩, ?_⟩
      refine seqAsg ⟨_, rfl, F, kvs, rfl, hFc, ?_⟩
      refine gName_k ?_
      try dsimp only
      have em : V.int (kvs.length : Nat) = V.int (((W.length + 1 : Nat) : Int) - 1) := by rw [hkl]; congr 1; omega
      rw [em]
      refine ⟨_, rfl, F, kvs, rfl, hFc, fun D hD => ⟨D, rfl, ⟨_, SqL.of upd_same⟩, ?_⟩⟩
      have nDF : D ≠ F := fun z => by rw [z, hFc] at hD; cases hD
      have sD := Rd.Same.upd (o := .lst (kvs.map (·.2))) hD
      have hD1 : upd Hc D (.lst (kvs.map (·.2))) D = some (.lst (kvs.map (·.2))) := upd_same
      generalize upd Hc D (.lst (kvs.map (·.2))) = H3 at sD hD1 ⊢
      have hF3 := sD _ _ hFc
      refine for_list (xs := kvs.map (·.2)) (fun i σ' H' => ∃ (t2 t3 t5 t6 : Option V) (kvs' : List (Key × V)) (W' : WayL), σ' = [some (.ref a), some (.ref F), t2, t3, some (.int (((W.length + 1 : Nat) : Int) - 1)), t5, t6] ∧ But F H3 H' ∧ H' F = some (.dK kvs') ∧ AlG IsW H' W' kvs' ∧ WIn d ts W' ts ∧ (∃ m, W' = W ++ m) ∧ (W'.length = W.length → ClW (W.take i) W)) ⟨_, _, _, _, kvs, W, rfl, But.refl, hF3, alc.mono (fun t v h => h.same sD), wi, ⟨[], (List.append_nil _).symm⟩, fun _ p hp => by cases hp⟩ ?_ ?_ ?_
      · rintro i σ' H' hi ⟨_, _, _, _, _, _, _, bt, _⟩
        exact SqL.of (bt _ _ nDF hD1)
      · rintro i x σ' H4 hx ⟨t2, t3, t5, t6, kvs', W', rfl, b4, hF4, al4, wi4, ⟨m4, e4⟩, hcl⟩
        obtain ⟨z, ⟨t, r⟩, hz, hw⟩ := alc.vals hx
        have etk : W.take (i + 1) = W.take i ++ [(z, t, r)] := by rw [List.take_succ, hz]; rfl
        have hzm := List.mem_of_getElem? hz
        obtain ⟨w1, w2⟩ := wi.ok.wf _ hzm
        obtain ⟨hrc, rok⟩ := wi.ok.rc _ hzm
        have k34 : Kp 0 H3 H4 := b4.kpd hF3
        obtain ⟨q, u, rv, rfl, hq, itu, iru⟩ := (hw.same sD).mono k34
        refine ⟨q, _, rfl, SqT.of hq, rfl, _, _, rfl, _, _, rfl, rfl, ?_⟩
        try dsimp only
        obtain ⟨pf, zs, rfl, hpf⟩ := itu.hd
        refine ⟨_, rfl, pf, _, _, _, rfl, rfl, SqT.of hpf, at_of (j := 0) rfl rfl, _, He.ga K "SHUT", ["seal", "lock"], rfl, rfl, T.U_SHUT.tp _, _, rfl, ?_⟩
        rw [shut_iff w1]
        cases ek : ukey t with
        | none =>
          refine iteN (by simp) ⟨_, _, _, _, kvs', W', rfl, b4, hF4, al4, wi4, ⟨m4, e4⟩, fun hl => ?_⟩
          rw [etk]
          intro p hp key hk
          rcases List.mem_append.mp hp with hp | hp
          · exact hcl hl p hp key hk
          · rw [List.mem_singleton.mp hp, ek] at hk
            cases hk
        | some key =>
          obtain ⟨w3, w4⟩ := ukey_wf w1 ek
          refine iteP rfl ?_
          refine seqAsg ⟨_, rfl, _, t, key, rfl, itu, w1, ek, fun u5 H5 s5 ik => ⟨_, rfl, u5, F, key, W', kvs', d, ts, rfl, ik, w3, by omega, d12, s5 _ _ hF4, al4.mono (fun t v h => h.same s5), wi4.ok, fun u6 H6 s6 mk6 => ?_⟩⟩
          refine gName_k ?_
          try dsimp only
          have S6 := s5.trans s6
          have hF6 := S6 _ _ hF4
          have al6 := al4.mono fun t v (h : IsW H4 t v) => h.same S6
          refine ⟨_, rfl, ?_⟩
          rcases mk6 with ⟨em, rfl⟩ | ⟨rq, em, irq⟩
          · refine ⟨rfl, _, rfl, iteN (by decide) ⟨_, _, _, _, kvs', W', rfl, b4.trans (But.of_same S6), hF6, al6, wi4, ⟨m4, e4⟩, fun hl => ?_⟩⟩
            have m0 : m4 = [] := by
              rw [e4, List.length_append] at hl
              exact List.length_eq_zero_iff.mp (by omega)
            rw [m0, List.append_nil] at e4
            rw [etk]
            intro p hp key' hk hs
            rcases List.mem_append.mp hp with hp | hp
            · exact hcl hl p hp key' hk hs
            · rw [List.mem_singleton.mp hp, ek] at hk
              cases hk
              rw [← e4, em] at hs
              cases hs
          · obtain ⟨hrq, rqok⟩ := mkR_ok wi4.ok w3 em
            have hne : u6 ≠ .non := by
              cases rq with
              | at_ k => obtain ⟨p, rfl, _⟩ := irq; exact fun e => by cases e
              | wd x => obtain ⟨p, rfl, _⟩ := irq; exact fun e => by cases e
              | un s r => obtain ⟨p, u, rfl, _⟩ := irq; exact fun e => by cases e
              | bi s r q => obtain ⟨p, u, u2, rfl, _⟩ := irq; exact fun e => by cases e
            refine ⟨rfl, _, rfl, iteP (by rw [decide_eq_false hne]; rfl) ?_⟩
            obtain ⟨sg, c, k', rfl, hsg, wc, dc⟩ : ∃ sg c k', t = .bi sg c k' ∧ sg ∈ (["seal", "lock"] : List Str) ∧ Wf c ∧ c.dep ≤ d := by
              have hd : ∀ {sg c k'}, t = .bi sg c k' → Wf c ∧ c.dep ≤ d := fun {sg c k'} e => by
                subst e
                have w2 : (Tr.bi sg c k').dep ≤ d := w2
                have ed : (Tr.bi sg c k').dep = max c.dep k'.dep + 1 := rfl
                refine ⟨?_, by omega⟩
                rcases Wf.shp w1 with ⟨_, _, e, _⟩ | ⟨_, _, e, _⟩ | ⟨_, _, _, e, _, wa, _⟩
                · cases e
                · cases e
                · cases e; exact wa
              rcases ukey_inv w1 ek with ⟨c, e⟩ | ⟨c, s', k', e, _⟩
              · exact ⟨_, c, _, e, by decide +kernel, hd e⟩
              · exact ⟨_, c, _, e, by decide +kernel, hd e⟩
            have itu6 := itu.same S6
            obtain ⟨pf', u1, u2, e', hpf6, ic, _⟩ := itu6
            cases e'
            have hzs : zs = [u1, u2] := by
              have := S6 _ _ hpf
              rw [hpf6] at this
              cases this
              rfl
            subst hzs
            obtain ⟨op, hop, hopv⟩ : ∃ op : Str, (sg, op) ∈ ([("seal", "unseal"), ("lock", "unlock")] : List (Str × Str)) ∧ (if sg = "seal" then ("unseal" : Str) else "unlock") = op := by
              have : sg = "seal" ∨ sg = "lock" := by simpa using hsg
              rcases this with rfl | rfl
              · exact ⟨_, List.mem_cons_self, rfl⟩
              · exact ⟨"unlock", by decide +kernel, by decide +kernel⟩
            refine ⟨_, rfl, _, rfl, pf, _, _, _, rfl, rfl, SqT.of hpf6, at_of (j := 1) rfl rfl, _, rfl, pf, _, _, _, rfl, rfl, SqT.of hpf6, at_of (j := 0) rfl rfl, (sg, op), hop, rfl, rfl, _, rfl, _, rfl, (by show 3 ≤ sizeLine; decide), fun q7 hq7 => ?_⟩
            have s7 := Rd.Same.upd (o := .tup [.str op, rv, u6]) hq7
            have h71 : upd H6 q7 (.tup [.str op, rv, u6]) q7 = some (.tup [.str op, rv, u6]) := upd_same
            generalize upd H6 q7 (.tup [.str op, rv, u6]) = H7 at s7 h71 ⊢
            have S7 := S6.trans s7
            have hW4 := wtr_len wi4.ok
            have htm : Tr.bi sg c k' ∈ wtr W := List.mem_map.mpr ⟨_, hzm, rfl⟩
            have hcl' : c.all.length ≤ (allOf ts).length := by
              have := inAll_len (wi.ok.inAll _ htm)
              rw [all_bi'] at this
              omega
            have hrc2 : rcx ts (.bi op r rq) = .inr c := by
              have := rcx_open (ts := ts) (t := .bi sg c k') (key := key) (r := r) (q := rq) w1 ek hrc hrq
              rw [show (Tr.bi sg c k').head = sg from rfl, hopv] at this
              exact this
            have hbil : op ∈ BIL := by
              have : op = "unseal" ∨ op = "unlock" := by
                have hop : (sg, op) = (("seal" : Str), ("unseal" : Str)) ∨ (sg, op) = (("lock" : Str), ("unlock" : Str)) := by
                  rcases List.mem_cons.mp hop with h | h
                  · exact .inl h
                  · exact .inr (List.mem_singleton.mp h)
                rcases hop with e | e
                · cases e; exact .inl rfl
                · cases e; exact .inr rfl
              rcases this with rfl | rfl <;> decide +kernel
            have hO : ∀ O', (∀ t ∈ ts, t ∈ O') → PCl O' → SCl O' O' → c ∈ O' := fun O' x y z => by
              refine z sg c k' key (wi.ok.lst O' x y z _ htm) ek (mka_mono (wi4.ok.lst O' x y z) ?_)
              rw [← mkR_some wi4.ok w3, em]
              rfl
            refine ⟨F, u1, .ref q7, c, .bi op r rq, W', kvs', rfl, ic.same s7, ⟨q7, rv, u6, rfl, h71, iru.same S7, irq.same s7⟩, wc, dc, d12, S7 _ _ hF4, al4.mono (fun t v h => h.same S7), by omega, fun kvs8 H8 b8 hF8 al8 => ?_⟩
            obtain ⟨wi8, hm8, m8, e8⟩ := wi4.add wc dc hrc2 ⟨hbil, rok, rqok⟩ hO
            refine ⟨_, _, _, _, kvs8, _, rfl, b4.trans ((But.of_same S7).trans b8), hF8, al8, wi8, ⟨m4 ++ m8, by rw [e8, e4, List.append_assoc]⟩, fun hl => ?_⟩
            have l8 : (addW c (.bi op r rq) W').length = W.length + m4.length + m8.length := by rw [e8, e4, List.length_append, List.length_append]
            have m80 : m8 = [] := List.length_eq_zero_iff.mp (by omega)
            have m40 : m4 = [] := List.length_eq_zero_iff.mp (by omega)
            rw [m80, List.append_nil] at e8
            rw [m40, List.append_nil] at e4
            rw [e8, e4] at hm8
            rw [etk]
            intro p hp key' hk hs
            rcases List.mem_append.mp hp with hp | hp
            · exact hcl (by rw [e4]) p hp key' hk hs
            · rw [List.mem_singleton.mp hp]
              exact hm8
      · rintro σ' H4 ⟨t2, t3, t5, t6, kvs', W', rfl, b4, hF4, al4, wi4, ⟨m4, e4⟩, hcl⟩
        rw [List.length_map, hkl, List.take_length] at hcl
        refine ⟨_, _, _, _, kvs', W', rfl, bc.trans ((But.of_same sD).trans b4), hF4, al4, wi4, ?_⟩
        by_cases hl : W'.length = W.length
        · have m0 : m4 = [] := by
            rw [e4, List.length_append] at hl
            exact List.length_eq_zero_iff.mp (by omega)
          rw [m0, List.append_nil] at e4
          refine .inr ⟨by omega, ?_⟩
          rw [e4]
          exact hcl hl
        · refine .inl ?_
          rw [e4, List.length_append] at hl ⊢
          omega
    · have hcl : ClW W W := by
        rcases hn with h | ⟨_, h⟩
        · exfalso
          apply hne
          have : ¬ (V.int ((n : Int) - 1) = V.int kvs.length) := fun e => by
            have e := V.int.inj e
            rw [hkl] at e
            omega
          rw [decide_eq_false this]
          rfl
        · exact h
      refine ⟨_, rfl, k F kvs W Hc (fun c o e => bc c o (ne_of_none e hF) (sF _ _ e)) hF hFc alc wi.ok ?_⟩
      refine wi.ok.done wi.base wi.pcl fun t ht key hk hm => ?_
      obtain ⟨p, hp, rfl⟩ := List.mem_map.mp ht
      exact hcl p hp key hk hm
end
end Rd
namespace Rd
open PySem L2
theorem inV_strs (t : Str) : ∀ nm : List Str, inV (V.str t) (nm.map V.str) = decide (t ∈ nm)
  | [] => by simp [inV]
  | z :: r => by
    have ih := inV_strs t r
    unfold inV at ih ⊢
    rw [List.map_cons, List.any_cons, ih]
    show ((z == t) || _) = _
    by_cases e : z = t
    · subst e; simp
    · have e' : t ≠ z := fun q => e q.symm
      simp [e, e']
def wtF (l : List (Str × Tr)) : List Tr := l.map (·.2)
/-- the rounds of the law: found forms by their texts -/
structure LwI (d : Nat) (ts : List Tr) (l : List (Str × Tr)) : Prop where
  tx : ∀ p ∈ l, p.1 = textOf p.2
  wf : ∀ p ∈ l, Wf p.2 ∧ p.2.dep ≤ d
  nd : (l.map (·.1)).Nodup
  base : ∀ t ∈ ts, t ∈ wtF l
  lst : ∀ O', (∀ t ∈ ts, t ∈ O') → PCl O' → SCl O' O' → ∀ t ∈ wtF l, t ∈ O'
def putT (l : List (Str × Tr)) (t : Tr) : List (Str × Tr) := if (lookG l (textOf t)).isSome = true then l else l ++ [(textOf t, t)]
theorem look_has {l : List (Str × Tr)} (tx : ∀ p ∈ l, p.1 = textOf p.2) (wl : ∀ p ∈ l, Wf p.2) {t : Tr} (wf : Wf t) : (lookG l (textOf t)).isSome = decide (t ∈ wtF l) := by
  rw [Bool.eq_iff_iff, decide_eq_true_eq, Option.isSome_iff_exists]
  constructor
  · rintro ⟨u, e⟩
    have hm := lookG_mem e
    have : u = t := text_inj (wl _ hm) wf (tx _ hm).symm
    exact List.mem_map.mpr ⟨_, hm, this⟩
  · intro hm
    obtain ⟨p, hp, e⟩ := List.mem_map.mp hm
    exact lookG_some (List.mem_map.mpr ⟨p, hp, by rw [tx p hp, e]⟩)
theorem look_eq {l : List (Str × Tr)} (tx : ∀ p ∈ l, p.1 = textOf p.2) (wl : ∀ p ∈ l, Wf p.2) {t u : Tr} (wf : Wf t) (e : lookG l (textOf t) = some u) : u = t := by
  have hm := lookG_mem e
  exact text_inj (wl _ hm) wf (tx _ hm).symm
theorem putT_mem {l : List (Str × Tr)} (tx : ∀ p ∈ l, p.1 = textOf p.2) (wl : ∀ p ∈ l, Wf p.2) {t : Tr} (wf : Wf t) : ∀ u, u ∈ wtF (putT l t) ↔ u ∈ wtF l ∨ u = t := by
  intro u
  unfold putT
  by_cases h : (lookG l (textOf t)).isSome = true
  · rw [if_pos h]
    rw [look_has tx wl wf] at h
    have := of_decide_eq_true h
    exact ⟨.inl, fun e => by rcases e with e | rfl; exact e; exact this⟩
  · rw [if_neg h]
    unfold wtF
    rw [List.map_append, List.mem_append]
    simp
theorem LwI.put {d : Nat} {ts : List Tr} {l : List (Str × Tr)} (h : LwI d ts l) {t : Tr} (wf : Wf t) (dp : t.dep ≤ d) (hO : ∀ O', (∀ t ∈ ts, t ∈ O') → PCl O' → SCl O' O' → t ∈ O') : LwI d ts (putT l t) := by
  have hm := putT_mem h.tx (fun p hp => (h.wf p hp).1) wf
  unfold putT at hm ⊢
  by_cases hl : (lookG l (textOf t)).isSome = true
  · rw [if_pos hl]
    exact h
  · rw [if_neg hl] at hm ⊢
    refine ⟨fun p hp => ?_, fun p hp => ?_, ?_, fun t ht => (hm t).mpr (.inl (h.base t ht)), fun O' a b c u hu => ?_⟩
    · rcases List.mem_append.mp hp with hp | hp
      · exact h.tx p hp
      · rw [List.mem_singleton.mp hp]
    · rcases List.mem_append.mp hp with hp | hp
      · exact h.wf p hp
      · rw [List.mem_singleton.mp hp]; exact ⟨wf, dp⟩
    · rw [List.map_append, List.nodup_append]
      refine ⟨h.nd, by simp, fun x hx y hy e => ?_⟩
      have hy : y = textOf t := by simpa using hy
      subst e
      rw [hy] at hx
      obtain ⟨q, hq⟩ := lookG_some hx
      rw [hq] at hl
      exact hl rfl
    · rcases (hm u).mp hu with hu | rfl
      · exact h.lst O' a b c u hu
      · exact hO O' a b c
theorem wtF_nodup {l : List (Str × Tr)} (tx : ∀ p ∈ l, p.1 = textOf p.2) (nd : (l.map (·.1)).Nodup) : (wtF l).Nodup := by
  induction l with
  | nil => exact List.nodup_nil
  | cons p l ih =>
    rw [List.map_cons, List.nodup_cons] at nd
    unfold wtF
    rw [List.map_cons, List.nodup_cons]
    refine ⟨fun hm => nd.1 ?_, ih (fun q hq => tx q (List.mem_cons_of_mem _ hq)) nd.2⟩
    obtain ⟨q, hq, e⟩ := List.mem_map.mp hm
    refine List.mem_map.mpr ⟨q, hq, ?_⟩
    rw [tx q (List.mem_cons_of_mem _ hq), tx p List.mem_cons_self, e]
theorem LwI.len {d : Nat} {ts : List Tr} {l : List (Str × Tr)} (h : LwI d ts l) : l.length ≤ (allOf ts).length := by
  have e : l.length = (wtF l).length := by unfold wtF; rw [List.length_map]
  rw [e]
  exact nodup_sub (wtF_nodup h.tx h.nd) (h.lst _ (allOf_base ts) (allOf_pcl ts) (allOf_scl ts))
theorem LwI.inAll {d : Nat} {ts : List Tr} {l : List (Str × Tr)} (h : LwI d ts l) : ∀ t ∈ wtF l, t ∈ allOf ts := h.lst _ (allOf_base ts) (allOf_pcl ts) (allOf_scl ts)
/-- what one form opens -/
def inn2 (O : List Tr) (t : Tr) : List Tr := if t.head = "pair" then t.parts else if opn O t = true then [cnt1 t] else []
theorem LwI.done {d : Nat} {ts : List Tr} {l : List (Str × Tr)} (h : LwI d ts l) (hc : ∀ t ∈ wtF l, ∀ u ∈ inn2 (wtF l) t, u ∈ wtF l) : IsOpen ts (wtF l) := by
  refine ⟨h.base, fun a b hab => ?_, fun s c k key hm hk hmk => ?_, h.lst⟩
  · have := hc _ hab
    rw [show inn2 (wtF l) (.bi "pair" a b) = [a, b] from if_pos rfl] at this
    exact ⟨this a (by simp), this b (by simp)⟩
  · refine hc _ hm c ?_
    have hs : s ≠ "pair" := fun e => by
      subst e
      have : ukey (.bi "pair" c k) = none := by
        show (if ("pair" : Str) = "seal" then some k else if ("pair" : Str) = "lock" then lkey k else none) = none
        rw [if_neg (by decide +kernel), if_neg (by decide +kernel)]
      rw [this] at hk
      cases hk
    unfold inn2
    rw [if_neg (show ¬ (Tr.bi s c k).head = "pair" from hs), if_pos]
    · exact List.mem_cons_self
    · unfold opn
      rw [hk]
      exact hmk
section
variable {P : Program} {w : World} {K : PySem.W.Frag} {mg : Str → Option Value} {base : Heap}
theorem sgn_ltrs {t : Tr} (wf : Wf t) : (t.parts ≠ [] ∧ t.head ∈ (["mark", "open", "own", "pair", "seal", "lock"] : List Str) ∧ t.head ∉ (["word", "name", "unknown"] : List Str)) ∨ ∃ k x, t = .am k x ∧ kindOk k x := by
  rcases wf.shp with ⟨k, x, rfl, ko⟩ | ⟨s, a, rfl, hs, _⟩ | ⟨s, a, b, rfl, hs, _⟩
  · exact .inr ⟨k, x, rfl, ko⟩
  · refine .inl ⟨(fun e => by cases e), uT hs, ?_⟩
    have : ∀ z ∈ (["mark", "open", "own"] : List Str), z ∉ (["word", "name", "unknown"] : List Str) := by decide +kernel
    exact this s hs
  · refine .inl ⟨(fun e => by cases e), bT hs, ?_⟩
    have : ∀ z ∈ (["pair", "seal", "lock"] : List Str), z ∉ (["word", "name", "unknown"] : List Str) := by decide +kernel
    exact this s hs
abbrev s__law_text : Stmt := top 69
theorem sc__law_text : FnScope ["_law_form_here", "_law_part"] ["_law_form_here"] (defScope s__law_text) := ⟨rfl, rfl, rfl, by decide +kernel, rfl, by decide +kernel, by decide +kernel⟩
theorem lt_step (T : Tx w K mg) (d : Nat) (ih : Fk P w K mg base CX0 (d + 1) "_law_text" ["_law_form_here"] (spTR d)) : Fk P w K mg base CX0 (d + 2) "_law_text" ["_law_form_here"] (sp_text d) := by
  refine T.F__law_text.ok0 sc__law_text (fun _ _ _ _ _ _ us hl => match us, hl with | [_], _ => rfl)
    (fun vs H Q E h => ?_) (fun cdv A outer s H vs Q E hr h => ?_)
  · obtain ⟨v, t, rfl, _⟩ := h
    rfl
  · obtain ⟨v, t, rfl, it, wf, dp, d12, k⟩ := h
    refine ⟨_, (pss_cons (ps_if (pt_cmpR op_in_seq (pe_ix ix_tup (pv 0) pe_int (fun _ _ => rfl)) (pe_lst (pa_cons pe_str (pa_cons pe_str (pa_cons pe_str pa_nil)))) (by rfl))
  (pss_one (ps_ret (pe_op op_add_str (pe_ix ix_list (pe_lst (pa_cons pe_str (pa_cons pe_str pa_nil))) (pe_callTy call_int1 (by rfl) T.z_int (by decide +kernel) (pa_cons (pe_cmpR op_eq (pe_ix ix_tup (pv 0) pe_int (fun _ _ => rfl)) pe_str (nomark _)) pa_nil)) (fun _ _ => rfl)) (pe_ix ix_tup (pv 0) pe_int (fun _ _ => rfl)))))
  pss_nil)
  (pss_one (ps_ret (pe_op op_add_str (pe_op op_add_str (pe_op op_add_str (pe_ix ix_tup (pv 0) pe_int (fun _ _ => rfl)) pe_str) (pe_join pe_str (pe_lc (own := [("_law_part", 1)]) (g := gName 1) (tt := tYes) (by rfl) sc__law_text.nd (pi_tup (pe_slice sl_tup (pv 0) (po_some pe_int) po_none)) (blkOk_by (own := [("_law_part", 1)]) (N := ["_law_form_here", "_law_part"]) (sc := defScope s__law_text) (by decide +kernel)) (fun _ _ _ _ _ => (pg_name (i := 1) sc__law_text.nd rfl (Or.inl rfl))) (fun _ _ _ _ _ => pts_nil) (fun _ _ _ _ _ => (pe_fk ih (hr.mono (by omega)) rfl pass0 (pa_cons (pv 1) pa_nil)))))) pe_str)))), ?_⟩
    have big : 16777216 ≤ sizeLine := by decide
    have e0 : Str.empty.cps.toList = [] := by decide +kernel
    have l0 : ∀ z : Str, Str.empty ++ z = z := fun z => str_ext (by rw [app_list, e0]; rfl)
    obtain ⟨pf, us0, rfl, hp0⟩ := it.hd
    refine ⟨_, rfl, pf, _, _, _, rfl, rfl, SqT.of hp0, at_of (j := 0) rfl rfl, (by show 3 ≤ sizeLine; decide), fun q0 hq0 => ?_⟩
    have s0 := Rd.Same.upd (o := .lst [.str "word", .str "name", .str "unknown"]) hq0
    have h00 : upd H q0 (.lst [.str "word", .str "name", .str "unknown"]) q0 = some (.lst [.str "word", .str "name", .str "unknown"]) := upd_same
    generalize upd H q0 (.lst [.str "word", .str "name", .str "unknown"]) = H1 at s0 h00 ⊢
    refine ⟨q0, _, rfl, .inl (SqL.of h00), rfl, rfl, _, rfl, ?_⟩
    rw [if_neg Bool.false_ne_true, show inV (V.str t.head) [.str "word", .str "name", .str "unknown"] = decide (t.head ∈ (["word", "name", "unknown"] : List Str)) from inV_strs t.head ["word", "name", "unknown"]]
    rcases sgn_ltrs wf with ⟨hpt, hsg, hno⟩ | ⟨k0, x0, rfl, ko⟩
    · obtain ⟨_, hws⟩ := wf.sign hpt
      obtain ⟨pf', us, e', hp, hlu, hl2, hne, hus⟩ := it.parts hpt
      cases e'
      refine iteN (by rw [decide_eq_false hno]; decide) (nxt ?_)
      try dsimp only
      have hp1 := s0 _ _ hp
      have e1 : ("(" : Str).cps.toList = [40] := by decide +kernel
      have e2 : (")" : Str).cps.toList = [41] := by decide +kernel
      have la : ∀ a b : Str, (a ++ b).length = a.length + b.length := fun a b => by rw [len_list, app_list, List.length_append, ← len_list, ← len_list]
      have l1 : ("(" : Str).length = 1 := by decide +kernel
      have l2 : (")" : Str).length = 1 := by decide +kernel
      have hj := join_len hpt
      have hts := txt_small wf (by omega)
      refine ⟨_, rfl, pf, _, _, _, rfl, rfl, SqT.of hp1, at_of (j := 0) rfl rfl, _, _, rfl, rfl, (by rw [l1]; omega), ?_⟩
      refine ⟨⟨_, rfl⟩, _, rfl, _, rfl, pf, _, rfl, SqT.of hp1, ?_, fun p2 hp2 => ?_⟩
      · rintro ⟨z, _⟩
        rw [show (1 : Int) = ((1 : Nat) : Int) from rfl, HT.sIx_nat, List.length_cons] at z
        omega
      rw [cut1]
      have s2 := Rd.Same.upd (o := .tup us) hp2
      refine ⟨p2, rfl, ⟨_, SqT.of upd_same⟩, fun D hD => ?_⟩
      refine lct (C := 0) (fun i H v => ∃ r, t.parts[i]? = some r ∧ v = .str (textOf r)) (fun i H H' v _ h => h) (SqT.of upd_same) (by omega) hD (fun i x H1 Q1 hx s1 k1 => ?_) fun vs H2 s2' hD1 hlv hvs => ?_
      · obtain ⟨r, hr1, hr2⟩ := hus i x hx
        obtain ⟨w1, w2⟩ := hws r (List.mem_of_getElem? hr1)
        cases d with
        | zero => exact absurd dp (by omega)
        | succ d => exact ⟨_, rfl, x, r, rfl, hr2.same (s0.trans (s2.trans s1)), w1, (by omega), (by omega), fun H' s' => k1 _ H' s' ⟨r, hr1, rfl⟩⟩
      have ev := texts_eq (hlv.trans hlu) hvs
      refine ⟨_, D, t.parts.map textOf, rfl, rfl, .inl (SqL.of (by rw [← ev]; exact hD1)), join_sum wf (by omega), ?_⟩
      refine ⟨_, _, rfl, rfl, (by rw [la, l1]; omega), _, _, rfl, rfl, (by rw [la, la, l1, l2]; omega), ?_⟩
      have ez : t.head ++ "(" ++ Txt.join ", " (t.parts.map textOf) ++ ")" = textOf t := text_parts hpt (by rw [app_list, app_list, app_list, e1, e2]; simp)
      rw [ez]
      exact k _ (s0.trans (s2.trans s2'))
    · obtain ⟨pf', e', hp⟩ := it
      cases e'
      refine iteP (decide_eq_true (show k0 ∈ (["word", "name", "unknown"] : List Str) by rcases ko with ⟨rfl, _⟩ | ⟨rfl, _⟩ | ⟨rfl, _⟩ <;> decide +kernel)) ?_
      refine ⟨(by show 2 ≤ sizeLine; decide), fun q1 hq1 => ?_⟩
      have s1 := Rd.Same.upd (o := .lst [.str "", .str "?"]) hq1
      have h11 : upd H1 q1 (.lst [.str "", .str "?"]) q1 = some (.lst [.str "", .str "?"]) := upd_same
      generalize upd H1 q1 (.lst [.str "", .str "?"]) = H2 at s1 h11 ⊢
      have S2 := s0.trans s1
      have hl : x0.length ≤ 1000 := by
        rcases ko with ⟨_, h⟩ | ⟨_, h⟩ | ⟨_, h⟩
        · have := (word_len h).2.1; omega
        · have := (name_len h).1; omega
        · have := (unk_len h).1; omega
      refine ⟨_, rfl, pf, _, _, _, rfl, rfl, SqT.of (S2 _ _ hp), at_of (j := 0) rfl rfl, rfl, .inr ⟨_, rfl, ?_⟩⟩
      rw [decS]
      have hq : ("?" : Str).length = 1 := by decide +kernel
      have hemp : ("" : Str).length = 0 := by decide +kernel
      by_cases e : k0 = "unknown"
      · subst e
        refine ⟨q1, _, _, .str "?", rfl, rfl, SqL.of h11, at_of (j := 1) (by decide +kernel) rfl, _, rfl, pf, _, _, _, rfl, rfl, SqT.of (S2 _ _ hp), at_of (j := 1) rfl rfl, _, _, rfl, rfl, (by omega), ?_⟩
        have := k _ S2
        rw [text_unk] at this
        exact this
      · refine ⟨q1, _, _, .str "", rfl, rfl, SqL.of h11, at_of (j := 0) (by rw [decide_eq_false e]; rfl) rfl, _, rfl, pf, _, _, _, rfl, rfl, SqT.of (S2 _ _ hp), at_of (j := 1) rfl rfl, _, _, rfl, rfl, (by omega), ?_⟩
        have := k _ S2
        rw [text_am e, ← l0 x0] at this
        exact this
theorem lt_none (T : Tx w K mg) : Fk P w K mg base CX0 1 "_law_text" ["_law_form_here"] (spTR 0) := by
  refine T.F__law_text.ok0 sc__law_text (fun _ _ _ _ _ _ us hl => match us, hl with | [_], _ => rfl) (fun vs H Q E h => h.elim) (fun cdv A outer s H vs Q E hr h => h.elim)
theorem ok__law_text (T : Tx w K mg) : ∀ d : Nat, Fk P w K mg base CX0 (d + 2) "_law_text" ["_law_form_here"] (sp_text d)
  | 0 => lt_step T 0 (lt_none T)
  | d + 1 => lt_step T (d + 1) (ok__law_text T d)
end
end Rd
namespace Rd
open PySem L2
def Rc.dp : Rc → Nat
  | .at_ _ => 0
  | .wd _ => 0
  | .un _ r => r.dp + 1
  | .bi _ r q => max r.dp q.dp + 1
def TrV (H : Hp) (o : Option Tr) (v : V) : Prop := (o = none ∧ v = .non) ∨ ∃ t, o = some t ∧ IsT H t v
theorem TrV.same {H H' : Hp} {o : Option Tr} {v : V} (s : Same H H') (h : TrV H o v) : TrV H' o v := by
  rcases h with h | ⟨t, e, h⟩
  · exact .inl h
  · exact .inr ⟨t, e, h.same s⟩
def wkd (s : Str) : List Tr → Option Tr
  | [t] => wk1 s t
  | [t, u] => wk2 s t u
  | _ => none
theorem unl_cases {s : Str} (h : s ∈ UNL) : s = "first" ∨ s = "second" ∨ s = "mark" ∨ s = "open" := by simpa [UNL] using h
theorem bil_cases {s : Str} (h : s ∈ BIL) : s = "unseal" ∨ s = "unlock" ∨ s = "pair" ∨ s = "seal" ∨ s = "lock" := by simpa [BIL] using h
theorem wk1_wf {s : Str} {t u : Tr} (hs : s ∈ UNL) (wf : Wf t) (e : wk1 s t = some u) : Wf u ∧ u.dep ≤ t.dep + 1 := by
  unfold wk1 at e
  rcases unl_cases hs with rfl | rfl | rfl | rfl
  · rw [if_pos rfl] at e
    rcases wf.shp with ⟨k, x, rfl, _⟩ | ⟨z, a, rfl, _⟩ | ⟨z, a, b, rfl, _, wa, wb⟩
    · cases e
    · cases e
    · have ed : (Tr.bi z a b).dep = max a.dep b.dep + 1 := rfl
      have e : (if z = "pair" then some a else none) = some u := e
      split at e
      · cases e; exact ⟨wa, by omega⟩
      · cases e
  · rw [if_neg (by decide +kernel), if_pos rfl] at e
    rcases wf.shp with ⟨k, x, rfl, _⟩ | ⟨z, a, rfl, _⟩ | ⟨z, a, b, rfl, _, wa, wb⟩
    · cases e
    · cases e
    · have ed : (Tr.bi z a b).dep = max a.dep b.dep + 1 := rfl
      have e : (if z = "pair" then some b else none) = some u := e
      split at e
      · cases e; exact ⟨wb, by omega⟩
      · cases e
  · rw [if_neg (by decide +kernel), if_neg (by decide +kernel)] at e
    cases e
    exact ⟨.un (by decide +kernel) wf, Nat.le_refl _⟩
  · rw [if_neg (by decide +kernel), if_neg (by decide +kernel)] at e
    cases e
    exact ⟨.un (by decide +kernel) wf, Nat.le_refl _⟩
theorem key_shape {u : Tr} (wf : Wf u) (h : u.head = "open" ∨ u.head = "own") : ∃ s k, u = .un s k ∧ s ∈ (["open", "own"] : List Str) ∧ Wf k := by
  rcases wf.shp with ⟨k, x, rfl, ko⟩ | ⟨z, a, rfl, _, wa⟩ | ⟨z, a, b, rfl, hz, _⟩
  · have h : k = "open" ∨ k = "own" := h
    rcases ko with ⟨rfl, _⟩ | ⟨rfl, _⟩ | ⟨rfl, _⟩ <;> exact absurd h (by decide +kernel)
  · have h : z = "open" ∨ z = "own" := h
    refine ⟨z, a, rfl, ?_, wa⟩
    rcases h with rfl | rfl <;> decide +kernel
  · have h : z = "open" ∨ z = "own" := h
    have : ∀ y ∈ (["pair", "seal", "lock"] : List Str), ¬ (y = "open" ∨ y = "own") := by decide +kernel
    exact absurd h (this z hz)
theorem wk2_wf {s : Str} {t u o : Tr} (hs : s ∈ BIL) (wf : Wf t) (wu : Wf u) (e : wk2 s t u = some o) : Wf o ∧ o.dep ≤ max t.dep u.dep + 1 := by
  unfold wk2 at e
  have op : ∀ {nm : Str}, (match t with | .bi z a k => if z = nm ∧ (nm = "seal" ∧ k = u ∨ nm = "lock" ∧ ukey (.bi z a k) = some u) then some a else none | _ => none) = some o → Wf o ∧ o.dep ≤ max t.dep u.dep + 1 := fun {nm} e => by
    rcases wf.shp with ⟨k, x, rfl, _⟩ | ⟨z, a, rfl, _⟩ | ⟨z, a, b, rfl, _, wa, wb⟩
    · cases e
    · cases e
    · have ed : (Tr.bi z a b).dep = max a.dep b.dep + 1 := rfl
      have e : (if z = nm ∧ (nm = "seal" ∧ b = u ∨ nm = "lock" ∧ ukey (.bi z a b) = some u) then some a else none) = some o := e
      split at e
      · cases e; exact ⟨wa, by omega⟩
      · cases e
  rcases bil_cases hs with rfl | rfl | rfl | rfl | rfl
  · rw [if_pos rfl] at e
    rcases wf.shp with ⟨k, x, rfl, _⟩ | ⟨z, a, rfl, _⟩ | ⟨z, a, b, rfl, _, wa, wb⟩
    · cases e
    · cases e
    · have ed : (Tr.bi z a b).dep = max a.dep b.dep + 1 := rfl
      have e : (if z = "seal" ∧ b = u then some a else none) = some o := e
      split at e
      · cases e; exact ⟨wa, by omega⟩
      · cases e
  · rw [if_neg (by decide +kernel), if_pos rfl] at e
    rcases wf.shp with ⟨k, x, rfl, _⟩ | ⟨z, a, rfl, _⟩ | ⟨z, a, b, rfl, _, wa, wb⟩
    · cases e
    · cases e
    · have ed : (Tr.bi z a b).dep = max a.dep b.dep + 1 := rfl
      have e : (if z = "lock" ∧ ukey (.bi z a b) = some u then some a else none) = some o := e
      split at e
      · cases e; exact ⟨wa, by omega⟩
      · cases e
  · rw [if_neg (by decide +kernel), if_neg (by decide +kernel), if_neg (by decide +kernel)] at e
    cases e
    exact ⟨.bi (by decide +kernel) wf wu, Nat.le_refl _⟩
  · rw [if_neg (by decide +kernel), if_neg (by decide +kernel), if_neg (by decide +kernel)] at e
    cases e
    exact ⟨.bi (by decide +kernel) wf wu, Nat.le_refl _⟩
  · rw [if_neg (by decide +kernel), if_neg (by decide +kernel), if_pos rfl] at e
    split at e
    · rename_i hu
      cases e
      obtain ⟨s', k, rfl, hk, wk⟩ := key_shape wu hu
      exact ⟨.lk hk wf wk, Nat.le_refl _⟩
    · cases e
theorem rcx_wf {ts : List Tr} {D : Nat} (wt : ∀ t ∈ ts, Wf t ∧ t.dep ≤ D) : ∀ {r : Rc}, RcOk r → ∀ {t : Tr}, rcx ts r = .inr t → Wf t ∧ t.dep ≤ D + r.dp
  | .at_ k, _, t, e => by
    have e : (if 0 ≤ k then (match ts[k.toNat]? with | some t => Sum.inr t | none => .inl (Rc.at_ k)) else .inl (Rc.at_ k)) = .inr t := e
    split at e
    · cases e2 : ts[k.toNat]? with
      | none => rw [e2] at e; cases e
      | some u =>
        rw [e2] at e
        cases e
        exact wt t (List.mem_of_getElem? e2)
    · cases e
  | .wd x, h, t, e => by
    cases e
    exact ⟨.am (.inl ⟨rfl, h⟩), Nat.zero_le _⟩
  | .un s r, h, t, e => by
    unfold rcx at e
    cases er : rcx ts r with
    | inl z => rw [er] at e; cases e
    | inr a =>
      rw [er] at e
      obtain ⟨w1, d1⟩ := rcx_wf wt h.2 er
      have e : (match wk1 s a with | some u => Sum.inr u | none => .inl (Rc.un s r)) = .inr t := e
      cases ew : wk1 s a with
      | none => rw [ew] at e; cases e
      | some u =>
        rw [ew] at e
        cases e
        obtain ⟨w2, d2⟩ := wk1_wf h.1 w1 ew
        exact ⟨w2, by show t.dep ≤ D + (r.dp + 1); omega⟩
  | .bi s r q, h, t, e => by
    unfold rcx at e
    cases er : rcx ts r with
    | inl z => rw [er] at e; cases e
    | inr a =>
      rw [er] at e
      cases eq : rcx ts q with
      | inl z => rw [eq] at e; cases e
      | inr b =>
        rw [eq] at e
        obtain ⟨w1, d1⟩ := rcx_wf wt h.2.1 er
        obtain ⟨w2, d2⟩ := rcx_wf wt h.2.2 eq
        have e : (match wk2 s a b with | some u => Sum.inr u | none => .inl (Rc.bi s r q)) = .inr t := e
        cases ew : wk2 s a b with
        | none => rw [ew] at e; cases e
        | some u =>
          rw [ew] at e
          cases e
          obtain ⟨w3, d3⟩ := wk2_wf h.1 w1 w2 ew
          exact ⟨w3, by show t.dep ≤ D + (max r.dp q.dp + 1); omega⟩
theorem Wf.layW {t : Tr} (wf : Wf t) (h : t.dep ≤ 400) : LayW (dat t) := ⟨dat_lay wf.fine, Nat.le_trans dat_dep (by omega)⟩
theorem isi_base {K : PySem.W.Frag} {m n : String} {b : Bool} (h : kitB m n = some b) : PySem.W.kitOne K (.type m) (.type n) = some b := kit_ty h
def opr (h : Str) : Str := if h = "seal" then "unseal" else "unlock"
theorem wk2_open {s : Str} {t b : Tr} (hs : s ∈ (["unseal", "unlock"] : List Str)) (wf : Wf t) : wk2 s t b = if ((ukey t).isSome = true ∧ opr t.head = s) ∧ ukey t = some b then some (cnt1 t) else none := by
  have hs : s = "unseal" ∨ s = "unlock" := by simpa using hs
  rcases wf.shp with ⟨k, x, rfl, _⟩ | ⟨z, a, rfl, _⟩ | ⟨z, c, k, rfl, hz, wc, wk⟩
  · rw [if_neg (fun h => by cases h.2)]
    rcases hs with rfl | rfl <;> rfl
  · rw [if_neg (fun h => by cases h.2)]
    rcases hs with rfl | rfl <;> rfl
  · have hz : z = "pair" ∨ z = "seal" ∨ z = "lock" := by simpa using hz
    rcases hz with rfl | rfl | rfl
    · have e : ukey (.bi "pair" c k) = none := by
        show (if ("pair" : Str) = "seal" then some k else if ("pair" : Str) = "lock" then lkey k else none) = none
        rw [if_neg (by decide +kernel), if_neg (by decide +kernel)]
      rw [if_neg (fun h => by rw [e] at h; cases h.2)]
      unfold wk2
      rcases hs with rfl | rfl
      · rw [if_pos rfl]
        show (if ("pair" : Str) = "seal" ∧ k = b then some c else none) = none
        rw [if_neg (fun h => absurd h.1 (by decide +kernel))]
      · rw [if_neg (by decide +kernel), if_pos rfl]
        show (if ("pair" : Str) = "lock" ∧ ukey (.bi "pair" c k) = some b then some c else none) = none
        rw [if_neg (fun h => absurd h.1 (by decide +kernel))]
    · have e : ukey (.bi "seal" c k) = some k := by
        show (if ("seal" : Str) = "seal" then some k else if ("seal" : Str) = "lock" then lkey k else none) = some k
        rw [if_pos rfl]
      have eo : opr (Tr.bi "seal" c k).head = "unseal" := if_pos rfl
      rw [e, eo]
      unfold wk2
      rcases hs with rfl | rfl
      · rw [if_pos rfl]
        show (if ("seal" : Str) = "seal" ∧ k = b then some c else none) = _
        by_cases hk : k = b
        · rw [if_pos ⟨rfl, hk⟩, if_pos ⟨⟨rfl, rfl⟩, by rw [hk]⟩]
          rfl
        · rw [if_neg (fun h => hk h.2), if_neg (fun h => hk (Option.some.inj h.2))]
      · rw [if_neg (by decide +kernel), if_pos rfl]
        show (if ("seal" : Str) = "lock" ∧ ukey (.bi "seal" c k) = some b then some c else none) = _
        rw [if_neg (fun h => absurd h.1 (by decide +kernel)), if_neg (fun h => absurd h.1.2 (by decide +kernel))]
    · obtain ⟨s', k', rfl, _⟩ := wf.lockKey
      have e : ukey (.bi "lock" c (.un s' k')) = some (.un (prt s') k') := by
        show (if ("lock" : Str) = "seal" then some (Tr.un s' k') else if ("lock" : Str) = "lock" then lkey (.un s' k') else none) = _
        rw [if_neg (by decide +kernel), if_pos rfl]
        rfl
      have eo : opr (Tr.bi "lock" c (.un s' k')).head = "unlock" := if_neg (show ¬ (("lock" : Str) = "seal") by decide +kernel)
      rw [e, eo]
      unfold wk2
      rcases hs with rfl | rfl
      · rw [if_pos rfl]
        show (if ("lock" : Str) = "seal" ∧ Tr.un s' k' = b then some c else none) = _
        rw [if_neg (fun h => absurd h.1 (by decide +kernel)), if_neg (fun h => absurd h.1.2 (by decide +kernel))]
      · rw [if_neg (by decide +kernel), if_pos rfl]
        show (if ("lock" : Str) = "lock" ∧ ukey (.bi "lock" c (.un s' k')) = some b then some c else none) = _
        rw [e]
        by_cases hk : Tr.un (prt s') k' = b
        · rw [if_pos ⟨rfl, by rw [hk]⟩, if_pos ⟨⟨rfl, rfl⟩, by rw [hk]⟩]
          rfl
        · rw [if_neg (fun h => hk (Option.some.inj h.2)), if_neg (fun h => hk (Option.some.inj h.2))]
theorem wk_else {s : Str} {t : Tr} (hs : s ∈ UNL) (hn : s ∉ (["first", "second"] : List Str)) : wk1 s t = some (.un s t) := by
  unfold wk1
  rw [if_neg (fun e => hn (by rw [e]; decide +kernel)), if_neg (fun e => hn (by rw [e]; decide +kernel))]
theorem wk2_else {s : Str} {t u : Tr} (hn : s ∉ (["unseal", "unlock"] : List Str)) : wk2 s t u = if s = "lock" ∧ ¬ (u.head ∈ (["open", "own"] : List Str)) then none else some (.bi s t u) := by
  unfold wk2
  rw [if_neg (fun e => hn (by rw [e]; decide +kernel)), if_neg (fun e => hn (by rw [e]; decide +kernel))]
  have hm : u.head ∈ (["open", "own"] : List Str) ↔ (u.head = "open" ∨ u.head = "own") := by simp
  by_cases hl : s = "lock"
  · rw [if_pos hl]
    by_cases hu : u.head = "open" ∨ u.head = "own"
    · rw [if_pos hu, if_neg (fun h => h.2 (hm.mpr hu))]
    · rw [if_neg hu, if_pos ⟨hl, fun h => hu (hm.mp h)⟩]
  · rw [if_neg hl, if_neg (fun h => hl h.1)]
def sp_worked : Sp := fun vs H Q _ => ∃ (s : Str) (a : Addr) (us : List V) (ts : List Tr), vs = [.str s, .ref a] ∧ H a = some (.lst us) ∧ TsAt H ts us ∧ (∀ t ∈ ts, Wf t ∧ t.dep ≤ 400) ∧ ((s ∈ UNL ∧ ts.length = 1) ∨ (s ∈ BIL ∧ ts.length = 2)) ∧ ∀ u H', Same H H' → TrV H' (wkd s ts) u → Q u H'
section
variable {P : Program} {w : World} {K : PySem.W.Frag} {mg : Str → Option Value} {base : Heap}
abbrev s_worked : Stmt := top 41
theorem sc_worked : FnScope ["kind", "made"] ["kind", "made"] (defScope s_worked) := ⟨rfl, rfl, rfl, by decide +kernel, rfl, by decide +kernel, by decide +kernel⟩
theorem ok_worked (T : Tx w K mg) : Fk P w K mg base CX0 30 "worked" ["kind", "made"] sp_worked := by
  refine T.F_worked.ok0 sc_worked (fun _ _ _ _ _ _ us hl => match us, hl with | [_, _], _ => rfl)
    (fun vs H Q E h => ?_) (fun cdv A outer s H vs Q E hr h => ?_)
  · obtain ⟨s, a, us, ts, rfl, _⟩ := h
    rfl
  · obtain ⟨s, a, us, ts, rfl, ha, hts, wt, hk, k⟩ := h
    refine ⟨_, (pss_cons (ps_if (pt_cmpR op_inT (pv 0) (pe_tup (pa_cons pe_str (pa_cons pe_str pa_nil))) (by rfl))
  (pss_cons (ps_if (pt_cmpR op_ne (pe_ix ix_tup (pe_ix ix_list (pv 1) pe_int (fun _ _ => rfl)) pe_int (fun _ _ => rfl)) pe_str (nomark _))
  (pss_one (ps_ret pe_non))
  pss_nil)
  (pss_one (ps_ret (pe_ix ix_tup (pe_ix ix_list (pv 1) pe_int (fun _ _ => rfl)) (pe_ifExp (pt_cmpR op_eq (pv 0) pe_str (nomark _)) pe_int pe_int) (fun _ _ => rfl)))))
  pss_nil)
  (pss_cons (ps_if (pt_cmpR op_inT (pv 0) (pe_tup (pa_cons pe_str (pa_cons pe_str pa_nil))) (by rfl))
  (pss_cons (ps_if (PW.pt (pw_or (pt_cmpR op_notInT (pe_ix ix_tup (pe_ix ix_list (pv 1) pe_int (fun _ _ => rfl)) pe_int (fun _ _ => rfl)) (pe_ktk (K := K) rfl T.U_SHUT) (by rfl)) (pw_or (pt_cmpR op_ne (pe_ix (ix_KS T.D_OPENERS) (pe_kdS T.D_OPENERS) (pe_ix ix_tup (pe_ix ix_list (pv 1) pe_int (fun _ _ => rfl)) pe_int (fun _ _ => rfl)) (fun _ _ => rfl)) (pv 0) (nomark _)) (pw_or1 (pt_cmpR (op_neW (units500 hr (by omega))) (pe_fk (ok_undoing_key T) (hr.mono (by omega)) rfl pass0 (pa_cons (pe_ix ix_list (pv 1) pe_int (fun _ _ => rfl)) pa_nil)) (pe_ix ix_list (pv 1) pe_int (fun _ _ => rfl)) (nomark _))))))
  (pss_one (ps_ret pe_non))
  pss_nil)
  (pss_one (ps_ret (pe_ix ix_tup (pe_ix ix_list (pv 1) pe_int (fun _ _ => rfl)) pe_int (fun _ _ => rfl)))))
  pss_nil)
  (pss_cons (ps_if (PW.pt (pw_and (pt_cmpR op_eq (pv 0) pe_str (nomark _)) (pw_and1 (pt_cmpR op_notInT (pe_ix ix_tup (pe_ix ix_list (pv 1) pe_int (fun _ _ => rfl)) pe_int (fun _ _ => rfl)) (pe_tup (pa_cons pe_str (pa_cons pe_str pa_nil))) (by rfl)))))
  (pss_one (ps_ret pe_non))
  pss_nil)
  (pss_one (ps_ret (pe_op op_catT (pe_tup (pa_cons (pv 0) pa_nil)) (pe_callTy call_tuple_of (by rfl) T.z_tuple (by decide +kernel) (pa_cons (pv 1) pa_nil)))))))), ?_⟩
    have hul := hts.len
    obtain ⟨t, u0, ht0, hu0, it, wf, dt⟩ : ∃ t u0, ts[0]? = some t ∧ us[0]? = some u0 ∧ IsT H t u0 ∧ Wf t ∧ t.dep ≤ 400 := by
      have hl : 0 < ts.length := by rcases hk with ⟨_, e⟩ | ⟨_, e⟩ <;> omega
      have e1 : ts[0]? = some ts[0] := List.getElem?_eq_getElem hl
      have e2 : us[0]? = some us[0] := List.getElem?_eq_getElem (by omega)
      exact ⟨_, _, e1, e2, hts.get 0 _ _ e1 e2, wt _ (List.getElem_mem hl)⟩
    have eu0 : atI us 0 = some u0 := at_of (j := 0) rfl hu0
    refine ⟨_, rfl, (by show 2 ≤ sizeLine; decide), fun q1 hq1 => ?_⟩
    have s1 := Rd.Same.upd (o := .tup [.str "first", .str "second"]) hq1
    refine ⟨_, q1, ["first", "second"], rfl, rfl, SqT.of upd_same, _, rfl, ?_⟩
    generalize upd H q1 (.tup [.str "first", .str "second"]) = H1 at s1 ⊢
    have ha1 := s1 _ _ ha
    have it1 := it.same s1
    obtain ⟨pf, zs, e0, hpf⟩ := it1.hd
    subst e0
    by_cases hf : s ∈ (["first", "second"] : List Str)
    · refine iteP (decide_eq_true hf) ?_
      obtain ⟨rfl⟩ : ts = [t] := by
        rcases hk with ⟨_, e⟩ | ⟨h, _⟩
        · match ts, e, ht0 with
          | [a], _, h => cases h; rfl
        · have : ∀ z ∈ BIL, z ∉ (["first", "second"] : List Str) := by decide +kernel
          exact absurd hf (this s h)
      refine ⟨_, rfl, a, _, _, _, rfl, rfl, SqL.of ha1, eu0, pf, _, _, _, rfl, rfl, SqT.of hpf, at_of (j := 0) rfl rfl, rfl, _, rfl, ?_⟩
      rw [decS]
      by_cases hp : t.head = "pair"
      · refine iteN (by rw [decide_eq_true hp]; decide) (nxt ?_)
        try dsimp only
        obtain ⟨c, b, rfl⟩ : ∃ c b, t = .bi "pair" c b := by
          rcases wf.shp with ⟨k0, x0, rfl, ko⟩ | ⟨s0, a0, rfl, hs, _⟩ | ⟨s0, a0, b0, rfl, hs, wa, wb⟩
          · rcases ko with ⟨rfl, _⟩ | ⟨rfl, _⟩ | ⟨rfl, _⟩
            · exact absurd (show ("word" : Str) = "pair" from hp) (by decide +kernel)
            · exact absurd (show ("name" : Str) = "pair" from hp) (by decide +kernel)
            · exact absurd (show ("unknown" : Str) = "pair" from hp) (by decide +kernel)
          · have : ∀ z ∈ (["mark", "open", "own"] : List Str), z ≠ "pair" := by decide +kernel
            exact absurd hp (this s0 hs)
          · have hp : s0 = "pair" := hp
            subst hp
            exact ⟨a0, b0, rfl⟩
        obtain ⟨pf', u1, u2, e', hpf', i1, i2⟩ := it1
        cases e'
        have hs12 : s = "first" ∨ s = "second" := by simpa using hf
        refine ⟨_, rfl, a, _, _, _, rfl, rfl, SqL.of ha1, eu0, _, rfl, rfl, _, rfl, ?_⟩
        rw [decS]
        rcases hs12 with rfl | rfl
        · refine iteP (by decide +kernel) ?_
          refine ⟨pf, _, _, _, rfl, rfl, SqT.of hpf', at_of (j := 1) rfl rfl, k _ _ s1 (.inr ⟨c, ?_, i1⟩)⟩
          show wk1 "first" (.bi "pair" c b) = some c
          rfl
        · refine iteN (by decide +kernel) ?_
          refine ⟨pf, _, _, _, rfl, rfl, SqT.of hpf', at_of (j := 2) rfl rfl, k _ _ s1 (.inr ⟨b, ?_, i2⟩)⟩
          show wk1 "second" (.bi "pair" c b) = some b
          rfl
      · refine iteP (by rw [decide_eq_false hp]; rfl) ?_
        refine k _ _ s1 (.inl ⟨?_, rfl⟩)
        show wk1 s t = none
        have hs12 : s = "first" ∨ s = "second" := by simpa using hf
        cases t with
        | am => rcases hs12 with rfl | rfl <;> rfl
        | un => rcases hs12 with rfl | rfl <;> rfl
        | bi z c b =>
          have hp : z ≠ "pair" := hp
          unfold wk1
          rcases hs12 with rfl | rfl
          · rw [if_pos rfl]
            show (if z = "pair" then some c else none) = none
            rw [if_neg hp]
          · rw [if_neg (by decide +kernel), if_pos rfl]
            show (if z = "pair" then some b else none) = none
            rw [if_neg hp]
    · refine iteN (by rw [decide_eq_false hf]; decide) (nxt ?_)
      try dsimp only
      refine ⟨_, rfl, (by show 2 ≤ sizeLine; decide), fun q2 hq2 => ?_⟩
      have s2 := Rd.Same.upd (o := .tup [.str "unseal", .str "unlock"]) hq2
      refine ⟨_, q2, ["unseal", "unlock"], rfl, rfl, SqT.of upd_same, _, rfl, ?_⟩
      generalize upd H1 q2 (.tup [.str "unseal", .str "unlock"]) = H2 at s2 ⊢
      have S2 := s1.trans s2
      have ha2 := s2 _ _ ha1
      have it2 := it1.same s2
      have hpf2 := s2 _ _ hpf
      by_cases hu : s ∈ (["unseal", "unlock"] : List Str)
      · refine iteP (decide_eq_true hu) ?_
        obtain ⟨b, rfl⟩ : ∃ b, ts = [t, b] := by
          rcases hk with ⟨h, _⟩ | ⟨_, e⟩
          · have : ∀ z ∈ UNL, z ∉ (["unseal", "unlock"] : List Str) := by decide +kernel
            exact absurd hu (this s h)
          · match ts, e, ht0 with
            | [x, b], _, h => cases h; exact ⟨b, rfl⟩
        obtain ⟨u1, rfl⟩ : ∃ u1, us = [.ref pf, u1] := by
          match us, hul, hu0 with
          | [x, b], _, h => cases h; exact ⟨b, rfl⟩
        have ib := (hts.get 1 b u1 rfl rfl).same S2
        obtain ⟨wb, db⟩ := wt b (by simp)
        have eu1 : atI [V.ref pf, u1] 1 = some u1 := at_of (j := 1) rfl rfl
        have ew := wk2_open (b := b) hu wf
        refine seqIf (b := !decide (((ukey t).isSome = true ∧ opr t.head = s) ∧ ukey t = some b)) (fun Q2 kq => ?_) fun H3 s3 => ?_
        · have sh := shut_iff wf
          cases ek : ukey t with
          | none =>
            rw [ek] at sh kq
            refine tb_or (b := true) (c := true) (fun Q3 kq3 => ⟨_, rfl, a, _, _, _, rfl, rfl, SqL.of ha2, eu0, pf, _, _, _, rfl, rfl, SqT.of hpf2, at_of (j := 0) rfl rfl, _, He.ga K "SHUT", ["seal", "lock"], rfl, rfl, T.U_SHUT.tp _, _, rfl, ?_⟩) (fun _ _ e => by cases e) Q2 ?_
            · rw [show (!decide (((none : Option Tr).isSome = true ∧ opr t.head = s) ∧ none = some b)) = true from by rw [decide_eq_false (fun h => by cases h.2)]; rfl] at kq
              exact kq
            · rw [sh]
              exact kq3 _ (Same.refl _)
          | some key =>
            rw [ek] at sh kq
            obtain ⟨sg, c, k', rfl, hsg⟩ : ∃ sg c k', t = .bi sg c k' ∧ (sg = "seal" ∨ sg = "lock") := by
              rcases ukey_inv wf ek with ⟨c, e⟩ | ⟨c, s', k', e, _⟩
              · exact ⟨_, c, _, e, .inl rfl⟩
              · exact ⟨_, c, _, e, .inr rfl⟩
            have hop : (sg, opr sg) ∈ ([("seal", "unseal"), ("lock", "unlock")] : List (Str × Str)) := by
              rcases hsg with rfl | rfl
              · exact List.mem_cons_self
              · show ((("lock" : Str), opr "lock") : Str × Str) ∈ _
                rw [show opr "lock" = "unlock" from by decide +kernel]
                decide +kernel
            have e3 : (!decide (((some key).isSome = true ∧ opr (Tr.bi sg c k').head = s) ∧ some key = some b)) = (false || (!decide (opr sg = s) || !decide (key = b))) := by
              show (!decide ((true = true ∧ opr sg = s) ∧ some key = some b)) = _
              by_cases h1 : opr sg = s
              · by_cases h2 : key = b
                · rw [decide_eq_true ⟨⟨rfl, h1⟩, by rw [h2]⟩, decide_eq_true h1, decide_eq_true h2]; rfl
                · rw [decide_eq_false (fun h => h2 (Option.some.inj h.2)), decide_eq_true h1, decide_eq_false h2]; rfl
              · rw [decide_eq_false (fun h => h1 h.1.2), decide_eq_false h1]; rfl
            rw [e3] at kq
            obtain ⟨w3, w4⟩ := ukey_wf wf ek
            refine tb_or (b := false) (c := !decide (opr sg = s) || !decide (key = b)) (fun Q3 kq3 => ⟨_, rfl, a, _, _, _, rfl, rfl, SqL.of ha2, eu0, pf, _, _, _, rfl, rfl, SqT.of hpf2, at_of (j := 0) rfl rfl, _, He.ga K "SHUT", ["seal", "lock"], rfl, rfl, T.U_SHUT.tp _, _, rfl, ?_⟩) (fun H4 s4 _ => tb_or (b := !decide (opr sg = s)) (c := !decide (key = b)) (fun Q3 kq3 => ⟨_, rfl, a, _, _, _, rfl, rfl, SqL.of (s4 _ _ ha2), eu0, pf, _, _, _, rfl, rfl, SqT.of (s4 _ _ hpf2), at_of (j := 0) rfl rfl, (sg, opr sg), hop, rfl, rfl, _, rfl, rfl, _, rfl, ?_⟩) (fun H5 s5 _ Q3 kq3 => ⟨_, rfl, a, _, _, _, rfl, rfl, SqL.of (s5 _ _ (s4 _ _ ha2)), eu0, _, _, key, rfl, it2.same (s4.trans s5), wf, ek, fun u6 H6 s6 ik => ⟨_, rfl, a, _, _, _, rfl, rfl, SqL.of (s6 _ _ (s5 _ _ (s4 _ _ ha2))), eu1, dat key, dat b, ik.dp, (ib.same ((s4.trans s5).trans s6)).dp, w3.layW (by omega), wb.layW db, _, rfl, ?_⟩⟩)) Q2 kq
            · rw [sh]
              exact kq3 _ (Same.refl _)
            · rw [decS]
              exact kq3 _ (Same.refl _)
            · rw [eqv_dat]
              exact kq3 _ s6
        · have S3 := S2.trans s3
          by_cases hc : ((ukey t).isSome = true ∧ opr t.head = s) ∧ ukey t = some b
          · refine iteN (by rw [decide_eq_true hc]; decide) (nxt ?_)
            try dsimp only
            rw [if_pos hc] at ew
            obtain ⟨key, ek⟩ := Option.isSome_iff_exists.mp hc.1.1
            obtain ⟨sg, c, k', rfl⟩ : ∃ sg c k', t = .bi sg c k' := by
              rcases ukey_inv wf ek with ⟨c, e⟩ | ⟨c, s', k', e, _⟩
              · exact ⟨_, c, _, e⟩
              · exact ⟨_, c, _, e⟩
            obtain ⟨pf', v1, v2, e', hpf3, i1, i2⟩ := it2.same s3
            cases e'
            exact ⟨_, rfl, a, _, _, _, rfl, rfl, SqL.of (s3 _ _ ha2), eu0, pf, _, _, _, rfl, rfl, SqT.of hpf3, at_of (j := 1) rfl rfl, k _ _ S3 (.inr ⟨c, ew, i1⟩)⟩
          · refine iteP (by rw [decide_eq_false hc]; rfl) ?_
            rw [if_neg hc] at ew
            exact k _ _ S3 (.inl ⟨ew, rfl⟩)
      · refine iteN (by rw [decide_eq_false hu]; decide) (nxt ?_)
        try dsimp only
        obtain ⟨bl, ebl, hbl⟩ : ∃ bl : Bool, (∀ H3 : Hp, Same H2 H3 → True) ∧ wkd s ts = (if bl = true then none else some (match ts with | [t] => .un s t | [t, u] => .bi s t u | _ => .am "" "")) ∧ (bl = true ↔ s = "lock" ∧ ∃ u, ts = [t, u] ∧ u.head ∉ (["open", "own"] : List Str)) := by
          rcases hk with ⟨h, e⟩ | ⟨h, e⟩
          · match ts, e, ht0 with
            | [x], _, h0 =>
              cases h0
              refine ⟨false, fun _ _ => trivial, wk_else h hf, ⟨(fun z => by cases z), fun z => ?_⟩⟩
              obtain ⟨_, u, e, _⟩ := z
              cases e
          · match ts, e, ht0 with
            | [x, b], _, h0 =>
              cases h0
              refine ⟨decide (s = "lock" ∧ ¬ (b.head ∈ (["open", "own"] : List Str))), fun _ _ => trivial, ?_, ?_⟩
              · show wk2 s t b = _
                rw [wk2_else hu]
                by_cases hc : s = "lock" ∧ ¬ (b.head ∈ (["open", "own"] : List Str))
                · rw [if_pos hc, decide_eq_true hc, if_pos rfl]
                · rw [if_neg hc, decide_eq_false hc, if_neg (by decide)]
              · rw [decide_eq_true_eq]
                exact ⟨fun z => ⟨z.1, b, rfl, z.2⟩, fun ⟨z1, u, e, z2⟩ => by cases e; exact ⟨z1, z2⟩⟩
        obtain ⟨ewk, hbl⟩ := hbl
        refine seqIf (b := bl) (fun Q2 kq => ?_) fun H3 s3 => ?_
        · by_cases hl : s = "lock"
          · subst hl
            obtain ⟨b, rfl⟩ : ∃ b, ts = [t, b] := by
              rcases hk with ⟨h, _⟩ | ⟨_, e⟩
              · exact absurd h (by decide +kernel)
              · match ts, e, ht0 with
                | [x, b], _, h => cases h; exact ⟨b, rfl⟩
            obtain ⟨u1, rfl⟩ : ∃ u1, us = [.ref pf, u1] := by
              match us, hul, hu0 with
              | [x, b], _, h => cases h; exact ⟨b, rfl⟩
            have ib := (hts.get 1 b u1 rfl rfl).same S2
            have eu1 : atI [V.ref pf, u1] 1 = some u1 := at_of (j := 1) rfl rfl
            obtain ⟨pb, zb, rfl, hpb⟩ := ib.hd
            have eb : bl = (true && !decide (b.head ∈ (["open", "own"] : List Str))) := by
              rw [Bool.true_and, Bool.eq_iff_iff, hbl, Bool.not_eq_true', decide_eq_false_iff_not]
              exact ⟨fun ⟨_, u, e, z⟩ => by cases e; exact z, fun z => ⟨rfl, b, rfl, z⟩⟩
            rw [eb] at kq
            refine tb_and (b := true) (c := !decide (b.head ∈ (["open", "own"] : List Str))) (fun Q3 kq3 => ⟨_, rfl, rfl, _, rfl, kq3 _ (Same.refl _)⟩) (fun H4 s4 _ Q3 kq3 => ⟨_, rfl, a, _, _, _, rfl, rfl, SqL.of (s4 _ _ ha2), eu1, pb, _, _, _, rfl, rfl, SqT.of (s4 _ _ hpb), at_of (j := 0) rfl rfl, (by show 2 ≤ sizeLine; decide), fun q5 hq5 => ⟨_, q5, ["open", "own"], rfl, rfl, SqT.of upd_same, _, rfl, kq3 _ (Rd.Same.upd hq5)⟩⟩) Q2 kq
          · have eb : bl = (false && false) := by
              cases bl with
              | false => rfl
              | true => exact absurd (hbl.mp rfl).1 hl
            rw [eb] at kq
            refine tb_and (b := false) (c := false) (fun Q3 kq3 => ⟨_, rfl, rfl, _, rfl, ?_⟩) (fun _ _ e => by cases e) Q2 kq
            rw [decS, decide_eq_false hl]
            exact kq3 _ (Same.refl _)
        · have S3 := S2.trans s3
          cases bl with
          | true =>
            refine iteT ?_
            exact k _ _ S3 (.inl ⟨ewk, rfl⟩)
          | false =>
            refine iteF (nxt ?_)
            try dsimp only
            have ha3 := s3 _ _ ha2
            refine ⟨_, rfl, (by show 1 ≤ sizeLine; decide), fun q4 hq4 => ?_⟩
            have s4 := Rd.Same.upd (o := .tup [.str s]) hq4
            have h41 : upd H3 q4 (.tup [.str s]) q4 = some (.tup [.str s]) := upd_same
            generalize upd H3 q4 (.tup [.str s]) = H4 at s4 h41 ⊢
            refine ⟨_, rfl, a, _, rfl, .inl ⟨SqL.of (s4 _ _ ha3), fun q5 hq5 => ?_⟩⟩
            have s5 := Rd.Same.upd (o := .tup us) hq5
            have h51 : upd H4 q5 (.tup us) q5 = some (.tup us) := upd_same
            generalize upd H4 q5 (.tup us) = H5 at s5 h51 ⊢
            have big : 16777216 ≤ sizeLine := by decide
            have one : ([V.str s] : List V).length = 1 := rfl
            have hl12 : ts.length = 1 ∨ ts.length = 2 := by rcases hk with ⟨_, e⟩ | ⟨_, e⟩ <;> omega
            have hne : us ≠ [] := fun z => by rw [z] at hul; simp at hul; omega
            refine ⟨q4, q5, _, _, rfl, rfl, SqT.of (s5 _ _ h41), SqT.of h51, (fun z => by cases z), (by omega), (fun z => absurd z hne), fun _ q6 hq6 => ?_⟩
            have s6 := Rd.Same.upd (o := .tup ([.str s] ++ us)) hq6
            have S6 := ((S3.trans s4).trans s5).trans s6
            have hts6 := hts.same S6
            refine k _ _ S6 (.inr ⟨_, ewk, ?_⟩)
            rcases hl12 with e | e
            · match ts, us, hul, e, hts6 with
              | [x], [u], _, _, h => exact ⟨q6, u, rfl, upd_same, h.get 0 x u rfl rfl⟩
            · match ts, us, hul, e, hts6 with
              | [x, y], [u, v], _, _, h => exact ⟨q6, u, v, rfl, upd_same, h.get 0 x u rfl rfl, h.get 1 y v rfl rfl⟩
end
end Rd
namespace Rd
open PySem L2
theorem IsR.hd {H : Hp} {r : Rc} {v : V} (h : IsR H r v) : ∃ p vs, v = .ref p ∧ H p = some (.tup (.str r.tag :: vs)) := by
  cases r with
  | at_ k => obtain ⟨p, e, h⟩ := h; exact ⟨p, _, e, h⟩
  | wd x => obtain ⟨p, e, h⟩ := h; exact ⟨p, _, e, h⟩
  | un s r => obtain ⟨p, u, e, h, _⟩ := h; exact ⟨p, _, e, h⟩
  | bi s r q => obtain ⟨p, u, u2, e, h, _⟩ := h; exact ⟨p, _, e, h⟩
theorem IsR.kids {H : Hp} {r : Rc} {v : V} (h : IsR H r v) (hk : r.kids ≠ []) : ∃ p us, v = .ref p ∧ H p = some (.tup (.str r.tag :: us)) ∧ AtL IsR H r.kids us := by
  cases r with
  | at_ k => exact absurd rfl hk
  | wd x => exact absurd rfl hk
  | un s r =>
    obtain ⟨p, u, e, h, g⟩ := h
    exact ⟨p, [u], e, h, rfl, fun i a b h1 h2 => by
      cases i with
      | zero => cases h1; cases h2; exact g
      | succ i => cases i <;> cases h1⟩
  | bi s r q =>
    obtain ⟨p, u, u2, e, h, g1, g2⟩ := h
    exact ⟨p, [u, u2], e, h, rfl, get2 g1 g2⟩
theorem kids_cases {r : Rc} (ok : RcOk r) : (∃ k, r = .at_ k) ∨ (∃ x, r = .wd x ∧ isWord x = true) ∨ (r.kids ≠ [] ∧ r.tag ≠ "at" ∧ r.tag ≠ "word" ∧ (∀ q ∈ r.kids, RcOk q ∧ q.dp + 1 ≤ r.dp) ∧ ((r.tag ∈ UNL ∧ r.kids.length = 1) ∨ (r.tag ∈ BIL ∧ r.kids.length = 2))) := by
  cases r with
  | at_ k => exact .inl ⟨k, rfl⟩
  | wd x => exact .inr (.inl ⟨x, rfl, ok⟩)
  | un s r =>
    refine .inr (.inr ⟨(fun e => by cases e), ?_, ?_, fun q hq => ?_, .inl ⟨ok.1, rfl⟩⟩)
    · have : ∀ z ∈ UNL, z ≠ "at" := by decide +kernel
      exact this s ok.1
    · have : ∀ z ∈ UNL, z ≠ "word" := by decide +kernel
      exact this s ok.1
    · rw [List.mem_singleton.mp hq]
      exact ⟨ok.2, Nat.le_refl _⟩
  | bi s r q =>
    refine .inr (.inr ⟨(fun e => by cases e), ?_, ?_, fun z hz => ?_, .inr ⟨ok.1, rfl⟩⟩)
    · have : ∀ z ∈ BIL, z ≠ "at" := by decide +kernel
      exact this s ok.1
    · have : ∀ z ∈ BIL, z ≠ "word" := by decide +kernel
      exact this s ok.1
    · have hz : z = r ∨ z = q := by simpa [Rc.kids] using hz
      have e : (Rc.bi s r q).dp = max r.dp q.dp + 1 := rfl
      rcases hz with rfl | rfl
      · exact ⟨ok.2.1, by omega⟩
      · exact ⟨ok.2.2, by omega⟩
/-- the parts work, and then the step -/
theorem rcx_kids {ts : List Tr} {r : Rc} (hk : r.kids ≠ []) {t : Tr} (e : rcx ts r = .inr t) : ∃ us : List Tr, us.length = r.kids.length ∧ (∀ (i : Nat) q u, r.kids[i]? = some q → us[i]? = some u → rcx ts q = .inr u) ∧ wkd r.tag us = some t := by
  cases r with
  | at_ k => exact absurd rfl hk
  | wd x => exact absurd rfl hk
  | un s r =>
    unfold rcx at e
    cases er : rcx ts r with
    | inl z => rw [er] at e; cases e
    | inr a =>
      rw [er] at e
      have e : (match wk1 s a with | some u => Sum.inr u | none => .inl (Rc.un s r)) = .inr t := e
      cases ew : wk1 s a with
      | none => rw [ew] at e; cases e
      | some u =>
        rw [ew] at e
        cases e
        refine ⟨[a], rfl, fun i q u h1 h2 => ?_, ew⟩
        cases i with
        | zero => cases h1; cases h2; exact er
        | succ i => cases i <;> cases h1
  | bi s r q =>
    unfold rcx at e
    cases er : rcx ts r with
    | inl z => rw [er] at e; cases e
    | inr a =>
      rw [er] at e
      cases eq : rcx ts q with
      | inl z => rw [eq] at e; cases e
      | inr b =>
        rw [eq] at e
        have e : (match wk2 s a b with | some u => Sum.inr u | none => .inl (Rc.bi s r q)) = .inr t := e
        cases ew : wk2 s a b with
        | none => rw [ew] at e; cases e
        | some u =>
          rw [ew] at e
          cases e
          exact ⟨[a, b], rfl, get2 (R := fun q u => rcx ts q = .inr u) er eq, ew⟩
end Rd
namespace Rd
open PySem L2
theorem fits1 {s : Str} {t : Tr} (hs : s ∈ (["unseal", "unlock"] : List Str)) (wf : Wf t) : decide (t.head = cutS s (some 2) none) = decide ((ukey t).isSome = true ∧ opr t.head = s) := by
  have hs : s = "unseal" ∨ s = "unlock" := by simpa using hs
  have key : ∀ z : Str, (z = "seal" ∨ z = "lock" → (z = cutS s (some 2) none ↔ opr z = s)) := by
    rintro z (rfl | rfl) <;> rcases hs with rfl | rfl <;> decide +kernel
  have neg : t.head = cutS s (some 2) none → t.head = "seal" ∨ t.head = "lock" := fun e => by
    rcases hs with rfl | rfl
    · exact .inl (e.trans (by decide +kernel))
    · exact .inr (e.trans (by decide +kernel))
  have iff2 : (ukey t).isSome = true ↔ (t.head = "seal" ∨ t.head = "lock") := by
    have := shut_iff wf
    rw [Bool.eq_iff_iff] at this
    simpa using this.symm
  rw [Bool.eq_iff_iff, decide_eq_true_eq, decide_eq_true_eq, iff2]
  exact ⟨fun e => ⟨neg e, (key _ (neg e)).mp e⟩, fun h => (key _ h.1).mpr h.2⟩
section
variable {P : Program} {w : World} {K : PySem.W.Frag} {mg : Str → Option Value} {base : Heap}
abbrev s__law_step : Stmt := top 61
theorem sc__law_step : FnScope ["_law_kind", "_law_inner", "_law_fits"] ["_law_kind", "_law_inner"] (defScope s__law_step) := ⟨rfl, rfl, rfl, by decide +kernel, rfl, by decide +kernel, by decide +kernel⟩
theorem ok__law_step (T : Tx w K mg) : Fk P w K mg base CX0 30 "_law_step" ["_law_kind", "_law_inner"] sp_worked := by
  refine T.F__law_step.ok0 sc__law_step (fun _ _ _ _ _ _ us hl => match us, hl with | [_, _], _ => rfl)
    (fun vs H Q E h => ?_) (fun cdv A outer s H vs Q E hr h => ?_)
  · obtain ⟨s, a, us, ts, rfl, _⟩ := h
    rfl
  · obtain ⟨s, a, us, ts, rfl, ha, hts, wt, hk, k⟩ := h
    refine ⟨_, (pss_cons (ps_if (pt_cmpR op_in_seq (pv 0) (pe_lst (pa_cons pe_str (pa_cons pe_str pa_nil))) (by rfl))
  (pss_one (ps_ret (pe_ifExp (pt_cmpR op_eq (pe_ix ix_tup (pe_ix ix_list (pv 1) pe_int (fun _ _ => rfl)) pe_int (fun _ _ => rfl)) pe_str (nomark _)) (pe_ix ix_tup (pe_ix ix_list (pv 1) pe_int (fun _ _ => rfl)) (pe_op op_add pe_int (pe_callTy call_int1 (by rfl) T.z_int (by decide +kernel) (pa_cons (pe_cmpR op_eq (pv 0) pe_str (nomark _)) pa_nil))) (fun _ _ => rfl)) pe_non)))
  pss_nil)
  (pss_cons (ps_if (pt_cmpR op_in_seq (pv 0) (pe_lst (pa_cons pe_str (pa_cons pe_str pa_nil))) (by rfl))
  (pss_cons (ps_set (i := 2) sc__law_step.nd rfl (Or.inl rfl) (pe_and (pe_cmpR op_eq (pe_ix ix_tup (pe_ix ix_list (pv 1) pe_int (fun _ _ => rfl)) pe_int (fun _ _ => rfl)) (pe_slice sl_str (pv 0) (po_some pe_int) po_none) (nomark _)) (pe_one (pe_cmpR (op_eqW (units500 hr (by omega))) (pe_fk (ok__law_undoing T) (hr.mono (by omega)) rfl pass0 (pa_cons (pe_ix ix_list (pv 1) pe_int (fun _ _ => rfl)) pa_nil)) (pe_ix ix_list (pv 1) pe_int (fun _ _ => rfl)) (nomark _)))))
  (pss_one (ps_ret (pe_ifExp (pt_val (pv 2)) (pe_ix ix_tup (pe_ix ix_list (pv 1) pe_int (fun _ _ => rfl)) pe_int (fun _ _ => rfl)) pe_non))))
  pss_nil)
  (pss_cons (ps_if (PW.pt (pw_and (pt_cmpR op_eq (pv 0) pe_str (nomark _)) (pw_and1 (pt_cmpR op_notIn_seq (pe_ix ix_tup (pe_ix ix_list (pv 1) pe_int (fun _ _ => rfl)) pe_int (fun _ _ => rfl)) (pe_lst (pa_cons pe_str (pa_cons pe_str pa_nil))) (by rfl)))))
  (pss_one (ps_ret pe_non))
  pss_nil)
  (pss_one (ps_ret (pe_callTy call_tuple_of (by rfl) T.z_tuple (by decide +kernel) (pa_cons (pe_op op_cat (pe_lst (pa_cons (pv 0) pa_nil)) (pv 1)) pa_nil))))))), ?_⟩
    have hul := hts.len
    obtain ⟨t, u0, ht0, hu0, it, wf, dt⟩ : ∃ t u0, ts[0]? = some t ∧ us[0]? = some u0 ∧ IsT H t u0 ∧ Wf t ∧ t.dep ≤ 400 := by
      have hl : 0 < ts.length := by rcases hk with ⟨_, e⟩ | ⟨_, e⟩ <;> omega
      have e1 : ts[0]? = some ts[0] := List.getElem?_eq_getElem hl
      have e2 : us[0]? = some us[0] := List.getElem?_eq_getElem (by omega)
      exact ⟨_, _, e1, e2, hts.get 0 _ _ e1 e2, wt _ (List.getElem_mem hl)⟩
    have eu0 : atI us 0 = some u0 := at_of (j := 0) rfl hu0
    refine ⟨_, rfl, (by show 2 ≤ sizeLine; decide), fun q1 hq1 => ?_⟩
    have s1 := Rd.Same.upd (o := .lst [.str "first", .str "second"]) hq1
    refine ⟨q1, _, rfl, .inl (SqL.of upd_same), rfl, rfl, _, rfl, ?_⟩
    rw [if_neg Bool.false_ne_true, show inV (V.str s) [.str "first", .str "second"] = decide (s ∈ (["first", "second"] : List Str)) from inV_strs s ["first", "second"]]
    generalize upd H q1 (.lst [.str "first", .str "second"]) = H1 at s1 ⊢
    have ha1 := s1 _ _ ha
    have it1 := it.same s1
    obtain ⟨pf, zs, e0, hpf⟩ := it1.hd
    subst e0
    by_cases hf : s ∈ (["first", "second"] : List Str)
    · refine iteP (decide_eq_true hf) ?_
      obtain ⟨rfl⟩ : ts = [t] := by
        rcases hk with ⟨_, e⟩ | ⟨h, _⟩
        · match ts, e, ht0 with
          | [a], _, h => cases h; rfl
        · have : ∀ z ∈ BIL, z ∉ (["first", "second"] : List Str) := by decide +kernel
          exact absurd hf (this s h)
      refine ⟨_, rfl, a, _, _, _, rfl, rfl, SqL.of ha1, eu0, pf, _, _, _, rfl, rfl, SqT.of hpf, at_of (j := 0) rfl rfl, rfl, _, rfl, ?_⟩
      rw [decS]
      by_cases hp : t.head = "pair"
      · refine iteP (decide_eq_true hp) ?_
        obtain ⟨c, b, rfl⟩ : ∃ c b, t = .bi "pair" c b := by
          rcases wf.shp with ⟨k0, x0, rfl, ko⟩ | ⟨s0, a0, rfl, hs, _⟩ | ⟨s0, a0, b0, rfl, hs, wa, wb⟩
          · rcases ko with ⟨rfl, _⟩ | ⟨rfl, _⟩ | ⟨rfl, _⟩
            · exact absurd (show ("word" : Str) = "pair" from hp) (by decide +kernel)
            · exact absurd (show ("name" : Str) = "pair" from hp) (by decide +kernel)
            · exact absurd (show ("unknown" : Str) = "pair" from hp) (by decide +kernel)
          · have : ∀ z ∈ (["mark", "open", "own"] : List Str), z ≠ "pair" := by decide +kernel
            exact absurd hp (this s0 hs)
          · have hp : s0 = "pair" := hp
            subst hp
            exact ⟨a0, b0, rfl⟩
        obtain ⟨pf', u1, u2, e', hpf', i1, i2⟩ := it1
        cases e'
        have hs12 : s = "first" ∨ s = "second" := by simpa using hf
        refine ⟨_, rfl, a, _, _, _, rfl, rfl, SqL.of ha1, eu0, _, rfl, rfl, .inr ⟨_, rfl, ?_⟩⟩
        rw [decS]
        rcases hs12 with rfl | rfl
        · refine ⟨_, _, rfl, rfl, pf, _, _, _, rfl, rfl, SqT.of hpf', at_of (j := 1) (by decide +kernel) rfl, k _ _ s1 (.inr ⟨c, rfl, i1⟩)⟩
        · refine ⟨_, _, rfl, rfl, pf, _, _, _, rfl, rfl, SqT.of hpf', at_of (j := 2) (by decide +kernel) rfl, k _ _ s1 (.inr ⟨b, rfl, i2⟩)⟩
      · refine iteN (by rw [decide_eq_false hp]; decide) ?_
        refine k _ _ s1 (.inl ⟨?_, rfl⟩)
        show wk1 s t = none
        have hs12 : s = "first" ∨ s = "second" := by simpa using hf
        cases t with
        | am => rcases hs12 with rfl | rfl <;> rfl
        | un => rcases hs12 with rfl | rfl <;> rfl
        | bi z c b =>
          have hp : z ≠ "pair" := hp
          unfold wk1
          rcases hs12 with rfl | rfl
          · rw [if_pos rfl]
            show (if z = "pair" then some c else none) = none
            rw [if_neg hp]
          · rw [if_neg (by decide +kernel), if_pos rfl]
            show (if z = "pair" then some b else none) = none
            rw [if_neg hp]
    · refine iteN (by rw [decide_eq_false hf]; decide) (nxt ?_)
      try dsimp only
      refine ⟨_, rfl, (by show 2 ≤ sizeLine; decide), fun q2 hq2 => ?_⟩
      have s2 := Rd.Same.upd (o := .lst [.str "unseal", .str "unlock"]) hq2
      refine ⟨q2, _, rfl, .inl (SqL.of upd_same), rfl, rfl, _, rfl, ?_⟩
      rw [if_neg Bool.false_ne_true, show inV (V.str s) [.str "unseal", .str "unlock"] = decide (s ∈ (["unseal", "unlock"] : List Str)) from inV_strs s ["unseal", "unlock"]]
      generalize upd H1 q2 (.lst [.str "unseal", .str "unlock"]) = H2 at s2 ⊢
      have S2 := s1.trans s2
      have ha2 := s2 _ _ ha1
      have it2 := it1.same s2
      have hpf2 := s2 _ _ hpf
      by_cases hu : s ∈ (["unseal", "unlock"] : List Str)
      · refine iteP (decide_eq_true hu) ?_
        obtain ⟨b, rfl⟩ : ∃ b, ts = [t, b] := by
          rcases hk with ⟨h, _⟩ | ⟨_, e⟩
          · have : ∀ z ∈ UNL, z ∉ (["unseal", "unlock"] : List Str) := by decide +kernel
            exact absurd hu (this s h)
          · match ts, e, ht0 with
            | [x, b], _, h => cases h; exact ⟨b, rfl⟩
        obtain ⟨u1, rfl⟩ : ∃ u1, us = [.ref pf, u1] := by
          match us, hul, hu0 with
          | [x, b], _, h => cases h; exact ⟨b, rfl⟩
        have ib := (hts.get 1 b u1 rfl rfl).same S2
        obtain ⟨wb, db⟩ := wt b (by simp)
        have eu1 : atI [V.ref pf, u1] 1 = some u1 := at_of (j := 1) rfl rfl
        have ew := wk2_open (b := b) hu wf
        have e1 := fits1 hu wf
        have hsl : s.length ≤ sizeLine := by
          have : ∀ z ∈ (["unseal", "unlock"] : List Str), z.length ≤ 16777216 := by decide +kernel
          exact Nat.le_trans (this s hu) (by decide)
        refine ⟨_, rfl, a, _, _, _, rfl, rfl, SqL.of ha2, eu0, pf, _, _, _, rfl, rfl, SqT.of hpf2, at_of (j := 0) rfl rfl, _, rfl, _, rfl, s, rfl, hsl, rfl, _, rfl, ?_⟩
        rw [decS, e1]
        by_cases h1 : (ukey t).isSome = true ∧ opr t.head = s
        · obtain ⟨key, ek⟩ := Option.isSome_iff_exists.mp h1.1
          obtain ⟨w3, w4⟩ := ukey_wf wf ek
          rw [decide_eq_true h1, if_pos rfl]
          refine ⟨_, rfl, a, _, _, _, rfl, rfl, SqL.of ha2, eu0, _, _, key, rfl, it2, wf, ek, fun u6 H6 s6 ik => ⟨_, rfl, a, _, _, _, rfl, rfl, SqL.of (s6 _ _ ha2), eu1, dat key, dat b, ik.dp, (ib.same s6).dp, w3.layW (by omega), wb.layW db, _, rfl, ?_⟩⟩
          rw [eqv_dat]
          have S6 := S2.trans s6
          by_cases h2 : key = b
          · subst h2
            rw [if_pos ⟨h1, ek⟩] at ew
            obtain ⟨sg, c, k', rfl⟩ : ∃ sg c k', t = .bi sg c k' := by
              rcases ukey_inv wf ek with ⟨c, e⟩ | ⟨c, s', k', e, _⟩
              · exact ⟨_, c, _, e⟩
              · exact ⟨_, c, _, e⟩
            obtain ⟨pf', v1, v2, e', hpf3, i1, i2⟩ := it2.same s6
            cases e'
            refine ⟨_, rfl, ?_⟩
            rw [decide_eq_true rfl]
            refine iteT ?_
            exact ⟨_, rfl, a, _, _, _, rfl, rfl, SqL.of (s6 _ _ ha2), eu0, pf, _, _, _, rfl, rfl, SqT.of hpf3, at_of (j := 1) rfl rfl, k _ _ S6 (.inr ⟨c, ew, i1⟩)⟩
          · rw [if_neg (fun h => h2 (by have := h.2; rw [ek] at this; exact Option.some.inj this))] at ew
            refine ⟨_, rfl, ?_⟩
            rw [decide_eq_false h2]
            exact iteF (k _ _ S6 (.inl ⟨ew, rfl⟩))
        · rw [decide_eq_false h1, if_neg (by decide)]
          refine gName_k ?_
          try dsimp only
          rw [if_neg (fun h => h1 h.1)] at ew
          exact ⟨_, rfl, _, rfl, iteF (k _ _ S2 (.inl ⟨ew, rfl⟩))⟩
      · refine iteN (by rw [decide_eq_false hu]; decide) (nxt ?_)
        try dsimp only
        obtain ⟨bl, ebl, hbl⟩ : ∃ bl : Bool, wkd s ts = (if bl = true then none else some (match ts with | [t] => .un s t | [t, u] => .bi s t u | _ => .am "" "")) ∧ (bl = true ↔ s = "lock" ∧ ∃ u, ts = [t, u] ∧ u.head ∉ (["open", "own"] : List Str)) := by
          rcases hk with ⟨h, e⟩ | ⟨h, e⟩
          · match ts, e, ht0 with
            | [x], _, h0 =>
              cases h0
              refine ⟨false, wk_else h hf, ⟨(fun z => by cases z), fun z => ?_⟩⟩
              obtain ⟨_, u, e, _⟩ := z
              cases e
          · match ts, e, ht0 with
            | [x, b], _, h0 =>
              cases h0
              refine ⟨decide (s = "lock" ∧ ¬ (b.head ∈ (["open", "own"] : List Str))), ?_, ?_⟩
              · show wk2 s t b = _
                rw [wk2_else hu]
                by_cases hc : s = "lock" ∧ ¬ (b.head ∈ (["open", "own"] : List Str))
                · rw [if_pos hc, decide_eq_true hc, if_pos rfl]
                · rw [if_neg hc, decide_eq_false hc, if_neg (by decide)]
              · rw [decide_eq_true_eq]
                exact ⟨fun z => ⟨z.1, b, rfl, z.2⟩, fun ⟨z1, u, e, z2⟩ => by cases e; exact ⟨z1, z2⟩⟩
        have ewk := ebl
        refine seqIf (b := bl) (fun Q2 kq => ?_) fun H3 s3 => ?_
        · by_cases hl : s = "lock"
          · subst hl
            obtain ⟨b, rfl⟩ : ∃ b, ts = [t, b] := by
              rcases hk with ⟨h, _⟩ | ⟨_, e⟩
              · exact absurd h (by decide +kernel)
              · match ts, e, ht0 with
                | [x, b], _, h => cases h; exact ⟨b, rfl⟩
            obtain ⟨u1, rfl⟩ : ∃ u1, us = [.ref pf, u1] := by
              match us, hul, hu0 with
              | [x, b], _, h => cases h; exact ⟨b, rfl⟩
            have ib := (hts.get 1 b u1 rfl rfl).same S2
            have eu1 : atI [V.ref pf, u1] 1 = some u1 := at_of (j := 1) rfl rfl
            obtain ⟨pb, zb, rfl, hpb⟩ := ib.hd
            have eb : bl = (true && !decide (b.head ∈ (["open", "own"] : List Str))) := by
              rw [Bool.true_and, Bool.eq_iff_iff, hbl, Bool.not_eq_true', decide_eq_false_iff_not]
              exact ⟨fun ⟨_, u, e, z⟩ => by cases e; exact z, fun z => ⟨rfl, b, rfl, z⟩⟩
            rw [eb] at kq
            refine tb_and (b := true) (c := !decide (b.head ∈ (["open", "own"] : List Str))) (fun Q3 kq3 => ⟨_, rfl, rfl, _, rfl, kq3 _ (Same.refl _)⟩) (fun H4 s4 _ Q3 kq3 => ⟨_, rfl, a, _, _, _, rfl, rfl, SqL.of (s4 _ _ ha2), eu1, pb, _, _, _, rfl, rfl, SqT.of (s4 _ _ hpb), at_of (j := 0) rfl rfl, (by show 2 ≤ sizeLine; decide), fun q5 hq5 => ⟨q5, _, rfl, .inl (SqL.of upd_same), rfl, rfl, _, rfl, by
              rw [if_pos rfl, show inV (V.str b.head) [.str "open", .str "own"] = decide (b.head ∈ (["open", "own"] : List Str)) from inV_strs b.head ["open", "own"]]
              exact kq3 _ (Rd.Same.upd hq5)⟩⟩) Q2 kq
          · have eb : bl = (false && false) := by
              cases bl with
              | false => rfl
              | true => exact absurd (hbl.mp rfl).1 hl
            rw [eb] at kq
            refine tb_and (b := false) (c := false) (fun Q3 kq3 => ⟨_, rfl, rfl, _, rfl, ?_⟩) (fun _ _ e => by cases e) Q2 kq
            rw [decS, decide_eq_false hl]
            exact kq3 _ (Same.refl _)
        · have S3 := S2.trans s3
          cases bl with
          | true =>
            refine iteT ?_
            exact k _ _ S3 (.inl ⟨ewk, rfl⟩)
          | false =>
            refine iteF (nxt ?_)
            try dsimp only
            have ha3 := s3 _ _ ha2
            refine ⟨_, rfl, (by show 1 ≤ sizeLine; decide), fun q4 hq4 => ?_⟩
            have s4 := Rd.Same.upd (o := .lst [.str s]) hq4
            have h41 : upd H3 q4 (.lst [.str s]) q4 = some (.lst [.str s]) := upd_same
            generalize upd H3 q4 (.lst [.str s]) = H4 at s4 h41 ⊢
            have big : 16777216 ≤ sizeLine := by decide
            have hl12 : ts.length = 1 ∨ ts.length = 2 := by rcases hk with ⟨_, e⟩ | ⟨_, e⟩ <;> omega
            refine ⟨_, rfl, q4, a, _, _, rfl, rfl, h41, s4 _ _ ha3, (by show 1 + us.length ≤ sizeLine; omega), fun q5 hq5 => ?_⟩
            have s5 := Rd.Same.upd (o := .lst ([.str s] ++ us)) hq5
            refine ⟨q5, _, rfl, .inl ⟨SqL.of upd_same, fun q6 hq6 => ?_⟩⟩
            have s6 := Rd.Same.upd (o := .tup ([.str s] ++ us)) hq6
            have S6 := ((S3.trans s4).trans s5).trans s6
            have hts6 := hts.same S6
            refine k _ _ S6 (.inr ⟨_, ewk, ?_⟩)
            rcases hl12 with e | e
            · match ts, us, hul, e, hts6 with
              | [x], [u], _, _, h => exact ⟨q6, u, rfl, upd_same, h.get 0 x u rfl rfl⟩
            · match ts, us, hul, e, hts6 with
              | [x, y], [u, v], _, _, h => exact ⟨q6, u, v, rfl, upd_same, h.get 0 x u rfl rfl, h.get 1 y v rfl rfl⟩
end
end Rd
namespace Rd
open PySem L2
/-- [e for x in a tuple], the turn before having come through -/
theorem lctG {K : PySem.W.Frag} {C a D : Addr} {xs : List V} {te : TE} {i0 : Nat} {σ : St} {H1 : Hp} {Qd : Hp → Prop} (G : Nat → Prop) (R : Nat → Hp → V → Prop) (rm : ∀ i H H' v, Kp C H H' → R i H v → R i H' v) (hS : SqT K H1 a xs) (hl : xs.length ≤ 100000) (hD : H1 D = none)
    (hte : ∀ (i : Nat) (x : V) (H : Hp) (Q : VK), xs[i]? = some x → Same H1 H → (∀ j, j < i → G j) → (∀ v H', Same H H' → G i → R i H' v → Q v H') → te ((wipe σ [i0]).set i0 (some x)) H Q)
    (hq : ∀ vs H', Same H1 H' → H' D = some (.lst vs) → vs.length = xs.length → (∀ j, j < xs.length → G j) → (∀ (i : Nat) v, vs[i]? = some v → R i H' v) → Qd H') :
    ∃ W : Nat → Nat → Hp → Prop, (∃ m, W 0 m (L2.upd H1 D (.lst []))) ∧ ∀ i m H, W i m H →
      ((Itt K a).stop i H ∧ Qd H) ∨ ((Itt K a).go i H ∧ ∃ Nx : Hp → Prop, (∀ H', Nx H' → ∃ m', m' < m ∧ W (i + 1) m' H') ∧ ∀ x H', (Itt K a).yld i H x H' → gName i0 x (wipe σ [i0]) H' fun σ2 H2 => wipe σ2 [i0] = wipe σ [i0] ∧ tYes σ2 H2 fun b H3 =>
        if b = true then te σ2 H3 fun y H4 => ∃ acc, H4 D = some (.lst acc) ∧ acc.length < sizeLine ∧ Nx (L2.upd H4 D (.lst (acc ++ [y]))) else Nx H3) := by
  refine lc_tup (K := K) (a := a) (xs := xs) (fun i H => ∃ vs, Same H1 H ∧ H D = some (.lst vs) ∧ vs.length = i ∧ (∀ j, j < i → G j) ∧ (∀ (j : Nat) v, vs[j]? = some v → R j H v)) ?_ ?_ ?_ ?_
  · exact ⟨[], Rd.Same.upd hD, upd_same, rfl, (fun j h => absurd h (Nat.not_lt_zero _)), fun j v h => by simp at h⟩
  · rintro i H hi ⟨vs, s, _⟩
    exact SqT.kept hS s
  · rintro i x H hx ⟨vs, s, hDv, hlv, hG, hg⟩
    refine ⟨by simp [wipe], hte i x H _ hx s hG fun v H' s' gi hv => ⟨vs, s' _ _ hDv, ?_, ?_⟩⟩
    · have : 100000 < sizeLine := by decide
      have := (List.getElem?_eq_some_iff.mp hx).1
      omega
    · have hDv' := s' _ _ hDv
      refine ⟨vs ++ [v], fun c o e => ?_, upd_same, by rw [List.length_append, hlv]; rfl, fun j hj => ?_, fun j v' hv' => ?_⟩
      · rw [upd_ne (ne_of_none e hD)]
        exact s' c o (s c o e)
      · by_cases h : j < i
        · exact hG j h
        · have : j = i := by omega
          subst this
          exact gi
      · have kp := Kp.upd_lst (C := C) (ys := vs ++ [v]) hDv'
        by_cases hj : j < vs.length
        · rw [List.getElem?_append_left hj] at hv'
          exact rm _ _ _ _ kp (rm _ _ _ _ (Kp.of_same s') (hg j v' hv'))
        · have e : j = vs.length := by
            have := (List.getElem?_eq_some_iff.mp hv').1
            rw [List.length_append, List.length_singleton] at this
            omega
          subst e
          rw [List.getElem?_append_right (Nat.le_refl _), Nat.sub_self] at hv'
          cases hv'
          rw [hlv]
          exact rm _ _ _ _ kp hv
  · rintro H ⟨vs, s, hDv, hlv, hG, hg⟩
    exact hq vs H s hDv hlv hG hg
/-- the first part that does not work -/
theorem rcx_stuck {ts : List Tr} {r e : Rc} {i : Nat} {q : Rc} (hi : r.kids[i]? = some q) (hp : ∀ j, j < i → ∀ p, r.kids[j]? = some p → ∃ t, rcx ts p = .inr t) (he : rcx ts q = .inl e) : rcx ts r = .inl e := by
  cases r with
  | at_ k => cases hi
  | wd x => cases hi
  | un s r =>
    cases i with
    | zero =>
      cases hi
      unfold rcx
      rw [he]
    | succ i => simp [Rc.kids] at hi
  | bi s r1 r2 =>
    match i, hi, hp with
    | 0, hi, _ =>
      cases hi
      unfold rcx
      rw [he]
    | 1, hi, hp =>
      have e2 : r2 = q := Option.some.inj (show some r2 = some q from hi)
      subst e2
      obtain ⟨t, ht⟩ := hp 0 Nat.zero_lt_one r1 rfl
      unfold rcx
      rw [ht]
      show (match rcx ts r2 with
        | .inl e => Sum.inl e
        | .inr t2 => match wk2 s t t2 with
          | some u => Sum.inr u
          | none => Sum.inl (Rc.bi s r1 r2)) = Sum.inl e
      rw [he]
    | i + 2, hi, _ => simp [Rc.kids] at hi
/-- all parts work -/
theorem rcx_all {ts : List Tr} {r : Rc} (hk : r.kids ≠ []) (hp : ∀ (j : Nat) p, r.kids[j]? = some p → ∃ t, rcx ts p = .inr t) : ∃ us : List Tr, us.length = r.kids.length ∧ (∀ (i : Nat) q u, r.kids[i]? = some q → us[i]? = some u → rcx ts q = .inr u) ∧ rcx ts r = (match wkd r.tag us with | some t => .inr t | none => .inl r) := by
  cases r with
  | at_ k => exact absurd rfl hk
  | wd x => exact absurd rfl hk
  | un s r =>
    obtain ⟨t, ht⟩ := hp 0 r rfl
    refine ⟨[t], rfl, fun i q u h1 h2 => ?_, ?_⟩
    · cases i with
      | zero => cases h1; cases h2; exact ht
      | succ i => cases i <;> cases h1
    · show rcx ts (.un s r) = (match wk1 s t with | some t => Sum.inr t | none => Sum.inl (Rc.un s r))
      unfold rcx
      rw [ht]
      show (match wk1 s t with | some u => Sum.inr u | none => Sum.inl (Rc.un s r)) = _
      cases wk1 s t <;> rfl
  | bi s r1 r2 =>
    obtain ⟨t1, h1⟩ := hp 0 r1 rfl
    obtain ⟨t2, h2⟩ := hp 1 r2 rfl
    refine ⟨[t1, t2], rfl, get2 (R := fun q u => rcx ts q = .inr u) h1 h2, ?_⟩
    show rcx ts (.bi s r1 r2) = (match wk2 s t1 t2 with | some t => Sum.inr t | none => Sum.inl (Rc.bi s r1 r2))
    unfold rcx
    rw [h1, h2]
    show (match wk2 s t1 t2 with | some u => Sum.inr u | none => Sum.inl (Rc.bi s r1 r2)) = _
    cases wk2 s t1 t2 <;> rfl
def sp_runG (K : PySem.W.Frag) (n : Nat) : Sp := fun vs H Q E => ∃ (v : V) (a : Addr) (r : Rc) (ws : List V) (ts : List Tr), vs = [v, .ref a] ∧ IsR H r v ∧ RcOk r ∧ r.dp ≤ n ∧ n ≤ 110 ∧ H a = some (.lst ws) ∧ TsAt H ts ws ∧ (∀ t ∈ ts, Wf t ∧ t.dep ≤ 100) ∧ ts.length ≤ 100000 ∧
  (∀ t, rcx ts r = .inr t → ∀ u H', Same H H' → IsT H' t u → Q u H') ∧
  (∀ e, rcx ts r = .inl e → ∀ d v H', Same H H' → IsR H' e v → H' d = some (.xd [("step", v)]) → E (.ref (He.ga K "NoWay")) (some d) H')
def spRG (K : PySem.W.Frag) : Nat → Sp
  | 0 => fun _ _ _ _ => False
  | n + 1 => sp_runG K n
section
variable {P : Program} {w : World} {K : PySem.W.Frag} {mg : Str → Option Value} {base : Heap}
abbrev s_NoWay_init : Stmt := inClass (top 9) 0
theorem sc_NoWay_init : FnScope ["self", "step"] ["self", "step"] (defScope s_NoWay_init) := ⟨rfl, rfl, rfl, by decide +kernel, rfl, by decide +kernel, by decide +kernel⟩
theorem ok_NoWay (T : Tx w K mg) : Fm P w K mg base CX0 1 "NoWay" "__init__" ["self", "step"] (spX1 K "step") := by
  refine T.X_NoWay.init.ok0 sc_NoWay_init (fun _ _ _ _ _ _ us hl => match us, hl with | [_, _], _ => rfl)
    (fun vs H Q E h => ?_) (fun cdv A outer s H vs Q E hr h => ?_)
  · obtain ⟨a, C, v, rfl, _⟩ := h
    rfl
  · obtain ⟨a, C, v, rfl, TC, no, ha, k⟩ := h
    refine ⟨_, (pss_cons (ps_expr (pe_reinit rfl T.g_RoadError T.r_RoadError (pa_cons (pv 0) (pa_cons pe_str pa_nil))))
  (pss_one (ps_ost (pv 0) (pv 1)))), ?_⟩
    refine ⟨_, rfl, a, C, [.str "recipe does not work"], rfl, (by show 1 ≤ 1000; decide), TC, ha, _, rfl, _, rfl, a, C, rfl, TC, no, .inl ⟨ha, fun dx hdx ne => k dx hdx ne⟩⟩
abbrev s_run_recipe : Stmt := top 40
theorem sc_run_recipe : FnScope ["recipe", "trees", "kind", "made", "part", "found"] ["recipe", "trees"] (defScope s_run_recipe) := ⟨rfl, rfl, rfl, by decide +kernel, rfl, by decide +kernel, by decide +kernel⟩
theorem rg_step (T : Tx w K mg) (n : Nat) (ih : Fk P w K mg base (L2N.CX P w) (n + 30) "run_recipe" ["recipe", "trees"] (spRG K n)) : Fk P w K mg base (L2N.CX P w) (n + 31) "run_recipe" ["recipe", "trees"] (sp_runG K n) := by
  refine T.F_run_recipe.ok sc_run_recipe (fun _ _ _ _ _ _ us hl => match us, hl with | [_, _], _ => rfl)
    (fun vs H Q E h => ?_) (fun cdv A outer s H vs Q E hr h => ?_)
  · obtain ⟨v, a, r, ws, ts, rfl, _⟩ := h
    rfl
  · obtain ⟨v, a, r, ws, ts, rfl, ir, ok, dp, n110, ha, hts, wt, hl, k1, k0⟩ := h
    refine ⟨_, (pss_cons (ps_set (i := 2) sc_run_recipe.nd rfl (Or.inl rfl) (pe_ix ix_tup (pv 0) pe_int (fun _ _ => rfl)))
  (pss_cons (ps_if (pt_cmpR op_eq (pv 2) pe_str (nomark _))
  (pss_cons (ps_if (PW.pt (pw_or (pt_cmpR op_lt (pe_ix ix_tup (pv 0) pe_int (fun _ _ => rfl)) pe_int (nomark _)) (pw_or1 (pt_cmpR op_ge (pe_ix ix_tup (pv 0) pe_int (fun _ _ => rfl)) (pe_callB call_len_seq (by rfl) T.z_len (by decide +kernel) (pa_cons (pv 1) pa_nil)) (nomark _)))))
  (pss_one (L2N.ps_raise rfl (L2N.takes_of rfl rfl rfl rfl) (pmk_xN T.X_NoWay (ok_NoWay T) (hr.mono (by omega)) rfl (pa_cons (pv 0) pa_nil))))
  pss_nil)
  (pss_one (ps_ret (pe_ix ix_list (pv 1) (pe_ix ix_tup (pv 0) pe_int (fun _ _ => rfl)) (fun _ _ => rfl)))))
  pss_nil)
  (pss_cons (ps_if (pt_cmpR op_eq (pv 2) pe_str (nomark _))
  (pss_one (ps_ret (pv 0)))
  pss_nil)
  (pss_cons (ps_setLcx (i := 3) (own := [("part", 4)]) (g := gName 4) (tt := tYes) rfl rfl (L2N.takes_of rfl rfl rfl rfl) (by rfl) sc_run_recipe.nd rfl rfl (sw_true rfl rfl rfl (by decide +kernel)) (pi_tup (pe_slice sl_tup (pv 0) (po_some pe_int) po_none)) (blkOk_by (own := [("part", 4)]) (N := ["recipe", "trees", "kind", "made", "part", "found"]) (sc := defScope s_run_recipe) (by decide +kernel)) (fun _ _ _ _ _ _ => (pg_name (i := 4) sc_run_recipe.nd rfl (Or.inl rfl))) (fun _ _ _ _ _ _ => pts_nil) (fun _ _ _ _ _ _ ps => (pe_fk ih (hr.mono (by omega)) rfl (ps _ (fun _ _ _ h => h)) (pa_cons (pv 4) (pa_cons (pv 1) pa_nil)))))
  (pss_cons (ps_set (i := 5) sc_run_recipe.nd rfl (Or.inl rfl) (pe_fk (ok_worked T) (hr.mono (by omega)) rfl pass0 (pa_cons (pv 2) (pa_cons (pv 3) pa_nil))))
  (pss_cons (ps_if (pt_cmpR op_isN (pv 5) pe_non (nomark _))
  (pss_one (L2N.ps_raise rfl (L2N.takes_of rfl rfl rfl rfl) (pmk_xN T.X_NoWay (ok_NoWay T) (hr.mono (by omega)) rfl (pa_cons (pv 0) pa_nil))))
  pss_nil)
  (pss_one (ps_ret (pv 5))))))))), ?_⟩
    have big : 16777216 ≤ sizeLine := by decide
    have hwl := hts.len
    obtain ⟨pf, zs, rfl, hpf⟩ := ir.hd
    refine seqAsg ⟨_, rfl, pf, _, _, _, rfl, rfl, SqT.of hpf, at_of (j := 0) rfl rfl, ?_⟩
    refine gName_k ?_
    try dsimp only
    refine ⟨_, rfl, rfl, _, rfl, ?_⟩
    rw [decS]
    have raise : ∀ {H1 : Hp} (e : Rc) (v : V), Same H H1 → rcx ts r = .inl e → IsR H1 e v → ∀ (d : Addr) H', Same H1 H' → H' d = some (.xd [("step", v)]) → E (.ref (He.ga K "NoWay")) (some d) H' := fun e v s1 er iv d H' s' hd => k0 e er d v H' (s1.trans s') (iv.same s') hd
    rcases kids_cases ok with ⟨kk, rfl⟩ | ⟨x, rfl, hx⟩ | ⟨hk, h1, h2, hq, har⟩
    · refine iteP (show decide (("at" : Str) = "at") = true by decide +kernel) ?_
      obtain ⟨p, e', hp⟩ := id ir
      cases e'
      have e1 : rcx ts (.at_ kk) = (if 0 ≤ kk then (match ts[kk.toNat]? with | some t => Sum.inr t | none => .inl (Rc.at_ kk)) else .inl (Rc.at_ kk)) := rfl
      by_cases hin : 0 ≤ kk ∧ kk.toNat < ts.length
      · obtain ⟨hk0, hlt⟩ := hin
        have et : ts[kk.toNat]? = some (ts[kk.toNat]'hlt) := List.getElem?_eq_getElem hlt
        rw [if_pos hk0, et] at e1
        have hw : ws[kk.toNat]? = some (ws[kk.toNat]'(by omega)) := List.getElem?_eq_getElem (by omega)
        have it := hts.get _ _ _ et hw
        refine seqIf (b := false) (tb_or (b := false) (c := false) (fun Q2 kq => ⟨_, rfl, pf, _, _, _, rfl, rfl, SqT.of hp, at_of (j := 1) rfl rfl, _, _, rfl, rfl, _, rfl, ?_⟩) (fun H1 s1 _ Q2 kq => ⟨_, rfl, pf, _, _, _, rfl, rfl, SqT.of (s1 _ _ hp), at_of (j := 1) rfl rfl, _, rfl, a, ws, rfl, .inl (SqL.of (s1 _ _ ha)), _, _, rfl, rfl, _, rfl, ?_⟩)) fun H1 s1 => iteF (nxt ?_)
        · rw [decide_eq_false (by omega)]
          exact kq _ (Same.refl _)
        · rw [decide_eq_false (by omega)]
          exact kq _ (Same.refl _)
        try dsimp only
        exact ⟨_, rfl, _, rfl, pf, _, _, _, rfl, rfl, SqT.of (s1 _ _ hp), at_of (j := 1) rfl rfl, a, _, _, _, rfl, rfl, SqL.of (s1 _ _ ha), at_of (j := kk.toNat) (by omega) hw, k1 _ e1 _ _ s1 (it.same s1)⟩
      · have e2 : rcx ts (.at_ kk) = .inl (.at_ kk) := by
          rw [e1]
          by_cases hk0 : 0 ≤ kk
          · rw [if_pos hk0, List.getElem?_eq_none (by omega)]
          · rw [if_neg hk0]
        refine seqIf (b := true) (fun Q2 kq => ?_) fun H1 s1 => iteT ?_
        · by_cases hk0 : kk < 0
          · refine tb_or (b := true) (c := true) (fun Q3 kq3 => ⟨_, rfl, pf, _, _, _, rfl, rfl, SqT.of hp, at_of (j := 1) rfl rfl, _, _, rfl, rfl, _, rfl, ?_⟩) (fun _ _ e => by cases e) Q2 kq
            rw [decide_eq_true hk0]
            exact kq3 _ (Same.refl _)
          · refine tb_or (b := false) (c := true) (fun Q3 kq3 => ⟨_, rfl, pf, _, _, _, rfl, rfl, SqT.of hp, at_of (j := 1) rfl rfl, _, _, rfl, rfl, _, rfl, ?_⟩) (fun H1 s1 _ Q3 kq3 => ⟨_, rfl, pf, _, _, _, rfl, rfl, SqT.of (s1 _ _ hp), at_of (j := 1) rfl rfl, _, rfl, a, ws, rfl, .inl (SqL.of (s1 _ _ ha)), _, _, rfl, rfl, _, rfl, ?_⟩) Q2 kq
            · rw [decide_eq_false hk0]
              exact kq3 _ (Same.refl _)
            · rw [decide_eq_true (by omega)]
              exact kq3 _ (Same.refl _)
        · exact ⟨_, rfl, rd_raise1 T.X_NoWay.oex T.X_NoWay.no fun d H' s' nd hd => k0 _ e2 d _ H' (s1.trans s') (ir.same (s1.trans s')) hd⟩
    · refine iteN (show ¬ decide (("word" : Str) = "at") = true by decide +kernel) (nxt ?_)
      try dsimp only
      obtain ⟨p, e', hp⟩ := id ir
      cases e'
      refine ⟨_, rfl, rfl, _, rfl, ?_⟩
      rw [decS]
      refine iteP (show decide (("word" : Str) = "word") = true by decide +kernel) ?_
      exact ⟨_, rfl, k1 _ rfl _ _ (Same.refl _) ⟨pf, rfl, hp⟩⟩
    · refine iteN (by rw [decide_eq_false h1]; decide) (nxt ?_)
      try dsimp only
      refine ⟨_, rfl, rfl, _, rfl, ?_⟩
      rw [decS]
      refine iteN (by rw [decide_eq_false h2]; decide) (nxt ?_)
      try dsimp only
      obtain ⟨pf', us, e', hp, hus⟩ := ir.kids hk
      cases e'
      have hul := hus.len
      have hk12 : r.kids.length ≤ 2 ∧ 1 ≤ r.kids.length := by rcases har with ⟨_, e⟩ | ⟨_, e⟩ <;> omega
      refine seqAsg ⟨_, rfl, _, rfl, pf, _, rfl, SqT.of hp, ?_, fun p2 hp2 => ?_⟩
      · rintro ⟨z, _⟩
        rw [show (1 : Int) = ((1 : Nat) : Int) from rfl, HT.sIx_nat, List.length_cons] at z
        omega
      rw [cut1]
      have s2 := Rd.Same.upd (o := .tup us) hp2
      refine ⟨p2, rfl, ⟨_, SqT.of upd_same⟩, fun D hD => ?_⟩
      refine lctG (C := 0) (fun j => ∀ p, r.kids[j]? = some p → ∃ t, rcx ts p = .inr t) (fun i H v => ∀ q t, r.kids[i]? = some q → rcx ts q = .inr t → IsT H t v) (fun i H H' v kp h q t h1 h2 => (h q t h1 h2).mono kp) (SqT.of upd_same) (by omega) hD (fun i x H1 Q1 hx s3 hG kk => ?_) fun vs H3 s3 hD3 hlv hG hvs => ?_
      · have hil := (List.getElem?_eq_some_iff.mp hx).1
        have hq1 : r.kids[i]? = some (r.kids[i]'(by omega)) := List.getElem?_eq_getElem (by omega)
        obtain ⟨ok1, dp1⟩ := hq _ (List.mem_of_getElem? hq1)
        have s01 := s2.trans s3
        cases n with
        | zero => exact absurd dp (by omega)
        | succ n =>
          exact ⟨_, rfl, _, rfl, x, a, _, ws, ts, rfl, (hus.get i _ x hq1 hx).mono (C := 0) (Kp.of_same s01), ok1, (by omega), (by omega), s01 _ _ ha, hts.same s01, wt, hl, (fun t et u H' s' iu => kk u H' s' (fun p hp => by rw [hq1] at hp; cases hp; exact ⟨t, et⟩) fun q t' hq' et' => by
            rw [hq1] at hq'
            cases hq'
            rw [et] at et'
            cases et'
            exact iu), fun e ee d v H' s' iv hd => k0 e (rcx_stuck hq1 hG ee) d v H' (s01.trans s') iv hd⟩
      have S3 := s2.trans s3
      obtain ⟨os, hol, hov, hrc⟩ := rcx_all (ts := ts) hk fun j p hp => hG j (by have := (List.getElem?_eq_some_iff.mp hp).1; omega) p hp
      have hto : TsAt H3 os vs := TsAt.of (by omega) fun i v hv => by
        have hiv := (List.getElem?_eq_some_iff.mp hv).1
        have ho1 : os[i]? = some (os[i]'(by omega)) := List.getElem?_eq_getElem (by omega)
        have hq1 : r.kids[i]? = some (r.kids[i]'(by omega)) := List.getElem?_eq_getElem (by omega)
        exact ⟨_, ho1, hvs i v hv _ _ hq1 (hov i _ _ hq1 ho1)⟩
      have wos : ∀ t ∈ os, Wf t ∧ t.dep ≤ 400 := fun t ht => by
        obtain ⟨i, hi⟩ := List.mem_iff_getElem?.mp ht
        have hil := (List.getElem?_eq_some_iff.mp hi).1
        have hq1 : r.kids[i]? = some (r.kids[i]'(by omega)) := List.getElem?_eq_getElem (by omega)
        obtain ⟨ok1, dp1⟩ := hq _ (List.mem_of_getElem? hq1)
        obtain ⟨w1, w2⟩ := rcx_wf wt ok1 (hov i _ _ hq1 hi)
        exact ⟨w1, by omega⟩
      refine gName_k ?_
      try dsimp only
      refine seqAsg ⟨_, rfl, _, rfl, _, D, vs, os, rfl, hD3, hto, wos, ?_, fun u H4 s4 hu => ?_⟩
      · rcases har with ⟨e1, e2⟩ | ⟨e1, e2⟩
        · exact .inl ⟨e1, by omega⟩
        · exact .inr ⟨e1, by omega⟩
      · refine gName_k ?_
        try dsimp only
        have S4 := S3.trans s4
        rcases hu with ⟨e, rfl⟩ | ⟨t', e, iu⟩
        · rw [e] at hrc
          refine ⟨_, rfl, rfl, _, rfl, iteP (decide_eq_true rfl) ?_⟩
          exact ⟨_, rfl, rd_raise1 T.X_NoWay.oex T.X_NoWay.no fun d H' s' nd hd => k0 _ hrc d _ H' (S4.trans s') (ir.same (S4.trans s')) hd⟩
        · rw [e] at hrc
          obtain ⟨pu, zu, rfl, _⟩ := iu.hd
          refine ⟨_, rfl, rfl, _, rfl, iteN (by rw [decide_eq_false (fun z => by cases z)]; decide) (nxt ?_)⟩
          try dsimp only
          exact ⟨_, rfl, k1 _ hrc _ _ S4 iu⟩
theorem rg_none (T : Tx w K mg) : Fk P w K mg base (L2N.CX P w) 30 "run_recipe" ["recipe", "trees"] (spRG K 0) := by
  refine Fk.mono (j := 1) ?_ (by decide)
  refine T.F_run_recipe.ok sc_run_recipe (fun _ _ _ _ _ _ us hl => match us, hl with | [_, _], _ => rfl) (fun vs H Q E h => h.elim) (fun cdv A outer s H vs Q E hr h => h.elim)
theorem ok_run_recipeG (T : Tx w K mg) : ∀ n : Nat, Fk P w K mg base (L2N.CX P w) (n + 31) "run_recipe" ["recipe", "trees"] (sp_runG K n)
  | 0 => rg_step T 0 (rg_none T)
  | n + 1 => rg_step T (n + 1) (ok_run_recipeG T n)
end
end Rd
namespace Rd
open PySem L2
def RunV (ts : List Tr) (r : Rc) (H : Hp) (q : Addr) : Prop := (∃ t u, rcx ts r = .inr t ∧ H q = some (.tup [.str "made", u]) ∧ IsT H t u) ∨ (∃ e u, rcx ts r = .inl e ∧ H q = some (.tup [.str "stuck", u]) ∧ IsR H e u)
def sp_lrun (n : Nat) : Sp := fun vs H Q _ => ∃ (v : V) (a : Addr) (r : Rc) (ws : List V) (ts : List Tr), vs = [v, .ref a] ∧ IsR H r v ∧ RcOk r ∧ r.dp ≤ n ∧ n ≤ 110 ∧ H a = some (.lst ws) ∧ TsAt H ts ws ∧ (∀ t ∈ ts, Wf t ∧ t.dep ≤ 100) ∧ ts.length ≤ 100000 ∧ ∀ q H', Same H H' → RunV ts r H' q → Q (.ref q) H'
def spLRn : Nat → Sp
  | 0 => fun _ _ _ _ => False
  | n + 1 => sp_lrun n
section
variable {P : Program} {w : World} {K : PySem.W.Frag} {mg : Str → Option Value} {base : Heap}
abbrev s__law_run : Stmt := top 60
theorem sc__law_run : FnScope ["_law_recipe_here", "_law_forms_here", "_law_inner", "_law_part", "_law_found", "_law_made"] ["_law_recipe_here", "_law_forms_here"] (defScope s__law_run) := ⟨rfl, rfl, rfl, by decide +kernel, rfl, by decide +kernel, by decide +kernel⟩
theorem lr_step (T : Tx w K mg) (n : Nat) (ih : Fk P w K mg base CX0 (n + 30) "_law_run" ["_law_recipe_here", "_law_forms_here"] (spLRn n)) : Fk P w K mg base CX0 (n + 31) "_law_run" ["_law_recipe_here", "_law_forms_here"] (sp_lrun n) := by
  refine T.F__law_run.ok0 sc__law_run (fun _ _ _ _ _ _ us hl => match us, hl with | [_, _], _ => rfl)
    (fun vs H Q E h => ?_) (fun cdv A outer s H vs Q E hr h => ?_)
  · obtain ⟨v, a, r, ws, ts, rfl, _⟩ := h
    rfl
  · obtain ⟨v, a, r, ws, ts, rfl, ir, ok, dp, n110, ha, hts, wt, hl, k⟩ := h
    refine ⟨_, (pss_cons (ps_if (pt_cmpR op_eq (pe_ix ix_tup (pv 0) pe_int (fun _ _ => rfl)) pe_str (nomark _))
  (pss_cons (ps_if (pt_chain op_le op_lt pe_int (pe_ix ix_tup (pv 0) pe_int (fun _ _ => rfl)) (pe_callB call_len_seq (by rfl) T.z_len (by decide +kernel) (pa_cons (pv 1) pa_nil)))
  (pss_one (ps_ret (pe_tup (pa_cons pe_str (pa_cons (pe_ix ix_list (pv 1) (pe_ix ix_tup (pv 0) pe_int (fun _ _ => rfl)) (fun _ _ => rfl)) pa_nil)))))
  pss_nil)
  (pss_one (ps_ret (pe_tup (pa_cons pe_str (pa_cons (pv 0) pa_nil))))))
  pss_nil)
  (pss_cons (ps_if (pt_cmpR op_eq (pe_ix ix_tup (pv 0) pe_int (fun _ _ => rfl)) pe_str (nomark _))
  (pss_one (ps_ret (pe_tup (pa_cons pe_str (pa_cons (pv 0) pa_nil)))))
  pss_nil)
  (pss_cons (ps_set (i := 2) sc__law_run.nd rfl (Or.inl rfl) (pe_lst pa_nil))
  (pss_cons (ps_for PassesOwn.never rfl (pi_tup (pe_slice sl_tup (pv 0) (po_some pe_int) po_none)) (pg_name (i := 3) sc__law_run.nd rfl (Or.inl rfl))
  (pss_cons (ps_set (i := 4) sc__law_run.nd rfl (Or.inl rfl) (pe_fk ih (hr.mono (by omega)) rfl pass0 (pa_cons (pv 3) (pa_cons (pv 1) pa_nil))))
  (pss_cons (ps_if (pt_cmpR op_eq (pe_ix ix_tup (pv 4) pe_int (fun _ _ => rfl)) pe_str (nomark _))
  (pss_one (ps_ret (pv 4)))
  pss_nil)
  (pss_one (ps_expr (pe_bm PySem.F.plainAttrs_list PySem.F.slot_list_append PySem.F.type_list_append mt_append (pv 2) (pa_cons (pe_ix ix_tup (pv 4) pe_int (fun _ _ => rfl)) pa_nil)))))))
  (pss_cons (ps_set (i := 5) sc__law_run.nd rfl (Or.inl rfl) (pe_fk (ok__law_step T) (hr.mono (by omega)) rfl pass0 (pa_cons (pe_ix ix_tup (pv 0) pe_int (fun _ _ => rfl)) (pa_cons (pv 2) pa_nil))))
  (pss_one (ps_ret (pe_ifExp (pt_cmpR op_isN (pv 5) pe_non (nomark _)) (pe_tup (pa_cons pe_str (pa_cons (pv 0) pa_nil))) (pe_tup (pa_cons pe_str (pa_cons (pv 5) pa_nil))))))))))), ?_⟩
    have big : 16777216 ≤ sizeLine := by decide
    have hwl := hts.len
    obtain ⟨pf, zs, rfl, hpf⟩ := ir.hd
    refine ⟨_, rfl, pf, _, _, _, rfl, rfl, SqT.of hpf, at_of (j := 0) rfl rfl, rfl, _, rfl, ?_⟩
    rw [decS]
    rcases kids_cases ok with ⟨kk, rfl⟩ | ⟨x, rfl, hx⟩ | ⟨hk, h1, h2, hq, har⟩
    · refine iteP (show decide (("at" : Str) = "at") = true by decide +kernel) ?_
      obtain ⟨p, e', hp⟩ := id ir
      cases e'
      have e1 : rcx ts (.at_ kk) = (if 0 ≤ kk then (match ts[kk.toNat]? with | some t => Sum.inr t | none => .inl (Rc.at_ kk)) else .inl (Rc.at_ kk)) := rfl
      have stuck : rcx ts (.at_ kk) = .inl (.at_ kk) → ∀ q H1, H1 q = none → Same H H1 → ∀ H2, H2 = upd H1 q (.tup [.str "stuck", .ref pf]) → Q (.ref q) H2 := fun e2 q H1 nq s1 H2 eH => by
        subst eH
        have s2 := Rd.Same.upd (o := .tup [.str "stuck", .ref pf]) nq
        exact k q _ (s1.trans s2) (.inr ⟨_, _, e2, upd_same, ir.same (s1.trans s2)⟩)
      refine ⟨_, rfl, pf, _, _, _, rfl, rfl, SqT.of hp, at_of (j := 1) rfl rfl, _, _, rfl, rfl, _, rfl, ?_⟩
      by_cases hk0 : 0 ≤ kk
      · rw [decide_eq_true hk0, if_pos rfl]
        rw [if_pos hk0] at e1
        refine ⟨_, rfl, a, ws, rfl, .inl (SqL.of ha), _, _, rfl, rfl, _, rfl, ite2 (fun hlt => ?_) (fun hlt => ?_)⟩
        · have hlt : kk.toNat < ts.length := by
            have := of_decide_eq_true hlt
            omega
          have et : ts[kk.toNat]? = some (ts[kk.toNat]'hlt) := List.getElem?_eq_getElem hlt
          rw [et] at e1
          have hw : ws[kk.toNat]? = some (ws[kk.toNat]'(by omega)) := List.getElem?_eq_getElem (by omega)
          have it := hts.get _ _ _ et hw
          refine ⟨_, rfl, _, rfl, pf, _, _, _, rfl, rfl, SqT.of hp, at_of (j := 1) rfl rfl, a, _, _, _, rfl, rfl, SqL.of ha, at_of (j := kk.toNat) (by omega) hw, (by show 2 ≤ sizeLine; decide), fun q1 hq1 => ?_⟩
          have s1 := Rd.Same.upd (o := .tup [.str "made", ws[kk.toNat]'(by omega)]) hq1
          exact k q1 _ s1 (.inl ⟨_, _, e1, upd_same, it.same s1⟩)
        · have hlt : ¬ kk < (ws.length : Int) := fun h => hlt (decide_eq_true h)
          rw [List.getElem?_eq_none (by omega)] at e1
          exact nxt ⟨_, rfl, (by show 2 ≤ sizeLine; decide), fun q1 hq1 => stuck e1 q1 _ hq1 (Same.refl _) _ rfl⟩
      · rw [decide_eq_false hk0, if_neg Bool.false_ne_true]
        rw [if_neg hk0] at e1
        exact ⟨_, rfl, iteF (nxt ⟨_, rfl, (by show 2 ≤ sizeLine; decide), fun q1 hq1 => stuck e1 q1 _ hq1 (Same.refl _) _ rfl⟩)⟩
    · refine iteN (show ¬ decide (("word" : Str) = "at") = true by decide +kernel) (nxt ?_)
      try dsimp only
      obtain ⟨p, e', hp⟩ := id ir
      cases e'
      refine ⟨_, rfl, pf, _, _, _, rfl, rfl, SqT.of hp, at_of (j := 0) rfl rfl, rfl, _, rfl, ?_⟩
      rw [decS]
      refine iteP (show decide (("word" : Str) = "word") = true by decide +kernel) ?_
      refine ⟨_, rfl, (by show 2 ≤ sizeLine; decide), fun q1 hq1 => ?_⟩
      have s1 := Rd.Same.upd (o := .tup [.str "made", .ref pf]) hq1
      exact k q1 _ s1 (.inl ⟨_, _, rfl, upd_same, pf, rfl, s1 _ _ hp⟩)
    · refine iteN (by rw [decide_eq_false h1]; decide) (nxt ?_)
      try dsimp only
      refine ⟨_, rfl, pf, _, _, _, rfl, rfl, SqT.of hpf, at_of (j := 0) rfl rfl, rfl, _, rfl, ?_⟩
      rw [decS]
      refine iteN (by rw [decide_eq_false h2]; decide) (nxt ?_)
      try dsimp only
      obtain ⟨pf', us, e', hp, hus⟩ := ir.kids hk
      cases e'
      have hul := hus.len
      have hk12 : r.kids.length ≤ 2 ∧ 1 ≤ r.kids.length := by rcases har with ⟨_, e⟩ | ⟨_, e⟩ <;> omega
      refine ⟨Nat.zero_le _, fun p np => ?_⟩
      refine gName_k ?_
      try dsimp only
      have s1 := Rd.Same.upd (o := .lst []) np
      refine ⟨_, rfl, _, rfl, pf, _, rfl, SqT.of (s1 _ _ hp), ?_, fun p2 hp2 => ?_⟩
      · rintro ⟨z, _⟩
        rw [show (1 : Int) = ((1 : Nat) : Int) from rfl, HT.sIx_nat, List.length_cons] at z
        omega
      rw [cut1]
      have s2 := Rd.Same.upd (o := .tup us) hp2
      refine ⟨p2, rfl, ⟨_, SqT.of upd_same⟩, ?_⟩
      refine for_tup (xs := us) (fun i σ H' => (Same H H' ∧ H' p2 = some (.tup us) ∧ ∃ zs os, H' p = some (.lst zs) ∧ TsAt H' os zs ∧ os.length = i ∧ ∀ (j : Nat) q u, r.kids[j]? = some q → os[j]? = some u → rcx ts q = .inr u) ∧ ∃ t3 t4, σ = [some (.ref pf), some (.ref a), some (.ref p), t3, t4, none]) ⟨⟨s1.trans s2, upd_same, [], [], s2 _ _ upd_same, ⟨rfl, fun i t v h => by simp at h⟩, rfl, fun j q u _ h => by simp at h⟩, _, _, rfl⟩ ?_ ?_ ?_
      · rintro i σ H' hi ⟨⟨_, h, _⟩, _⟩
        exact SqT.of h
      · rintro i x σ H1 hx ⟨⟨sm, htu, zs, os, hzs, hts1, hol, hov⟩, t3, t4, rfl⟩
        refine gName_k ?_
        try dsimp only
        have hil := (List.getElem?_eq_some_iff.mp hx).1
        have hq1 : r.kids[i]? = some (r.kids[i]'(by omega)) := List.getElem?_eq_getElem (by omega)
        obtain ⟨ok1, dp1⟩ := hq _ (List.mem_of_getElem? hq1)
        have hzl := hts1.len
        have hG : ∀ j, j < i → ∀ p, r.kids[j]? = some p → ∃ t, rcx ts p = .inr t := fun j hj p hp => ⟨_, hov j p _ hp (List.getElem?_eq_getElem (by omega))⟩
        cases n with
        | zero => exact absurd dp (by omega)
        | succ n =>
          refine ⟨_, rfl, _, rfl, x, a, _, ws, ts, rfl, (hus.get i _ x hq1 hx).mono (C := 0) (Kp.of_same sm), ok1, (by omega), (by omega), sm _ _ ha, hts.same sm, wt, hl, fun q H2 sm2 hrv => ?_⟩
          refine gName_k ?_
          try dsimp only
          rcases hrv with ⟨t, u, et, hqq, iu⟩ | ⟨e, u, ee, hqq, ie⟩
          · refine ⟨_, rfl, q, _, _, _, rfl, rfl, SqT.of hqq, at_of (j := 0) rfl rfl, rfl, _, rfl, ?_⟩
            rw [decS]
            refine iteN (by decide +kernel) (nxt ?_)
            try dsimp only
            refine ⟨_, rfl, .inl ⟨rfl, _, SqL.of (sm2 _ _ hzs)⟩, _, rfl, q, _, _, _, rfl, rfl, SqT.of hqq, at_of (j := 1) rfl rfl, p, zs, _, rfl, rfl, sm2 _ _ hzs, (by omega), ?_⟩
            have kp := Kp.upd_lst (C := 0) (ys := zs ++ [u]) (sm2 _ _ hzs)
            refine ⟨⟨fun c o e => ?_, ?_, zs ++ [u], os ++ [t], upd_same, ?_, by rw [List.length_append, hol]; rfl, fun j q' u' h1 h2 => ?_⟩, _, _, rfl⟩
            · rw [upd_ne (ne_of_none e np)]
              exact sm2 _ _ (sm _ _ e)
            · rw [upd_ne (fun z => by rw [z, hzs] at htu; cases htu)]
              exact sm2 _ _ htu
            · exact ((hts1.same sm2).mono kp).app (TsAt.one (iu.mono kp))
            · by_cases hj : j < os.length
              · rw [List.getElem?_append_left hj] at h2
                exact hov j q' u' h1 h2
              · rw [List.getElem?_append_right (by omega)] at h2
                have ej : j = i := by
                  have := (List.getElem?_eq_some_iff.mp h2).1
                  simp at this
                  omega
                subst ej
                rw [hol, Nat.sub_self] at h2
                cases h2
                rw [hq1] at h1
                cases h1
                exact et
          · refine ⟨_, rfl, q, _, _, _, rfl, rfl, SqT.of hqq, at_of (j := 0) rfl rfl, rfl, _, rfl, ?_⟩
            rw [decS]
            refine iteP (by decide +kernel) ?_
            exact ⟨_, rfl, k q _ (sm.trans sm2) (.inr ⟨e, u, rcx_stuck hq1 hG ee, hqq, ie⟩)⟩
      · rintro σ H1 ⟨⟨sm, htu, zs, os, hzs, hts1, hol, hov⟩, t3, t4, rfl⟩
        have hzl := hts1.len
        obtain ⟨os', hol', hov', hrc⟩ := rcx_all (ts := ts) hk fun j p hp => by
          have := (List.getElem?_eq_some_iff.mp hp).1
          exact ⟨_, hov j p _ hp (List.getElem?_eq_getElem (by omega))⟩
        obtain rfl : os' = os := by
          refine List.ext_getElem? fun j => ?_
          by_cases hj : j < us.length
          · have a1 : os'[j]? = some (os'[j]'(by omega)) := List.getElem?_eq_getElem (by omega)
            have a2 : os[j]? = some (os[j]'(by omega)) := List.getElem?_eq_getElem (by omega)
            have a3 : r.kids[j]? = some (r.kids[j]'(by omega)) := List.getElem?_eq_getElem (by omega)
            have b1 := hov' j _ _ a3 a1
            have b2 := hov j _ _ a3 a2
            rw [b1] at b2
            rw [a1, a2, Sum.inr.inj b2]
          · rw [List.getElem?_eq_none (by omega), List.getElem?_eq_none (by omega)]
        have wos : ∀ t ∈ os', Wf t ∧ t.dep ≤ 400 := fun t ht => by
          obtain ⟨i, hi⟩ := List.mem_iff_getElem?.mp ht
          have hil := (List.getElem?_eq_some_iff.mp hi).1
          have hq1 : r.kids[i]? = some (r.kids[i]'(by omega)) := List.getElem?_eq_getElem (by omega)
          obtain ⟨ok1, dp1⟩ := hq _ (List.mem_of_getElem? hq1)
          obtain ⟨w1, w2⟩ := rcx_wf wt ok1 (hov i _ _ hq1 hi)
          exact ⟨w1, by omega⟩
        refine ⟨_, rfl, pf, _, _, _, rfl, rfl, SqT.of (sm _ _ hp), at_of (j := 0) rfl rfl, _, rfl, _, p, zs, os', rfl, hzs, hts1, wos, ?_, fun u H4 s4 hu => ?_⟩
        · rcases har with ⟨e1, e2⟩ | ⟨e1, e2⟩
          · exact .inl ⟨e1, by omega⟩
          · exact .inr ⟨e1, by omega⟩
        · refine gName_k ?_
          try dsimp only
          have S4 := sm.trans s4
          rcases hu with ⟨e, rfl⟩ | ⟨t', e, iu⟩
          · rw [e] at hrc
            refine ⟨_, rfl, rfl, _, rfl, iteP (decide_eq_true rfl) ?_⟩
            refine ⟨_, rfl, (by show 2 ≤ sizeLine; decide), fun q1 hq1 => ?_⟩
            have s5 := Rd.Same.upd (o := .tup [.str "stuck", .ref pf]) hq1
            exact k q1 _ (S4.trans s5) (.inr ⟨_, _, hrc, upd_same, ir.same (S4.trans s5)⟩)
          · rw [e] at hrc
            obtain ⟨pu, zu, rfl, _⟩ := iu.hd
            refine ⟨_, rfl, rfl, _, rfl, iteN (by rw [decide_eq_false (fun z => by cases z)]; decide) ?_⟩
            refine ⟨_, rfl, (by show 2 ≤ sizeLine; decide), fun q1 hq1 => ?_⟩
            have s5 := Rd.Same.upd (o := .tup [.str "made", .ref pu]) hq1
            exact k q1 _ (S4.trans s5) (.inl ⟨_, _, hrc, upd_same, iu.same s5⟩)
theorem lr_none (T : Tx w K mg) : Fk P w K mg base CX0 30 "_law_run" ["_law_recipe_here", "_law_forms_here"] (spLRn 0) := by
  refine Fk.mono (j := 1) ?_ (by decide)
  refine T.F__law_run.ok0 sc__law_run (fun _ _ _ _ _ _ us hl => match us, hl with | [_, _], _ => rfl) (fun vs H Q E h => h.elim) (fun cdv A outer s H vs Q E hr h => h.elim)
theorem ok__law_run (T : Tx w K mg) : ∀ n : Nat, Fk P w K mg base CX0 (n + 31) "_law_run" ["_law_recipe_here", "_law_forms_here"] (sp_lrun n)
  | 0 => lr_step T 0 (lr_none T)
  | n + 1 => lr_step T (n + 1) (ok__law_run T n)
end
end Rd
namespace Rd
open PySem L2
def Nod5 : Nat → Int → Prop
  | 0, n => 15 ≤ n ∧ n ≤ 30
  | 1, n => 7 ≤ n ∧ n ≤ 14
  | 2, n => 3 ≤ n ∧ n ≤ 6
  | 3, n => 1 ≤ n ∧ n ≤ 2
  | _, n => n = 0
theorem Nod5.le {d : Nat} {n : Int} (h : Nod5 d n) : 0 ≤ n ∧ n ≤ 30 := by
  match d, h with
  | 0, h => exact ⟨by have := h.1; omega, h.2⟩
  | 1, h => exact ⟨by have := h.1; omega, by have := h.2; omega⟩
  | 2, h => exact ⟨by have := h.1; omega, by have := h.2; omega⟩
  | 3, h => exact ⟨by have := h.1; omega, by have := h.2; omega⟩
  | d + 4, h => have h : n = 0 := h; exact ⟨by omega, by omega⟩
theorem Nod5.kids {d : Nat} {n : Int} (hd : d + 1 ≤ 4) (h : Nod5 (d + 1) n) : Nod5 d (2 * n + 1) ∧ Nod5 d (2 * n + 2) ∧ n ≤ 14 := by
  match d, hd, h with
  | 0, _, h => obtain ⟨h1, h2⟩ := h; exact ⟨⟨by omega, by omega⟩, ⟨by omega, by omega⟩, h2⟩
  | 1, _, h => obtain ⟨h1, h2⟩ := h; exact ⟨⟨by omega, by omega⟩, ⟨by omega, by omega⟩, by omega⟩
  | 2, _, h => obtain ⟨h1, h2⟩ := h; exact ⟨⟨by omega, by omega⟩, ⟨by omega, by omega⟩, by omega⟩
  | 3, _, h => have h : n = 0 := h; subst h; exact ⟨⟨by decide, by decide⟩, ⟨by decide, by decide⟩, by decide⟩
def KIN : List Str := ["first", "second", "first", "second", "mark", "open", "pair", "seal", "lock", "unseal", "unlock"]
theorem kin_at : ∀ j : Nat, j < 11 → ∃ kd, KIN[j]? = some kd ∧ (j < 6 → kd ∈ UNL) ∧ (¬ j < 6 → kd ∈ BIL)
  | 0, _ => ⟨_, rfl, fun _ => by decide +kernel, fun h => absurd (by decide) h⟩
  | 1, _ => ⟨_, rfl, fun _ => by decide +kernel, fun h => absurd (by decide) h⟩
  | 2, _ => ⟨_, rfl, fun _ => by decide +kernel, fun h => absurd (by decide) h⟩
  | 3, _ => ⟨_, rfl, fun _ => by decide +kernel, fun h => absurd (by decide) h⟩
  | 4, _ => ⟨_, rfl, fun _ => by decide +kernel, fun h => absurd (by decide) h⟩
  | 5, _ => ⟨_, rfl, fun _ => by decide +kernel, fun h => absurd (by decide) h⟩
  | 6, _ => ⟨_, rfl, fun h => absurd h (by decide), fun _ => by decide +kernel⟩
  | 7, _ => ⟨_, rfl, fun h => absurd h (by decide), fun _ => by decide +kernel⟩
  | 8, _ => ⟨_, rfl, fun h => absurd h (by decide), fun _ => by decide +kernel⟩
  | 9, _ => ⟨_, rfl, fun h => absurd h (by decide), fun _ => by decide +kernel⟩
  | 10, _ => ⟨_, rfl, fun h => absurd h (by decide), fun _ => by decide +kernel⟩
  | j + 11, h => absurd h (by omega)
def sp_rec (d : Nat) : Sp := fun vs H Q _ => ∃ (r : Addr) (at_ node : Int) (m : Nat) (ds : List Int), vs = [.ref r, .int at_, .int node, .int (m : Int)] ∧ H r = some (.lst (ds.map V.int)) ∧ (∀ d ∈ ds, 0 ≤ d ∧ d < 1000) ∧ 0 ≤ at_ ∧ Nod5 d node ∧ at_ + 30 < ds.length ∧ m ≤ 1000 ∧ d ≤ 4 ∧
  ∀ rc v H', Same H H' → RcOk rc → rc.dp ≤ d → IsR H' rc v → Q v H'
def spRecR : Nat → Sp
  | 0 => fun _ _ _ _ => False
  | d + 1 => sp_rec d
section
variable {P : Program} {w : World} {K : PySem.W.Frag} {mg : Str → Option Value} {base : Heap}
abbrev s__law_recipe : Stmt := top 62
theorem sc__law_recipe : FnScope ["_law_row_here", "_law_at", "_law_node", "_law_many", "_law_draw", "_law_way_here", "_law_one", "_law_kinds", "_law_kind"] ["_law_row_here", "_law_at", "_law_node", "_law_many"] (defScope s__law_recipe) := ⟨rfl, rfl, rfl, by decide +kernel, rfl, by decide +kernel, by decide +kernel⟩
theorem re_step (T : Tx w K mg) (d : Nat) (ih : Fk P w K mg base CX0 (d + 1) "_law_recipe" ["_law_row_here", "_law_at", "_law_node", "_law_many"] (spRecR d)) : Fk P w K mg base CX0 (d + 2) "_law_recipe" ["_law_row_here", "_law_at", "_law_node", "_law_many"] (sp_rec d) := by
  refine T.F__law_recipe.ok0 sc__law_recipe (fun _ _ _ _ _ _ us hl => match us, hl with | [_, _, _, _], _ => rfl)
    (fun vs H Q E h => ?_) (fun cdv A outer s H vs Q E hr h => ?_)
  · obtain ⟨r, at_, node, m, ds, rfl, _⟩ := h
    rfl
  · obtain ⟨r, at_, node, m, ds, rfl, hr0, hds, hat, hno, hlen, hm, hd4, k⟩ := h
    refine ⟨_, (pss_cons (ps_set (i := 4) sc__law_recipe.nd rfl (Or.inl rfl) (pe_callTy call_int1 (by rfl) T.z_int (by decide +kernel) (pa_cons (pe_ix ix_list (pv 0) (pe_op op_add (pv 1) (pv 2)) (fun _ _ => rfl)) pa_nil)))
  (pss_cons (ps_set (i := 5) sc__law_recipe.nd rfl (Or.inl rfl) (pe_op op_mod (pv 4) pe_int))
  (pss_cons (ps_if (PW.pt (pw_or (pt_cmpR op_gt (pv 2) pe_int (nomark _)) (pw_or1 (pt_cmpR op_lt (pv 5) pe_int (nomark _)))))
  (pss_cons (ps_if (pt_cmpR op_eq (pe_op op_mod (pe_op op_fdiv (pv 4) pe_int) pe_int) pe_int (nomark _))
  (pss_one (ps_ret (pe_tup (pa_cons pe_str (pa_cons (pe_ix ix_list (pe_lst (pa_cons pe_str (pa_cons pe_str (pa_cons pe_str (pa_cons pe_str pa_nil))))) (pe_op op_mod (pe_op op_fdiv (pv 4) pe_int) pe_int) (fun _ _ => rfl)) pa_nil)))))
  pss_nil)
  (pss_one (ps_ret (pe_tup (pa_cons pe_str (pa_cons (pe_op op_sub (pe_op op_mod (pe_op op_fdiv (pv 4) pe_int) (pe_op op_add (pv 3) pe_int)) (pe_callTy call_int1 (by rfl) T.z_int (by decide +kernel) (pa_cons (pe_cmpR op_eq (pe_op op_mod (pe_op op_fdiv (pv 4) pe_int) pe_int) pe_int (nomark _)) pa_nil))) pa_nil))))))
  pss_nil)
  (pss_cons (ps_set (i := 6) sc__law_recipe.nd rfl (Or.inl rfl) (pe_fk ih (hr.mono (by omega)) rfl pass0 (pa_cons (pv 0) (pa_cons (pv 1) (pa_cons (pe_op op_add (pe_op op_mul pe_int (pv 2)) pe_int) (pa_cons (pv 3) pa_nil))))))
  (pss_cons (ps_set (i := 7) sc__law_recipe.nd rfl (Or.inl rfl) (pe_lst (pa_cons pe_str (pa_cons pe_str (pa_cons pe_str (pa_cons pe_str (pa_cons pe_str (pa_cons pe_str (pa_cons pe_str (pa_cons pe_str (pa_cons pe_str (pa_cons pe_str (pa_cons pe_str pa_nil)))))))))))))
  (pss_cons (ps_set (i := 8) sc__law_recipe.nd rfl (Or.inl rfl) (pe_ix ix_list (pv 7) (pe_op op_sub (pv 5) pe_int) (fun _ _ => rfl)))
  (pss_cons (ps_if (pt_cmpR op_lt (pv 5) pe_int (nomark _))
  (pss_one (ps_ret (pe_tup (pa_cons (pv 8) (pa_cons (pv 6) pa_nil)))))
  pss_nil)
  (pss_one (ps_ret (pe_tup (pa_cons (pv 8) (pa_cons (pv 6) (pa_cons (pe_fk ih (hr.mono (by omega)) rfl pass0 (pa_cons (pv 0) (pa_cons (pv 1) (pa_cons (pe_op op_add (pe_op op_mul pe_int (pv 2)) pe_int) (pa_cons (pv 3) pa_nil))))) pa_nil))))))))))))), ?_⟩
    obtain ⟨n0, n30⟩ := hno.le
    have hj : (at_ + node).toNat < ds.length := by omega
    obtain ⟨e0, e1⟩ := hds ds[(at_ + node).toNat] (List.getElem_mem hj)
    have ea : atI (ds.map V.int) (at_ + node) = some (V.int (ds[(at_ + node).toNat]'hj)) := at_of (j := (at_ + node).toNat) (by omega) (by rw [List.getElem?_map, List.getElem?_eq_getElem hj]; rfl)
    generalize ds[(at_ + node).toNat]'hj = dv at e0 e1 ea
    refine seqAsg ⟨_, rfl, _, rfl, _, rfl, _, _, rfl, rfl, r, _, _, _, rfl, rfl, SqL.of hr0, ea, .inl ⟨_, rfl, ?_⟩⟩
    refine gName_k ?_
    try dsimp only
    refine seqAsg ⟨_, rfl, _, _, rfl, rfl, (by show (0 : Int) < 16; decide), ?_⟩
    refine gName_k ?_
    try dsimp only
    have w0 : 0 ≤ dv % 16 := Int.emod_nonneg _ (by decide)
    have w1 : dv % 16 < 16 := Int.emod_lt_of_pos _ (by decide)
    refine seqIf (tb_or (fun R r => ⟨_, rfl, _, _, rfl, rfl, _, rfl, r _ (Same.refl _)⟩) fun H' s' _ R r => ⟨_, rfl, _, _, rfl, rfl, _, rfl, r _ (Same.refl _)⟩) fun H1 s1 => ite2 (fun _ => ?_) (fun hno1 => nxt ?_)
    · refine ⟨_, rfl, _, _, rfl, rfl, ⟨by decide, by decide⟩, _, _, rfl, rfl, (by show (0 : Int) < 5; decide), rfl, _, rfl, ite2 (fun _ => ?_) (fun _ => nxt ?_)⟩
      · refine ⟨(by show 4 ≤ sizeLine; decide), fun qo hqo => ?_⟩
        have so := Rd.Same.upd (o := .lst [.str "a", .str "k", .str "yes", .str "open"]) hqo
        obtain ⟨j2, z2, hj2, ez2⟩ := atI_of (us := [.str "a", .str "k", .str "yes", .str "open"]) (m := 4) (d := dv / 80 % 4) (Int.emod_nonneg _ (by decide)) (Int.emod_lt_of_pos _ (by decide)) rfl
        obtain ⟨x, rfl, hx⟩ : ∃ x : Str, z2 = .str x ∧ isWord x = true := by
          match j2, hj2 with
          | 0, h => cases h; exact ⟨_, rfl, by decide +kernel⟩
          | 1, h => cases h; exact ⟨_, rfl, by decide +kernel⟩
          | 2, h => cases h; exact ⟨_, rfl, by decide +kernel⟩
          | 3, h => cases h; exact ⟨_, rfl, by decide +kernel⟩
          | j + 4, h => cases h
        refine ⟨_, rfl, _, _, rfl, rfl, ⟨by decide, by decide⟩, _, _, rfl, rfl, (by show (0 : Int) < 4; decide), qo, _, _, _, rfl, rfl, SqL.of upd_same, ez2, (by show 2 ≤ sizeLine; decide), fun q hq => ?_⟩
        have sq := Rd.Same.upd (o := .tup [.str "word", .str x]) hq
        exact k (.wd x) _ _ ((s1.trans so).trans sq) hx (Nat.zero_le _) ⟨q, rfl, upd_same⟩
      · try dsimp only
        refine ⟨_, rfl, _, _, rfl, rfl, ⟨by decide, by decide⟩, _, rfl, _, _, rfl, rfl, _, _, rfl, rfl, (by show (0 : Int) < (m : Int) + 1; omega), _, rfl, _, _, rfl, rfl, ⟨by decide, by decide⟩, _, _, rfl, rfl, (by show (0 : Int) < 23; decide), rfl, .inr ⟨_, rfl, _, _, rfl, rfl, (by show 2 ≤ sizeLine; decide), fun q hq => ?_⟩⟩
        exact k (.at_ _) _ _ (s1.trans (Rd.Same.upd hq)) trivial (Nat.zero_le _) ⟨q, rfl, upd_same⟩
    try dsimp only
    have hno2 : ¬ (14 < node) ∧ ¬ (dv % 16 < 5) := by
      rw [Bool.or_eq_true, decide_eq_true_eq, decide_eq_true_eq] at hno1
      exact ⟨fun e => hno1 (.inl e), fun e => hno1 (.inr e)⟩
    cases d with
    | zero => exact absurd hno.1 (by omega)
    | succ d =>
      obtain ⟨k1, k2, _⟩ := Nod5.kids hd4 hno
      have call : ∀ {n' : Int} {H1 : Hp} {Q1 : VK}, Nod5 d n' → Same H H1 → (∀ rc v H', Same H1 H' → RcOk rc → rc.dp ≤ d → IsR H' rc v → Q1 v H') → sp_rec d [.ref r, .int at_, .int n', .int (m : Int)] H1 Q1 E0 := fun {n' H1 Q1} hn s1 kk => ⟨r, at_, n', m, ds, rfl, s1 _ _ hr0, hds, hat, hn, hlen, hm, by omega, kk⟩
      refine seqAsg ⟨_, rfl, _, rfl, _, rfl, _, _, rfl, rfl, .inl ⟨by decide, by decide⟩, _, _, rfl, rfl, _, rfl, call k1 s1 fun r1 v1 H2 s2 ok1 dp1 i1 => ?_⟩
      refine gName_k ?_
      try dsimp only
      have S2 := s1.trans s2
      refine seqAsg ⟨(by show 11 ≤ sizeLine; decide), fun qk hqk => ?_⟩
      have s3 := Rd.Same.upd (o := .lst (KIN.map V.str)) hqk
      have h31 : upd H2 qk (.lst (KIN.map V.str)) qk = some (.lst (KIN.map V.str)) := upd_same
      refine gName_k ?_
      try dsimp only
      have eK : upd H2 qk (.lst [.str "first", .str "second", .str "first", .str "second", .str "mark", .str "open", .str "pair", .str "seal", .str "lock", .str "unseal", .str "unlock"]) = upd H2 qk (.lst (KIN.map V.str)) := rfl
      rw [eK]
      generalize upd H2 qk (.lst (KIN.map V.str)) = H3 at s3 h31 ⊢
      have S3 := S2.trans s3
      obtain ⟨kd, hkd, hu, hb⟩ := kin_at (dv % 16 - 5).toNat (by omega)
      have ek : atI (KIN.map V.str) (dv % 16 - 5) = some (V.str kd) := at_of (j := (dv % 16 - 5).toNat) (by omega) (by rw [List.getElem?_map, hkd]; rfl)
      refine seqAsg ⟨_, rfl, _, rfl, _, _, rfl, rfl, qk, _, _, _, rfl, rfl, SqL.of h31, ek, ?_⟩
      refine gName_k ?_
      try dsimp only
      refine ⟨_, rfl, _, _, rfl, rfl, _, rfl, ite2 (fun h => ?_) (fun h => nxt ?_)⟩
      · have h := of_decide_eq_true h
        refine ⟨_, rfl, _, rfl, (by show 2 ≤ sizeLine; decide), fun q hq => ?_⟩
        have sq := Rd.Same.upd (o := .tup [.str kd, v1]) hq
        exact k (.un kd r1) _ _ (S3.trans sq) ⟨hu (by omega), ok1⟩ (by show r1.dp + 1 ≤ d + 1; omega) ⟨q, v1, rfl, upd_same, i1.same (s3.trans sq)⟩
      · try dsimp only
        have h : ¬ (dv % 16 < 11) := by simpa using h
        refine ⟨_, rfl, _, rfl, _, rfl, _, rfl, _, rfl, _, _, rfl, rfl, .inl ⟨by decide, by decide⟩, _, _, rfl, rfl, _, rfl, call k2 S3 fun r2 v2 H4 s4 ok2 dp2 i2 => ⟨(by show 3 ≤ sizeLine; decide), fun q hq => ?_⟩⟩
        have sq := Rd.Same.upd (o := .tup [.str kd, v1, v2]) hq
        exact k (.bi kd r1 r2) _ _ ((S3.trans s4).trans sq) ⟨hb (by omega), ok1, ok2⟩ (by show max r1.dp r2.dp + 1 ≤ d + 1; omega) ⟨q, v1, v2, rfl, upd_same, i1.same ((s3.trans s4).trans sq), i2.same sq⟩
theorem re_none (T : Tx w K mg) : Fk P w K mg base CX0 1 "_law_recipe" ["_law_row_here", "_law_at", "_law_node", "_law_many"] (spRecR 0) := by
  refine T.F__law_recipe.ok0 sc__law_recipe (fun _ _ _ _ _ _ us hl => match us, hl with | [_, _, _, _], _ => rfl) (fun vs H Q E h => h.elim) (fun cdv A outer s H vs Q E hr h => h.elim)
theorem ok__law_recipe (T : Tx w K mg) : ∀ d : Nat, Fk P w K mg base CX0 (d + 2) "_law_recipe" ["_law_row_here", "_law_at", "_law_node", "_law_many"] (sp_rec d)
  | 0 => re_step T 0 (re_none T)
  | d + 1 => re_step T (d + 1) (ok__law_recipe T d)
end
end Rd
namespace Rd
open PySem L2
def sp_isRec (n : Nat) : Sp := fun vs H Q _ => ∃ (v : V) (r : Rc), vs = [v] ∧ IsR H r v ∧ RcOk r ∧ r.dp ≤ n ∧ ∀ H', Same H H' → Q (.bl true) H'
def spIRec : Nat → Sp
  | 0 => fun _ _ _ _ => False
  | n + 1 => sp_isRec n
theorem isi_tup {K : PySem.W.Frag} : PySem.W.kitOne K (.type "tuple") (.type "tuple") = some true := isi_base (by decide +kernel)
theorem isi_str {K : PySem.W.Frag} : PySem.W.kitOne K (.type "str") (.type "str") = some true := isi_base (by decide +kernel)
theorem isi_int {K : PySem.W.Frag} : PySem.W.kitOne K (.type "int") (.type "int") = some true := isi_base (by decide +kernel)
theorem isi_intb {K : PySem.W.Frag} : PySem.W.kitOne K (.type "int") (.type "bool") = some false := isi_base (by decide +kernel)
def LNG : List (Str × Int) := [("first", 2), ("second", 2), ("mark", 2), ("open", 2), ("unseal", 3), ("unlock", 3), ("pair", 3), ("seal", 3), ("lock", 3)]
theorem lng_un {s : Str} (h : s ∈ UNL) : (s, 2) ∈ LNG := by
  rcases unl_cases h with rfl | rfl | rfl | rfl <;> simp [LNG]
theorem lng_bi {s : Str} (h : s ∈ BIL) : (s, 3) ∈ LNG := by
  rcases bil_cases h with rfl | rfl | rfl | rfl | rfl <;> simp [LNG]
def sp_hrecipe (K : PySem.W.Frag) : Sp := fun vs H Q _ => ∃ (h a : Addr) (v : V) (ts : List Tr) (t : Tr), vs = [.ref h, .ref a] ∧ IsHp K H h ts ∧ (∀ t ∈ ts, Wf t ∧ t.dep ≤ 12) ∧ (allOf ts).length ≤ 50000 ∧ IsL K H a v ∧ IsT H t v ∧ Wf t ∧ t.dep ≤ 12 ∧
  ∀ u H' W, Same H H' → WayOk 12 ts W → IsOpen ts (wtr W) → MkV H' (mkR W t) u → Q u H'
def sp_hrun (K : PySem.W.Frag) (n : Nat) : Sp := fun vs H Q _ => ∃ (h : Addr) (v : V) (ts : List Tr) (r : Rc) (t : Tr), vs = [.ref h, v] ∧ IsHp K H h ts ∧ (∀ t ∈ ts, Wf t ∧ t.dep ≤ 100) ∧ ts.length ≤ 100000 ∧ IsR H r v ∧ RcOk r ∧ r.dp ≤ n ∧ n ≤ 110 ∧ rcx ts r = .inr t ∧ ∀ x H', Same H H' → IsLet K H' t (.ref x) → Q (.ref x) H'
section
variable {P : Program} {w : World} {K : PySem.W.Frag} {mg : Str → Option Value} {base : Heap}
abbrev s_is_recipe : Stmt := top 39
theorem sc_is_recipe : FnScope ["thing", "part"] ["thing"] (defScope s_is_recipe) := ⟨rfl, rfl, rfl, by decide +kernel, rfl, by decide +kernel, by decide +kernel⟩
theorem ir_step (T : Tx w K mg) (n : Nat) (ih : Fk P w K mg base CX0 (n + 2) "is_recipe" ["thing"] (spIRec n)) : Fk P w K mg base CX0 (n + 3) "is_recipe" ["thing"] (sp_isRec n) := by
  refine T.F_is_recipe.ok0 sc_is_recipe (fun _ _ _ _ _ _ us hl => match us, hl with | [_], _ => rfl)
    (fun vs H Q E h => ?_) (fun cdv A outer s H vs Q E hr h => ?_)
  · obtain ⟨v, r, rfl, _⟩ := h
    rfl
  · obtain ⟨v, r, rfl, ir, ok, dp, k⟩ := h
    refine ⟨_, (pss_cons (ps_if (PW.pt (pw_or (pt_not (pt_val (pe_callB call_isi (by rfl) T.z_isinstance (by decide +kernel) (pa_cons (pv 0) (pa_cons (pe_bltn (v := .ty "tuple") (u := .type "tuple") rfl T.z_tuple (by decide +kernel) rfl) pa_nil))))) (pw_or (pt_cmpR op_eq (pe_callB call_len_seq (by rfl) T.z_len (by decide +kernel) (pa_cons (pv 0) pa_nil)) pe_int (nomark _)) (pw_or1 (pt_not (pt_val (pe_callB call_isi (by rfl) T.z_isinstance (by decide +kernel) (pa_cons (pe_ix ix_tup (pv 0) pe_int (fun _ _ => rfl)) (pa_cons (pe_bltn (v := .ty "str") (u := .type "str") rfl T.z_str (by decide +kernel) rfl) pa_nil)))))))))
  (pss_one (ps_ret pe_bl))
  pss_nil)
  (pss_cons (ps_if (pt_cmpR op_eq (pe_ix ix_tup (pv 0) pe_int (fun _ _ => rfl)) pe_str (nomark _))
  (pss_one (ps_ret (pe_and (pe_cmpR op_eq (pe_callB call_len_seq (by rfl) T.z_len (by decide +kernel) (pa_cons (pv 0) pa_nil)) pe_int (nomark _)) (pe_and (pe_callB call_isi (by rfl) T.z_isinstance (by decide +kernel) (pa_cons (pe_ix ix_tup (pv 0) pe_int (fun _ _ => rfl)) (pa_cons (pe_bltn (v := .ty "int") (u := .type "int") rfl T.z_int (by decide +kernel) rfl) pa_nil))) (pe_one (pe_not (pe_callB call_isi (by rfl) T.z_isinstance (by decide +kernel) (pa_cons (pe_ix ix_tup (pv 0) pe_int (fun _ _ => rfl)) (pa_cons (pe_bltn (v := .ty "bool") (u := .type "bool") rfl T.z_bool (by decide +kernel) rfl) pa_nil)))))))))
  pss_nil)
  (pss_cons (ps_if (pt_cmpR op_eq (pe_ix ix_tup (pv 0) pe_int (fun _ _ => rfl)) pe_str (nomark _))
  (pss_one (ps_ret (pe_and (pe_cmpR op_eq (pe_callB call_len_seq (by rfl) T.z_len (by decide +kernel) (pa_cons (pv 0) pa_nil)) pe_int (nomark _)) (pe_and (pe_callB call_isi (by rfl) T.z_isinstance (by decide +kernel) (pa_cons (pe_ix ix_tup (pv 0) pe_int (fun _ _ => rfl)) (pa_cons (pe_bltn (v := .ty "str") (u := .type "str") rfl T.z_str (by decide +kernel) rfl) pa_nil))) (pe_one (pe_fk (ok_is_word T) (hr.mono (by omega)) rfl pass0 (pa_cons (pe_ix ix_tup (pv 0) pe_int (fun _ _ => rfl)) pa_nil)))))))
  pss_nil)
  (pss_cons (ps_if (PW.pt (pw_or (pt_cmpR (op_notInK T.D_LENGTHS) (pe_ix ix_tup (pv 0) pe_int (fun _ _ => rfl)) (pe_kd T.D_LENGTHS) (by rfl)) (pw_or1 (pt_cmpR op_ne (pe_callB call_len_seq (by rfl) T.z_len (by decide +kernel) (pa_cons (pv 0) pa_nil)) (pe_ix (ix_K T.D_LENGTHS) (pe_kd T.D_LENGTHS) (pe_ix ix_tup (pv 0) pe_int (fun _ _ => rfl)) (fun _ _ => rfl)) (nomark _)))))
  (pss_one (ps_ret pe_bl))
  pss_nil)
  (pss_one (ps_ret (pe_callB (cr_all rfl) (by rfl) T.z_all (by decide +kernel) (pa_cons (pe_lc (own := [("part", 1)]) (g := gName 1) (tt := tYes) (by rfl) sc_is_recipe.nd (pi_tup (pe_slice sl_tup (pv 0) (po_some pe_int) po_none)) (blkOk_by (own := [("part", 1)]) (N := ["thing", "part"]) (sc := defScope s_is_recipe) (by decide +kernel)) (fun _ _ _ _ _ => (pg_name (i := 1) sc_is_recipe.nd rfl (Or.inl rfl))) (fun _ _ _ _ _ => pts_nil) (fun _ _ _ _ _ => (pe_fk ih (hr.mono (by omega)) rfl pass0 (pa_cons (pv 1) pa_nil)))) pa_nil)))))))), ?_⟩
    have big : 16777216 ≤ sizeLine := by decide
    obtain ⟨pf, zs, rfl, hpf⟩ := ir.hd
    refine seqIf (b := false) (tb_or (b := false) (c := (false || !true)) (tb_not (b := true) fun Q2 kq => ⟨_, rfl, .ref pf, .ty "tuple", _, _, _, rfl, .ty "tuple", .base (.tup hpf), isi_tup, _, rfl, kq _ (Same.refl _)⟩) (fun H2 s2 _ => tb_or (b := false) (c := !true) (fun Q2 kq => ⟨_, rfl, pf, _, rfl, .inr (SqT.of (s2 _ _ hpf)), rfl, _, rfl, (by
      rw [decide_eq_false (fun z => by
        have := V.int.inj z
        rw [List.length_cons] at this
        omega)]
      exact kq _ (Same.refl _))⟩) (fun H3 s3 _ => tb_not (b := true) fun Q2 kq => ⟨_, rfl, pf, _, _, _, rfl, rfl, SqT.of (s3 _ _ (s2 _ _ hpf)), at_of (j := 0) rfl rfl, _, .ty "str", _, _, _, rfl, .ty "str", .base (.str _), isi_str, _, rfl, kq _ (Same.refl _)⟩))) fun H1 s1 => iteF (nxt ?_)
    try dsimp only
    have hp1 := s1 _ _ hpf
    have ir1 := ir.same s1
    refine ⟨_, rfl, pf, _, _, _, rfl, rfl, SqT.of hp1, at_of (j := 0) rfl rfl, rfl, _, rfl, ?_⟩
    rw [decS]
    rcases kids_cases ok with ⟨kk, rfl⟩ | ⟨x, rfl, hx⟩ | ⟨hk, h1, h2, hq, har⟩
    · refine iteP (show decide (("at" : Str) = "at") = true by decide +kernel) ?_
      obtain ⟨p, e', hp⟩ := ir1
      cases e'
      refine ⟨_, rfl, pf, _, rfl, .inr (SqT.of hp), rfl, _, rfl, iteP (show decide (V.int ((2 : Nat) : Int) = V.int 2) = true by decide) ?_⟩
      refine ⟨_, rfl, pf, _, _, _, rfl, rfl, SqT.of hp, at_of (j := 1) rfl rfl, _, .ty "int", _, _, _, rfl, .ty "int", .base (.int _), isi_int, _, rfl, iteP rfl ?_⟩
      exact ⟨_, rfl, pf, _, _, _, rfl, rfl, SqT.of hp, at_of (j := 1) rfl rfl, _, .ty "bool", _, _, _, rfl, .ty "bool", .base (.int _), isi_intb, _, rfl, k _ s1⟩
    · refine iteN (show ¬ decide (("word" : Str) = "at") = true by decide +kernel) (nxt ?_)
      try dsimp only
      refine ⟨_, rfl, pf, _, _, _, rfl, rfl, SqT.of hp1, at_of (j := 0) rfl rfl, rfl, _, rfl, ?_⟩
      rw [decS]
      refine iteP (show decide (("word" : Str) = "word") = true by decide +kernel) ?_
      obtain ⟨p, e', hp⟩ := ir1
      cases e'
      refine ⟨_, rfl, pf, _, rfl, .inr (SqT.of hp), rfl, _, rfl, iteP (show decide (V.int ((2 : Nat) : Int) = V.int 2) = true by decide) ?_⟩
      refine ⟨_, rfl, pf, _, _, _, rfl, rfl, SqT.of hp, at_of (j := 1) rfl rfl, _, .ty "str", _, _, _, rfl, .ty "str", .base (.str _), isi_str, _, rfl, iteP rfl ?_⟩
      refine ⟨_, rfl, pf, _, _, _, rfl, rfl, SqT.of hp, at_of (j := 1) rfl rfl, x, rfl, (by have := (word_len hx).2.1; omega), fun H2 s2 => ?_⟩
      rw [hx]
      exact k _ (s1.trans s2)
    · refine iteN (by rw [decide_eq_false h1]; decide) (nxt ?_)
      try dsimp only
      refine ⟨_, rfl, pf, _, _, _, rfl, rfl, SqT.of hp1, at_of (j := 0) rfl rfl, rfl, _, rfl, ?_⟩
      rw [decS]
      refine iteN (by rw [decide_eq_false h2]; decide) (nxt ?_)
      try dsimp only
      obtain ⟨pf', us, e', hp, hus⟩ := ir1.kids hk
      cases e'
      have hul := hus.len
      have hk12 : r.kids.length ≤ 2 ∧ 1 ≤ r.kids.length := by rcases har with ⟨_, e⟩ | ⟨_, e⟩ <;> omega
      obtain ⟨m, hm, hml⟩ : ∃ m : Int, (r.tag, m) ∈ LNG ∧ m = ((us.length + 1 : Nat) : Int) := by
        rcases har with ⟨e1, e2⟩ | ⟨e1, e2⟩
        · exact ⟨2, lng_un e1, by omega⟩
        · exact ⟨3, lng_bi e1, by omega⟩
      have hmem : r.tag ∈ LNG.map (·.1) := List.mem_map.mpr ⟨_, hm, rfl⟩
      refine seqIf (b := false) (tb_or (b := false) (c := false) (fun Q2 kq => ⟨_, rfl, pf, _, _, _, rfl, rfl, SqT.of hp, at_of (j := 0) rfl rfl, _, rfl, rfl, _, rfl, ?_⟩) (fun H2 s2 _ Q2 kq => ⟨_, rfl, pf, _, rfl, .inr (SqT.of (s2 _ _ hp)), _, rfl, pf, _, _, _, rfl, rfl, SqT.of (s2 _ _ hp), at_of (j := 0) rfl rfl, (r.tag, m), hm, rfl, rfl, rfl, _, rfl, ?_⟩)) fun H2 s2 => iteF (nxt ?_)
      · have e0 : (!decide (r.tag ∈ LNG.map (·.1))) = false := by rw [decide_eq_true hmem]; rfl
        show Q2 (!decide (r.tag ∈ LNG.map (·.1))) _
        rw [e0]
        exact kq _ (Same.refl _)
      · rw [decide_eq_true (show V.int (((V.str r.tag :: us).length : Nat) : Int) = V.int m by rw [hml, List.length_cons])]
        exact kq _ (Same.refl _)
      try dsimp only
      have hp2' := s2 _ _ hp
      refine ⟨_, rfl, _, rfl, pf, _, rfl, SqT.of hp2', ?_, fun p2 hp2 => ?_⟩
      · rintro ⟨z, _⟩
        rw [show (1 : Int) = ((1 : Nat) : Int) from rfl, HT.sIx_nat, List.length_cons] at z
        omega
      rw [cut1]
      have s3 := Rd.Same.upd (o := .tup us) hp2
      refine ⟨p2, rfl, ⟨_, SqT.of upd_same⟩, fun D hD => ?_⟩
      refine lct (C := 0) (fun i H v => v = .bl true) (fun i H H' v kp h => h) (SqT.of upd_same) (by omega) hD (fun i x H4 Q4 hx s4 k4 => ?_) fun vs H4 s4 hD4 hlv hvs => ?_
      · have hil := (List.getElem?_eq_some_iff.mp hx).1
        have hq1 : r.kids[i]? = some (r.kids[i]'(by omega)) := List.getElem?_eq_getElem (by omega)
        obtain ⟨ok1, dp1⟩ := hq _ (List.mem_of_getElem? hq1)
        cases n with
        | zero => exact absurd dp (by omega)
        | succ n => exact ⟨_, rfl, x, _, rfl, (hus.get i _ x hq1 hx).same ((s2.trans s3).trans s4), ok1, (by omega), fun H' s' => k4 _ H' s' rfl⟩
      have ev := bls_of (b := true) hvs
      refine ⟨D, List.replicate vs.length true, rfl, SqL.of (by rw [hD4, ← ev]), ?_⟩
      have e3 : (List.replicate vs.length true).all id = true := by
        rw [List.all_eq_true]
        intro x hx
        rw [(List.mem_replicate.mp hx).2]
        rfl
      rw [e3]
      exact k _ (((s1.trans s2).trans s3).trans s4)
theorem ir_none (T : Tx w K mg) : Fk P w K mg base CX0 2 "is_recipe" ["thing"] (spIRec 0) := by
  refine Fk.mono (j := 1) ?_ (by decide)
  refine T.F_is_recipe.ok0 sc_is_recipe (fun _ _ _ _ _ _ us hl => match us, hl with | [_], _ => rfl) (fun vs H Q E h => h.elim) (fun cdv A outer s H vs Q E hr h => h.elim)
theorem ok_is_recipe (T : Tx w K mg) : ∀ n : Nat, Fk P w K mg base CX0 (n + 3) "is_recipe" ["thing"] (sp_isRec n)
  | 0 => ir_step T 0 (ir_none T)
  | n + 1 => ir_step T (n + 1) (ok_is_recipe T n)
end
end Rd
namespace Rd
open PySem L2
def sp_hrunG (K : PySem.W.Frag) (n : Nat) : Sp := fun vs H Q E => ∃ (h : Addr) (v : V) (ts : List Tr) (r : Rc), vs = [.ref h, v] ∧ IsHp K H h ts ∧ (∀ t ∈ ts, Wf t ∧ t.dep ≤ 100) ∧ ts.length ≤ 100000 ∧ IsR H r v ∧ RcOk r ∧ r.dp ≤ n ∧ n ≤ 110 ∧
  (∀ t, rcx ts r = .inr t → ∀ x H', Same H H' → IsLet K H' t (.ref x) → Q (.ref x) H') ∧
  (∀ e, rcx ts r = .inl e → ∀ d v H', Same H H' → IsR H' e v → H' d = some (.xd [("step", v)]) → E (.ref (He.ga K "NoWay")) (some d) H')
section
variable {P : Program} {w : World} {K : PySem.W.Frag} {mg : Str → Option Value} {base : Heap}
abbrev s_Heap_run : Stmt := inClass (top 48) 4
theorem sc_Heap_run : FnScope ["self", "recipe"] ["self", "recipe"] (defScope s_Heap_run) := ⟨rfl, rfl, rfl, by decide +kernel, rfl, by decide +kernel, by decide +kernel⟩
theorem ok_hrunG (T : Tx w K mg) (n : Nat) : Fm P w K mg base (L2N.CX P w) (n + 33) "Heap" "run" ["self", "recipe"] (sp_hrunG K n) := by
  refine T.M_Heap_run.ok sc_Heap_run (fun _ _ _ _ _ _ us hl => match us, hl with | [_, _], _ => rfl)
    (fun vs H Q E h => ?_) (fun cdv A outer s H vs Q E hr h => ?_)
  · obtain ⟨h, v, ts, r, rfl, _⟩ := h
    rfl
  · obtain ⟨h, v, ts, r, rfl, ⟨dx, q, ws, hh, hq, hts⟩, wt, hl, ir, ok, dp, n110, k1, k0⟩ := h
    refine ⟨_, (pss_cons (ps_if (pt_not (pt_val (pe_fk (ok_is_recipe T n) (hr.mono (by omega)) rfl pass0 (pa_cons (pv 1) pa_nil))))
  pss_never
  pss_nil)
  (pss_one (ps_ret (pe_mk2 (ok_Letter T) (hr.mono (by omega)) (by rfl) passN (pa_cons pe_str (pa_cons (pe_fk (ok_run_recipeG T n) (hr.mono (by omega)) rfl (L2N.passes_call (L2N.takes_of rfl rfl rfl rfl) (fun _ _ _ _ h => h)) (pa_cons (pv 1) (pa_cons (pe_fld (pv 0) rfl) pa_nil))) pa_nil)))))), ?_⟩
    refine seqIf (b := !true) (tb_not (b := true) fun Q2 kq => ⟨_, rfl, v, r, rfl, ir, ok, dp, fun H1 s1 => ⟨_, rfl, kq _ s1⟩⟩) fun H1 s1 => iteF (nxt ?_)
    try dsimp only
    refine ⟨_, rfl, _, rfl, h, _, dx, _, _, rfl, s1 _ _ hh, T.k_Heap, T.n_Heap_trees, lookTr _, v, q, r, ws, ts, rfl, ir.same s1, ok, dp, n110, s1 _ _ hq, hts.same s1, wt, hl, fun t e u H2 s2 iu => ?_, fun e ee d v H2 s2 iv hd => k0 e ee d v H2 (s1.trans s2) iv hd⟩
    obtain ⟨p, us, rfl, hp⟩ := iu.hd
    exact rd_mkL hp fun x' H' s' hl' => k1 t e x' H' ((s1.trans s2).trans s') ⟨x', _, rfl, hl', iu.same s'⟩
end
end Rd
namespace Rd
open PySem L2
def sp_longer : Sp := fun vs H Q _ => ∃ (r : Addr) (v : V) (m : Nat) (ds : List Int) (rc : Rc), vs = [.ref r, v, .int (m : Int)] ∧ H r = some (.lst (ds.map V.int)) ∧ (∀ d ∈ ds, 0 ≤ d ∧ d < 1000) ∧ 32 ≤ ds.length ∧ m ≤ 1000 ∧ IsR H rc v ∧ RcOk rc ∧
  ∀ rc' v' H', Same H H' → RcOk rc' → IsR H' rc' v' → Q v' H'
section
variable {P : Program} {w : World} {K : PySem.W.Frag} {mg : Str → Option Value} {base : Heap}
abbrev s__law_longer : Stmt := top 72
theorem sc__law_longer : FnScope ["_law_draws", "_law_recipe_here", "_law_many", "_law_way_here", "_law_other", "_law_pair"] ["_law_draws", "_law_recipe_here", "_law_many"] (defScope s__law_longer) := ⟨rfl, rfl, rfl, by decide +kernel, rfl, by decide +kernel, by decide +kernel⟩
theorem ok__law_longer (T : Tx w K mg) : Fk P w K mg base CX0 10 "_law_longer" ["_law_draws", "_law_recipe_here", "_law_many"] sp_longer := by
  refine T.F__law_longer.ok0 sc__law_longer (fun _ _ _ _ _ _ us hl => match us, hl with | [_, _, _], _ => rfl)
    (fun vs H Q E h => ?_) (fun cdv A outer s H vs Q E hr h => ?_)
  · obtain ⟨r, v, m, ds, rc, rfl, _⟩ := h
    rfl
  · obtain ⟨r, v, m, ds, rc, rfl, hr0, hds, hlen, hm, ir, ok, k⟩ := h
    refine ⟨_, (pss_cons (ps_set (i := 3) sc__law_longer.nd rfl (Or.inl rfl) (pe_op op_mod (pe_callTy call_int1 (by rfl) T.z_int (by decide +kernel) (pa_cons (pe_ix ix_list (pv 0) pe_int (fun _ _ => rfl)) pa_nil)) pe_int))
  (pss_cons (ps_if (pt_cmpR op_lt (pv 3) pe_int (nomark _))
  (pss_one (ps_ret (pe_tup (pa_cons (pe_ix ix_list (pe_lst (pa_cons pe_str (pa_cons pe_str (pa_cons pe_str (pa_cons pe_str pa_nil))))) (pv 3) (fun _ _ => rfl)) (pa_cons (pv 1) pa_nil)))))
  pss_nil)
  (pss_cons (ps_set (i := 4) sc__law_longer.nd rfl (Or.inl rfl) (pe_fk (ok__law_recipe T 4) (hr.mono (by omega)) rfl pass0 (pa_cons (pv 0) (pa_cons pe_int (pa_cons pe_int (pa_cons (pv 2) pa_nil))))))
  (pss_cons (ps_set (i := 5) sc__law_longer.nd rfl (Or.inl rfl) (pe_ix ix_list (pe_lst (pa_cons (pe_tup (pa_cons (pv 1) (pa_cons (pv 4) pa_nil))) (pa_cons (pe_tup (pa_cons (pv 4) (pa_cons (pv 1) pa_nil))) pa_nil))) (pe_op op_mod (pe_op op_fdiv (pe_callTy call_int1 (by rfl) T.z_int (by decide +kernel) (pa_cons (pe_ix ix_list (pv 0) pe_int (fun _ _ => rfl)) pa_nil)) pe_int) pe_int) (fun _ _ => rfl)))
  (pss_one (ps_ret (pe_callTy call_tuple_of (by rfl) T.z_tuple (by decide +kernel) (pa_cons (pe_op op_cat (pe_lst (pa_cons (pe_ix ix_list (pe_lst (pa_cons pe_str (pa_cons pe_str (pa_cons pe_str (pa_cons pe_str (pa_cons pe_str pa_nil)))))) (pe_op op_sub (pv 3) pe_int) (fun _ _ => rfl)) pa_nil)) (pe_callTy call_list_of (by rfl) T.z_list (by decide +kernel) (pa_cons (pv 5) pa_nil))) pa_nil)))))))), ?_⟩
    have big : 16777216 ≤ sizeLine := by decide
    obtain ⟨d0, dr', rfl⟩ : ∃ d0 dr, ds = d0 :: dr := by
      match ds, hlen with
      | d0 :: dr, _ => exact ⟨d0, dr, rfl⟩
    have w0 : 0 ≤ d0 % 9 := Int.emod_nonneg _ (by decide)
    have w1 : d0 % 9 < 9 := Int.emod_lt_of_pos _ (by decide)
    refine seqAsg ⟨_, rfl, r, _, _, _, rfl, rfl, SqL.of hr0, at_of (j := 0) rfl rfl, .inl ⟨_, rfl, _, _, rfl, rfl, (by show (0 : Int) < 9; decide), ?_⟩⟩
    refine gName_k ?_
    try dsimp only
    refine ⟨_, rfl, _, _, rfl, rfl, _, rfl, ite2 (fun h => ?_) (fun h => nxt ?_)⟩
    · have h := of_decide_eq_true h
      refine ⟨(by show 4 ≤ sizeLine; decide), fun qo hqo => ?_⟩
      have so := Rd.Same.upd (o := .lst [.str "first", .str "second", .str "mark", .str "open"]) hqo
      obtain ⟨j2, z2, hj2, ez2⟩ := atI_of (us := [.str "first", .str "second", .str "mark", .str "open"]) (m := 4) (d := d0 % 9) w0 (by omega) rfl
      obtain ⟨kd, rfl, hkd⟩ : ∃ kd : Str, z2 = .str kd ∧ kd ∈ UNL := by
        match j2, hj2 with
        | 0, h => cases h; exact ⟨_, rfl, by decide +kernel⟩
        | 1, h => cases h; exact ⟨_, rfl, by decide +kernel⟩
        | 2, h => cases h; exact ⟨_, rfl, by decide +kernel⟩
        | 3, h => cases h; exact ⟨_, rfl, by decide +kernel⟩
        | j + 4, h => cases h
      refine ⟨_, rfl, qo, _, _, _, rfl, rfl, SqL.of upd_same, ez2, _, rfl, (by show 2 ≤ sizeLine; decide), fun q hq => ?_⟩
      have sq := Rd.Same.upd (o := .tup [.str kd, v]) hq
      exact k (.un kd rc) _ _ (so.trans sq) ⟨hkd, ok⟩ ⟨q, v, rfl, upd_same, ir.same (so.trans sq)⟩
    try dsimp only
    have h : ¬ (d0 % 9 < 4) := by simpa using h
    refine seqAsg ⟨_, rfl, _, rfl, r, 1, 0, m, d0 :: dr', rfl, hr0, hds, (by decide), rfl, (by omega), hm, (by decide), fun r2 v2 H2 s2 ok2 _ i2 => ?_⟩
    refine gName_k ?_
    try dsimp only
    refine seqAsg ⟨_, rfl, _, rfl, (by show 2 ≤ sizeLine; decide), fun p1 hp1 => ?_⟩
    have s3 := Rd.Same.upd (o := .tup [v, v2]) hp1
    have h31 : upd H2 p1 (.tup [v, v2]) p1 = some (.tup [v, v2]) := upd_same
    generalize upd H2 p1 (.tup [v, v2]) = H3 at s3 h31 ⊢
    refine ⟨_, rfl, _, rfl, (by show 2 ≤ sizeLine; decide), fun p2 hp2 => ?_⟩
    have s4 := Rd.Same.upd (o := .tup [v2, v]) hp2
    have h41 : upd H3 p2 (.tup [v2, v]) p2 = some (.tup [v2, v]) := upd_same
    generalize upd H3 p2 (.tup [v2, v]) = H4 at s4 h41 ⊢
    refine ⟨(by show 2 ≤ sizeLine; decide), fun p3 hp3 => ?_⟩
    have s5 := Rd.Same.upd (o := .lst [.ref p1, .ref p2]) hp3
    have h51 : upd H4 p3 (.lst [.ref p1, .ref p2]) p3 = some (.lst [.ref p1, .ref p2]) := upd_same
    generalize upd H4 p3 (.lst [.ref p1, .ref p2]) = H5 at s5 h51 ⊢
    have S5 := ((s2.trans s3).trans s4).trans s5
    have ir5 := ir.same S5
    have ir52 := i2.same ((s3.trans s4).trans s5)
    obtain ⟨j2, z2, hj2, ez2⟩ := atI_of (us := [.ref p1, .ref p2]) (m := 2) (d := d0 / 9 % 2) (Int.emod_nonneg _ (by decide)) (Int.emod_lt_of_pos _ (by decide)) rfl
    obtain ⟨pp, a1, a2, x1, x2, rfl, hpp, j1, o1, j2', o2⟩ : ∃ (pp : Addr) (a1 a2 : Rc) (x1 x2 : V), z2 = .ref pp ∧ H5 pp = some (.tup [x1, x2]) ∧ IsR H5 a1 x1 ∧ RcOk a1 ∧ IsR H5 a2 x2 ∧ RcOk a2 := by
      match j2, hj2 with
      | 0, h => cases h; exact ⟨p1, rc, r2, v, v2, rfl, (s4.trans s5) _ _ h31, ir5, ok, ir52, ok2⟩
      | 1, h => cases h; exact ⟨p2, r2, rc, v2, v, rfl, s5 _ _ h41, ir52, ok2, ir5, ok⟩
      | j + 2, h => cases h
    refine ⟨_, rfl, r, _, _, _, rfl, rfl, SqL.of (S5 _ _ hr0), at_of (j := 0) rfl rfl, .inl ⟨_, rfl, _, _, rfl, rfl, ⟨by decide, by decide⟩, _, _, rfl, rfl, (by show (0 : Int) < 2; decide), p3, _, _, _, rfl, rfl, SqL.of h51, ez2, ?_⟩⟩
    refine gName_k ?_
    try dsimp only
    refine ⟨(by show 5 ≤ sizeLine; decide), fun qo hqo => ?_⟩
    have s6 := Rd.Same.upd (o := .lst [.str "pair", .str "seal", .str "lock", .str "unseal", .str "unlock"]) hqo
    have h61 : upd H5 qo (.lst [.str "pair", .str "seal", .str "lock", .str "unseal", .str "unlock"]) qo = some (.lst [.str "pair", .str "seal", .str "lock", .str "unseal", .str "unlock"]) := upd_same
    generalize upd H5 qo (.lst [.str "pair", .str "seal", .str "lock", .str "unseal", .str "unlock"]) = H6 at s6 h61 ⊢
    obtain ⟨j3, z3, hj3, ez3⟩ := atI_of (us := [.str "pair", .str "seal", .str "lock", .str "unseal", .str "unlock"]) (m := 5) (d := d0 % 9 - 4) (by omega) (by omega) rfl
    obtain ⟨kd, rfl, hkd⟩ : ∃ kd : Str, z3 = .str kd ∧ kd ∈ BIL := by
      match j3, hj3 with
      | 0, h => cases h; exact ⟨_, rfl, by decide +kernel⟩
      | 1, h => cases h; exact ⟨_, rfl, by decide +kernel⟩
      | 2, h => cases h; exact ⟨_, rfl, by decide +kernel⟩
      | 3, h => cases h; exact ⟨_, rfl, by decide +kernel⟩
      | 4, h => cases h; exact ⟨_, rfl, by decide +kernel⟩
      | j + 5, h => cases h
    refine ⟨_, rfl, _, _, rfl, rfl, qo, _, _, _, rfl, rfl, SqL.of h61, ez3, (by show 1 ≤ sizeLine; decide), fun q7 hq7 => ?_⟩
    have s7 := Rd.Same.upd (o := .lst [.str kd]) hq7
    have h71 : upd H6 q7 (.lst [.str kd]) q7 = some (.lst [.str kd]) := upd_same
    generalize upd H6 q7 (.lst [.str kd]) = H7 at s7 h71 ⊢
    refine ⟨_, rfl, pp, [x1, x2], rfl, .inr (SqT.of ((s6.trans s7) _ _ hpp)), fun q8 hq8 => ?_⟩
    have s8 := Rd.Same.upd (o := .lst [x1, x2]) hq8
    have h81 : upd H7 q8 (.lst [x1, x2]) q8 = some (.lst [x1, x2]) := upd_same
    generalize upd H7 q8 (.lst [x1, x2]) = H8 at s8 h81 ⊢
    refine ⟨q7, q8, _, _, rfl, rfl, s8 _ _ h71, h81, (by show 1 + 2 ≤ sizeLine; decide), fun q9 hq9 => ?_⟩
    have s9 := Rd.Same.upd (o := .lst ([.str kd] ++ [x1, x2])) hq9
    refine ⟨q9, _, rfl, .inl ⟨SqL.of upd_same, fun q10 hq10 => ?_⟩⟩
    have s10 := Rd.Same.upd (o := .tup ([.str kd] ++ [x1, x2])) hq10
    have S := (((s6.trans s7).trans s8).trans s9).trans s10
    exact k (.bi kd a1 a2) _ _ (S5.trans S) ⟨hkd, o1, o2⟩ ⟨q10, x1, x2, rfl, upd_same, j1.same S, j2'.same S⟩
end
end Rd
namespace Rd
open PySem L2
def OkR (H : Hp) (o : Option Rc) (v : V) : Prop := MkV H o v ∧ ∀ r, o = some r → RcOk r
def OkM (H : Hp) (v : V) : Prop := ∃ o, OkR H o v
theorem OkR.mono {C : Addr} {H H' : Hp} {o : Option Rc} {v : V} (k : Kp C H H') (h : OkR H o v) : OkR H' o v := ⟨h.1.mono k, h.2⟩
theorem OkM.mono {C : Addr} {H H' : Hp} {v : V} (k : Kp C H H') (h : OkM H v) : OkM H' v := by
  obtain ⟨o, h⟩ := h
  exact ⟨o, h.mono k⟩
theorem at_choose {β : Type} {R : Hp → β → V → Prop} {H : Hp} : ∀ {vs : List V}, (∀ (i : Nat) v, vs[i]? = some v → ∃ o, R H o v) → ∃ os, AtL R H os vs
  | [], _ => ⟨[], AtL.nil⟩
  | v :: vs, h => by
    obtain ⟨o, ho⟩ := h 0 v rfl
    obtain ⟨os, hos⟩ := at_choose (vs := vs) fun i v hv => h (i + 1) v hv
    refine ⟨o :: os, by rw [List.length_cons, List.length_cons, hos.len], fun i b u h1 h2 => ?_⟩
    cases i with
    | zero => cases h1; cases h2; exact ho
    | succ i => exact hos.get i b u h1 h2
def sp_wayL (d : Nat) : Sp := fun vs H Q _ => ∃ (v : V) (F : Addr) (t : Tr) (l : List (Str × Rc)) (kvs : List (Key × V)), vs = [v, .ref F] ∧ IsT H t v ∧ Wf t ∧ t.dep ≤ d ∧ d ≤ 12 ∧ H F = some (.dK kvs) ∧ AlG IsR H l kvs ∧ (∀ p ∈ l, RcOk p.2) ∧ ∀ u H', Same H H' → OkM H' u → Q u H'
def spWR : Nat → Sp
  | 0 => fun _ _ _ _ => False
  | d + 1 => sp_wayL d
theorem lay_all : ∀ os : List (Option Rc), (∀ o ∈ os, ∀ r, o = some r → RcOk r) → PyData.canLayAll0 (os.map mkd) = true := by
  intro os
  induction os with
  | nil => intro _; rfl
  | cons o os ih =>
    intro h
    show ((mkd o).canLay0 && PyData.canLayAll0 (os.map mkd)) = true
    rw [ih fun o ho => h o (List.mem_cons_of_mem _ ho)]
    cases o with
    | none => rfl
    | some r =>
      show ((rcd r).canLay0 && true) = true
      rw [RcOk.lay (h _ List.mem_cons_self r rfl)]
      rfl
section
variable {P : Program} {w : World} {K : PySem.W.Frag} {mg : Str → Option Value} {base : Heap}
abbrev s__law_built : Stmt := top 65
theorem sc__law_built : FnScope ["_law_form_here", "_law_ways", "_law_inner", "_law_part"] ["_law_form_here", "_law_ways"] (defScope s__law_built) := ⟨rfl, rfl, rfl, by decide +kernel, rfl, by decide +kernel, by decide +kernel⟩
theorem wb_step (T : Tx w K mg) (d : Nat) (ih : Fk P w K mg base CX0 (2 * d + 20) "_law_way" ["_law_form_here", "_law_ways"] (spWR d)) : Fk P w K mg base CX0 (2 * d + 21) "_law_built" ["_law_form_here", "_law_ways"] (sp_wayL d) := by
  refine T.F__law_built.ok0 sc__law_built (fun _ _ _ _ _ _ us hl => match us, hl with | [_, _], _ => rfl)
    (fun vs H Q E h => ?_) (fun cdv A outer s H vs Q E hr h => ?_)
  · obtain ⟨v, F, t, l, kvs, rfl, _⟩ := h
    rfl
  · obtain ⟨v, F, t, l, kvs, rfl, it, wf, dp, d12, hF, al, lok, k⟩ := h
    refine ⟨_, (pss_cons (ps_if (pt_cmpR op_in_seq (pe_ix ix_tup (pv 0) pe_int (fun _ _ => rfl)) (pe_lst (pa_cons pe_str (pa_cons pe_str (pa_cons pe_str (pa_cons pe_str pa_nil))))) (by rfl))
  (pss_one (ps_ret pe_non))
  pss_nil)
  (pss_cons (ps_setLc (i := 2) (own := [("_law_part", 3)]) (g := gName 3) (tt := tYes) (by rfl) sc__law_built.nd rfl rfl (sw_true rfl rfl rfl (by decide +kernel)) (pi_tup (pe_slice sl_tup (pv 0) (po_some pe_int) po_none)) (blkOk_by (own := [("_law_part", 3)]) (N := ["_law_form_here", "_law_ways", "_law_inner", "_law_part"]) (sc := defScope s__law_built) (by decide +kernel)) (fun _ _ _ _ _ => (pg_name (i := 3) sc__law_built.nd rfl (Or.inl rfl))) (fun _ _ _ _ _ => pts_nil) (fun _ _ _ _ _ => (pe_fk ih (hr.mono (by omega)) rfl pass0 (pa_cons (pv 3) (pa_cons (pv 1) pa_nil)))))
  (pss_one (ps_ret (pe_ifExp (pt_cmpR (op_inNone hr.units65) pe_non (pv 2) (by rfl)) pe_non (pe_callTy call_tuple_of (by rfl) T.z_tuple (by decide +kernel) (pa_cons (pe_op op_cat (pe_lst (pa_cons (pe_ix ix_tup (pv 0) pe_int (fun _ _ => rfl)) pa_nil)) (pv 2)) pa_nil))))))), ?_⟩
    have big : 16777216 ≤ sizeLine := by decide
    obtain ⟨pf, us, rfl, hp⟩ := it.hd
    refine ⟨_, rfl, pf, _, _, _, rfl, rfl, SqT.of hp, at_of (j := 0) rfl rfl, (by show 4 ≤ sizeLine; decide), fun q0 hq0 => ?_⟩
    have s0 := Rd.Same.upd (o := .lst [.str "word", .str "name", .str "own", .str "unknown"]) hq0
    refine ⟨q0, _, rfl, .inl (SqL.of upd_same), rfl, rfl, _, rfl, ?_⟩
    rw [if_neg Bool.false_ne_true, show inV (V.str t.head) [.str "word", .str "name", .str "own", .str "unknown"] = decide (t.head ∈ (["word", "name", "own", "unknown"] : List Str)) from inV_strs t.head ["word", "name", "own", "unknown"]]
    generalize upd H q0 (.lst [.str "word", .str "name", .str "own", .str "unknown"]) = H0 at s0 ⊢
    by_cases hm : t.head ∈ (["word", "name", "own", "unknown"] : List Str)
    · refine iteP (decide_eq_true hm) ?_
      exact k _ _ s0 ⟨none, .inl ⟨rfl, rfl⟩, fun r e => by cases e⟩
    · refine iteN (by rw [decide_eq_false hm]; decide) (nxt ?_)
      try dsimp only
      have hpt : t.parts ≠ [] := by
        rcases wf.shp with ⟨k0, x, rfl, ko⟩ | ⟨s, a, rfl, _, _⟩ | ⟨s, a, b, rfl, _⟩
        · exfalso
          have hm : k0 ∉ (["word", "name", "own", "unknown"] : List Str) := hm
          rcases ko with ⟨rfl, _⟩ | ⟨rfl, _⟩ | ⟨rfl, _⟩
          · exact hm (by decide +kernel)
          · exact hm (by decide +kernel)
          · exact hm (by decide +kernel)
        · exact fun e => by cases e
        · exact fun e => by cases e
      obtain ⟨hsg, hws⟩ := wf.sign hpt
      have it0 := it.same s0
      have hp0 := s0 _ _ hp
      obtain ⟨pf', us', e', hp', hlu, hl2, hne, hus⟩ := it0.parts hpt
      cases e'
      rw [hp0] at hp'
      cases hp'
      refine seqAsg ⟨_, rfl, _, rfl, pf, _, rfl, SqT.of hp0, ?_, fun p2 hp2 => ?_⟩
      · rintro ⟨z, _⟩
        rw [show (1 : Int) = ((1 : Nat) : Int) from rfl, HT.sIx_nat, List.length_cons] at z
        omega
      rw [cut1]
      have s2 := Rd.Same.upd (o := .tup us) hp2
      refine ⟨p2, rfl, ⟨_, SqT.of upd_same⟩, fun D hD => ?_⟩
      refine lct (C := 0) (fun i H v => OkM H v) (fun i H H' v kp h => h.mono kp) (SqT.of upd_same) (by omega) hD (fun i x H1 Q1 hx s3 k1 => ?_) fun vs H3 s3 hD3 hlv hvs => ?_
      · obtain ⟨r, hr1, hr2⟩ := hus i x hx
        obtain ⟨w1, w2⟩ := hws r (List.mem_of_getElem? hr1)
        have s01 := (s0.trans s2).trans s3
        cases d with
        | zero => exact absurd dp (by omega)
        | succ d => exact ⟨_, rfl, _, rfl, x, F, r, l, kvs, rfl, hr2.same (s2.trans s3), w1, (by omega), (by omega), s01 _ _ hF, al.mono (fun t v h => h.same s01), lok, fun u H' s' hu => k1 _ H' s' hu⟩
      have S3 := (s0.trans s2).trans s3
      obtain ⟨os, hla⟩ := at_choose (R := OkR) hvs
      have hok : ∀ o ∈ os, ∀ r, o = some r → RcOk r := fun o ho r e => by
        obtain ⟨i, hi⟩ := List.mem_iff_getElem?.mp ho
        have hlen := hla.len
        have hil := (List.getElem?_eq_some_iff.mp hi).1
        exact (hla.get i o _ hi (List.getElem?_eq_getElem (by omega))).2 r e
      refine gName_k ?_
      try dsimp only
      have hdl : DpAll K H3 vs (os.map mkd) := dpAll_at (R := OkR) (fun r v h => h.1.dp) hla
      refine ⟨_, rfl, os.map mkd, rfl, .lst (SqL.of hD3) hdl, lay_all os hok, _, rfl, ?_⟩
      rw [any_none]
      refine ite2 (fun h1 => k _ _ S3 ⟨none, .inl ⟨rfl, rfl⟩, fun r e => by cases e⟩) (fun h1 => ?_)
      have h1 : os.any Option.isNone = false := by
        cases e : os.any Option.isNone with
        | true => exact absurd e h1
        | false => rfl
      have hpt3 := (s2.trans s3) _ _ hp0
      refine ⟨_, rfl, pf, _, _, _, rfl, rfl, SqT.of hpt3, at_of (j := 0) rfl rfl, (by show 1 ≤ sizeLine; decide), fun q4 hq4 => ?_⟩
      have s4 := Rd.Same.upd (o := .lst [.str t.head]) hq4
      have h41 : upd H3 q4 (.lst [.str t.head]) q4 = some (.lst [.str t.head]) := upd_same
      generalize upd H3 q4 (.lst [.str t.head]) = H4 at s4 h41 ⊢
      refine ⟨_, rfl, q4, D, _, _, rfl, rfl, h41, s4 _ _ hD3, (by show 1 + vs.length ≤ sizeLine; omega), fun q5 hq5 => ?_⟩
      have s5 := Rd.Same.upd (o := .lst ([.str t.head] ++ vs)) hq5
      refine ⟨q5, _, rfl, .inl ⟨SqL.of upd_same, fun q6 hq6 => ?_⟩⟩
      have s6 := Rd.Same.upd (o := .tup ([.str t.head] ++ vs)) hq6
      have s36 := (s4.trans s5).trans s6
      have S6 := S3.trans s36
      have hsome : ∀ (i : Nat) v, vs[i]? = some v → ∃ r, IsR H3 r v ∧ RcOk r := fun i v hv => by
        have hlen := hla.len
        have hil := (List.getElem?_eq_some_iff.mp hv).1
        have ho : os[i]? = some (os[i]'(by omega)) := List.getElem?_eq_getElem (by omega)
        obtain ⟨m, mo⟩ := hla.get i _ v ho hv
        rcases m with ⟨e, _⟩ | ⟨r, e, ir⟩
        · exfalso
          have : os.any Option.isNone = true := List.any_eq_true.mpr ⟨_, List.mem_of_getElem? ho, by rw [e]; rfl⟩
          rw [this] at h1
          cases h1
        · exact ⟨r, ir, mo r e⟩
      rcases wf.shp with ⟨k0, x, rfl, ko⟩ | ⟨sg, a, rfl, hs, _⟩ | ⟨sg, a, b, rfl, hs, _⟩
      · exact absurd rfl hpt
      · obtain ⟨v1, rfl⟩ : ∃ v1, vs = [v1] := by
          match vs, hlv.trans hlu with
          | [v1], _ => exact ⟨v1, rfl⟩
        obtain ⟨r1, i1, o1⟩ := hsome 0 v1 rfl
        have hkd : sg ∈ UNL := by
          have : ∀ z ∈ (["mark", "open", "own"] : List Str), z ∉ (["word", "name", "own", "unknown"] : List Str) → z ∈ UNL := by decide +kernel
          exact this sg hs hm
        exact k _ _ S6 ⟨some (.un sg r1), .inr ⟨_, rfl, q6, v1, rfl, upd_same, i1.same s36⟩, fun r e => by cases e; exact ⟨hkd, o1⟩⟩
      · obtain ⟨v1, v2, rfl⟩ : ∃ v1 v2, vs = [v1, v2] := by
          match vs, hlv.trans hlu with
          | [v1, v2], _ => exact ⟨v1, v2, rfl⟩
        obtain ⟨r1, i1, o1⟩ := hsome 0 v1 rfl
        obtain ⟨r2, i2, o2⟩ := hsome 1 v2 rfl
        have hkd : sg ∈ BIL := by
          have : ∀ z ∈ (["pair", "seal", "lock"] : List Str), z ∈ BIL := by decide +kernel
          exact this sg hs
        exact k _ _ S6 ⟨some (.bi sg r1 r2), .inr ⟨_, rfl, q6, v1, v2, rfl, upd_same, i1.same s36, i2.same s36⟩, fun r e => by cases e; exact ⟨hkd, o1, o2⟩⟩
abbrev s__law_way : Stmt := top 64
theorem sc__law_way : FnScope ["_law_form_here", "_law_ways"] ["_law_form_here", "_law_ways"] (defScope s__law_way) := ⟨rfl, rfl, rfl, by decide +kernel, rfl, by decide +kernel, by decide +kernel⟩
theorem wl_step (T : Tx w K mg) (d : Nat) (bd : Fk P w K mg base CX0 (2 * d + 21) "_law_built" ["_law_form_here", "_law_ways"] (sp_wayL d)) : Fk P w K mg base CX0 (2 * d + 22) "_law_way" ["_law_form_here", "_law_ways"] (sp_wayL d) := by
  refine T.F__law_way.ok0 sc__law_way (fun _ _ _ _ _ _ us hl => match us, hl with | [_, _], _ => rfl)
    (fun vs H Q E h => ?_) (fun cdv A outer s H vs Q E hr h => ?_)
  · obtain ⟨v, F, t, l, kvs, rfl, _⟩ := h
    rfl
  · obtain ⟨v, F, t, l, kvs, rfl, it, wf, dp, d12, hF, al, lok, k⟩ := h
    refine ⟨_, (pss_cons (ps_if (pt_cmpR op_eq (pe_ix ix_tup (pv 0) pe_int (fun _ _ => rfl)) pe_str (nomark _))
  (pss_one (ps_ret (pv 0)))
  pss_nil)
  (pss_cons (ps_if (pt_cmp (pc_din (hu_of hr) (pe_fk (ok__law_text T d) (hr.mono (by omega)) rfl pass0 (pa_cons (pv 0) pa_nil)) (pv 1)))
  (pss_one (ps_ret (pe_dget (hu_of hr) (pv 1) (pe_fk (ok__law_text T d) (hr.mono (by omega)) rfl pass0 (pa_cons (pv 0) pa_nil)) (fun _ _ => rfl))))
  pss_nil)
  (pss_one (ps_ret (pe_fk bd (hr.mono (by omega)) rfl pass0 (pa_cons (pv 0) (pa_cons (pv 1) pa_nil))))))), ?_⟩
    obtain ⟨pf, us, rfl, hp⟩ := it.hd
    refine ⟨_, rfl, pf, _, _, _, rfl, rfl, SqT.of hp, at_of (j := 0) rfl rfl, rfl, _, rfl, ?_⟩
    rw [decS]
    by_cases hw : t.head = "word"
    · refine iteP (decide_eq_true hw) ?_
      obtain ⟨x, rfl, _⟩ := mkR_word (W := []) wf hw
      have hx : isWord x = true := by
        rcases wf.shp with ⟨_, _, e, ko⟩ | ⟨_, _, e, _⟩ | ⟨_, _, _, e, _⟩
        · cases e
          rcases ko with ⟨_, h⟩ | ⟨e, _⟩ | ⟨e, _⟩
          · exact h
          · exact absurd e (by decide +kernel)
          · exact absurd e (by decide +kernel)
        · cases e
        · cases e
      exact ⟨_, rfl, k _ _ (Same.refl _) ⟨some (.wd x), .inr ⟨_, rfl, it⟩, fun r e => by cases e; exact hx⟩⟩
    · refine iteN (by rw [decide_eq_false hw]; decide) (nxt ?_)
      try dsimp only
      refine ⟨_, rfl, _, t, rfl, it, wf, dp, d12, fun H1 s1 => ⟨_, rfl, F, _, rfl, DGet.k (k := .inr (textOf t)) (s1 _ _ hF), _, rfl, ?_⟩⟩
      have hF1 := s1 _ _ hF
      have al1 := al.mono fun t v (h : IsR H t v) => h.same s1
      cases el : lookG l (textOf t) with
      | some r =>
        obtain ⟨v0, e0, hv0⟩ := (al1.look (x := textOf t)).1 r el
        rw [e0]
        refine iteP (by simp) ?_
        refine ⟨_, rfl, _, rfl, _, t, rfl, it.same s1, wf, dp, d12, fun H2 s2 => ⟨F, _, rfl, (by rw [← e0]; exact DGet.k (k := .inr (textOf t)) (s2 _ _ hF1)), ?_⟩⟩
        exact k _ _ (s1.trans s2) ⟨some r, .inr ⟨r, rfl, hv0.same s2⟩, fun r' e => by cases e; exact lok _ (lookG_mem el)⟩
      | none =>
        have hv0 := (al1.look (x := textOf t)).2 el
        rw [hv0]
        refine iteN (by simp) (nxt ?_)
        try dsimp only
        exact ⟨_, rfl, _, rfl, _, F, t, l, kvs, rfl, it.same s1, wf, dp, d12, hF1, al1, lok, fun u H2 s2 hu => k _ _ (s1.trans s2) hu⟩
theorem wl_none (T : Tx w K mg) : Fk P w K mg base CX0 20 "_law_way" ["_law_form_here", "_law_ways"] (spWR 0) := by
  refine Fk.mono (j := 1) ?_ (by decide)
  refine T.F__law_way.ok0 sc__law_way (fun _ _ _ _ _ _ us hl => match us, hl with | [_, _], _ => rfl) (fun vs H Q E h => h.elim) (fun cdv A outer s H vs Q E hr h => h.elim)
theorem ok__law_way (T : Tx w K mg) : ∀ d : Nat, Fk P w K mg base CX0 (2 * d + 22) "_law_way" ["_law_form_here", "_law_ways"] (sp_wayL d)
  | 0 => wl_step T 0 (wb_step T 0 (wl_none T))
  | d + 1 => wl_step T (d + 1) (wb_step T (d + 1) (ok__law_way T d))
end
end Rd
namespace Rd
open PySem L2
def sp_openings (d : Nat) : Sp := fun vs H Q _ => ∃ (v rv : V) (F : Addr) (t : Tr) (rc : Rc) (l : List (Str × Rc)) (kvs : List (Key × V)), vs = [v, rv, .ref F] ∧ IsT H t v ∧ Wf t ∧ t.dep ≤ d ∧ d ≤ 12 ∧ IsR H rc rv ∧ RcOk rc ∧ H F = some (.dK kvs) ∧ AlG IsR H l kvs ∧ (∀ p ∈ l, RcOk p.2) ∧
  ∀ q ps os H', Same H H' → H q = none → H' q = some (.lst ps) → AtL IsW H' os ps → os.length ≤ 2 → (∀ p ∈ os, p.1 ∈ t.all ∧ RcOk p.2) → Q (.ref q) H'
theorem unseal_of {s : Str} (h : s ∈ (["seal", "lock"] : List Str)) : ("un" : Str) ++ s ∈ BIL := by
  have h : s = "seal" ∨ s = "lock" := by simpa using h
  rcases h with rfl | rfl <;> decide +kernel
section
variable {P : Program} {w : World} {K : PySem.W.Frag} {mg : Str → Option Value} {base : Heap}
abbrev s__law_openings : Stmt := top 66
theorem sc__law_openings : FnScope ["_law_form_here", "_law_recipe_here", "_law_ways", "_law_key"] ["_law_form_here", "_law_recipe_here", "_law_ways"] (defScope s__law_openings) := ⟨rfl, rfl, rfl, by decide +kernel, rfl, by decide +kernel, by decide +kernel⟩
theorem ok__law_openings (T : Tx w K mg) (d : Nat) : Fk P w K mg base CX0 (2 * d + 30) "_law_openings" ["_law_form_here", "_law_recipe_here", "_law_ways"] (sp_openings d) := by
  refine T.F__law_openings.ok0 sc__law_openings (fun _ _ _ _ _ _ us hl => match us, hl with | [_, _, _], _ => rfl)
    (fun vs H Q E h => ?_) (fun cdv A outer s H vs Q E hr h => ?_)
  · obtain ⟨v, rv, F, t, rc, l, kvs, rfl, _⟩ := h
    rfl
  · obtain ⟨v, rv, F, t, rc, l, kvs, rfl, it, wf, dp, d12, ir, ok, hF, al, lok, k⟩ := h
    refine ⟨_, (pss_cons (ps_if (pt_cmpR op_eq (pe_ix ix_tup (pv 0) pe_int (fun _ _ => rfl)) pe_str (nomark _))
  (pss_one (ps_ret (pe_lst (pa_cons (pe_tup (pa_cons (pe_ix ix_tup (pv 0) pe_int (fun _ _ => rfl)) (pa_cons (pe_tup (pa_cons pe_str (pa_cons (pv 1) pa_nil))) pa_nil))) (pa_cons (pe_tup (pa_cons (pe_ix ix_tup (pv 0) pe_int (fun _ _ => rfl)) (pa_cons (pe_tup (pa_cons pe_str (pa_cons (pv 1) pa_nil))) pa_nil))) pa_nil)))))
  pss_nil)
  (pss_cons (ps_if (pt_cmpR op_in_seq (pe_ix ix_tup (pv 0) pe_int (fun _ _ => rfl)) (pe_lst (pa_cons pe_str (pa_cons pe_str pa_nil))) (by rfl))
  (pss_cons (ps_set (i := 3) sc__law_openings.nd rfl (Or.inl rfl) (pe_fk (ok__law_way T d) (hr.mono (by omega)) rfl pass0 (pa_cons (pe_fk (ok__law_undoing T) (hr.mono (by omega)) rfl pass0 (pa_cons (pv 0) pa_nil)) (pa_cons (pv 2) pa_nil))))
  (pss_one (ps_ret (pe_ifExp (pt_cmpR op_isN (pv 3) pe_non (nomark _)) (pe_lst pa_nil) (pe_lst (pa_cons (pe_tup (pa_cons (pe_ix ix_tup (pv 0) pe_int (fun _ _ => rfl)) (pa_cons (pe_tup (pa_cons (pe_op op_add_str pe_str (pe_ix ix_tup (pv 0) pe_int (fun _ _ => rfl))) (pa_cons (pv 1) (pa_cons (pv 3) pa_nil)))) pa_nil))) pa_nil))))))
  pss_nil)
  (pss_one (ps_ret (pe_lst pa_nil))))), ?_⟩
    obtain ⟨pf, us, rfl, hp⟩ := it.hd
    refine ⟨_, rfl, pf, _, _, _, rfl, rfl, SqT.of hp, at_of (j := 0) rfl rfl, rfl, _, rfl, ?_⟩
    rw [decS]
    by_cases hpr : t.head = "pair"
    · refine iteP (decide_eq_true hpr) ?_
      obtain ⟨c, b, rfl⟩ : ∃ c b, t = .bi "pair" c b := by
        rcases wf.shp with ⟨k0, x0, rfl, ko⟩ | ⟨s0, a0, rfl, hs, _⟩ | ⟨s0, a0, b0, rfl, hs, wa, wb⟩
        · rcases ko with ⟨rfl, _⟩ | ⟨rfl, _⟩ | ⟨rfl, _⟩
          · exact absurd (show ("word" : Str) = "pair" from hpr) (by decide +kernel)
          · exact absurd (show ("name" : Str) = "pair" from hpr) (by decide +kernel)
          · exact absurd (show ("unknown" : Str) = "pair" from hpr) (by decide +kernel)
        · have : ∀ z ∈ (["mark", "open", "own"] : List Str), z ≠ "pair" := by decide +kernel
          exact absurd hpr (this s0 hs)
        · have hp : s0 = "pair" := hpr
          subst hp
          exact ⟨a0, b0, rfl⟩
      obtain ⟨pf', u1, u2, e', hp', i1, i2⟩ := id it
      cases e'
      refine ⟨_, rfl, pf, _, _, _, rfl, rfl, SqT.of hp', at_of (j := 1) rfl rfl, _, rfl, (by show 2 ≤ sizeLine; decide), fun q1 hq1 => ?_⟩
      have s1 := Rd.Same.upd (o := .tup [.str "first", rv]) hq1
      have h11 : upd H q1 (.tup [.str "first", rv]) q1 = some (.tup [.str "first", rv]) := upd_same
      generalize upd H q1 (.tup [.str "first", rv]) = H1 at s1 h11 ⊢
      refine ⟨(by show 2 ≤ sizeLine; decide), fun q2 hq2 => ?_⟩
      have s2 := Rd.Same.upd (o := .tup [u1, .ref q1]) hq2
      have h21 : upd H1 q2 (.tup [u1, .ref q1]) q2 = some (.tup [u1, .ref q1]) := upd_same
      generalize upd H1 q2 (.tup [u1, .ref q1]) = H2 at s2 h21 ⊢
      refine ⟨_, rfl, pf, _, _, _, rfl, rfl, SqT.of ((s1.trans s2) _ _ hp'), at_of (j := 2) rfl rfl, _, rfl, (by show 2 ≤ sizeLine; decide), fun q3 hq3 => ?_⟩
      have s3 := Rd.Same.upd (o := .tup [.str "second", rv]) hq3
      have h31 : upd H2 q3 (.tup [.str "second", rv]) q3 = some (.tup [.str "second", rv]) := upd_same
      generalize upd H2 q3 (.tup [.str "second", rv]) = H3 at s3 h31 ⊢
      refine ⟨(by show 2 ≤ sizeLine; decide), fun q4 hq4 => ?_⟩
      have s4 := Rd.Same.upd (o := .tup [u2, .ref q3]) hq4
      have h41 : upd H3 q4 (.tup [u2, .ref q3]) q4 = some (.tup [u2, .ref q3]) := upd_same
      generalize upd H3 q4 (.tup [u2, .ref q3]) = H4 at s4 h41 ⊢
      refine ⟨(by show 2 ≤ sizeLine; decide), fun q5 hq5 => ?_⟩
      have s5 := Rd.Same.upd (o := .lst [.ref q2, .ref q4]) hq5
      have S := (((s1.trans s2).trans s3).trans s4).trans s5
      have w1 : IsW (upd H4 q5 (.lst [.ref q2, .ref q4])) (c, .un "first" rc) (.ref q2) := ⟨q2, u1, .ref q1, rfl, ((s3.trans s4).trans s5) _ _ h21, i1.same S, q1, rv, rfl, (((s2.trans s3).trans s4).trans s5) _ _ h11, ir.same S⟩
      have w2 : IsW (upd H4 q5 (.lst [.ref q2, .ref q4])) (b, .un "second" rc) (.ref q4) := ⟨q4, u2, .ref q3, rfl, s5 _ _ h41, i2.same S, q3, rv, rfl, (s4.trans s5) _ _ h31, ir.same S⟩
      refine k q5 _ [(c, .un "first" rc), (b, .un "second" rc)] _ S ((((s1.trans s2).trans s3).trans s4).free hq5) upd_same ((AtL.nil.snoc w1).snoc w2) (Nat.le_refl _) fun p hp => ?_
      have hp : p = (c, .un "first" rc) ∨ p = (b, .un "second" rc) := by simpa using hp
      rcases hp with rfl | rfl
      · exact ⟨all_l, by decide +kernel, ok⟩
      · exact ⟨all_r, by decide +kernel, ok⟩
    · refine iteN (by rw [decide_eq_false hpr]; decide) (nxt ?_)
      try dsimp only
      refine ⟨_, rfl, pf, _, _, _, rfl, rfl, SqT.of hp, at_of (j := 0) rfl rfl, (by show 2 ≤ sizeLine; decide), fun q0 hq0 => ?_⟩
      have s0 := Rd.Same.upd (o := .lst [.str "seal", .str "lock"]) hq0
      refine ⟨q0, _, rfl, .inl (SqL.of upd_same), rfl, rfl, _, rfl, ?_⟩
      rw [if_neg Bool.false_ne_true, show inV (V.str t.head) [.str "seal", .str "lock"] = decide (t.head ∈ (["seal", "lock"] : List Str)) from inV_strs t.head ["seal", "lock"]]
      have n0 : ∀ q, upd H q0 (.lst [.str "seal", .str "lock"]) q = none → H q = none := fun q => s0.free
      generalize upd H q0 (.lst [.str "seal", .str "lock"]) = H0 at s0 n0 ⊢
      by_cases hs : t.head ∈ (["seal", "lock"] : List Str)
      · refine iteP (decide_eq_true hs) ?_
        have sh := shut_iff wf
        rw [decide_eq_true hs] at sh
        obtain ⟨key, ek⟩ := Option.isSome_iff_exists.mp sh.symm
        obtain ⟨wk, dk⟩ := ukey_wf wf ek
        obtain ⟨sg, c, k', rfl⟩ : ∃ sg c k', t = .bi sg c k' := by
          rcases ukey_inv wf ek with ⟨c, e⟩ | ⟨c, s', k', e, _⟩
          · exact ⟨_, c, _, e⟩
          · exact ⟨_, c, _, e⟩
        refine seqAsg ⟨_, rfl, _, _, key, rfl, it.same s0, wf, ek, fun u6 H6 s6 ik => ⟨_, rfl, u6, F, key, l, kvs, rfl, ik, wk, (by omega), d12, (s0.trans s6) _ _ hF, al.mono (fun t v h => h.same (s0.trans s6)), lok, fun u7 H7 s7 hok => ?_⟩⟩
        refine gName_k ?_
        try dsimp only
        have S7 := (s0.trans s6).trans s7
        obtain ⟨o, m, mo⟩ := hok
        rcases m with ⟨rfl, rfl⟩ | ⟨kr, rfl, ikr⟩
        · refine ⟨_, rfl, rfl, _, rfl, iteP (decide_eq_true rfl) ⟨Nat.zero_le _, fun q hq => ?_⟩⟩
          exact k q [] [] _ (S7.trans (Rd.Same.upd hq)) (S7.free hq) upd_same AtL.nil (Nat.zero_le _) fun p hp => by cases hp
        · obtain ⟨pk, zk, rfl, _⟩ := ikr.hd
          refine ⟨_, rfl, rfl, _, rfl, iteN (by rw [decide_eq_false (fun z => by cases z)]; decide) ?_⟩
          obtain ⟨pf', u1, u2, e', hp', i1, i2⟩ := it.same S7
          cases e'
          have hsl : (("un" : Str)).length + sg.length ≤ sizeLine := by
            have : ∀ z ∈ (["seal", "lock"] : List Str), ("un" : Str).length + z.length ≤ 16777216 := by decide +kernel
            exact Nat.le_trans (this sg hs) (by decide)
          refine ⟨_, rfl, pf, _, _, _, rfl, rfl, SqT.of hp', at_of (j := 1) rfl rfl, _, rfl, pf, _, _, _, rfl, rfl, SqT.of hp', at_of (j := 0) rfl rfl, _, _, rfl, rfl, hsl, _, rfl, _, rfl, (by show 3 ≤ sizeLine; decide), fun q1 hq1 => ?_⟩
          have s8 := Rd.Same.upd (o := .tup [.str (("un" : Str) ++ sg), rv, .ref pk]) hq1
          have h81 : upd H7 q1 (.tup [.str (("un" : Str) ++ sg), rv, .ref pk]) q1 = some (.tup [.str (("un" : Str) ++ sg), rv, .ref pk]) := upd_same
          refine ⟨(by show 2 ≤ sizeLine; decide), fun q2 hq2 => ?_⟩
          have s9 := Rd.Same.upd (o := .tup [u1, .ref q1]) hq2
          have h91 : upd (upd H7 q1 (.tup [.str (("un" : Str) ++ sg), rv, .ref pk])) q2 (.tup [u1, .ref q1]) q2 = some (.tup [u1, .ref q1]) := upd_same
          refine ⟨(by show 1 ≤ sizeLine; decide), fun q3 hq3 => ?_⟩
          have s10 := Rd.Same.upd (o := .lst [.ref q2]) hq3
          have S := (s8.trans s9).trans s10
          refine k q3 [.ref q2] [(c, .bi (("un" : Str) ++ sg) rc kr)] _ (S7.trans S) ((S7.trans (s8.trans s9)).free hq3) upd_same (AtL.nil.snoc ⟨q2, u1, .ref q1, rfl, s10 _ _ h91, i1.same S, q1, rv, .ref pk, rfl, (s9.trans s10) _ _ h81, ir.same (S7.trans S), ikr.same S⟩) (by simp) fun p hp => ?_
          rw [List.mem_singleton.mp hp]
          exact ⟨all_l, unseal_of hs, ok, mo kr rfl⟩
      · refine iteN (by rw [decide_eq_false hs]; decide) (nxt ?_)
        try dsimp only
        refine ⟨Nat.zero_le _, fun q hq => ?_⟩
        exact k q [] [] _ (s0.trans (Rd.Same.upd hq)) (n0 q hq) upd_same AtL.nil (Nat.zero_le _) fun p hp => by cases hp
end
end Rd
namespace Rd
open PySem L2
structure WIv (fs : List Tr) (l : List (Str × Rc)) (rs : List Tr) : Prop where
  tx : l.map (·.1) = rs.map textOf
  nd : (l.map (·.1)).Nodup
  sub : ∀ t ∈ rs, t ∈ allOf fs
  ok : ∀ p ∈ l, RcOk p.2
theorem WIv.nil {fs : List Tr} : WIv fs [] [] := ⟨rfl, List.nodup_nil, (fun t h => by cases h), fun p h => by cases h⟩
theorem WIv.len {fs : List Tr} {l : List (Str × Rc)} {rs : List Tr} (h : WIv fs l rs) : l.length = rs.length := by
  have := congrArg List.length h.tx
  simpa using this
theorem WIv.le {fs : List Tr} {l : List (Str × Rc)} {rs : List Tr} (h : WIv fs l rs) : rs.length ≤ (allOf fs).length := by
  have nd : rs.Nodup := by
    have : (rs.map textOf).Nodup := by rw [← h.tx]; exact h.nd
    exact List.Pairwise.of_map textOf (fun a b e z => e (by rw [z])) this
  exact nodup_sub nd h.sub
theorem WIv.put {fs : List Tr} {l : List (Str × Rc)} {rs : List Tr} (h : WIv fs l rs) {t : Tr} {r : Rc} (ht : t ∈ allOf fs) (ok : RcOk r) (hn : lookG l (textOf t) = none) : WIv fs (l ++ [(textOf t, r)]) (rs ++ [t]) := by
  refine ⟨by rw [List.map_append, List.map_append, h.tx]; rfl, ?_, fun u hu => ?_, fun p hp => ?_⟩
  · rw [List.map_append, List.nodup_append]
    refine ⟨h.nd, by simp, fun x hx y hy e => ?_⟩
    have hy : y = textOf t := by simpa using hy
    subst e
    rw [hy] at hx
    exact lookG_none hn hx
  · rcases List.mem_append.mp hu with hu | hu
    · exact h.sub u hu
    · rw [List.mem_singleton.mp hu]; exact ht
  · rcases List.mem_append.mp hp with hp | hp
    · exact h.ok p hp
    · rw [List.mem_singleton.mp hp]; exact ok
theorem WIv.has {fs : List Tr} {l : List (Str × Rc)} {rs : List Tr} (h : WIv fs l rs) {t : Tr} (ht : t ∈ rs) : ∃ r, lookG l (textOf t) = some r ∧ RcOk r := by
  obtain ⟨r, hr⟩ := lookG_some (l := l) (x := textOf t) (by rw [h.tx]; exact List.mem_map.mpr ⟨t, ht, rfl⟩)
  exact ⟨r, hr, h.ok _ (lookG_mem hr)⟩
def B2 (F R : Addr) (H0 Hc : Hp) : Prop := ∀ c o, c ≠ F → c ≠ R → H0 c = some o → Hc c = some o
theorem B2.refl {F R : Addr} {H0 : Hp} : B2 F R H0 H0 := fun _ _ _ _ e => e
theorem B2.same {F R : Addr} {H0 Hc H' : Hp} (b : B2 F R H0 Hc) (s : Same Hc H') : B2 F R H0 H' := fun c o h1 h2 e => s _ _ (b c o h1 h2 e)
theorem B2.updF {F R : Addr} {H0 Hc : Hp} {o : HO} (b : B2 F R H0 Hc) : B2 F R H0 (upd Hc F o) := fun c o h1 h2 e => by rw [upd_ne h1]; exact b c o h1 h2 e
theorem B2.updR {F R : Addr} {H0 Hc : Hp} {o : HO} (b : B2 F R H0 Hc) : B2 F R H0 (upd Hc R o) := fun c o h1 h2 e => by rw [upd_ne h2]; exact b c o h1 h2 e
theorem B2.kp {F R : Addr} {H0 Hc : Hp} {C : Addr} {kv : List (Key × V)} {xs : List V} (b : B2 F R H0 Hc) (hF : H0 F = some (.dK kv)) (hR : H0 R = some (.lst xs)) : Kp C H0 Hc := fun c o hi e => b c o (fun z => by rw [z, hF] at e; cases e; cases hi) (fun z => by rw [z, hR] at e; cases e; cases hi) e
theorem kp_updF {F : Addr} {H0 : Hp} {C : Addr} {kv kv' : List (Key × V)} (hF : H0 F = some (.dK kv)) : Kp C H0 (upd H0 F (.dK kv')) := fun c o hi e => by
  rw [upd_ne (fun z => by rw [z, hF] at e; cases e; cases hi)]
  exact e
theorem B2.trans {F R : Addr} {H0 H1 H2 : Hp} (a : B2 F R H0 H1) (b : B2 F R H1 H2) : B2 F R H0 H2 := fun c o h1 h2 e => b c o h1 h2 (a c o h1 h2 e)
/-- one of the two that grow -/
structure WSt (F R : Addr) (H1 : Hp) (fs : List Tr) (kvs : List (Key × V)) (l : List (Str × Rc)) (us : List V) (rs : List Tr) (Hc : Hp) : Prop where
  b : B2 F R H1 Hc
  hF : Hc F = some (.dK kvs)
  hR : Hc R = some (.lst us)
  al : AlG IsR Hc l kvs
  at_ : TsAt Hc rs us
  iv : WIv fs l rs
theorem WSt.same {F R : Addr} {H1 Hc H' : Hp} {fs rs : List Tr} {kvs : List (Key × V)} {l : List (Str × Rc)} {us : List V} (h : WSt F R H1 fs kvs l us rs Hc) (s : Same Hc H') : WSt F R H1 fs kvs l us rs H' :=
  ⟨h.b.same s, s _ _ h.hF, s _ _ h.hR, h.al.mono fun t v x => x.same s, h.at_.same s, h.iv⟩
theorem WSt.put {F R : Addr} {H1 Hc : Hp} {fs rs : List Tr} {kvs : List (Key × V)} {l : List (Str × Rc)} {us : List V} (h : WSt F R H1 fs kvs l us rs Hc) (ne : F ≠ R) {t : Tr} {v rv : V} {r : Rc} (it : IsT Hc t v) (ir : IsR Hc r rv) (ok : RcOk r) (ht : t ∈ allOf fs) (hn : lookG l (textOf t) = none) :
    WSt F R H1 fs (kvs ++ [(.inr (textOf t), rv)]) (l ++ [(textOf t, r)]) (us ++ [v]) (rs ++ [t]) (upd (upd Hc F (.dK (kvs ++ [(.inr (textOf t), rv)]))) R (.lst (us ++ [v]))) := by
  have k1 := kp_updF (C := 0) (kv' := kvs ++ [(.inr (textOf t), rv)]) h.hF
  have hR1 : upd Hc F (.dK (kvs ++ [(.inr (textOf t), rv)])) R = some (.lst us) := by rw [upd_ne (Ne.symm ne)]; exact h.hR
  have k2 := k1.trans (Kp.upd_lst (C := 0) (ys := us ++ [v]) hR1)
  exact ⟨h.b.updF.updR, by rw [upd_ne ne]; exact upd_same, upd_same, AlG.snoc (ir.mono k2) (h.al.mono fun t v x => x.mono k2), (h.at_.mono k2).app (TsAt.one (it.mono k2)), h.iv.put ht ok hn⟩
def sp_allWays (d : Nat) : Sp := fun vs H Q _ => ∃ (a : Addr) (ws : List V) (fs : List Tr), vs = [.ref a] ∧ H a = some (.lst ws) ∧ TsAt H fs ws ∧ (∀ t ∈ fs, Wf t ∧ t.dep ≤ d) ∧ d ≤ 12 ∧ 0 < fs.length ∧ (allOf fs).length ≤ 50000 ∧
  ∀ F kvs l H', Same H H' → H F = none → H' F = some (.dK kvs) → AlG IsR H' l kvs → (∀ p ∈ l, RcOk p.2) → 0 < l.length → l.length ≤ 50000 → (l.map (·.1)).Nodup → Q (.ref F) H'
section
variable {P : Program} {w : World} {K : PySem.W.Frag} {mg : Str → Option Value} {base : Heap}
abbrev s__law_all_ways : Stmt := top 67
theorem sc__law_all_ways : FnScope ["_law_forms_here", "_law_ways", "_law_rows", "_law_k", "_law_many", "_law_form_here", "_law_part", "_law_step_here"] ["_law_forms_here"] (defScope s__law_all_ways) := ⟨rfl, rfl, rfl, by decide +kernel, rfl, by decide +kernel, by decide +kernel⟩
theorem ok__law_all_ways (T : Tx w K mg) (d : Nat) : Fk P w K mg base CX0 (2 * d + 40) "_law_all_ways" ["_law_forms_here"] (sp_allWays d) := by
  refine T.F__law_all_ways.ok0 sc__law_all_ways (fun _ _ _ _ _ _ us hl => match us, hl with | [_], _ => rfl)
    (fun vs H Q E h => ?_) (fun cdv A outer s H vs Q E hr h => ?_)
  · obtain ⟨a, ws, fs, rfl, _⟩ := h
    rfl
  · obtain ⟨a, ws, fs, rfl, ha, hts, wf, d12, hpos, hall, k⟩ := h
    refine ⟨_, (pss_cons (ps_par (i := 1) (j := 2) (by rfl) sc__law_all_ways.nd rfl rfl (by decide) rfl rfl (pa_cons pe_dnewK (pa_cons (pe_lst pa_nil) pa_nil)) (by rfl))
  (pss_cons (ps_for PassesOwn.never rfl (pi_range1 rfl T.z_range (pa_cons (pe_callB call_len_seq (by rfl) T.z_len (by decide +kernel) (pa_cons (pv 0) pa_nil)) pa_nil)) (pg_name (i := 3) sc__law_all_ways.nd rfl (Or.inl rfl))
  (pss_one (ps_if (pt_cmp (pc_dnotin (hu_of hr) (pe_fk (ok__law_text T d) (hr.mono (by omega)) rfl pass0 (pa_cons (pe_ix ix_list (pv 0) (pv 3) (fun _ _ => rfl)) pa_nil)) (pv 1)))
  (pss_cons (ps_dput (hu_of hr) (pv 1) (pe_fk (ok__law_text T d) (hr.mono (by omega)) rfl pass0 (pa_cons (pe_ix ix_list (pv 0) (pv 3) (fun _ _ => rfl)) pa_nil)) (pe_tup (pa_cons pe_str (pa_cons (pv 3) pa_nil))) (by rfl))
  (pss_one (ps_expr (pe_bm PySem.F.plainAttrs_list PySem.F.slot_list_append PySem.F.type_list_append mt_append (pv 2) (pa_cons (pe_ix ix_list (pv 0) (pv 3) (fun _ _ => rfl)) pa_nil)))))
  pss_nil)))
  (pss_cons (ps_set (i := 4) sc__law_all_ways.nd rfl (Or.inl rfl) pe_int)
  (pss_cons (ps_while PassesOwn.never (pt_cmpR op_lt (pv 4) (pe_callB call_len_seq (by rfl) T.z_len (by decide +kernel) (pa_cons (pv 2) pa_nil)) (nomark _))
  (pss_cons (ps_set (i := 4) sc__law_all_ways.nd rfl (Or.inl rfl) (pe_callB call_len_seq (by rfl) T.z_len (by decide +kernel) (pa_cons (pv 2) pa_nil)))
  (pss_one (ps_for PassesOwn.never rfl (pi_list (pe_callTy call_list_of (by rfl) T.z_list (by decide +kernel) (pa_cons (pv 2) pa_nil))) (pg_name (i := 5) sc__law_all_ways.nd rfl (Or.inl rfl))
  (pss_one (ps_for PassesOwn.never rfl (pi_list (pe_fk (ok__law_openings T d) (hr.mono (by omega)) rfl pass0 (pa_cons (pv 5) (pa_cons (pe_dget (hu_of hr) (pv 1) (pe_fk (ok__law_text T d) (hr.mono (by omega)) rfl pass0 (pa_cons (pv 5) pa_nil)) (fun _ _ => rfl)) (pa_cons (pv 1) pa_nil))))) (pg_tup rfl (pgs_cons (pg_name (i := 6) sc__law_all_ways.nd rfl (Or.inl rfl)) (pgs_cons (pg_name (i := 7) sc__law_all_ways.nd rfl (Or.inl rfl)) pgs_nil)))
  (pss_one (ps_if (pt_cmp (pc_dnotin (hu_of hr) (pe_fk (ok__law_text T d) (hr.mono (by omega)) rfl pass0 (pa_cons (pv 6) pa_nil)) (pv 1)))
  (pss_cons (ps_dput (hu_of hr) (pv 1) (pe_fk (ok__law_text T d) (hr.mono (by omega)) rfl pass0 (pa_cons (pv 6) pa_nil)) (pv 7) (by rfl))
  (pss_one (ps_expr (pe_bm PySem.F.plainAttrs_list PySem.F.slot_list_append PySem.F.type_list_append mt_append (pv 2) (pa_cons (pv 6) pa_nil)))))
  pss_nil))))))))
  (pss_one (ps_ret (pv 1))))))), ?_⟩
    have big : 16777216 ≤ sizeLine := by decide
    have hwl := hts.len
    have hsl : fs.length ≤ (allOf fs).length := by rw [allOf_len]; exact szs_len fs
    refine fun F hF => ⟨Nat.zero_le _, fun R hR => ⟨_, _, rfl, ?_⟩⟩
    try dsimp only
    have ne : F ≠ R := fun z => by rw [← z, upd_same] at hR; cases hR
    have sF := Rd.Same.upd (o := .dK []) hF
    have sR := Rd.Same.upd (o := .lst []) hR
    have hF1 : upd (upd H F (.dK [])) R (.lst []) F = some (.dK []) := by rw [upd_ne ne]; exact upd_same
    have hR1 : upd (upd H F (.dK [])) R (.lst []) R = some (.lst []) := upd_same
    have nRH : H R = none := sF.free hR
    have S1 := sF.trans sR
    generalize upd (upd H F (.dK [])) R (.lst []) = H1 at hF1 hR1 S1 ⊢
    have ha1 := S1 _ _ ha
    have nFa : a ≠ F := fun z => by rw [z, hF] at ha; cases ha
    have nRa : a ≠ R := fun z => by rw [z, nRH] at ha; cases ha
    have hts1 := hts.same S1
    refine seqJoin (fun σ' Hc => ∃ (t3 : Option V) (kvs : List (Key × V)) (l : List (Str × Rc)) (us : List V) (rs : List Tr), σ' = [some (.ref a), some (.ref F), some (.ref R), t3, none, none, none, none] ∧ WSt F R H1 fs kvs l us rs Hc ∧ 0 < l.length) (fun KK hK => ?_) ?_
    · refine ⟨_, rfl, a, ws, rfl, .inl (SqL.of ha1), ws.length, rfl, by omega, by omega, for_range (n := ws.length) (fun i σ Hc => ∃ (t3 : Option V) (kvs : List (Key × V)) (l : List (Str × Rc)) (us : List V) (rs : List Tr), σ = [some (.ref a), some (.ref F), some (.ref R), t3, none, none, none, none] ∧ WSt F R H1 fs kvs l us rs Hc ∧ (0 < i → 0 < l.length)) ⟨_, [], [], [], [], rfl, ⟨B2.refl, hF1, hR1, trivial, ⟨rfl, fun i t v h => by simp at h⟩, WIv.nil⟩, fun h => absurd h (by decide)⟩ ?_ ?_⟩
      · rintro i σ Hc hi ⟨t3, kvs, l, us, rs, rfl, st, hl⟩
        refine gName_k ?_
        try dsimp only
        have hx : ws[i]? = some (ws[i]'hi) := List.getElem?_eq_getElem hi
        have hf : fs[i]? = some (fs[i]'(by omega)) := List.getElem?_eq_getElem (by omega)
        have it := (hts1.get i _ _ hf hx).mono (st.b.kp (C := 0) hF1 hR1)
        have htm := List.mem_of_getElem? hf
        obtain ⟨w1, w2⟩ := wf _ htm
        have hta := allOf_base fs _ htm
        have ea : atI ws (0 + (i : Int)) = some (ws[i]'hi) := at_of (j := i) (by omega) hx
        generalize fs[i]'(by omega) = t at it w1 w2 hta htm
        generalize ws[i]'hi = v at it ea
        have hac := st.b _ _ nFa nRa ha1
        refine ⟨_, rfl, _, rfl, a, _, _, _, rfl, rfl, SqL.of hac, ea, _, t, rfl, it, w1, w2, d12, fun H2 s2 => ⟨_, rfl, F, _, rfl, DGet.k (k := .inr (textOf t)) (s2 _ _ st.hF), _, rfl, ?_⟩⟩
        have st2 := st.same s2
        have it2 := it.same s2
        cases el : lookG l (textOf t) with
        | some r =>
          obtain ⟨v0, e0, _⟩ := (st2.al.look (x := textOf t)).1 r el
          rw [e0]
          refine iteN (by simp) ?_
          exact ⟨_, kvs, l, us, rs, rfl, st2, fun _ => List.length_pos_of_mem (lookG_mem el)⟩
        | none =>
          have hv0 := (st2.al.look (x := textOf t)).2 el
          rw [hv0]
          refine iteP (by simp) ?_
          have hl1 := st.iv.len
          have hl2 := st.iv.le
          have hl3 := st.al.len
          have hl4 := st.at_.len
          refine ⟨_, rfl, (by show 2 ≤ sizeLine; decide), fun q hq => ?_⟩
          have sq := Rd.Same.upd (o := .tup [.str "at", .int (0 + (i : Int))]) hq
          have hq1 : upd H2 q (.tup [.str "at", .int (0 + (i : Int))]) q = some (.tup [.str "at", .int (0 + (i : Int))]) := upd_same
          generalize upd H2 q (.tup [.str "at", .int (0 + (i : Int))]) = H3 at sq hq1 ⊢
          have st3 := st2.same sq
          have it3 := it2.same sq
          refine ⟨_, rfl, _, rfl, _, rfl, a, _, _, _, rfl, rfl, SqL.of (st3.b _ _ nFa nRa ha1), ea, _, t, rfl, it3, w1, w2, d12, fun H4 s4 => ⟨F, _, rfl, DPut.k (k := .inr (textOf t)) (s4 _ _ st3.hF) (by omega), ?_⟩⟩
          rw [putK_new _ hv0]
          have st4 := st3.same s4
          have st5 := st4.put ne (it3.same s4) (show IsR H4 (.at_ (0 + (i : Int))) (.ref q) from ⟨q, rfl, s4 _ _ hq1⟩) trivial hta el
          have hRx : upd H4 F (.dK (kvs ++ [(.inr (textOf t), .ref q)])) R = some (.lst us) := by rw [upd_ne (Ne.symm ne)]; exact st4.hR
          have hax : upd H4 F (.dK (kvs ++ [(.inr (textOf t), .ref q)])) a = some (.lst ws) := by rw [upd_ne nFa]; exact st4.b _ _ nFa nRa ha1
          refine ⟨_, rfl, .inl ⟨rfl, _, SqL.of hRx⟩, _, rfl, _, rfl, a, _, _, _, rfl, rfl, SqL.of hax, ea, R, us, v, rfl, rfl, hRx, (by omega), ?_⟩
          exact ⟨_, _, _, _, _, rfl, st5, fun _ => by simp⟩
      · rintro σ Hc ⟨t3, kvs, l, us, rs, rfl, st, hl⟩
        exact hK _ _ ⟨_, _, _, _, _, rfl, st, hl (by omega)⟩
    rintro σ' Hc ⟨t3, kvs, l, us, rs, rfl, st, hl⟩
    try dsimp only
    have wfa : ∀ t ∈ allOf fs, Wf t ∧ t.dep ≤ d := fun t ht => by
      obtain ⟨u, hu, h3⟩ := List.mem_flatMap.mp ht
      obtain ⟨a1, a2⟩ := wf u hu
      obtain ⟨b1, b2⟩ := all_wf a1 t h3
      exact ⟨b1, by omega⟩
    have suba : ∀ t ∈ allOf fs, ∀ u ∈ t.all, u ∈ allOf fs := fun t ht u hu => by
      obtain ⟨z, hz, h3⟩ := List.mem_flatMap.mp ht
      exact List.mem_flatMap.mpr ⟨z, hz, all_trans h3 hu⟩
    refine seqAsg ?_
    refine gName_k ?_
    try dsimp only
    refine seqJoin (fun σ' Hc => ∃ (t3 t4 t5 t6 t7 : Option V) (kvs : List (Key × V)) (l : List (Str × Rc)) (us : List V) (rs : List Tr), σ' = [some (.ref a), some (.ref F), some (.ref R), t3, t4, t5, t6, t7] ∧ WSt F R H1 fs kvs l us rs Hc ∧ 0 < l.length) (fun KK hK => ?_) ?_
    · refine ⟨fun m σ Hc => ∃ (n : Nat) (t3 t5 t6 t7 : Option V) (kvs : List (Key × V)) (l : List (Str × Rc)) (us : List V) (rs : List Tr), σ = [some (.ref a), some (.ref F), some (.ref R), t3, some (.int (n : Int)), t5, t6, t7] ∧ WSt F R H1 fs kvs l us rs Hc ∧ 0 < l.length ∧ n ≤ rs.length ∧ m = (allOf fs).length - n, ⟨_, 0, _, _, _, _, kvs, l, us, rs, rfl, st, hl, Nat.zero_le _, rfl⟩, ?_⟩
      clear st hl
      rintro m σ Hc ⟨n, t3, t5, t6, t7, kvs, l, us, rs, rfl, st, hl, hn, rfl⟩
      have hl1 := st.iv.len
      have hl2 := st.iv.le
      have hl4 := st.at_.len
      refine ⟨_, rfl, _, rfl, R, us, rfl, .inl (SqL.of st.hR), _, _, rfl, rfl, _, rfl, ite2 (fun hlt => ?_) (fun hlt => hK _ _ ⟨_, _, _, _, _, kvs, l, us, rs, rfl, st, hl⟩)⟩
      have hlt : n < us.length := by have := of_decide_eq_true hlt; omega
      refine ⟨fun σ' H' => ∃ (t3 t5 t6 t7 : Option V) (kvs' : List (Key × V)) (l' : List (Str × Rc)) (us' : List V) (rs' : List Tr), σ' = [some (.ref a), some (.ref F), some (.ref R), t3, some (.int (us.length : Nat)), t5, t6, t7] ∧ WSt F R H1 fs kvs' l' us' rs' H' ∧ 0 < l'.length ∧ us.length ≤ rs'.length, fun σ' H' ⟨t3, t5, t6, t7, kvs', l', us', rs', e1, e2, e3, e4⟩ => ⟨(allOf fs).length - us.length, by omega, us.length, t3, t5, t6, t7, kvs', l', us', rs', e1, e2, e3, e4, rfl⟩, ?_⟩
      refine seqAsg ⟨_, rfl, R, us, rfl, .inl (SqL.of st.hR), ?_⟩
      refine gName_k ?_
      try dsimp only
      refine ⟨_, rfl, R, us, rfl, .inl (SqL.of st.hR), fun D hD => ⟨D, rfl, ⟨_, SqL.of upd_same⟩, ?_⟩⟩
      have nDF : D ≠ F := fun z => by rw [z, st.hF] at hD; cases hD
      have nDR : D ≠ R := fun z => by rw [z, st.hR] at hD; cases hD
      have sD := Rd.Same.upd (o := .lst us) hD
      have hD1 : upd Hc D (.lst us) D = some (.lst us) := upd_same
      have st3 := st.same sD
      generalize upd Hc D (.lst us) = H3 at sD hD1 st3 ⊢
      refine for_list (xs := us) (fun i σ' H' => ∃ (t5 t6 t7 : Option V) (kvs' : List (Key × V)) (l' : List (Str × Rc)) (us' : List V) (rs' : List Tr), σ' = [some (.ref a), some (.ref F), some (.ref R), t3, some (.int (us.length : Nat)), t5, t6, t7] ∧ WSt F R H3 fs kvs' l' us' rs' H' ∧ 0 < l'.length ∧ us.length ≤ rs'.length ∧ ∀ t ∈ rs, t ∈ rs') ⟨_, _, _, kvs, l, us, rs, rfl, ⟨B2.refl, st3.hF, st3.hR, st3.al, st3.at_, st3.iv⟩, hl, by omega, fun t h => h⟩ ?_ ?_ ?_
      · rintro i σ' H' hi ⟨_, _, _, _, _, _, _, _, s', _⟩
        exact SqL.of (s'.b _ _ nDF nDR hD1)
      · rintro i x σ' H4 hx ⟨t5, t6, t7, kvs', l', us', rs', rfl, st4, hl', hle, hsub⟩
        refine gName_k ?_
        try dsimp only
        have hil := (List.getElem?_eq_some_iff.mp hx).1
        have ht : rs[i]? = some (rs[i]'(by omega)) := List.getElem?_eq_getElem (by omega)
        have it := (st3.at_.get i _ _ ht hx).mono (st4.b.kp (C := 0) st3.hF st3.hR)
        have htm := List.mem_of_getElem? ht
        generalize rs[i]'(by omega) = t at it htm
        obtain ⟨w1, w2⟩ := wfa t (st.iv.sub t htm)
        obtain ⟨r, er, okr⟩ := st4.iv.has (hsub t htm)
        obtain ⟨v0, e0, ir0⟩ := (st4.al.look (x := textOf t)).1 r er
        refine ⟨_, rfl, _, rfl, _, rfl, _, t, rfl, it, w1, w2, d12, fun H5 s5 => ⟨F, _, rfl, (by rw [← e0]; exact DGet.k (k := .inr (textOf t)) (s5 _ _ st4.hF)), _, rfl, x, v0, F, t, r, l', kvs', rfl, it.same s5, w1, w2, d12, ir0.same s5, okr, s5 _ _ st4.hF, st4.al.mono (fun t v h => h.same s5), st4.iv.ok, fun q ps os H6 s6 nq hq hps hlen hos => ⟨q, rfl, ⟨_, SqL.of hq⟩, ?_⟩⟩⟩
        have st6 := st4.same (s5.trans s6)
        have nqF : q ≠ F := fun z => by rw [z, s5 _ _ st4.hF] at nq; cases nq
        have nqR : q ≠ R := fun z => by rw [z, s5 _ _ st4.hR] at nq; cases nq
        have hpl := hps.len
        refine for_list (xs := ps) (fun j σ' H' => ∃ (t6 t7 : Option V) (kvs2 : List (Key × V)) (l2 : List (Str × Rc)) (us2 : List V) (rs2 : List Tr), σ' = [some (.ref a), some (.ref F), some (.ref R), t3, some (.int (us.length : Nat)), some x, t6, t7] ∧ WSt F R H6 fs kvs2 l2 us2 rs2 H' ∧ 0 < l2.length ∧ us.length ≤ rs2.length ∧ ∀ t ∈ rs, t ∈ rs2) ⟨_, _, kvs', l', us', rs', rfl, ⟨B2.refl, st6.hF, st6.hR, st6.al, st6.at_, st6.iv⟩, hl', hle, hsub⟩ ?_ ?_ ?_
        · rintro j σ' H' hj ⟨_, _, _, _, _, _, _, s', _⟩
          exact SqL.of (s'.b _ _ nqF nqR hq)
        · rintro j y σ' H7 hy ⟨t6, t7, kvs2, l2, us2, rs2, rfl, st7, hl2', hle2, hsub2⟩
          have hjl := (List.getElem?_eq_some_iff.mp hy).1
          have ho : os[j]? = some (os[j]'(by omega)) := List.getElem?_eq_getElem (by omega)
          obtain ⟨pq, u, rv, rfl, hpq, iu, iv⟩ := (hps.get j _ _ ho hy).mono (st7.b.kp (C := 0) st6.hF st6.hR)
          obtain ⟨hsm, okp⟩ := hos _ (List.mem_of_getElem? ho)
          have hta := suba t (st.iv.sub t htm) _ hsm
          generalize os[j]'(by omega) = pr at iu iv okp hta
          obtain ⟨t2, r2⟩ := pr
          obtain ⟨w3, w4⟩ := wfa t2 hta
          have iu : IsT H7 t2 u := iu
          have iv : IsR H7 r2 rv := iv
          have okp : RcOk r2 := okp
          refine ⟨pq, _, rfl, SqT.of hpq, rfl, _, _, rfl, _, _, rfl, rfl, ?_⟩
          try dsimp only
          refine ⟨_, rfl, _, t2, rfl, iu, w3, w4, d12, fun H8 s8 => ⟨_, rfl, F, _, rfl, DGet.k (k := .inr (textOf t2)) (s8 _ _ st7.hF), _, rfl, ?_⟩⟩
          have st8 := st7.same s8
          cases el : lookG l2 (textOf t2) with
          | some r9 =>
            obtain ⟨v9, e9, _⟩ := (st8.al.look (x := textOf t2)).1 r9 el
            rw [e9]
            refine iteN (by simp) ?_
            exact ⟨_, _, kvs2, l2, us2, rs2, rfl, st8, hl2', hle2, hsub2⟩
          | none =>
            have hv0 := (st8.al.look (x := textOf t2)).2 el
            rw [hv0]
            refine iteP (by simp) ?_
            have hk1 := st7.iv.len
            have hk2 := st7.iv.le
            have hk3 := st7.al.len
            have hk4 := st7.at_.len
            refine ⟨_, rfl, _, rfl, _, rfl, _, t2, rfl, iu.same s8, w3, w4, d12, fun H9 s9 => ⟨F, _, rfl, DPut.k (k := .inr (textOf t2)) (s9 _ _ st8.hF) (by omega), ?_⟩⟩
            rw [putK_new _ hv0]
            have st9 := st8.same s9
            have st10 := st9.put ne (iu.same (s8.trans s9)) (iv.same (s8.trans s9)) okp hta el
            have hRx : upd H9 F (.dK (kvs2 ++ [(.inr (textOf t2), rv)])) R = some (.lst us2) := by rw [upd_ne (Ne.symm ne)]; exact st9.hR
            refine ⟨_, rfl, .inl ⟨rfl, _, SqL.of hRx⟩, _, rfl, R, us2, _, rfl, rfl, hRx, (by omega), ?_⟩
            exact ⟨_, _, _, _, _, _, rfl, st10, by simp, by rw [List.length_append]; omega, fun z hz => List.mem_append_left _ (hsub2 z hz)⟩
        · rintro σ' H7 ⟨t6, t7, kvs2, l2, us2, rs2, rfl, st7, hl2', hle2, hsub2⟩
          exact ⟨_, _, _, kvs2, l2, us2, rs2, rfl, ⟨(st4.b.same (s5.trans s6)).trans st7.b, st7.hF, st7.hR, st7.al, st7.at_, st7.iv⟩, hl2', hle2, hsub2⟩
      · rintro σ' H4 ⟨t5, t6, t7, kvs', l', us', rs', rfl, st4, hl', hle, hsub⟩
        exact ⟨_, _, _, _, kvs', l', us', rs', rfl, ⟨(st.b.same sD).trans st4.b, st4.hF, st4.hR, st4.al, st4.at_, st4.iv⟩, hl', hle⟩
    rintro σ' Hc ⟨t3, t4, t5, t6, t7, kvs, l, us, rs, rfl, st, hl⟩
    refine ⟨_, rfl, k F kvs l Hc (fun c o e => st.b _ _ (ne_of_none e hF) (ne_of_none e nRH) (S1 _ _ e)) hF st.hF st.al st.iv.ok hl (by have := st.iv.len; have := st.iv.le; omega) st.iv.nd⟩
end
end Rd
namespace Rd
open PySem L2
/-- a list against an empty one -/
def rNeNil (_ : PySem.W.Frag) : R2 := fun x y H Q => ∃ a b xs, x = .ref a ∧ y = .ref b ∧ H a = some (.lst xs) ∧ H b = some (.lst []) ∧ Q (.bl (!xs.isEmpty)) H
theorem op_neNil {X : Cx} (hu0 : X.A.units + 500 < cLine) : OpR X (compareOp .NotEq) (rNeNil X.K) := by
  have hu : X.A.units < cLine := by omega
  intro pins s σ H x y v u Q I rx ry h
  obtain ⟨l, b, xs, rfl, rfl, hH, hB, q⟩ := h
  cases rx
  cases ry
  obtain ⟨z, its, n, r, hl, e⟩ := I.lstM hH
  obtain ⟨z2, its2, n2, r2, hl2, e2⟩ := I.lstM hB
  have h1 : s.heap.IsList l its.toArray := ⟨_, e, rfl, _, rfl⟩
  have h2 : s.heap.IsList b its2.toArray := ⟨_, e2, rfl, _, rfl⟩
  have z2 : its2 = [] := List.eq_nil_of_length_eq_zero (by simpa using hl2.symm)
  subst z2
  cases xs with
  | nil =>
    have z1 : its = [] := List.eq_nil_of_length_eq_zero (by simpa using hl.symm)
    subst z1
    exact PySem.SeqAt.RcNeAt.lists (e := fun _ => true) h1 h2 rfl hu (fun j j1 _ => absurd j1 (by simp)) _ _ _ _ ⟨.bl false, H, I, rfl, q⟩
  | cons y ys =>
    have z1 : 0 < its.length := by rw [← hl]; exact Nat.succ_pos _
    refine PySem.SeqAt.RcNeAt.lists_lengths h1 h2 ?_ hu _ _ _ _ ⟨.bl true, H, I, rfl, q⟩
    simp only [List.size_toArray, bne_iff_ne, List.length_nil]
    omega
theorem walkT {K : PySem.W.Frag} {a : Addr} {xs : List V} {GG : V → Hp → (Hp → Prop) → Prop} {H0 : Hp} {Qd : Hp → Prop} (Pv : Nat → Hp → Prop) (h0 : Pv 0 H0) (hl : ∀ i H, i ≤ xs.length → Pv i H → SqT K H a xs) (hs : ∀ i x H, xs[i]? = some x → Pv i H → GG x H (Pv (i + 1))) (hd : ∀ H, Pv xs.length H → Qd H) :
    ∃ W : Nat → Nat → Hp → Prop, (∃ m, W 0 m H0) ∧ ∀ i m H, W i m H →
      ((Itt K a).stop i H ∧ Qd H) ∨ ((Itt K a).go i H ∧ ∃ Nx : Hp → Prop, (∀ H', Nx H' → ∃ m', m' < m ∧ W (i + 1) m' H') ∧ ∀ x H', (Itt K a).yld i H x H' → GG x H' Nx) := by
  refine ⟨fun i m H => m = xs.length - i ∧ i ≤ xs.length ∧ Pv i H, ⟨xs.length, by simp, Nat.zero_le _, h0⟩, ?_⟩
  rintro i m H ⟨rfl, hi, p⟩
  have q := hl i H hi p
  by_cases hlt : i < xs.length
  · refine .inr ⟨⟨xs, xs[i], q, by simp [hlt]⟩, Pv (i + 1), fun H' p' => ⟨xs.length - (i + 1), by omega, rfl, hlt, p'⟩, fun x H' y => ?_⟩
    obtain ⟨e, y⟩ := y
    subst e
    exact hs i x _ (y xs q) p
  · have e : i = xs.length := by omega
    subst e
    exact .inl ⟨⟨xs, q, Nat.le_refl _⟩, hd H p⟩
/-- [te for x in a tuple if tt] -/
theorem lcgT {α β : Type} {K : PySem.W.Frag} {C a D : Addr} {xs : List V} {ds : List α} {R : Hp → β → V → Prop} {tt : TT} {te : TE} {i0 : Nat} {σ : St} {H1 : Hp} {Qd : Hp → Prop} (p : α → Bool) (g : α → β) (rm : ∀ H H' b v, Kp C H H' → R H b v → R H' b v) (hS : SqT K H1 a xs) (he : xs.length = ds.length) (hl : xs.length ≤ 100000) (hD : H1 D = none)
    (htt : ∀ (i : Nat) (x : V) (d : α) (H : Hp) (Q : Bool → Hp → Prop), xs[i]? = some x → ds[i]? = some d → Same H1 H → (∀ H', Same H H' → Q (p d) H') → tt ((wipe σ [i0]).set i0 (some x)) H Q)
    (hte : ∀ (i : Nat) (x : V) (d : α) (H : Hp) (Q : VK), xs[i]? = some x → ds[i]? = some d → p d = true → Same H1 H → (∀ v H', Same H H' → R H' (g d) v → Q v H') → te ((wipe σ [i0]).set i0 (some x)) H Q)
    (hq : ∀ vs H', Same H1 H' → H' D = some (.lst vs) → AtL R H' ((ds.filter p).map g) vs → Qd H') :
    ∃ W : Nat → Nat → Hp → Prop, (∃ m, W 0 m (L2.upd H1 D (.lst []))) ∧ ∀ i m H, W i m H →
      ((Itt K a).stop i H ∧ Qd H) ∨ ((Itt K a).go i H ∧ ∃ Nx : Hp → Prop, (∀ H', Nx H' → ∃ m', m' < m ∧ W (i + 1) m' H') ∧ ∀ x H', (Itt K a).yld i H x H' → gName i0 x (wipe σ [i0]) H' fun σ2 H2 => wipe σ2 [i0] = wipe σ [i0] ∧ tt σ2 H2 fun b H3 =>
        if b = true then te σ2 H3 fun y H4 => ∃ acc, H4 D = some (.lst acc) ∧ acc.length < sizeLine ∧ Nx (L2.upd H4 D (.lst (acc ++ [y]))) else Nx H3) := by
  refine walkT (K := K) (a := a) (xs := xs) (fun i H => ∃ vs, Same H1 H ∧ H D = some (.lst vs) ∧ AtL R H (((ds.take i).filter p).map g) vs) ⟨[], Rd.Same.upd hD, upd_same, AtL.nil⟩ (fun i H _ ⟨_, s, _⟩ => SqT.kept hS s) ?_ ?_
  · rintro i x H hx ⟨vs, sm, hd, hv⟩
    have hlt := (List.getElem?_eq_some_iff.mp hx).1
    have ht : ds[i]? = some ds[i] := List.getElem?_eq_getElem (by omega)
    have etk : ds.take (i + 1) = ds.take i ++ [ds[i]] := by rw [List.take_succ, ht]; rfl
    refine gName_k ⟨by simp [wipe], ?_⟩
    refine htt i x _ H _ hx ht sm fun H2 s2 => ?_
    cases ep : p ds[i] with
    | false =>
      refine iteF ⟨vs, sm.trans s2, s2 _ _ hd, ?_⟩
      rw [etk, List.filter_append, List.filter_cons_of_neg (by rw [ep]; decide), List.filter_nil, List.append_nil]
      exact hv.mp fun r v h => rm _ _ _ _ (Kp.of_same s2) h
    | true =>
      refine iteT (hte i x _ H2 _ hx ht ep (sm.trans s2) fun v H3 s3 h3 => ?_)
      have hD3 := s3 _ _ (s2 _ _ hd)
      have kp := Kp.upd_lst (C := C) (ys := vs ++ [v]) hD3
      have hvl := hv.len
      have hfl : (((ds.take i).filter p).map g).length ≤ i := by
        rw [List.length_map]
        refine Nat.le_trans (List.length_filter_le _ _) ?_
        rw [List.length_take]
        omega
      have big : 16777216 ≤ sizeLine := by decide
      refine ⟨vs, hD3, by omega, vs ++ [v], fun c o e => ?_, upd_same, ?_⟩
      · rw [upd_ne (ne_of_none e hD)]
        exact s3 _ _ (s2 _ _ (sm _ _ e))
      · rw [etk, List.filter_append, List.filter_cons_of_pos ep, List.filter_nil, List.map_append]
        exact (hv.mp fun r v h => rm _ _ _ _ ((Kp.of_same (s2.trans s3)).trans kp) h).snoc (rm _ _ _ _ kp h3)
  · rintro H ⟨vs, sm, hd, hv⟩
    rw [he, List.take_length] at hv
    exact hq vs H sm hd hv
/-- with other forms in the atoms' place -/
structure FoW (e d : Nat) (t : Tr) : Prop where
  wf : Wf t
  dep : t.dep ≤ e + 2 * d
theorem FoC.w (e : Nat) : FoC (FoW e) := ⟨fun {d s a} hs h => ⟨.un hs h.wf, by show a.dep + 1 ≤ e + 2 * (d + 1); have := h.dep; omega⟩,
  fun {d s a b} hs h g => ⟨.bi hs h.wf g.wf, by show max a.dep b.dep + 1 ≤ e + 2 * (d + 1); have := h.dep; have := g.dep; omega⟩,
  fun {d s a b} hs h g => ⟨.lk hs h.wf g.wf, by show max a.dep (b.dep + 1) + 1 ≤ e + 2 * (d + 1); have := h.dep; have := g.dep; omega⟩⟩
def sp_wished : Sp := fun vs H Q _ => ∃ (dr qf qo qa : Addr) (ds : List Int) (us os ws : List V) (fs ot ts : List Tr), vs = [.ref dr, .ref qf, .ref qo, .ref qa] ∧ H dr = some (.lst (ds.map V.int)) ∧ rowOk 17 ds ∧ H qf = some (.lst us) ∧ TsAt H fs us ∧ 0 < fs.length ∧ fs.length ≤ 6 ∧ (∀ t ∈ fs, Fo 3 t) ∧
  H qo = some (.lst os) ∧ TsAt H ot os ∧ ot.length ≤ 50000 ∧ (∀ t ∈ ot, Wf t ∧ t.dep ≤ 6) ∧ H qa = some (.lst ws) ∧ TsAt H ts ws ∧ atomsOk ts ∧ ∀ t v H', Same H H' → Wf t → t.dep ≤ 12 → IsT H' t v → Q v H'
section
variable {P : Program} {w : World} {K : PySem.W.Frag} {mg : Str → Option Value} {base : Heap}
end
end Rd
namespace Rd
open PySem L2
theorem call_isiX {X : Cx} {K : PySem.W.Frag} (h : X.K = K) : CallR X (.builtin "isinstance") (rIsi K) := by
  subst h
  exact call_isi
def Rc.sz : Rc → Nat
  | .at_ _ => 1
  | .wd _ => 1
  | .un _ r => r.sz + 1
  | .bi _ r q => r.sz + q.sz + 1
theorem Rc.dp_sz : ∀ r : Rc, r.dp + 1 ≤ r.sz
  | .at_ _ => Nat.le_refl _
  | .wd _ => Nat.le_refl _
  | .un _ r => by have := Rc.dp_sz r; show r.dp + 1 + 1 ≤ r.sz + 1; omega
  | .bi _ r q => by have := Rc.dp_sz r; have := Rc.dp_sz q; show max r.dp q.dp + 1 + 1 ≤ r.sz + q.sz + 1; omega
def szR (rs : List Rc) : Nat := (rs.map Rc.sz).sum
theorem szR_app (l m : List Rc) : szR (l ++ m) = szR l + szR m := by unfold szR; rw [List.map_append, List.sum_append]
theorem sz_kids (r : Rc) : r.sz = szR r.kids + 1 := by
  cases r <;> simp [Rc.sz, Rc.kids, szR]
def Rc.els : Rc → List (Option Rc)
  | .at_ _ => [none, none]
  | .wd _ => [none, none]
  | .un _ r => [none, some r]
  | .bi _ r q => [none, some r, some q]
theorem els_kids (r : Rc) : (r.els.filter Option.isSome).map (fun o => o.getD (.wd "")) = r.kids := by
  cases r <;> rfl
def IsE (H : Hp) (o : Option Rc) (v : V) : Prop := (∃ r, o = some r ∧ IsR H r v) ∨ (o = none ∧ ((∃ s, v = .str s) ∨ ∃ k, v = .int k))
theorem IsE.same {H H' : Hp} {o : Option Rc} {v : V} (s : Same H H') (h : IsE H o v) : IsE H' o v := by
  rcases h with ⟨r, e, h⟩ | h
  · exact .inl ⟨r, e, h.same s⟩
  · exact .inr h
theorem IsR.els {H : Hp} {r : Rc} {v : V} (h : IsR H r v) : ∃ q zs, v = .ref q ∧ H q = some (.tup zs) ∧ zs.length = r.els.length ∧ zs.length ≤ 3 ∧ ∀ (i : Nat) o x, r.els[i]? = some o → zs[i]? = some x → IsE H o x := by
  cases r with
  | at_ k =>
    obtain ⟨p, rfl, hp⟩ := h
    refine ⟨p, _, rfl, hp, rfl, by simp, fun i o x h1 h2 => ?_⟩
    match i, h1, h2 with
    | 0, h1, h2 => cases h1; cases h2; exact .inr ⟨rfl, .inl ⟨_, rfl⟩⟩
    | 1, h1, h2 => cases h1; cases h2; exact .inr ⟨rfl, .inr ⟨_, rfl⟩⟩
  | wd y =>
    obtain ⟨p, rfl, hp⟩ := h
    refine ⟨p, _, rfl, hp, rfl, by simp, fun i o x h1 h2 => ?_⟩
    match i, h1, h2 with
    | 0, h1, h2 => cases h1; cases h2; exact .inr ⟨rfl, .inl ⟨_, rfl⟩⟩
    | 1, h1, h2 => cases h1; cases h2; exact .inr ⟨rfl, .inl ⟨_, rfl⟩⟩
  | un s r =>
    obtain ⟨p, u, rfl, hp, i1⟩ := h
    refine ⟨p, _, rfl, hp, rfl, by simp, fun i o x h1 h2 => ?_⟩
    match i, h1, h2 with
    | 0, h1, h2 => cases h1; cases h2; exact .inr ⟨rfl, .inl ⟨_, rfl⟩⟩
    | 1, h1, h2 => cases h1; cases h2; exact .inl ⟨_, rfl, i1⟩
  | bi s r q =>
    obtain ⟨p, u, u2, rfl, hp, i1, i2⟩ := h
    refine ⟨p, _, rfl, hp, rfl, by simp, fun i o x h1 h2 => ?_⟩
    match i, h1, h2 with
    | 0, h1, h2 => cases h1; cases h2; exact .inr ⟨rfl, .inl ⟨_, rfl⟩⟩
    | 1, h1, h2 => cases h1; cases h2; exact .inl ⟨_, rfl, i1⟩
    | 2, h1, h2 => cases h1; cases h2; exact .inl ⟨_, rfl, i2⟩
theorem isi_stup {K : PySem.W.Frag} : PySem.W.kitOne K (.type "str") (.type "tuple") = some false := isi_base (by decide +kernel)
theorem isi_itup {K : PySem.W.Frag} : PySem.W.kitOne K (.type "int") (.type "tuple") = some false := isi_base (by decide +kernel)
theorem AtL.last {α : Type} {R : Hp → α → V → Prop} {H : Hp} {l : List α} {vs : List V} (h : AtL R H l vs) (hn : vs ≠ []) : ∃ l0 a vs0 v, l = l0 ++ [a] ∧ vs = vs0 ++ [v] ∧ R H a v ∧ AtL R H l0 vs0 := by
  have hl := h.len
  obtain ⟨vs0, v, rfl⟩ : ∃ vs0 v, vs = vs0 ++ [v] := ⟨vs.dropLast, vs.getLast hn, (List.dropLast_concat_getLast hn).symm⟩
  have ln : l ≠ [] := fun e => by rw [e] at hl; simp at hl
  obtain ⟨l0, a, rfl⟩ : ∃ l0 a, l = l0 ++ [a] := ⟨l.dropLast, l.getLast ln, (List.dropLast_concat_getLast ln).symm⟩
  simp only [List.length_append, List.length_singleton] at hl
  have hl2 : vs0.length = l0.length := by omega
  refine ⟨l0, a, vs0, v, rfl, rfl, h.get l0.length a v (by simp) (by rw [← hl2]; simp), ⟨by omega, fun i d u h1 h2 => h.get i d u ?_ ?_⟩⟩
  · rw [List.getElem?_append_left (List.getElem?_eq_some_iff.mp h1).1]
    exact h1
  · rw [List.getElem?_append_left (List.getElem?_eq_some_iff.mp h2).1]
    exact h2
theorem AtL.app {β : Type} {R : Hp → β → V → Prop} {H : Hp} {bs cs : List β} {vs ws : List V} (h : AtL R H bs vs) (g : AtL R H cs ws) : AtL R H (bs ++ cs) (vs ++ ws) := ⟨by rw [List.length_append, List.length_append, h.len, g.len], fun i t v h1 h2 => by
  by_cases hi : i < bs.length
  · rw [List.getElem?_append_left hi] at h1
    rw [List.getElem?_append_left (by rw [h.len]; exact hi)] at h2
    exact h.get i t v h1 h2
  · rw [List.getElem?_append_right (by omega)] at h1
    rw [List.getElem?_append_right (by rw [h.len]; omega), h.len] at h2
    exact g.get _ t v h1 h2⟩
def sp_tuples : Sp := fun vs H Q _ => ∃ (v : V) (r : Rc), vs = [v] ∧ IsR H r v ∧ ∀ (c : Int) H', Same H H' → (c < 101 → r.dp ≤ 100) → Q (.int c) H'
section
variable {P : Program} {w : World} {K : PySem.W.Frag} {mg : Str → Option Value} {base : Heap}
abbrev s__law_tuples : Stmt := top 70
theorem sc__law_tuples : FnScope ["_law_recipe_here", "_law_waiting", "_law_count", "_law_part"] ["_law_recipe_here"] (defScope s__law_tuples) := ⟨rfl, rfl, rfl, by decide +kernel, rfl, by decide +kernel, by decide +kernel⟩
theorem ok__law_tuples (T : Tx w K mg) : Fk P w K mg base CX0 30 "_law_tuples" ["_law_recipe_here"] sp_tuples := by
  refine T.F__law_tuples.ok0 sc__law_tuples (fun _ _ _ _ _ _ us hl => match us, hl with | [_], _ => rfl)
    (fun vs H Q E h => ?_) (fun cdv A outer s H vs Q E hr h => ?_)
  · obtain ⟨v, r, rfl, _⟩ := h
    rfl
  · obtain ⟨v, r, rfl, ir, k⟩ := h
    refine ⟨_, (pss_cons (ps_par (i := 1) (j := 2) (by rfl) sc__law_tuples.nd rfl rfl (by decide) rfl rfl (pa_cons (pe_lst (pa_cons (pv 0) pa_nil)) (pa_cons pe_int pa_nil)) (by rfl))
  (pss_cons (ps_while PassesOwn.never (PW.pt (pw_and (pt_cmpR (op_neNil (units500 hr (by omega))) (pv 1) (pe_lst pa_nil) (nomark _)) (pw_and1 (pt_cmpR op_lt (pv 2) pe_int (nomark _)))))
  (pss_cons (ps_set (i := 2) sc__law_tuples.nd rfl (Or.inl rfl) (pe_op op_add (pv 2) pe_int))
  (pss_one (ps_expr (pe_bm PySem.F.plainAttrs_list PySem.F.slot_list_extend PySem.F.type_list_extend mt_extend (pv 1) (pa_cons (pe_lc (own := [("_law_part", 3)]) (g := gName 3)  (by rfl) sc__law_tuples.nd (pi_tup (pe_bm0 PySem.F.plainAttrs_list PySem.F.slot_list_pop PySem.F.type_list_pop mt_pop (pv 1))) (blkOk_by (own := [("_law_part", 3)]) (N := ["_law_recipe_here", "_law_waiting", "_law_count", "_law_part"]) (sc := defScope s__law_tuples) (by decide +kernel)) (fun _ _ _ _ _ => (pg_name (i := 3) sc__law_tuples.nd rfl (Or.inl rfl))) (fun _ _ _ _ _ => (pts_one (pt_val (pe_callB (call_isiX (K := K) rfl) (by rfl) T.z_isinstance (by decide +kernel) (pa_cons (pv 3) (pa_cons (pe_bltn (v := .ty "tuple") (u := .type "tuple") rfl T.z_tuple (by decide +kernel) rfl) pa_nil)))))) (fun _ _ _ _ _ => (pv 3))) pa_nil))))))
  (pss_one (ps_ret (pv 2))))), ?_⟩
    have big : 16777216 ≤ sizeLine := by decide
    refine ⟨_, rfl, (by show 1 ≤ sizeLine; decide), fun p np => ⟨_, _, rfl, ?_⟩⟩
    try dsimp only
    have s1 := Rd.Same.upd (o := .lst [v]) np
    have h11 : upd H p (.lst [v]) p = some (.lst [v]) := upd_same
    generalize upd H p (.lst [v]) = H1 at s1 h11 ⊢
    have ir1 := ir.same s1
    refine seqJoin (fun σ' Hc => ∃ (n : Nat) (t3 : Option V), σ' = [some v, some (.ref p), some (.int (n : Int)), t3] ∧ Same H Hc ∧ ((n : Int) < 101 → r.dp ≤ 100)) (fun KK hK => ?_) ?_
    · refine ⟨fun m σ Hc => ∃ (n : Nat) (t3 : Option V) (ws : List V) (rs : List Rc), σ = [some v, some (.ref p), some (.int (n : Int)), t3] ∧ Same H Hc ∧ Hc p = some (.lst ws) ∧ AtL IsR Hc rs ws ∧ n + szR rs = r.sz ∧ ws.length ≤ n + 1 ∧ n ≤ 101 ∧ m = szR rs, ⟨_, 0, _, [v], [r], rfl, s1, h11, ?_, ?_, Nat.le_refl _, (by decide), rfl⟩, ?_⟩
      · exact ⟨rfl, fun i d u h1 h2 => by
          cases i with
          | zero => cases h1; cases h2; exact ir1
          | succ i => cases h1⟩
      · simp [szR]
      · rintro m σ Hc ⟨n, t3, ws, rs, rfl, sc, hpc, hrs, hsz, hwl, hn, rfl⟩
        have hrl := hrs.len
        refine ⟨_, rfl, Nat.zero_le _, fun q hq => ⟨p, q, ws, rfl, rfl, (Rd.Same.upd hq) _ _ hpc, upd_same, _, rfl, ?_⟩⟩
        have sq := Rd.Same.upd (o := .lst []) hq
        generalize upd Hc q (.lst []) = H2 at sq ⊢
        have S2 := sc.trans sq
        have hp2 := sq _ _ hpc
        have rs2 : AtL IsR H2 rs ws := hrs.mp fun r v h => h.same sq
        cases hws : ws.isEmpty with
        | true =>
          have e0 : ws = [] := List.isEmpty_iff.mp hws
          subst e0
          have e1 : rs = [] := List.eq_nil_of_length_eq_zero hrl.symm
          subst e1
          refine iteN (by decide) ?_
          refine iteN (by decide) ?_
          refine hK _ _ ⟨n, _, rfl, S2, fun hlt => ?_⟩
          have := r.dp_sz
          have : szR [] = 0 := rfl
          omega
        | false =>
          refine iteP (by decide) ?_
          refine ⟨_, rfl, _, _, rfl, rfl, _, rfl, ite2 (fun hlt => ?_) (fun hlt => ?_)⟩
          · have hlt : n < 101 := by have := of_decide_eq_true hlt; omega
            have hne : ws ≠ [] := fun e => by rw [e] at hws; cases hws
            obtain ⟨rs0, r1, ws0, y, rfl, rfl, ir1, rs0h⟩ := rs2.last hne
            rw [szR_app] at hsz
            have e1 : szR [r1] = r1.sz := by simp [szR]
            rw [List.length_append, List.length_singleton] at hwl
            refine ⟨fun σ Hc => ∃ (t3 : Option V) (ws : List V) (rs : List Rc), σ = [some v, some (.ref p), some (.int ((n + 1 : Nat) : Int)), t3] ∧ Same H Hc ∧ Hc p = some (.lst ws) ∧ AtL IsR Hc rs ws ∧ (n + 1) + szR rs = r.sz ∧ ws.length ≤ n + 2, fun σ' H' ⟨t3, ws, rs, e1, e2, e3, e4, e5, e6⟩ => ⟨szR rs, by rw [szR_app]; omega, n + 1, t3, ws, rs, e1, e2, e3, e4, e5, e6, by omega, rfl⟩, ?_⟩
            refine seqAsg ⟨_, rfl, _, _, rfl, rfl, ?_⟩
            refine gName_k ?_
            try dsimp only
            obtain ⟨q1, zs, rfl, hq1, hzl, hz3, hze⟩ := ir1.els
            have kp1 := Kp.upd_lst (C := 0) (ys := ws0) hp2
            refine ⟨_, rfl, .inl ⟨rfl, _, SqL.of hp2⟩, _, rfl, .inl ⟨rfl, _, SqL.of hp2⟩, p, _, .ref q1, rfl, rfl, hp2, (by simp), ?_⟩
            rw [List.dropLast_concat]
            have hq3 : upd H2 p (.lst ws0) q1 = some (.tup zs) := kp1 _ _ rfl hq1
            have hp3 : upd H2 p (.lst ws0) p = some (.lst ws0) := upd_same
            have ir3 := ir1.mono kp1
            have rs3 : AtL IsR (upd H2 p (.lst ws0)) rs0 ws0 := rs0h.mp fun r v h => h.mono kp1
            have S3 : Same H (upd H2 p (.lst ws0)) := fun c o e => by rw [upd_ne (ne_of_none e np)]; exact S2 _ _ e
            have hze3 : ∀ (i : Nat) o x, r1.els[i]? = some o → zs[i]? = some x → IsE (upd H2 p (.lst ws0)) o x := fun i o x h1 h2 => by
              rcases hze i o x h1 h2 with ⟨r, e, h⟩ | h
              · exact .inl ⟨r, e, h.mono kp1⟩
              · exact .inr h
            generalize upd H2 p (.lst ws0) = H3 at hq3 hp3 ir3 rs3 S3 hze3 ⊢
            refine ⟨q1, rfl, ⟨_, SqT.of hq3⟩, fun D hD => ?_⟩
            refine lcgT (C := 0) (R := IsR) (ds := r1.els) Option.isSome (fun o => o.getD (.wd "")) (fun _ _ _ _ kp h => h.mono kp) (SqT.of hq3) hzl (by omega) hD (fun i x d H4 Q4 hx hd s4 k4 => ?_) (fun i x d H4 Q4 hx hd hp4 s4 k4 => ?_) fun vs H4 s4 hD4 hvs => ?_
            · rcases (hze3 i d x hd hx).same s4 with ⟨r', rfl, ir'⟩ | ⟨rfl, ⟨z, rfl⟩ | ⟨z, rfl⟩⟩
              · obtain ⟨pf, us, rfl, hpf⟩ := ir'.hd
                exact ⟨_, rfl, _, .ty "tuple", _, _, _, rfl, .ty "tuple", .base (.tup hpf), isi_tup, _, rfl, k4 _ (Same.refl _)⟩
              · exact ⟨_, rfl, _, .ty "tuple", _, _, _, rfl, .ty "tuple", .base (.str _), isi_stup, _, rfl, k4 _ (Same.refl _)⟩
              · exact ⟨_, rfl, _, .ty "tuple", _, _, _, rfl, .ty "tuple", .base (.int _), isi_itup, _, rfl, k4 _ (Same.refl _)⟩
            · rcases (hze3 i d x hd hx).same s4 with ⟨r', rfl, ir'⟩ | ⟨rfl, _⟩
              · exact ⟨_, rfl, k4 _ _ (Same.refl _) ir'⟩
              · cases hp4
            · rw [els_kids] at hvs
              have hvl := hvs.len
              have hk2 : r1.kids.length ≤ 2 := by cases r1 <;> simp [Rc.kids]
              refine ⟨p, D, ws0, vs, rfl, rfl, s4 _ _ hp3, hD4, (by omega), ?_⟩
              have kp5 := Kp.upd_lst (C := 0) (ys := ws0 ++ vs) (s4 _ _ hp3)
              refine ⟨_, ws0 ++ vs, rs0 ++ r1.kids, rfl, fun c o e => ?_, upd_same, ?_, ?_, ?_⟩
              · rw [upd_ne (ne_of_none e np)]
                exact s4 _ _ (S3 _ _ e)
              · exact (rs3.mp fun r v h => (h.same s4).mono kp5).app (hvs.mp fun r v h => h.mono kp5)
              · rw [szR_app]
                have := sz_kids r1
                omega
              · rw [List.length_append]
                omega
          · refine hK _ _ ⟨n, _, rfl, S2, fun h => absurd h ?_⟩
            have := of_decide_eq_false (by simpa using hlt : decide ((n : Int) < 101) = false)
            exact this
    · rintro σ' Hc ⟨n, t3, rfl, sc, hb⟩
      exact ⟨_, rfl, k _ _ sc hb⟩
end
end Rd
namespace Rd
open PySem L2
section
variable {X : Cx} {CX : CXT} {k : Nat} {ps : List Str} {sp : Sp} {E : St → XK} {x c m : Str} {p pos apos : Pos} {e o : Expr} {es : List Expr} {t : TA} {ta : TE}
/-- a method of one's own, called in a try's body -/
theorem pe_fmS {pl : Sem Bool} (he : PE X o ta) (cl : Cls X.K (He.ga X.K c)) (F : Fm X.prog X.w X.K X.mg X.base CX k c m ps sp) (hr : Room k X.A) (hx : ∀ σ, PassesAt CX X σ (E σ)) (ha : PA X (e :: es) t)
    (hst : starEach (e :: es) X.env = (false, eval e X.env) :: starEach es X.env := by rfl) (hpl : (backTo pos (starEach es X.env)).any (·.1) = false := by rfl)
    (ht : eval (.Call (.Attribute o m apos) (e :: es) [] pos) X.env = (do
      let ov ← eval o X.env
      standAt apos.atName
      let (f, first) ← holding [ov] (getMethod ov m pl)
      callWith pos f first (backTo pos (starEach (e :: es) X.env)) (backToKw pos (keywordEach [] X.env))) := by rfl) :
    PE X (.Call (.Attribute o m apos) (e :: es) [] pos) (tMethS (He.ga X.K c) m sp E ta t) := by
  obtain ⟨⟨fd, f1, b1⟩, me⟩ := F
  refine ⟨fun pins s σ H Q I h => ?_⟩
  refine PySem.W.methodCall_KW (pl := pl) (thn (he.run pins s σ H _ I h) fun u s1 ⟨x, H1, I1, rx, a, dx, fs, ex, ea, l, q⟩ => ?_) ht
  subst ex
  obtain rfl : u = Value.ref a := rx
  refine getmeth_ok I1 ea cl me l ?_
  refine PySem.W.callWith_K (first := [.ref a]) (h₀ := X.base) I.ok.mod.kin me.kp (thn (ha.run pos pins s1 σ H1 _ I1 q) fun us s2 ⟨vs, H2, I2, r, q2⟩ => ⟨I2.kIn, ?_⟩) hst hpl
  exact run_fnS (us := .ref a :: us) (vs := .ref a :: vs) f1 hr b1 (hx σ) I2 (.cons rfl r) q2
end
def sp_rtried (K : PySem.W.Frag) (n : Nat) : Sp := fun vs H Q _ => ∃ (h : Addr) (v : V) (ts : List Tr) (r : Rc), vs = [.ref h, v] ∧ IsHp K H h ts ∧ (∀ t ∈ ts, Wf t ∧ t.dep ≤ 100) ∧ ts.length ≤ 100000 ∧ IsR H r v ∧ RcOk r ∧ r.dp ≤ n ∧ n ≤ 110 ∧ ∀ q H', Same H H' → RunV ts r H' q → Q (.ref q) H'
section
variable {P : Program} {w : World} {K : PySem.W.Frag} {mg : Str → Option Value} {base : Heap}
abbrev s__law_tried : Stmt := top 71
theorem sc__law_tried : FnScope ["_law_heap_here", "_law_recipe_here", "e"] ["_law_heap_here", "_law_recipe_here"] (defScope s__law_tried) := ⟨rfl, rfl, rfl, by decide +kernel, rfl, by decide +kernel, by decide +kernel⟩
theorem ok__law_tried (T : Tx w K mg) (n : Nat) : Fk P w K mg base CX0 (n + 40) "_law_tried" ["_law_heap_here", "_law_recipe_here"] (sp_rtried K n) := by
  refine T.F__law_tried.ok0 sc__law_tried (fun _ _ _ _ _ _ us hl => match us, hl with | [_, _], _ => rfl)
    (fun vs H Q E h => ?_) (fun cdv A outer s H vs Q E hr h => ?_)
  · obtain ⟨h, v, ts, r, rfl, _⟩ := h
    rfl
  · obtain ⟨h, v, ts, r, rfl, ih, wt, hl, ir, ok, dp, n110, k⟩ := h
    refine ⟨_, (pss_cons (L2N.ps_try_as (tb := fun W => tRet (tTup (tCons (tC (.str "made")) (tCons (tMeth (He.ga K "Letter") "form" (sp_form K) [] E0 (tMethS (He.ga K "Heap") "run" (sp_hrunG K n) (WE W) (tVar 0) (tCons (tVar 1) tNil)) tNil) tNil)))) (ts := fun a cls d => tIfS (tAnd (tB (tCB (rIsX K a cls d) (tCons (tVar 2) (tCons (tC (.ref (He.ga K "NoWay"))) tNil)))) (tNot (tB (tCB (rIsXt K a cls d) (tCons (tVar 2) (tCons (tTup (tCons (tC (.ref (He.ga K "BadRecipe"))) (tCons (tC (.ref (He.ga K "BadHeap"))) tNil))) tNil)))))) (tRet (tTup (tCons (tC (.str "stuck")) (tCons (tXf a cls d (He.ga K "NoWay") "step" (tVar 2)) tNil)))) tNext) (i := 2) rfl rfl sc__law_tried.nd rfl rfl ⟨rfl, by decide, .inl T.g_RoadError⟩ takes0N (fun W pn xe tk _ => (pss_one (ps_ret (pe_tup (pa_cons pe_str (pa_cons (pe_fm0 (pe_fmS (pv 0) T.k_Heap (ok_hrunG T n) (hr.mono (by omega)) (fun σ => L2N.passAt tk σ) (pa_cons (pv 1) pa_nil)) T.k_Letter (ok_form T) (hr.mono (by omega)) pass0) pa_nil)))))) (fun a oe cls d pn hz hf => (pss_one (ps_if (PW.pt (pw_and (pt_val (pe_callB (call_isX hz.zc hf) (by rfl) T.z_isinstance (by decide +kernel) (pa_cons (pv 2) (pa_cons (pe_gcls rfl T.X_NoWay.g) pa_nil)))) (pw_and1 (pt_not (pt_val (pe_callB (call_isXt hz.zc hf) (by rfl) T.z_isinstance (by decide +kernel) (pa_cons (pv 2) (pa_cons (pe_tup (pa_cons (pe_gcls rfl T.g_BadRecipe) (pa_cons (pe_gcls rfl T.X_BadHeap.g) pa_nil))) pa_nil)))))))) (pss_one (ps_ret (pe_tup (pa_cons pe_str (pa_cons (pe_xf T.X_NoWay.xf T.X_NoWay.no hz.zc hf (pv 2)) pa_nil))))) pss_nil))))
  (pss_one (ps_ret (pe_tup (pa_cons pe_str (pa_cons pe_non pa_nil)))))), ?_⟩
    obtain ⟨dx, q, ws, hh, hq, hts⟩ := id ih
    refine ⟨_, rfl, h, dx, _, rfl, hh, rfl, _, rfl, h, v, ts, r, rfl, ih, wt, hl, ir, ok, dp, n110, fun t et x H' s' il => ?_, fun e ee d v' H' s' iv hd => ?_⟩
    · obtain ⟨x', u, ex, ⟨dl, hx'⟩, it⟩ := il
      cases ex
      exact ⟨_, dl, _, rfl, hx', rfl, _, _, rfl, ⟨dl, hx'⟩, (by show 2 ≤ sizeLine; decide), fun p hp => k p _ (s'.trans (Rd.Same.upd hp)) (.inl ⟨t, u, et, upd_same, it.same (Rd.Same.upd hp)⟩)⟩
    · refine ⟨true, T.W_NoWay.up, fun _ i' hi' => ?_, fun q => by cases q⟩
      refine ⟨_, rfl, He.ga K "NoWay", d, _, .ref (He.ga K "NoWay"), .ref (He.ga K "NoWay"), true, rfl, rfl, rfl, hd, T.W_NoWay.c, fun u hu => hu, T.W_NoWay.one, true, rfl, ?_⟩
      refine iteP rfl ?_
      refine ⟨_, rfl, (by show 2 ≤ sizeLine; decide), fun p hp => ?_⟩
      have sp := Rd.Same.upd (o := .tup [.ref (He.ga K "BadRecipe"), .ref (He.ga K "BadHeap")]) hp
      refine ⟨He.ga K "NoWay", d, p, _, [.ref (He.ga K "BadRecipe"), .ref (He.ga K "BadHeap")], [.ref (He.ga K "BadRecipe"), .ref (He.ga K "BadHeap")], false, rfl, rfl, rfl, sp _ _ hd, T.W_NoWay.c, upd_same, fun us hv => ?_, T.W_NoWay.any, false, rfl, ?_⟩
      · cases hv with
        | cons h1 hv =>
          cases hv with
          | cons h2 hv =>
            cases hv
            cases h1
            cases h2
            rfl
      · refine iteP rfl ?_
        refine ⟨_, rfl, rfl, rfl, d, _, _, rfl, sp _ _ hd, lookX _, (by show 2 ≤ sizeLine; decide), fun q2 hq2 => ?_⟩
        have s2 := Rd.Same.upd (o := .tup [.str "stuck", v']) hq2
        exact k q2 _ ((s'.trans sp).trans s2) (.inr ⟨e, v', ee, upd_same, iv.same (sp.trans s2)⟩)
end
end Rd
namespace Rd
open PySem L2
theorem rcd_dep : ∀ {r : Rc}, (rcd r).depth ≤ r.dp + 1
  | .at_ k => by show max 0 (max 0 0) + 1 ≤ 0 + 1; decide
  | .wd x => by show max 0 (max 0 0) + 1 ≤ 0 + 1; decide
  | .un s a => by
    show max 0 (max (rcd a).depth 0) + 1 ≤ a.dp + 1 + 1
    have := rcd_dep (r := a)
    omega
  | .bi s a b => by
    show max 0 (max (rcd a).depth (max (rcd b).depth 0)) + 1 ≤ max a.dp b.dp + 1 + 1
    have := rcd_dep (r := a)
    have := rcd_dep (r := b)
    omega
/-- the step that is stuck is a part of the recipe -/
theorem rcx_part {ts : List Tr} : ∀ {r : Rc}, RcOk r → ∀ {e : Rc}, rcx ts r = .inl e → RcOk e ∧ e.dp ≤ r.dp
  | .at_ k, _, e, h => by
    have h : (if 0 ≤ k then (match ts[k.toNat]? with | some t => Sum.inr t | none => .inl (Rc.at_ k)) else .inl (Rc.at_ k)) = (.inl e : Rc ⊕ Tr) := h
    have he : e = .at_ k := by
      split at h
      · split at h <;> cases h
        rfl
      · cases h
        rfl
    subst he
    exact ⟨trivial, Nat.le_refl _⟩
  | .wd x, _, e, h => by
    have h : (.inr (.am "word" x) : Rc ⊕ Tr) = .inl e := h
    cases h
  | .un s r, ok, e, h => by
    have d : (Rc.un s r).dp = r.dp + 1 := rfl
    unfold rcx at h
    cases hr : rcx ts r with
    | inl e' =>
      rw [hr] at h
      cases h
      obtain ⟨h1, h2⟩ := rcx_part (r := r) ok.2 hr
      exact ⟨h1, by omega⟩
    | inr t =>
      rw [hr] at h
      have h : (match wk1 s t with | some u => (.inr u : Rc ⊕ Tr) | none => .inl (.un s r)) = .inl e := h
      split at h <;> cases h
      exact ⟨ok, Nat.le_refl _⟩
  | .bi s r q, ok, e, h => by
    have d : (Rc.bi s r q).dp = max r.dp q.dp + 1 := rfl
    unfold rcx at h
    cases hr : rcx ts r with
    | inl e' =>
      rw [hr] at h
      cases h
      obtain ⟨h1, h2⟩ := rcx_part (r := r) ok.2.1 hr
      exact ⟨h1, by omega⟩
    | inr t =>
      rw [hr] at h
      have h : (match rcx ts q with | .inl e => (.inl e : Rc ⊕ Tr) | .inr t2 => match wk2 s t t2 with | some u => .inr u | none => .inl (.bi s r q)) = .inl e := h
      cases hq : rcx ts q with
      | inl e' =>
        rw [hq] at h
        cases h
        obtain ⟨h1, h2⟩ := rcx_part (r := q) ok.2.2 hq
        exact ⟨h1, by omega⟩
      | inr t2 =>
        rw [hq] at h
        have h : (match wk2 s t t2 with | some u => (.inr u : Rc ⊕ Tr) | none => .inl (.bi s r q)) = .inl e := h
        split at h <;> cases h
        exact ⟨ok, Nat.le_refl _⟩
theorem runV_eq {K : PySem.W.Frag} {ts : List Tr} {r : Rc} {H : Hp} {p q : Addr} (h1 : RunV ts r H p) (h2 : RunV ts r H q) (wt : ∀ t ∈ ts, Wf t ∧ t.dep ≤ 100) (ok : RcOk r) (dp : r.dp ≤ 110) : ∃ d, Dp K H (.ref p) d ∧ Dp K H (.ref q) d ∧ LayW d := by
  rcases h1 with ⟨t, u, e, hp, it⟩ | ⟨e, u, ee, hp, ie⟩
  · rcases h2 with ⟨t', u', e', hq, it'⟩ | ⟨e', u', ee', hq, ie'⟩
    · rw [e] at e'
      cases e'
      obtain ⟨wf, hd⟩ := rcx_wf (D := 100) wt ok e
      have i1 : IsT H (.un "made" t) (.ref p) := ⟨p, u, rfl, hp, it⟩
      have i2 : IsT H (.un "made" t) (.ref q) := ⟨q, u', rfl, hq, it'⟩
      have fm : (Tr.un "made" t).fine := ⟨okS_by (by decide +kernel), wf.fine⟩
      have hd2 := dat_dep (t := .un "made" t)
      have hd3 : (Tr.un "made" t).dep = t.dep + 1 := rfl
      exact ⟨_, i1.dp, i2.dp, dat_lay fm, by omega⟩
    · rw [e] at ee'
      cases ee'
  · rcases h2 with ⟨t', u', e', hq, it'⟩ | ⟨e', u', ee', hq, ie'⟩
    · rw [ee] at e'
      cases e'
    · rw [ee] at ee'
      cases ee'
      obtain ⟨eok, ed⟩ := rcx_part ok ee
      have d1 := rcd_dep (r := e)
      refine ⟨.tuple [.str "stuck", rcd e], .tup (SqT.of hp) (.cons (.str _) (.cons ie.dp .nil)), .tup (SqT.of hq) (.cons (.str _) (.cons ie'.dp .nil)), ?_, ?_⟩
      · show (PySem.PyData.strOk "stuck" && ((rcd e).canLay0 && true)) = true
        rw [strOk_of (okS_by (by decide +kernel)), eok.lay]
        rfl
      · show max 0 (max (rcd e).depth 0) + 1 ≤ 500
        omega
end Rd
namespace Rd
open PySem L2
/-- [d[x] for x in d] -/
theorem lcvd {d D : Addr} {o : Obj} {kvs : List (Key × V)} {α : Type} {l : List (Str × α)} {R : Hp → α → V → Prop} {tv : TE} {i0 : Nat} {σ : St} {H1 : Hp} {Qd : Hp → Prop}
    (hd : H1 d = some (.frz o (.dK kvs))) (al : AlG R H1 l kvs) (nd : (l.map (·.1)).Nodup) (hl : l.length ≤ 100000) (hD : H1 D = none)
    (hw : ∀ p : V, wipe ((wipe σ [i0]).set i0 (some p)) [i0] = wipe σ [i0])
    (hte : ∀ (i : Nat) (x : Str) (t : α) (v : V) (σ2 : St) (H : Hp) (Q : VK), l[i]? = some (x, t) → Same H1 H → DGet H d (.str x) (some v) → σ2 = (wipe σ [i0]).set i0 (some (.str x)) → Q v H → tv σ2 H Q)
    (hq : ∀ vs H', Same H1 H' → H' D = some (.lst vs) → vs.length = l.length → (∀ (i : Nat) v, vs[i]? = some v → ∃ p ∈ l, R H1 p.2 v) → Qd H') :
    ∃ W : Nat → Nat → Hp → Prop, (∃ m, W 0 m (L2.upd H1 D (.lst []))) ∧ ∀ i m H, W i m H →
      ((Itk d o kvs).stop i H ∧ Qd H) ∨ ((Itk d o kvs).go i H ∧ ∃ Nx : Hp → Prop, (∀ H', Nx H' → ∃ m', m' < m ∧ W (i + 1) m' H') ∧ ∀ x H', (Itk d o kvs).yld i H x H' → gName i0 x (wipe σ [i0]) H' fun σ2 H2 => wipe σ2 [i0] = wipe σ [i0] ∧ tYes σ2 H2 fun b H3 =>
        if b = true then tv σ2 H3 fun y H4 => ∃ acc, H4 D = some (.lst acc) ∧ acc.length < sizeLine ∧ Nx (L2.upd H4 D (.lst (acc ++ [y]))) else Nx H3) := by
  have hlen := al.len
  have big : 200000 ≤ sizeLine := by decide
  refine ⟨fun i m H => m = kvs.length - i ∧ i ≤ kvs.length ∧ ∃ vs, Same H1 H ∧ H D = some (.lst vs) ∧ vs.length = i ∧ ∀ (j : Nat) v, vs[j]? = some v → ∃ p ∈ l, R H1 p.2 v, ⟨_, rfl, Nat.zero_le _, [], Rd.Same.upd hD, upd_same, rfl, fun j v h => by simp at h⟩, ?_⟩
  rintro i m H ⟨rfl, hi, vs, s, hDa, hvl, hr⟩
  by_cases hlt : i < kvs.length
  · refine .inr ⟨⟨s _ _ hd, hlt⟩, fun H' => ∃ vs, Same H1 H' ∧ H' D = some (.lst vs) ∧ vs.length = i + 1 ∧ ∀ (j : Nat) v, vs[j]? = some v → ∃ p ∈ l, R H1 p.2 v, fun H' h => ⟨kvs.length - (i + 1), by omega, rfl, hlt, h⟩, ?_⟩
    rintro _ _ ⟨rfl, k, v0, hk, rfl⟩
    obtain ⟨x, t, hx, rfl, _⟩ := al.get hk
    obtain ⟨t2, et⟩ := lookG_some (l := l) (x := x) (List.mem_map.mpr ⟨_, List.mem_of_getElem? hx, rfl⟩)
    obtain ⟨v, ev, r1⟩ := (al.look (x := x)).1 t2 et
    refine ⟨hw _, ?_⟩
    unfold tYes
    refine iteT (hte i x t v _ _ _ hx s (.inl ⟨kvs, .inr x, .inr ⟨o, s _ _ hd⟩, rfl, ev.symm⟩) rfl ⟨vs, hDa, by omega, vs ++ [v], fun c o e => ?_, upd_same, by rw [List.length_append, hvl]; rfl, fun j v' hj => ?_⟩)
    · rw [upd_ne (ne_of_none e hD)]
      exact s _ _ e
    · by_cases hjl : j < vs.length
      · rw [List.getElem?_append_left hjl] at hj
        exact hr j v' hj
      · rw [List.getElem?_append_right (by omega)] at hj
        cases hz : j - vs.length with
        | zero => rw [hz] at hj; cases hj; exact ⟨_, lookG_mem et, r1⟩
        | succ z => rw [hz] at hj; simp at hj
  · exact .inl ⟨⟨s _ _ hd, by omega⟩, hq vs H s hDa (by omega) hr⟩
end Rd
namespace Rd
open PySem L2
theorem all_nod : ∀ t : Tr, t.all.length ≤ 2 * t.nod + 1
  | .am _ _ => Nat.le_refl _
  | .un s a => by
    have := all_nod a
    show a.all.length + 1 ≤ 2 * (a.nod + 1) + 1
    omega
  | .bi s a b => by
    have := all_nod a
    have := all_nod b
    show (a.all ++ b.all).length + 1 ≤ 2 * (a.nod + b.nod + 1) + 1
    rw [List.length_append]
    omega
theorem Fo.size {t : Tr} (h : Fo 3 t) : t.all.length ≤ 29 := by
  have h1 := all_nod t
  have h2 : t.nod + 2 ≤ 16 := h.nod
  omega
theorem fo_big {fs : List Tr} (hl : fs.length ≤ 7) (h : ∀ t ∈ fs, Fo 3 t) : bigTs 6 fs ∧ okTs 6 fs ∧ (allOf fs).length ≤ 203 := by
  have h1 : (allOf fs).length ≤ fs.length * 29 := by
    rw [allOf_len]
    exact szs_le fun t ht => (h t ht).size
  have h2 : fs.length * 29 ≤ 7 * 29 := Nat.mul_le_mul_right _ hl
  exact ⟨⟨29, fun t ht => ⟨(h t ht).wf, (h t ht).dep, (h t ht).size⟩, by omega, by omega⟩, ⟨by omega, fun t ht => ⟨(h t ht).wf, (h t ht).dep, (h t ht).pl⟩⟩, by omega⟩
theorem cut_from2 {xs : List V} {k : Nat} (h : k ≤ xs.length) : cutV xs (some (k : Int)) none = xs.drop k := by
  unfold cutV
  rw [HT.sIx_nat, Nat.min_eq_left h]
  show (xs.drop k).take (xs.length - k) = xs.drop k
  rw [← List.length_drop, List.take_length]
theorem RunV.same {ts : List Tr} {r : Rc} {H H' : Hp} {q : Addr} (s : Same H H') (h : RunV ts r H q) : RunV ts r H' q := by
  rcases h with ⟨t, u, e, h1, h2⟩ | ⟨e, u, e1, h1, h2⟩
  · exact .inl ⟨t, u, e, s _ _ h1, h2.same s⟩
  · exact .inr ⟨e, u, e1, s _ _ h1, h2.same s⟩
def spLaw (K : PySem.W.Frag) : Sp := fun vs H Q _ => ∃ (a : Addr) (ns : List Int), vs = [.ref a] ∧ SqL K H a (ns.map V.int) ∧ ns.length ≤ 63 ∧ ∀ H', Q (.bl true) H'
section
variable {P : Program} {w : World} {K : PySem.W.Frag} {mg : Str → Option Value} {base : Heap}
abbrev s_law : Stmt := top 73
theorem sc_law : FnScope ["_law_script", "_law_forms_here", "_law_atoms_here", "_law_heap_here", "_law_found", "_law_ways", "_law_text_here", "_law_k", "_law_draws", "_law_recipe_here", "_law_turn", "_law_due"] ["_law_script"] (defScope s_law) := ⟨rfl, rfl, rfl, by decide +kernel, rfl, by decide +kernel, by decide +kernel⟩
theorem ok_law {f : Addr} {fd : FuncData} (F : FunD K "law" "law" (defArgs s_law) (defBody s_law) (defScope s_law) [] [] f fd) (T : Tx w K mg) : FnOk P w K mg base CX0 150 f fd ["_law_script"] (spLaw K) := by
  refine F.ok sc_law (fun vs H Q E h => ?_) (fun cdv A outer s H vs Q E hr h => ?_)
  · obtain ⟨a, ns, rfl, _⟩ := h
    rfl
  · obtain ⟨a, ns, rfl, hS, hn, k⟩ := h
    refine ⟨_, PSs.nox (pss_cons (ps_asg (pe_fk (ok__law_drawn_heap T) (hr.mono (by omega)) rfl pass0 (pa_cons (pv 0) pa_nil)) (pg_tup rfl (pgs_cons (pg_name (i := 1) sc_law.nd rfl (Or.inl rfl)) (pgs_cons (pg_name (i := 2) sc_law.nd rfl (Or.inl rfl)) pgs_nil))))
  (pss_cons (ps_set (i := 3) sc_law.nd rfl (Or.inl rfl) (pe_fk (ok__law_heap T) (hr.mono (by omega)) rfl pass0 (pa_cons (pv 1) pa_nil)))
  (pss_cons (ps_set (i := 4) sc_law.nd rfl (Or.inr rfl) (pe_fk (ok__law_all_ways T 6) (hr.mono (by omega)) rfl pass0 (pa_cons (pv 1) pa_nil)))
  (pss_cons (ps_lock (ps_setLc (i := 5) (own := [("_law_text_here", 6)]) (g := gName 6) (tt := tYes) (by rfl) sc_law.nd rfl rfl (sw_true rfl rfl rfl (by decide +kernel)) (pi_keys (pv 4)) (blkOk_by (own := [("_law_text_here", 6)]) (N := ["_law_script", "_law_forms_here", "_law_atoms_here", "_law_heap_here", "_law_found", "_law_ways", "_law_text_here", "_law_k", "_law_draws", "_law_recipe_here", "_law_turn", "_law_due"]) (sc := defScope s_law) (by decide +kernel)) (fun _ _ _ _ _ => (pg_name (i := 6) sc_law.nd rfl (Or.inl rfl))) (fun _ _ _ _ _ => pts_nil) (fun _ _ _ _ _ => (pe_dget (hu_of hr) (pv 4) (pv 6) (fun _ _ => rfl)))))
  (pss_cons (ps_for PassesOwn.never rfl (pi_range1 rfl T.z_range (pa_cons pe_int pa_nil)) (pg_name (i := 7) sc_law.nd rfl (Or.inl rfl))
  (pss_cons (ps_set (i := 8) sc_law.nd rfl (Or.inl rfl) (pe_fk (ok__law_row T) (hr.mono (by omega)) rfl pass0 (pa_cons (pe_fk (ok__law_apart T) (hr.mono (by omega)) rfl pass0 (pa_cons (pe_fk (ok__law_cell_at T) (hr.mono (by omega)) rfl pass0 (pa_cons (pv 0) (pa_cons (pe_op op_add pe_int (pv 7)) pa_nil))) (pa_cons (pv 7) pa_nil))) (pa_cons pe_int pa_nil))))
  (pss_cons (ps_set (i := 9) sc_law.nd rfl (Or.inl rfl) (pe_fk (ok__law_recipe T 4) (hr.mono (by omega)) rfl pass0 (pa_cons (pv 8) (pa_cons pe_int (pa_cons pe_int (pa_cons (pe_callB call_len_seq (by rfl) T.z_len (by decide +kernel) (pa_cons (pv 1) pa_nil)) pa_nil))))))
  (pss_cons (ps_if (pt_cmpR op_eq (pe_op op_mod (pe_callTy call_int1 (by rfl) T.z_int (by decide +kernel) (pa_cons (pe_ix ix_list (pv 8) pe_int (fun _ _ => rfl)) pa_nil)) pe_int) pe_int (nomark _))
  (pss_cons (ps_set (i := 9) sc_law.nd rfl (Or.inl rfl) (pe_ix ix_list (pv 5) (pe_op op_mod (pe_callTy call_int1 (by rfl) T.z_int (by decide +kernel) (pa_cons (pe_ix ix_list (pv 8) pe_int (fun _ _ => rfl)) pa_nil)) (pe_callB call_len_seq (by rfl) T.z_len (by decide +kernel) (pa_cons (pv 5) pa_nil))) (fun _ _ => rfl)))
  (pss_one (ps_for PassesOwn.never rfl (pi_range1 rfl T.z_range (pa_cons (pe_op op_mod (pe_callTy call_int1 (by rfl) T.z_int (by decide +kernel) (pa_cons (pe_ix ix_list (pv 8) pe_int (fun _ _ => rfl)) pa_nil)) pe_int) pa_nil)) (pg_name (i := 10) sc_law.nd rfl (Or.inl rfl))
  (pss_one (ps_set (i := 9) sc_law.nd rfl (Or.inl rfl) (pe_fk (ok__law_longer T) (hr.mono (by omega)) rfl pass0 (pa_cons (pe_slice sl_list (pv 8) (po_some (pe_op op_add pe_int (pe_op op_mul pe_int (pv 10)))) po_none) (pa_cons (pv 9) (pa_cons (pe_callB call_len_seq (by rfl) T.z_len (by decide +kernel) (pa_cons (pv 1) pa_nil)) pa_nil)))))))))
  pss_nil)
  (pss_cons (ps_if (pt_cmpR op_gt (pe_fk (ok__law_tuples T) (hr.mono (by omega)) rfl pass0 (pa_cons (pv 9) pa_nil)) pe_int (nomark _))
  (pss_one (ps_set (i := 9) sc_law.nd rfl (Or.inl rfl) (pe_tup (pa_cons pe_str (pa_cons pe_int pa_nil)))))
  pss_nil)
  (pss_cons (ps_set (i := 11) sc_law.nd rfl (Or.inl rfl) (pe_fk (ok__law_run T 101) (hr.mono (by omega)) rfl pass0 (pa_cons (pv 9) (pa_cons (pv 1) pa_nil))))
  (pss_cons (ps_if (PW.pt (pw_or (pt_cmpR (op_neW (units500 hr (by omega))) (pe_fk (ok__law_tried T 100) (hr.mono (by omega)) rfl pass0 (pa_cons (pv 3) (pa_cons (pv 9) pa_nil))) (pv 11) (nomark _)) (pw_or1 (pt_cmpR (op_neW (units500 hr (by omega))) (pe_fk (ok__law_tried T 100) (hr.mono (by omega)) rfl pass0 (pa_cons (pv 3) (pa_cons (pv 9) pa_nil))) (pv 11) (nomark _)))))
  (pss_one (ps_ret pe_bl))
  pss_nil)
  (pss_one (ps_if (pt_cmpR (op_neD hr.units) (pe_fk (ok__law_toldL T) (hr.mono (by omega)) rfl pass0 (pa_cons (pe_fm0 (pv 3) T.k_Heap (ok_letters T) (hr.mono (by omega)) pass0) pa_nil)) (pv 1) (nomark _))
  (pss_one (ps_ret pe_bl))
  pss_nil)))))))))
  (pss_one (ps_ret pe_bl))))))), ?_⟩
    refine seqAsg ⟨_, rfl, a, ns, rfl, hS, hn, fun q qf qa us fs ws ts H1 s1 hq hqf hfs hf0 hf6 hfo hqa hts hat => ?_⟩
    refine ⟨q, _, rfl, SqT.of hq, rfl, _, _, rfl, _, _, rfl, rfl, ?_⟩
    try dsimp only
    have big : 16777216 ≤ sizeLine := by decide
    obtain ⟨hbig, hok, hall⟩ := fo_big (by omega) hfo
    refine seqAsg ⟨_, rfl, qf, us, fs, rfl, hqf, hfs, hok, fun h H2 s2 hH => ?_⟩
    refine gName_k ?_
    try dsimp only
    obtain ⟨dh, qh, wh, hh, hqh, hth⟩ := id hH
    have hfw6 : ∀ t ∈ fs, Wf t ∧ t.dep ≤ 6 := fun t ht => ⟨(hfo t ht).wf, (hfo t ht).dep⟩
    refine seqAsg ⟨_, rfl, qf, us, fs, rfl, s2 _ _ hqf, hfs.same s2, hfw6, (by decide), hf0, (by omega), fun D kvs l H3 s3 nD hD al lok l0 l5 lnd => ?_⟩
    refine gName_k ?_
    try dsimp only
    refine ⟨D, _, hD, trivial, fun od => ⟨_, rfl, D, od, rfl, .inl ⟨kvs, upd_same, fun D2 hD2 => ?_⟩⟩⟩
    have ka : Kp 0 H3 (upd H3 D (.frz od (.dK kvs))) := fun c o hi e => by
      rw [upd_ne (fun z => by rw [z, hD] at e; cases e; cases hi)]
      exact e
    refine lcvd (l := l) (R := IsR) upd_same (al.mono fun t v h => h.mono ka) lnd (by omega) hD2 (fun _ => rfl) (fun i x t v σ2 H4 Q4 hx s4 dg e k4 => ?_) fun rs H4 s4 hD24 hrl hrs => ?_
    · subst e
      exact ⟨_, rfl, _, rfl, D, v, rfl, dg, k4⟩
    have hD4 := s4 _ _ (upd_same (H := H3) (a := D))
    refine ⟨hD4, ?_⟩
    have kx : Kp 0 H4 (upd H4 D (.dK kvs)) := fun c o hi e => by
      rw [upd_ne (fun z => by rw [z, hD4] at e; cases e; cases hi)]
      exact e
    have S4 : Same H2 (upd H4 D (.dK kvs)) := fun c o e => by
      rw [upd_ne (ne_of_none e nD)]
      exact s4 _ _ (by rw [upd_ne (ne_of_none e nD)]; exact s3 _ _ e)
    have neD : D2 ≠ D := fun z => by rw [z, upd_same] at hD2; cases hD2
    have hrs4 : ∀ (i : Nat) v, rs[i]? = some v → ∃ rc, RcOk rc ∧ IsR (upd H4 D (.dK kvs)) rc v := fun i v e => by
      obtain ⟨p, hp, ir⟩ := hrs i v e
      exact ⟨p.2, lok p hp, (ir.same s4).mono kx⟩
    have hD2f : upd H4 D (.dK kvs) D2 = some (.lst rs) := by rw [upd_ne neD]; exact hD24
    generalize upd H4 D (.dK kvs) = H5 at S4 hrs4 hD2f ⊢
    refine gName_k ?_
    try dsimp only
    have S15 : Same H1 H5 := s2.trans S4
    have hqf5 := S15 _ _ hqf
    have hfs5 := hfs.same S15
    have hH5 := hH.same S4
    have hh5 := S4 _ _ hh
    have hS5 := SqL.kept hS (s1.trans S15)
    have hfl := hfs.len
    have hfw100 : ∀ t ∈ fs, Wf t ∧ t.dep ≤ 100 := fun t ht => ⟨(hfw6 t ht).1, by have := (hfw6 t ht).2; omega⟩
    have ft : ∀ t ∈ fs, t.fine ∧ t.dep ≤ 60 := fun t ht => ⟨(hfw6 t ht).1.fine, by have := (hfw6 t ht).2; omega⟩
    refine seqJoin (fun σ' Hc => True) (fun KK hK => ?_) (fun _ _ _ => k _)
    refine ⟨8, rfl, by decide, by decide, for_range (n := 8) (fun i σ Hc => ∃ (t6 t7 t8 t9 t10 t11 : Option V), σ = [some (.ref a), some (.ref qf), some (.ref qa), some (.ref h), some (.ref D), some (.ref D2), t6, t7, t8, t9, t10, t11] ∧ Same H5 Hc) ⟨_, _, _, _, _, _, rfl, Same.refl _⟩ ?_ (fun σ' Hc _ => hK _ _ trivial)⟩
    rintro i σ Hc hi ⟨t6, t7, t8, t9, t10, t11, rfl, sc⟩
    refine gName_k ?_
    try dsimp only
    refine seqAsg ⟨_, rfl, _, rfl, _, _, rfl, rfl, a, ns, _, rfl, SqL.kept hS5 sc, hn, (by omega), fun c => ⟨_, rfl, c, _, rfl, fun c2 => ⟨c2, 100, rfl, (by decide), fun qd ds Hd sd nqd hqd hrow => ?_⟩⟩⟩
    refine gName_k ?_
    try dsimp only
    have Sd := sc.trans sd
    obtain ⟨hdl, hdr⟩ := hrow
    have dz : ∀ j : Nat, j < 100 → ∃ z : Int, (ds.map V.int)[j]? = some (V.int z) := fun j hj => by
      rw [List.getElem?_map, List.getElem?_eq_getElem (by omega)]
      exact ⟨_, rfl⟩
    obtain ⟨d31, e31⟩ := dz 31 (by decide)
    obtain ⟨d32, e32⟩ := dz 32 (by decide)
    obtain ⟨d33, e33⟩ := dz 33 (by decide)
    refine seqAsg ⟨_, rfl, _, rfl, qf, us, rfl, .inl (SqL.of (Sd _ _ hqf5)), qd, 0, 0, us.length, ds, rfl, hqd, hdr, (by decide), rfl, (by omega), (by omega), (by decide), fun rc v Hr sr rok rdp ir => ?_⟩
    refine gName_k ?_
    try dsimp only
    have Sr := Sd.trans sr
    have hdR := sr _ _ hqd
    refine seqJoin (fun σ' Hc' => ∃ (rc : Rc) (v : V) (t10 : Option V), σ' = [some (.ref a), some (.ref qf), some (.ref qa), some (.ref h), some (.ref D), some (.ref D2), t6, some (.int (0 + (i : Int))), some (.ref qd), some v, t10, t11] ∧ Same Hr Hc' ∧ RcOk rc ∧ IsR Hc' rc v) (fun KK2 hK2 => ?_) ?_
    · refine ⟨_, rfl, qd, _, _, _, rfl, rfl, SqL.of hdR, at_of (j := 31) rfl e31, .inl ⟨_, rfl, _, _, rfl, rfl, (by show (0 : Int) < 2; decide), rfl, _, rfl, ite2 (fun _ => ?_) (fun _ => hK2 _ _ ⟨rc, v, _, rfl, Same.refl _, rok, ir⟩)⟩⟩
      have hrp : 0 < (rs.length : Int) := by omega
      obtain ⟨j, z, hj, ez⟩ := atI_of (us := rs) (m := rs.length) (d := d32 % (rs.length : Int)) (Int.emod_nonneg _ (by omega)) (Int.emod_lt_of_pos _ hrp) rfl
      obtain ⟨rc1, ok1, ir1⟩ := hrs4 j z hj
      have hD2r := Sr _ _ hD2f
      refine seqAsg ⟨_, rfl, _, rfl, qd, _, _, _, rfl, rfl, SqL.of hdR, at_of (j := 32) rfl e32, .inl ⟨_, rfl, _, rfl, D2, rs, rfl, .inl (SqL.of hD2r), _, _, rfl, rfl, hrp, D2, _, _, _, rfl, rfl, SqL.of hD2r, ez, ?_⟩⟩
      refine gName_k ?_
      try dsimp only
      have m30 : 0 ≤ d33 % 3 := Int.emod_nonneg _ (by decide)
      have m31 : d33 % 3 < 3 := Int.emod_lt_of_pos _ (by decide)
      refine ⟨_, rfl, qd, _, _, _, rfl, rfl, SqL.of hdR, at_of (j := 33) rfl e33, .inl ⟨_, rfl, _, _, rfl, rfl, (by show (0 : Int) < 3; decide), _, rfl, (by omega), (by omega), for_range (n := (d33 % 3).toNat) (fun _ σ' Hc' => ∃ (rc : Rc) (v : V) (t10 : Option V), σ' = [some (.ref a), some (.ref qf), some (.ref qa), some (.ref h), some (.ref D), some (.ref D2), t6, some (.int (0 + (i : Int))), some (.ref qd), some v, t10, t11] ∧ Same Hr Hc' ∧ RcOk rc ∧ IsR Hc' rc v) ⟨rc1, z, _, rfl, Same.refl _, ok1, ir1.same Sr⟩ ?_ (fun σ' Hc' h => hK2 σ' Hc' h)⟩⟩
      rintro i2 σ2 Hc2 hi2 ⟨rc2, v2, t10', rfl, sc2, ok2, ir2⟩
      refine gName_k ?_
      try dsimp only
      refine asgNx ⟨_, rfl, _, rfl, _, _, rfl, rfl, (.inl ⟨by decide, by decide⟩), _, _, rfl, rfl, _, rfl, qd, _, rfl, SqL.of (sc2 _ _ hdR), fun q1 hq1 => ?_⟩
      have hcut : cutV (ds.map V.int) (some (34 + 33 * (0 + (i2 : Int)))) none = (ds.drop (34 + 33 * i2)).map V.int := by
        rw [show (34 + 33 * (0 + (i2 : Int))) = ((34 + 33 * i2 : Nat) : Int) by omega, cut_from2 (by rw [List.length_map]; omega), List.map_drop]
      rw [hcut]
      have s3' := Rd.Same.upd (o := .lst ((ds.drop (34 + 33 * i2)).map V.int)) hq1
      have h31 : upd Hc2 q1 (.lst ((ds.drop (34 + 33 * i2)).map V.int)) q1 = some (.lst ((ds.drop (34 + 33 * i2)).map V.int)) := upd_same
      generalize upd Hc2 q1 (.lst ((ds.drop (34 + 33 * i2)).map V.int)) = H3' at s3' h31 ⊢
      have S3' := Sr.trans (sc2.trans s3')
      refine ⟨_, rfl, _, rfl, qf, us, rfl, .inl (SqL.of (S3' _ _ hqf5)), q1, v2, us.length, ds.drop (34 + 33 * i2), rc2, rfl, h31, (fun d hd => hdr d (List.mem_of_mem_drop hd)), (by rw [List.length_drop]; omega), (by omega), ir2.same s3', ok2, fun rc' v' H' s' ok' ir' => ?_⟩
      refine gName_k ?_
      try dsimp only
      exact ⟨rc', v', _, rfl, sc2.trans (s3'.trans s'), ok', ir'⟩
    rintro σ' H6 ⟨rc, v, t10, rfl, s6, rok, ir⟩
    try dsimp only
    have S6 := Sr.trans s6
    refine seqJoin (fun σ' Hc' => ∃ (rc : Rc) (v : V), σ' = [some (.ref a), some (.ref qf), some (.ref qa), some (.ref h), some (.ref D), some (.ref D2), t6, some (.int (0 + (i : Int))), some (.ref qd), some v, t10, t11] ∧ Same H6 Hc' ∧ RcOk rc ∧ rc.dp ≤ 100 ∧ IsR Hc' rc v) (fun KK2 hK2 => ?_) ?_
    · refine ⟨_, rfl, _, rc, rfl, ir, fun c5 H7 s7 hb => ⟨_, _, rfl, rfl, _, rfl, ite2 (fun _ => ?_) (fun hgt => ?_)⟩⟩
      · refine asgNx ⟨(by show 2 ≤ sizeLine; decide), fun q1 hq1 => ?_⟩
        have s8 := Rd.Same.upd (o := .tup [.str "at", .int 0]) hq1
        refine gName_k ?_
        try dsimp only
        exact hK2 _ _ ⟨.at_ 0, _, rfl, s7.trans s8, trivial, (by decide), ⟨q1, rfl, upd_same⟩⟩
      · have hle : c5 < 101 := by
          have := of_decide_eq_false (by simpa using hgt : decide ((100 : Int) < c5) = false)
          omega
        exact hK2 _ _ ⟨rc, _, rfl, s7, rok, hb hle, ir.same s7⟩
    clear rok ir
    rintro σ' H7 ⟨rc, v, rfl, s7, rok, rdp, ir⟩
    try dsimp only
    have S7 := S6.trans s7
    refine seqAsg ⟨_, rfl, _, rfl, v, qf, rc, us, fs, rfl, ir, rok, (by omega), (by decide), S7 _ _ hqf5, hfs5.same S7, hfw100, (by omega), fun qr H8 s8 hrv => ?_⟩
    refine gName_k ?_
    try dsimp only
    have S8 := S7.trans s8
    have hh8 := S8 _ _ hh5
    refine seqIf (b := false) (tb_or (b := false) (c := false) (fun Q2 kq => ?_) (fun H9 s9 _ Q2 kq => ?_)) fun H9 s9 => iteF (nxt ?_)
    · refine ⟨_, rfl, _, rfl, h, v, fs, rc, rfl, hH5.same S8, hfw100, (by omega), ir.same s8, rok, rdp, (by decide), fun p H9 s9 hpv => ⟨_, rfl, ?_⟩⟩
      obtain ⟨d, dp1, dp2, lay⟩ := runV_eq hpv (RunV.same s9 hrv) hfw100 rok (by omega)
      refine ⟨d, d, dp1, dp2, lay, lay, _, rfl, ?_⟩
      rw [SeqAt.eqv_refl _ lay.1]
      exact kq _ s9
    · refine ⟨_, rfl, _, rfl, h, v, fs, rc, rfl, hH5.same (S8.trans s9), hfw100, (by omega), ir.same (s8.trans s9), rok, rdp, (by decide), fun p H10 s10 hpv => ⟨_, rfl, ?_⟩⟩
      obtain ⟨d, dp1, dp2, lay⟩ := runV_eq hpv (RunV.same (s9.trans s10) hrv) hfw100 rok (by omega)
      refine ⟨d, d, dp1, dp2, lay, lay, _, rfl, ?_⟩
      rw [SeqAt.eqv_refl _ lay.1]
      exact kq _ s10
    try dsimp only
    have S9 := S8.trans s9
    refine oneIf (b := false) (fun Q2 kq => ?_) fun H10 s10 => iteF ⟨_, _, _, _, _, _, rfl, S9.trans s10⟩
    refine ⟨_, rfl, h, dh, _, rfl, S9 _ _ hh5, lookTn (by decide +kernel), h, fs, rfl, hH5.same S9, (by omega), fun q1 u1 Hy sy nq1 hq1 hl1 => ⟨q1, u1, fs, rfl, hq1, hl1, (by omega), fun q2 u2 Hz sz nq2 hq2 ht2 => ?_⟩⟩
    have Sz := (S9.trans sy).trans sz
    refine ⟨_, rfl, .list (fs.map dat), .list (fs.map dat), .lst (SqL.of hq2) (dpAll_ts ht2), .lst (SqL.of (Sz _ _ hqf5)) (dpAll_ts (hfs5.same Sz)), ts_shaped ft, ts_shaped ft, _, rfl, ?_⟩
    rw [SeqAt.eqv_refl _ (SeqAt.canLay_of_shaped (ts_shaped ft))]
    exact kq _ (sy.trans sz)
end
end Rd
set_option maxHeartbeats 0
namespace Rd
open PySem L2
theorem tx_ok {w : World} {K : PySem.W.Frag} {h : Heap} {mg : Str → Option Value} (X : K.In h) (G : h.Ns mainGlobals mg) (ct : He.SaysT fa fn ts w K) (cc : He.SaysD fa fn K) (cz : He5.SaysA [] fs K) (hx : exq K = true) : Tx w K mg where
  z_len := He.free_ok X G (cc.fact 0 rfl)
  z_all := He.free_ok X G (cc.fact 1 rfl)
  z_any := He.free_ok X G (cc.fact 2 rfl)
  z_abs := He.free_ok X G (cc.fact 3 rfl)
  z_int := He.free_ok X G (cc.fact 4 rfl)
  z_list := He.free_ok X G (cc.fact 5 rfl)
  z_tuple := He.free_ok X G (cc.fact 6 rfl)
  z_range := He.free_ok X G (cc.fact 7 rfl)
  z_max := He.free_ok X G (cc.fact 8 rfl)
  z_min := He.free_ok X G (cc.fact 9 rfl)
  z_isinstance := He.free_ok X G (cc.fact 10 rfl)
  z_sorted := He.free_ok X G (cc.fact 11 rfl)
  z_str := He.free_ok X G (cc.fact 12 rfl)
  z_set := He.free_ok X G (cc.fact 13 rfl)
  z_dict := He.free_ok X G (cc.fact 14 rfl)
  z_enumerate := He.free_ok X G (cc.fact 15 rfl)
  z_zip := He.free_ok X G (cc.fact 16 rfl)
  z_ValueError := He.free_ok X G (cc.fact 17 rfl)
  z_NotImplemented := He.free_ok X G (cc.fact 18 rfl)
  z_sum := He.free_ok X G (cc.fact 19 rfl)
  z_bool := He.free_ok X G (cc.fact 20 rfl)
  c_SMALL := He.str_ok X G (cc.fact 21 rfl)
  c_GREAT := He.str_ok X G (cc.fact 22 rfl)
  c_DIGITS := He.str_ok X G (cc.fact 23 rfl)
  D_SIGNS := kd_ok (He.glo_ok X G (cc.fact 24 rfl)) (ct.tab 0 rfl) (exl_ok hx 0 rfl)
  U_MAKEABLE := ktB_ok (He.glo_ok X G (cc.fact 25 rfl)) (exl_ok hx 1 rfl)
  U_SHUT := ktB_ok (He.glo_ok X G (cc.fact 26 rfl)) (exl_ok hx 2 rfl)
  D_LENGTHS := kd_ok (He.glo_ok X G (cc.fact 27 rfl)) (ct.tab 1 rfl) (exl_ok hx 3 rfl)
  D_OPENERS := kds_ok (He.glo_ok X G (cc.fact 28 rfl)) (ct.tab 2 rfl) (exl_ok hx 4 rfl)
  F_is_word := ⟨(cc.def_ 0 (d := d0) rfl), He.glo_ok X G (cc.fact 29 rfl)⟩
  F_is_unknown := ⟨(cc.def_ 1 (d := d1) rfl), He.glo_ok X G (cc.fact 30 rfl)⟩
  F_is_name := ⟨(cc.def_ 2 (d := d2) rfl), He.glo_ok X G (cc.fact 31 rfl)⟩
  F_atom_tree := ⟨(cc.def_ 3 (d := d3) rfl), He.glo_ok X G (cc.fact 32 rfl)⟩
  F_is_atom_form := ⟨(cc.def_ 4 (d := d4) rfl), He.glo_ok X G (cc.fact 33 rfl)⟩
  F_check_form := ⟨(cc.def_ 5 (d := d5) rfl), He.glo_ok X G (cc.fact 34 rfl)⟩
  F_parts_of := ⟨(cc.def_ 6 (d := d6) rfl), He.glo_ok X G (cc.fact 35 rfl)⟩
  F_atoms_of := ⟨(cc.def_ 7 (d := d7) rfl), He.glo_ok X G (cc.fact 36 rfl)⟩
  F_tree_text := ⟨(cc.def_ 8 (d := d8) rfl), He.glo_ok X G (cc.fact 37 rfl)⟩
  F_made_tree := ⟨(cc.def_ 9 (d := d9) rfl), He.glo_ok X G (cc.fact 38 rfl)⟩
  F_is_plain := ⟨(cc.def_ 10 (d := d10) rfl), He.glo_ok X G (cc.fact 39 rfl)⟩
  F_partner := ⟨(cc.def_ 11 (d := d11) rfl), He.glo_ok X G (cc.fact 40 rfl)⟩
  F_undoing_key := ⟨(cc.def_ 12 (d := d12) rfl), He.glo_ok X G (cc.fact 41 rfl)⟩
  F_is_made := ⟨(cc.def_ 13 (d := d13) rfl), He.glo_ok X G (cc.fact 42 rfl)⟩
  F_halves_of := ⟨(cc.def_ 14 (d := d14) rfl), He.glo_ok X G (cc.fact 43 rfl)⟩
  F_opened_parts := ⟨(cc.def_ 15 (d := d15) rfl), He.glo_ok X G (cc.fact 44 rfl)⟩
  F_is_recipe := ⟨(cc.def_ 16 (d := d16) rfl), He.glo_ok X G (cc.fact 45 rfl)⟩
  F_run_recipe := ⟨(cc.def_ 17 (d := d17) rfl), He.glo_ok X G (cc.fact 46 rfl)⟩
  F_worked := ⟨(cc.def_ 18 (d := d18) rfl), He.glo_ok X G (cc.fact 47 rfl)⟩
  F_made_recipe := ⟨(cc.def_ 19 (d := d19) rfl), He.glo_ok X G (cc.fact 48 rfl)⟩
  F_built_recipe := ⟨(cc.def_ 20 (d := d20) rfl), He.glo_ok X G (cc.fact 49 rfl)⟩
  F_add_way := ⟨(cc.def_ 21 (d := d21) rfl), He.glo_ok X G (cc.fact 50 rfl)⟩
  F_ways_of := ⟨(cc.def_ 22 (d := d22) rfl), He.glo_ok X G (cc.fact 51 rfl)⟩
  F_check_plain := ⟨(cc.def_ 23 (d := d23) rfl), He.glo_ok X G (cc.fact 52 rfl)⟩
  F__law_cell_at := ⟨(cc.def_ 24 (d := d24) rfl), He.glo_ok X G (cc.fact 53 rfl)⟩
  F__law_mixed := ⟨(cc.def_ 25 (d := d25) rfl), He.glo_ok X G (cc.fact 54 rfl)⟩
  F__law_row := ⟨(cc.def_ 26 (d := d26) rfl), He.glo_ok X G (cc.fact 55 rfl)⟩
  F__law_atoms := ⟨(cc.def_ 27 (d := d27) rfl), He.glo_ok X G (cc.fact 56 rfl)⟩
  F__law_form := ⟨(cc.def_ 28 (d := d28) rfl), He.glo_ok X G (cc.fact 57 rfl)⟩
  F__law_forms := ⟨(cc.def_ 29 (d := d29) rfl), He.glo_ok X G (cc.fact 58 rfl)⟩
  F__law_partner := ⟨(cc.def_ 30 (d := d30) rfl), He.glo_ok X G (cc.fact 59 rfl)⟩
  F__law_undoing := ⟨(cc.def_ 31 (d := d31) rfl), He.glo_ok X G (cc.fact 60 rfl)⟩
  F__law_heap := ⟨(cc.def_ 32 (d := d32) rfl), He.glo_ok X G (cc.fact 61 rfl)⟩
  F__law_told := ⟨(cc.def_ 33 (d := d33) rfl), He.glo_ok X G (cc.fact 62 rfl)⟩
  F__law_run := ⟨(cc.def_ 34 (d := d34) rfl), He.glo_ok X G (cc.fact 63 rfl)⟩
  F__law_step := ⟨(cc.def_ 35 (d := d35) rfl), He.glo_ok X G (cc.fact 64 rfl)⟩
  F__law_recipe := ⟨(cc.def_ 36 (d := d36) rfl), He.glo_ok X G (cc.fact 65 rfl)⟩
  F__law_apart := ⟨(cc.def_ 37 (d := d37) rfl), He.glo_ok X G (cc.fact 66 rfl)⟩
  F__law_way := ⟨(cc.def_ 38 (d := d38) rfl), He.glo_ok X G (cc.fact 67 rfl)⟩
  F__law_built := ⟨(cc.def_ 39 (d := d39) rfl), He.glo_ok X G (cc.fact 68 rfl)⟩
  F__law_openings := ⟨(cc.def_ 40 (d := d40) rfl), He.glo_ok X G (cc.fact 69 rfl)⟩
  F__law_all_ways := ⟨(cc.def_ 41 (d := d41) rfl), He.glo_ok X G (cc.fact 70 rfl)⟩
  F__law_drawn_heap := ⟨(cc.def_ 42 (d := d42) rfl), He.glo_ok X G (cc.fact 71 rfl)⟩
  F__law_text := ⟨(cc.def_ 43 (d := d43) rfl), He.glo_ok X G (cc.fact 72 rfl)⟩
  F__law_tuples := ⟨(cc.def_ 44 (d := d44) rfl), He.glo_ok X G (cc.fact 73 rfl)⟩
  F__law_tried := ⟨(cc.def_ 45 (d := d45) rfl), He.glo_ok X G (cc.fact 74 rfl)⟩
  F__law_longer := ⟨(cc.def_ 46 (d := d46) rfl), He.glo_ok X G (cc.fact 75 rfl)⟩
  g_RoadError := He.glo_ok X G (cc.fact 77 rfl)
  r_RoadError := rexB_ok (exl_ok hx 7 rfl)
  X_BadAtom := ⟨He.glo_ok X G (cc.fact 79 rfl), oexB_ok (exl_ok hx 8 rfl), He.noat_ok (cc.fact 82 rfl), ⟨(cc.def_ 48 (d := d48) rfl), He.meth_ok (cc.fact 81 rfl)⟩, xfB_ok (exl_ok hx 9 rfl), He.exm_ok (cc.fact 80 rfl)⟩
  X_BadForm := ⟨He.glo_ok X G (cc.fact 83 rfl), oexB_ok (exl_ok hx 10 rfl), He.noat_ok (cc.fact 86 rfl), ⟨(cc.def_ 49 (d := d49) rfl), He.meth_ok (cc.fact 85 rfl)⟩, xfB_ok (exl_ok hx 11 rfl), He.exm_ok (cc.fact 84 rfl)⟩
  X_BadKey := ⟨He.glo_ok X G (cc.fact 87 rfl), oexB_ok (exl_ok hx 12 rfl), He.noat_ok (cc.fact 90 rfl), ⟨(cc.def_ 50 (d := d50) rfl), He.meth_ok (cc.fact 89 rfl)⟩, xfB_ok (exl_ok hx 13 rfl), He.exm_ok (cc.fact 88 rfl)⟩
  X_BadText := ⟨He.glo_ok X G (cc.fact 91 rfl), oexB_ok (exl_ok hx 14 rfl), He.noat_ok (cc.fact 94 rfl), ⟨(cc.def_ 51 (d := d51) rfl), He.meth_ok (cc.fact 93 rfl)⟩, xfB_ok (exl_ok hx 15 rfl), He.exm_ok (cc.fact 92 rfl)⟩
  X_BadHeap := ⟨He.glo_ok X G (cc.fact 95 rfl), oexB_ok (exl_ok hx 16 rfl), He.noat_ok (cc.fact 98 rfl), ⟨(cc.def_ 52 (d := d52) rfl), He.meth_ok (cc.fact 97 rfl)⟩, xfB_ok (exl_ok hx 17 rfl), He.exm_ok (cc.fact 96 rfl)⟩
  g_BadRecipe := He.glo_ok X G (cc.fact 99 rfl)
  X_NoWay := ⟨He.glo_ok X G (cc.fact 102 rfl), oexB_ok (exl_ok hx 20 rfl), He.noat_ok (cc.fact 105 rfl), ⟨(cc.def_ 54 (d := d54) rfl), He.meth_ok (cc.fact 104 rfl)⟩, xfB_ok (exl_ok hx 21 rfl), He.exm_ok (cc.fact 103 rfl)⟩
  f_Reader := (exl_ok hx 22 rfl)
  Y_Reader := isiB_ok (exl_ok hx 23 rfl)
  k_Reader := He.cls_ok (cc.fact 107 rfl)
  g_Reader := He.glo_ok X G (cc.fact 106 rfl)
  n_Reader_signs := He.noat_ok (cc.fact 108 rfl)
  n_Reader_at := He.noat_ok (cc.fact 109 rfl)
  n_Reader_begun := He.noat_ok (cc.fact 110 rfl)
  J_Reader := He.mkr_ok (cc.fact 112 rfl)
  M_Reader_init := ⟨(cc.def_ 55 (d := d55) rfl), He.meth_ok (cc.fact 111 rfl)⟩
  M_Reader_takes := ⟨(cc.def_ 56 (d := d56) rfl), He.meth_ok (cc.fact 113 rfl)⟩
  M_Reader_word_here := ⟨(cc.def_ 57 (d := d57) rfl), He.meth_ok (cc.fact 114 rfl)⟩
  M_Reader_next_atom := ⟨(cc.def_ 58 (d := d58) rfl), He.meth_ok (cc.fact 115 rfl)⟩
  M_Reader_closed := ⟨(cc.def_ 59 (d := d59) rfl), He.meth_ok (cc.fact 116 rfl)⟩
  M_Reader_whole := ⟨(cc.def_ 60 (d := d60) rfl), He.meth_ok (cc.fact 117 rfl)⟩
  f_Letter := (exl_ok hx 24 rfl)
  Y_Letter := isiB_ok (exl_ok hx 25 rfl)
  k_Letter := He.cls_ok (cc.fact 119 rfl)
  g_Letter := He.glo_ok X G (cc.fact 118 rfl)
  n_Letter_tree := He.noat_ok (cc.fact 120 rfl)
  I_Letter := ⟨(cc.def_ 61 (d := d61) rfl), He.mkr_ok (cc.fact 122 rfl), He.glo_ok X G (cc.fact 118 rfl), He.cls_ok (cc.fact 119 rfl)⟩
  S_Letter_of := sh_ok (cz.def_ 0 (d := e0) rfl) (He.glo_ok X G (cc.fact 118 rfl)) (exl_ok hx 26 rfl)
  S_Letter_read := sh_ok (cz.def_ 1 (d := e1) rfl) (He.glo_ok X G (cc.fact 118 rfl)) (exl_ok hx 27 rfl)
  M_Letter_form := ⟨(cc.def_ 62 (d := d62) rfl), He.meth_ok (cc.fact 123 rfl)⟩
  M_Letter_written := ⟨(cc.def_ 63 (d := d63) rfl), He.meth_ok (cc.fact 124 rfl)⟩
  M_Letter_unknowns := ⟨(cc.def_ 64 (d := d64) rfl), He.meth_ok (cc.fact 125 rfl)⟩
  M_Letter_add := ⟨(cc.def_ 65 (d := d65) rfl), He.meth_ok (cc.fact 126 rfl)⟩
  M_Letter_mul := ⟨(cc.def_ 66 (d := d66) rfl), He.meth_ok (cc.fact 127 rfl)⟩
  M_Letter_xor := ⟨(cc.def_ 67 (d := d67) rfl), He.meth_ok (cc.fact 128 rfl)⟩
  M_Letter_invert := ⟨(cc.def_ 68 (d := d68) rfl), He.meth_ok (cc.fact 129 rfl)⟩
  M_Letter_pos := ⟨(cc.def_ 69 (d := d69) rfl), He.meth_ok (cc.fact 130 rfl)⟩
  M_Letter_neg := ⟨(cc.def_ 70 (d := d70) rfl), He.meth_ok (cc.fact 131 rfl)⟩
  M_Letter_eq := ⟨(cc.def_ 71 (d := d71) rfl), He.meth_ok (cc.fact 132 rfl)⟩
  M_Letter_lt := ⟨(cc.def_ 72 (d := d72) rfl), He.meth_ok (cc.fact 133 rfl)⟩
  M_Letter_le := ⟨(cc.def_ 73 (d := d73) rfl), He.meth_ok (cc.fact 134 rfl)⟩
  M_Letter_gt := ⟨(cc.def_ 74 (d := d74) rfl), He.meth_ok (cc.fact 135 rfl)⟩
  M_Letter_ge := ⟨(cc.def_ 75 (d := d75) rfl), He.meth_ok (cc.fact 136 rfl)⟩
  M_Letter_contains := ⟨(cc.def_ 76 (d := d76) rfl), He.meth_ok (cc.fact 137 rfl)⟩
  M_Letter_len := ⟨(cc.def_ 77 (d := d77) rfl), He.meth_ok (cc.fact 138 rfl)⟩
  f_Heap := (exl_ok hx 28 rfl)
  Y_Heap := isiB_ok (exl_ok hx 29 rfl)
  k_Heap := He.cls_ok (cc.fact 140 rfl)
  g_Heap := He.glo_ok X G (cc.fact 139 rfl)
  n_Heap_trees := He.noat_ok (cc.fact 141 rfl)
  J_Heap := He.mkr_ok (cc.fact 143 rfl)
  M_Heap_init := ⟨(cc.def_ 78 (d := d78) rfl), He.meth_ok (cc.fact 142 rfl)⟩
  M_Heap_letters := ⟨(cc.def_ 79 (d := d79) rfl), He.meth_ok (cc.fact 144 rfl)⟩
  M_Heap_parts := ⟨(cc.def_ 80 (d := d80) rfl), He.meth_ok (cc.fact 145 rfl)⟩
  M_Heap_recipe := ⟨(cc.def_ 81 (d := d81) rfl), He.meth_ok (cc.fact 146 rfl)⟩
  M_Heap_run := ⟨(cc.def_ 82 (d := d82) rfl), He.meth_ok (cc.fact 147 rfl)⟩
  M_Heap_add := ⟨(cc.def_ 83 (d := d83) rfl), He.meth_ok (cc.fact 148 rfl)⟩
  M_Heap_iadd := ⟨(cc.def_ 84 (d := d84) rfl), He.meth_ok (cc.fact 149 rfl)⟩
  M_Heap_getitem := ⟨(cc.def_ 85 (d := d85) rfl), He.meth_ok (cc.fact 150 rfl)⟩
  M_Heap_iter := ⟨(cc.def_ 86 (d := d86) rfl), He.meth_ok (cc.fact 151 rfl)⟩
  M_Heap_len := ⟨(cc.def_ 87 (d := d87) rfl), He.meth_ok (cc.fact 152 rfl)⟩
  M_Heap_contains := ⟨(cc.def_ 88 (d := d88) rfl), He.meth_ok (cc.fact 153 rfl)⟩
  M_Heap_eq := ⟨(cc.def_ 89 (d := d89) rfl), He.meth_ok (cc.fact 154 rfl)⟩
  W_NoWay := xiB_ok (exl_ok hx 30 rfl)
  B_Heap := boB_ok (exl_ok hx 31 rfl)
theorem facts {P : Program} {w : World} {K : PySem.W.Frag} {h : Heap} {mg : Str → Option Value} {f : Addr} (X : K.In h) (G : h.Ns mainGlobals mg) (hfa : mg ("law" : Str) = some (.ref f)) (c : SaysZ fa fn ts exq fs w K) :
    ∃ fd : FuncData, (∀ (s : Shared) (v : Value), BindsTo s fd ⟨[v], []⟩ [("_law_script", v)]) ∧ ∀ base : Heap, K.In base → base.Ns mainGlobals mg → FnOk P w K mg base CX0 150 f fd ["_law_script"] (spLaw K) := by
  have cc := c.y.t.d
  have T := tx_ok X G c.y.t cc c.s c.y.more
  obtain ⟨fd, F⟩ := cc.def_ 47 (d := d47) rfl
  have e := hfa.symm.trans (He.glo_ok X G (cc.fact 76 (f := .glo "law") rfl))
  cases e
  have b := FunD.bindsA (ps := ["_law_script"]) F fun _ _ _ _ _ _ us hl => match us, hl with | [_], _ => rfl
  exact ⟨fd, fun s v => b s [v] rfl, fun base _ _ => ok_law F T⟩
end Rd
open PySem PySem.W PySem.Calls PyProof.Rows
set_option maxRecDepth 100000 in
set_option maxHeartbeats 0 in
theorem PySem.Challenge.cw_openroads_k40_recipes_run_holds : PySem.Challenge.rw_openroads_k40_recipes_run.Holds := by
  w_on; o_law
  refine HandSHeadRun.head_any (r := OpenLaw.row PySem.Challenge.rw_openroads_k40_recipes_run) (q := Rd.qv) (H := Rd.hk) (ob := Rd.ob) (M := 6000) (loose := Rd.loo) (d := HandSHeadRun.topDef (OpenLaw.row PySem.Challenge.rw_openroads_k40_recipes_run).prog 73) (kwd := []) Rd.ob_eq
    (by kernel_rfl) (fun s => by kernel_rfl) Rd.run (by kernel_rfl) (by kernel_rfl) (by kernel_rfl) (by rfl) (by first | assumption | decide +kernel) (by decide +kernel) ⟨rfl, rfl, rfl, rfl, rfl, by decide +kernel⟩ ?hw ?hc
  case hw => w_witness2
  case hc =>
    refine L2.walk_ofE (l := PySem.Challenge.rw_openroads_k40_recipes_run) (n := 63) (k := 150) (x := "_law_script") (CX := L2.CX0) rfl (by decide) (by kernel_rfl) ⟨rfl, by decide, by decide⟩ ?F (fun _ _ _ _ z => z)
    intro w mg fa h Y G hmg0
    obtain ⟨K, KX, c⟩ := Y
    have hmg : mg ("law" : PySem.Str) = some (.ref fa) := by
      have e : (HandSHeadRun.topDef (OpenLaw.row PySem.Challenge.rw_openroads_k40_recipes_run).prog 73).name = ("law" : PySem.Str) := by kernel_rfl
      rw [← e]
      exact hmg0
    obtain ⟨fd, hb, hF⟩ := Rd.facts (P := (PySem.Challenge.rw_openroads_k40_recipes_run).prog) (w := w) KX G hmg c
    exact ⟨K, fd, Rd.spLaw K, KX, hb, fun H a ns hl _ hS => ⟨a, ns, rfl, hS, hl, fun _ => rfl⟩, hF⟩
