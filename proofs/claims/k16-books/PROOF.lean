import PyProof.Rows.All
import Wide.All
import OpenK.AllK
import Wide.FinOn
import KE.KStateDown
import Lean
import HandS.ForMost
import HandS.ForExc
import HandS.Flow
import HandS.StrMore
import HandS.Defaults
import HandS.ExcInit
import HandS.ExcField
import HandS.More
import HandS.HeadHook3
import PyProof.ListStr
import HandS.Head0
import HandS.Head1
import HandS.Head2
import HandS.HeadEnd
import HandS.Zip
import HandS.FStr
import HandS.StrMore
import HandS.HotCalls
import HandS.ExcInitHot
import PyProof.InstEq
import HandS.IsInst
import HandS.HeadNt
import HandS.TupLe
import PyProof.Rows.SortShellAny
import HandS.Set
import HandS.SetFor
import HandS.SetBool
import HandS.Deep
import HandS.TupAny
import KE.KEqDict
import HandS.DictComp
import HandS.DeepEq
import HandS.List
import HandS.SetKeys
import KE.GoesNew
import KE.GoesMore
import PyProof.AutoSeq1
import HandS.Sort
import KE.KSortTupAny
import KE.KOpsOwn
import HandS.Property
import PyProof.SetRoads
import PySem.Challenge.RW_openroads_k16_books_kept
set_option Elab.async false
set_option linter.all false
set_option maxRecDepth 100000
set_option maxHeartbeats 4000000
/-! my common layer: functions by name -/
namespace Rd
open PySem PySem.Spec PyProof.Rows L2
/-- a function of the module by its name: promise, binding, place -/
structure Fk (P : Program) (w : World) (K : PySem.W.Frag) (mg : Str → Option Value) (base : Heap) (CX : CXT) (k : Nat) (x : Str) (ps : List Str) (sp : Sp) : Prop where
  ex : ∃ fd, FnOk P w K mg base CX k (He.ga K x) fd ps sp ∧ Binds K fd ps []
  g : mg x = some (.ref (He.ga K x))
  kp : PySem.W.keepIn K (.ref (He.ga K x)) = true
/-- what the head tells of a function of the module -/
structure Fh (K : PySem.W.Frag) (mg : Str → Option Value) (x : Str) (st : Stmt) : Prop where
  ex : ∃ fd, FunD K x x (defArgs st) (defBody st) (defScope st) [] [] (He.ga K x) fd
  g : mg x = some (.ref (He.ga K x))
section
variable {P : Program} {w : World} {K : PySem.W.Frag} {mg : Str → Option Value} {base : Heap} {CX : CXT} {k : Nat} {x : Str} {ps N : List Str} {sp : Sp} {st : Stmt}
theorem Fh.ok (F : Fh K mg x st) (S : FnScope N ps (defScope st))
    (hb : ∀ (kV doc pm : Value) (an : Option Addr) (cdv ct : Value) (us : List Value), us.length = ps.length → bindArgs (PySem.W.fnOf x x (defArgs st) (defBody st) (defScope st) .none kV doc pm an cdv ct) ⟨us, []⟩ = pure (ps.zip us))
    (len : ∀ vs H Q E, sp vs H Q E → vs.length = ps.length)
    (hbody : ∀ (cdv : Value) (A : Around) (outer : List Env) (s : Shared) (H : Hp) (vs : List V) (Q : VK) (E : XK), Room k (A.deeper (envOfC x (defScope st) s.heap.objs.size (He.ga K x) cdv)) → sp vs H Q E →
      ∃ t, PSs (cxOf CX P w K mg base N x (defScope st) (He.ga K x) cdv A outer s H E) (defBody st) t ∧ t { nx := fun _ H' => Q .non H', rt := Q } (start N vs) H) : Fk P w K mg base CX (k + 1) x ps sp := by
  obtain ⟨fd, F'⟩ := F.ex
  exact ⟨⟨fd, F'.ok S len hbody, F'.bindsN hb⟩, F.g, F'.kp⟩
/-- no exception leaves -/
theorem Fh.ok0 (F : Fh K mg x st) (S : FnScope N ps (defScope st))
    (hb : ∀ (kV doc pm : Value) (an : Option Addr) (cdv ct : Value) (us : List Value), us.length = ps.length → bindArgs (PySem.W.fnOf x x (defArgs st) (defBody st) (defScope st) .none kV doc pm an cdv ct) ⟨us, []⟩ = pure (ps.zip us))
    (len : ∀ vs H Q E, sp vs H Q E → vs.length = ps.length)
    (hbody : ∀ (cdv : Value) (A : Around) (outer : List Env) (s : Shared) (H : Hp) (vs : List V) (Q : VK) (E : XK), Room k (A.deeper (envOfC x (defScope st) s.heap.objs.size (He.ga K x) cdv)) → sp vs H Q E →
      ∃ t, PSs (cxOf CX0 P w K mg base N x (defScope st) (He.ga K x) cdv A outer s H E).nox (defBody st) t ∧ t { nx := fun _ H' => Q .non H', rt := Q } (start N vs) H) : Fk P w K mg base CX0 (k + 1) x ps sp :=
  F.ok S hb len fun cdv A outer s H vs Q E hr h => by
    obtain ⟨t, h1, h2⟩ := hbody cdv A outer s H vs Q E hr h
    exact ⟨t, h1.nox, h2⟩
theorem Fk.mono {j : Nat} (F : Fk P w K mg base CX j x ps sp) (h : j ≤ k) : Fk P w K mg base CX k x ps sp := by
  obtain ⟨⟨fd, a, b⟩, c, d⟩ := F
  exact ⟨⟨fd, a.mono h, b⟩, c, d⟩
end
section
variable {X : Cx} {CX : CXT} {k : Nat} {ps : List Str} {sp : Sp} {E : XK} {x : Str} {p pos : Pos} {e : Expr} {es : List Expr} {t : TA}
theorem pe_fk (F : Fk X.prog X.w X.K X.mg X.base CX k x ps sp) (hr : Room k X.A) (hg : Gl X x) (hx : Passes CX X E)
    (ha : PA X (e :: es) t) (hdb : (x == ("__debug__" : Str)) = false := by decide) (he : starEach (e :: es) X.env = (false, eval e X.env) :: starEach es X.env := by rfl) (hpl : (backTo pos (starEach es X.env)).any (·.1) = false := by rfl) :
    PE X (.Call (.Name x p) (e :: es) [] pos) (tCall sp [] E t) := by
  obtain ⟨⟨fd, a, b⟩, c, d⟩ := F
  exact pe_call a hr hg c d b .nil hx ha hdb he hpl
theorem pe_gstr {z : Str} (hm : ∃ t, X.mg x = some (.str z t)) (hg : Gl X x := by rfl) (hd : (x == ("__debug__" : Str)) = false := by decide) : PE X (.Name x pos) (tC (.str z)) := by
  obtain ⟨t, hm⟩ := hm
  exact pe_glob hg hm ⟨t, rfl⟩ hd
/-- list(text) -/
theorem call_list_text (hc : X.calm = true) : CallR X (.type "list") (fun xs H Q => ∃ z : Str, xs = [.str z] ∧ z.length ≤ sizeLine ∧ ∀ l, H l = none → Q (.ref l) (upd H l (.lst (z.cps.toList.map fun c => V.str ⟨#[c]⟩)))) := by
  intro pins s σ H xs us Q I r h
  obtain ⟨z, rfl, hz, q⟩ := h
  obtain ⟨u, rfl, t, rfl⟩ := vals1 r
  refine call_list_str (I.ok.hd hc) z t (fun h' tk acc' c' kp e it => ?_) hz
  have vv : ∀ (n : Nat) (l : List Nat) (m : List Value), l.length = m.length → (∀ (j : Nat) (v : Value), m[j]? = some v → ∃ (c : Nat) (u : Tok), l[j]? = some c ∧ v = Value.str ⟨#[c]⟩ u) → Vals (l.map fun c => V.str ⟨#[c]⟩) m := by
    intro n l
    induction l with
    | nil =>
      intro m hl _
      cases m with
      | nil => exact .nil
      | cons a b => cases hl
    | cons a l ih =>
      intro m hl hm
      cases m with
      | nil => cases hl
      | cons b m =>
        obtain ⟨c, u, e1, e2⟩ := hm 0 b rfl
        have e1' : a = c := Option.some.inj e1
        subst e1' e2
        exact .cons ⟨u, rfl⟩ (ih m (by simpa using hl) fun j v hj => hm (j + 1) v hj)
  have hv : Vals (z.cps.toList.map fun c => V.str ⟨#[c]⟩) acc'.toList := by
    refine vv 0 _ _ (by rw [Array.length_toList, Array.length_toList]; exact it.1.symm) fun j v hj => ?_
    obtain ⟨c, u, h1, h2⟩ := it.2 j v (by simpa using hj)
    exact ⟨c, u, by simpa using h1, h2⟩
  refine ⟨.ref s.heap.objs.size, _, I.laid (t' := tk) kp (Nat.le_refl _) (show ObjOk X.prog X.w _ h' _ (.lst (z.cps.toList.map fun c => V.str ⟨#[c]⟩)) from ⟨?_, acc'.toList, c', hv, by simpa using e⟩), rfl, q _ (I.hok.fresh (Nat.le_refl _))⟩
  rw [List.length_map]
  exact hz
end
end Rd
namespace Rd
open PySem PySem.Spec PyProof.Rows L2
/-- an exception class over ValueError, as OexC wants it -/
def oexB (K : PySem.W.Frag) (x : Str) : Bool := (match K.lookup (He.ga K x) with
  | some ⟨.type c, _, .cls cd, sl⟩ => decide (c = "type") && (match cd.mro, sl.toList with
    | .ref C' :: bm, [_, _, _, _, some (.builtin n), _] => decide (C' = He.ga K x) && (decide (n = "ValueError.__new__") && (!cd.hasDel && (cd.hasDict && PySem.HandSPX.refsVE bm)))
    | _, _ => false)
  | _ => false) && (He.eqO (PySem.W.findIn K (.ref (He.ga K x)) "__setattr__") (some (some (.builtin "object.__setattr__"))) && (decide (PySem.W.subIn K (.ref (He.ga K x)) (.type "BaseException") = some true) && (decide (PySem.W.typeIn K (.ref (He.ga K x)) = some (.type "type")) && PySem.W.keepIn K (.ref (He.ga K x)))))
theorem oexB_ok {K : PySem.W.Frag} {x : Str} (h : oexB K x = true) : OexC K (He.ga K x) := by
  obtain ⟨h1, h⟩ := He.ba h
  obtain ⟨h2, h⟩ := He.ba h
  obtain ⟨h3, h⟩ := He.ba h
  obtain ⟨h4, h5⟩ := He.ba h
  refine ⟨?_, He.eqO_ok h2, of_decide_eq_true h3, of_decide_eq_true h4, h5⟩
  cases e : K.lookup (He.ga K x) with
  | none => rw [e] at h1; cases h1
  | some o =>
    rw [e] at h1
    obtain ⟨oc, od, dt, sl⟩ := o
    cases oc with
    | type c =>
      cases dt with
      | cls cd =>
        obtain ⟨h6, h7⟩ := He.ba (show (decide (c = "type") && (match cd.mro, sl.toList with
          | .ref C' :: bm, [_, _, _, _, some (.builtin n), _] => decide (C' = He.ga K x) && (decide (n = "ValueError.__new__") && (!cd.hasDel && (cd.hasDict && PySem.HandSPX.refsVE bm)))
          | _, _ => false)) = true from h1)
        have ec : c = "type" := of_decide_eq_true h6
        subst ec
        obtain ⟨nm, bs, mro, ns, qn, hd, sn, sb, ab, col, del⟩ := cd
        obtain ⟨sl⟩ := sl
        simp only at h7
        split at h7
        · obtain ⟨h8, h9⟩ := He.ba h7
          obtain ⟨h10, h11⟩ := He.ba h9
          obtain ⟨h12, h13⟩ := He.ba h11
          obtain ⟨h14, h15⟩ := He.ba h13
          rename_i C' bm k0 k1 k2 k3 n k5
          have e1 : C' = He.ga K x := of_decide_eq_true h8
          have e2 : n = "ValueError.__new__" := of_decide_eq_true h10
          have e3 : del = false := by simpa using h12
          subst e2 e3
          have e4 : hd = true := h14
          subst e4
          rw [e1]
          exact ⟨_, _, _, _, bm, _, _, _, _, _, _, _, _, _, _, rfl, h15⟩
        · cases h7
      | _ => cases h1
    | _ => cases dt <;> cases h1
end Rd
namespace Rd
open PySem L2
/-- [f(c) for c in text], f pure -/
theorem lcs {x : Str} {te : TE} {i : Nat} {σ : St} {H1 : Hp} {D : Addr} {Qd : Hp → Prop} (f : Nat → V) (hx : x.length ≤ sizeLine)
    (hte : ∀ c (H : Hp) (Q : VK), c ∈ x.cps.toList → Q (f c) H → te ((wipe σ [i]).set i (some (.str ⟨#[c]⟩))) H Q) (hq : Qd (upd H1 D (.lst (x.cps.toList.map f)))) :
    ∃ W : Nat → Nat → Hp → Prop, (∃ m, W 0 m (upd H1 D (.lst []))) ∧ ∀ j m H, W j m H →
      ((Its x).stop j H ∧ Qd H) ∨ ((Its x).go j H ∧ ∃ Nx : Hp → Prop, (∀ H', Nx H' → ∃ m', m' < m ∧ W (j + 1) m' H') ∧ ∀ v H', (Its x).yld j H v H' → gName i v (wipe σ [i]) H' fun σ2 H2 => wipe σ2 [i] = wipe σ [i] ∧ tYes σ2 H2 fun b H3 =>
        if b = true then te σ2 H3 fun y H4 => ∃ acc, H4 D = some (.lst acc) ∧ acc.length < sizeLine ∧ Nx (upd H4 D (.lst (acc ++ [y]))) else Nx H3) := by
  have hs : x.cps.toList.length = x.cps.size := by simp
  refine ⟨fun j m H => m = x.cps.size - j ∧ j ≤ x.cps.size ∧ H = upd H1 D (.lst ((x.cps.toList.take j).map f)), ⟨_, rfl, Nat.zero_le _, rfl⟩, ?_⟩
  rintro j m H ⟨rfl, hj, rfl⟩
  by_cases hlt : j < x.cps.size
  · refine .inr ⟨hlt, fun H' => H' = upd H1 D (.lst ((x.cps.toList.take (j + 1)).map f)), fun H' e => ⟨x.cps.size - (j + 1), by omega, rfl, hlt, e⟩, ?_⟩
    rintro v H' ⟨rfl, c, hc, rfl⟩
    have hc2 : x.cps.toList[j]? = some c := by simpa using hc
    refine ⟨by simp [wipe], hte c _ _ (List.mem_of_getElem? hc2) ⟨_, upd_same, ?_, ?_⟩⟩
    · rw [List.length_map, List.length_take, hs]
      have : x.cps.size ≤ sizeLine := hx
      omega
    · show upd (upd H1 D _) D _ = _
      rw [upd_upd, List.take_succ, hc2]
      simp
  · have e : j = x.cps.size := by omega
    subst e
    refine .inl ⟨Nat.le_refl _, ?_⟩
    rw [← hs, List.take_length]
    exact hq
theorem Same.upd {H : Hp} {p : Addr} {o : HO} (h : H p = none) : Same H (L2.upd H p o) := fun a u e => by rw [upd_ne (ne_of_none e h)]; exact e
theorem Same.upd' {H H1 : Hp} {p : Addr} {o : HO} (x : Same H H1) (h : H1 p = none) : Same H (L2.upd H1 p o) := x.trans (Rd.Same.upd h)
end Rd
namespace Rd
open PySem L2
theorem seqAsg {te : TE} {g : TG} {u : TS} {D : Ends} {σ : St} {H : Hp} (h : te σ H fun x H1 => g x σ H1 (u D)) : tSeq (tAsg te g) u D σ H := h
theorem gName_k {i : Nat} {v : V} {σ : St} {H : Hp} {R : St → Hp → Prop} (h : R (σ.set i (some v)) H) : gName i v σ H R := h
theorem asgNx {te : TE} {g : TG} {D : Ends} {σ : St} {H : Hp} (h : te σ H fun x H1 => g x σ H1 D.nx) : tAsg te g D σ H := h
theorem retE {te : TE} {D : Ends} {σ : St} {H : Hp} (h : te σ H D.rt) : tRet te D σ H := h
end Rd
namespace Rd
open PySem L2
/-- a test that answers b, the heap may grow -/
def TB (t : TT) (σ : St) (H : Hp) (b : Bool) : Prop := ∀ Q : Bool → Hp → Prop, (∀ H', Same H H' → Q b H') → t σ H Q
theorem tb_and {t u : TT} {σ : St} {H : Hp} {b c : Bool} (h1 : TB t σ H b) (h2 : ∀ H', Same H H' → b = true → TB u σ H' c) : TB (tAnd t u) σ H (b && c) := fun Q k => h1 _ fun H' s => by
  cases b with
  | true => exact h2 H' s rfl Q fun H2 s2 => k H2 (s.trans s2)
  | false => exact k H' s
theorem tb_or {t u : TT} {σ : St} {H : Hp} {b c : Bool} (h1 : TB t σ H b) (h2 : ∀ H', Same H H' → b = false → TB u σ H' c) : TB (tOr t u) σ H (b || c) := fun Q k => h1 _ fun H' s => by
  cases b with
  | true => exact k H' s
  | false => exact h2 H' s rfl Q fun H2 s2 => k H2 (s.trans s2)
theorem tb_not {t : TT} {σ : St} {H : Hp} {b : Bool} (h1 : TB t σ H b) : TB (tNot t) σ H (!b) := fun Q k => h1 _ fun H' s => k H' s
theorem seqIf {c : TT} {t u v : TS} {D : Ends} {σ : St} {H : Hp} {b : Bool} (hc : TB c σ H b) (k : ∀ H', Same H H' → if b = true then t { D with nx := v D } σ H' else u { D with nx := v D } σ H') : tSeq (tIfS c t u) v D σ H := hc _ k
theorem oneIf {c : TT} {t u : TS} {D : Ends} {σ : St} {H : Hp} {b : Bool} (hc : TB c σ H b) (k : ∀ H', Same H H' → if b = true then t D σ H' else u D σ H') : tIfS c t u D σ H := hc _ k
end Rd
namespace Rd
open PySem L2
theorem nxt {D : Ends} {σ : St} {H : Hp} (h : D.nx σ H) : tNext D σ H := h
end Rd
namespace Rd
open PySem L2
/-! ### exceptions -/
/-- C0.__init__ read off the class C0 -/
structure REx (K : PySem.W.Frag) (C0 : Addr) : Prop where
  sga : PySem.W.specialIn K (.ref C0) "__getattribute__" = some (some (.builtin "type.__getattribute__"))
  ty : PySem.W.typeIn K (.ref C0) = some (.type "type")
  rd : PySem.W.readsIn K C0 (.type "type") = true
  fc : PySem.W.findCls K (.ref C0) (.type "type") "__init__" = some (.val (.builtin "ValueError.__init__"))
def rexB (K : PySem.W.Frag) (x : Str) : Bool := He.eqO (PySem.W.specialIn K (.ref (He.ga K x)) "__getattribute__") (some (some (.builtin "type.__getattribute__"))) && (decide (PySem.W.typeIn K (.ref (He.ga K x)) = some (.type "type")) && (PySem.W.readsIn K (He.ga K x) (.type "type") &&
  (match PySem.W.findCls K (.ref (He.ga K x)) (.type "type") "__init__" with
    | some (.val (.builtin n)) => decide (n = "ValueError.__init__")
    | _ => false)))
theorem rexB_ok {K : PySem.W.Frag} {x : Str} (h : rexB K x = true) : REx K (He.ga K x) := by
  obtain ⟨h1, h⟩ := He.ba h
  obtain ⟨h2, h⟩ := He.ba h
  obtain ⟨h3, h4⟩ := He.ba h
  refine ⟨He.eqO_ok h1, of_decide_eq_true h2, h3, ?_⟩
  split at h4
  · rename_i n e
    rw [e, of_decide_eq_true h4]
  · cases h4
section
variable {X : Cx} {e : Expr} {es : List Expr} {ta : TA} {p1 p2 pos : Pos}
theorem pe_reinit {pl : Sem Bool} {x : Str} {C0 : Addr} (hg : Gl X x) (hm : X.mg x = some (.ref C0)) (R0 : REx X.K C0) (ha : PA X (e :: es) ta) (hd : (x == ("__debug__" : Str)) = false := by decide)
    (hc : eval (.Call (.Attribute (.Name x p1) "__init__" p2) (e :: es) [] pos) X.env = (do
      let ov ← eval (.Name x p1) X.env
      standAt p2.atName
      let (f, first) ← holding [ov] (getMethod ov "__init__" pl)
      callWith pos f first (backTo pos (starEach (e :: es) X.env)) (backToKw pos (keywordEach [] X.env))) := by rfl)
    (he : starEach (e :: es) X.env = (false, eval e X.env) :: starEach es X.env := by rfl) (hpl : (backTo pos (starEach es X.env)).any (·.1) = false := by rfl) :
    PE X (.Call (.Attribute (.Name x p1) "__init__" p2) (e :: es) [] pos) (tVeI X.K ta) := by
  refine ⟨fun pins s σ H Q I h => ?_⟩
  refine PySem.W.methodCall_KW (ld_glob I hg hm ?_ hd) hc
  obtain ⟨m, fr⟩ := I.fr
  refine PySem.W.method_of_cls fr I.ok.mod.kin R0.sga (PySem.W.cls_val fr I.ok.mod.kin R0.ty R0.rd R0.fc (by decide +kernel) ?_)
  show wpAny _ _ (callWith pos (Value.builtin "ValueError.__init__") [] (backTo pos (starEach (e :: es) X.env)) []) _ _ _
  refine PyProof.Rows.callWith_method1 (thn (ha.run pos pins _ σ H _ (I.tok _) h) fun us s1 ⟨vs, H1, I1, r1, a, C, ws, ev, hl, T, ea, q⟩ => ?_) he hpl
  subst ev
  cases r1 with
  | @cons _ u0 _ ur ra rw' =>
    obtain rfl : u0 = Value.ref a := ra
    have hlen : ur.length ≤ sizeLine := by
      rw [← Paired.length rw', sizeLine_eq]
      omega
    exact oinit_ok T I1 ea hlen fun s' J => ⟨.non, H1, J, rfl, q⟩
end
/-- the __init__ of an exception with one field -/
def spX1 (K : PySem.W.Frag) (f : Str) : Sp := fun vs H Q _ => ∃ (a C : Addr) (v : V), vs = [.ref a, v] ∧ OexC K C ∧ PySem.W.findIn K (.ref C) f = some none ∧ H a = some (exo a C none) ∧
  ∀ dx, H dx = none → dx ≠ a → Q .non (upd (upd H dx (exd dx [(f, v)])) a (exo a C (some dx)))
/-- reading a raise of such an exception, behind its argument -/
theorem rd_raise1 {K : PySem.W.Frag} {C : Addr} {f : Str} {v : V} {H1 : Hp} {R : XK} (T : OexC K C) (no : PySem.W.findIn K (.ref C) f = some none)
    (k : ∀ d H', Same H1 H' → H1 d = none → H' d = some (.xd [(f, v)]) → R (.ref C) (some d) H') :
    ([v] : List V).length ≤ 1000 ∧ ∀ a, H1 a = none → spX1 K f (.ref a :: ([v] ++ [])) (upd H1 a (exo a C none)) (fun v' H2 => v' = .non ∧ ∃ (d : Addr) (fs : List (Str × V)), H2 a = some (exo a C (some d)) ∧ H2 d = some (exd d fs) ∧ H1 d = none ∧ R (.ref C) (some d) (upd (del H2 a) d (.xd fs))) (fun _ _ _ => False) := by
  refine ⟨by show 1 ≤ 1000; decide, fun a ha => ⟨a, C, v, rfl, T, no, upd_same, fun dx hdx ne => ⟨rfl, dx, [(f, v)], upd_same, ?_, ?_, ?_⟩⟩⟩
  · rw [upd_ne ne, upd_same]
  · rw [upd_ne ne] at hdx
    exact hdx
  · rw [upd_ne ne] at hdx
    refine k dx _ (fun b o e => ?_) hdx upd_same
    rw [upd_ne (ne_of_none e hdx), del_ne (ne_of_none e ha), upd_ne (ne_of_none e ha), upd_ne (ne_of_none e hdx), upd_ne (ne_of_none e ha)]
    exact e
/-! ### methods -/
structure Mh (K : PySem.W.Frag) (c m q : Str) (st : Stmt) : Prop where
  ex : ∃ fd, FunD K m q (defArgs st) (defBody st) (defScope st) [] [] (He.ma K (He.ga K c) m) fd
  me : Meth K (He.ga K c) m (He.ma K (He.ga K c) m)
structure Fm (P : Program) (w : World) (K : PySem.W.Frag) (mg : Str → Option Value) (base : Heap) (CX : CXT) (k : Nat) (c m : Str) (ps : List Str) (sp : Sp) : Prop where
  ex : ∃ fd, FnOk P w K mg base CX k (He.ma K (He.ga K c) m) fd ps sp ∧ Binds K fd ps []
  me : Meth K (He.ga K c) m (He.ma K (He.ga K c) m)
section
variable {P : Program} {w : World} {K : PySem.W.Frag} {mg : Str → Option Value} {base : Heap} {CX : CXT} {k : Nat} {c m q : Str} {ps N : List Str} {sp : Sp} {st : Stmt}
theorem Mh.ok (F : Mh K c m q st) (S : FnScope N ps (defScope st))
    (hb : ∀ (kV doc pm : Value) (an : Option Addr) (cdv ct : Value) (us : List Value), us.length = ps.length → bindArgs (PySem.W.fnOf m q (defArgs st) (defBody st) (defScope st) .none kV doc pm an cdv ct) ⟨us, []⟩ = pure (ps.zip us))
    (len : ∀ vs H Q E, sp vs H Q E → vs.length = ps.length)
    (hbody : ∀ (cdv : Value) (A : Around) (outer : List Env) (s : Shared) (H : Hp) (vs : List V) (Q : VK) (E : XK), Room k (A.deeper (PyProof.Rows.envOfC q (defScope st) s.heap.objs.size (He.ma K (He.ga K c) m) cdv)) → sp vs H Q E →
      ∃ t, PSs (cxOf CX P w K mg base N q (defScope st) (He.ma K (He.ga K c) m) cdv A outer s H E) (defBody st) t ∧ t { nx := fun _ H' => Q .non H', rt := Q } (start N vs) H) : Fm P w K mg base CX (k + 1) c m ps sp := by
  obtain ⟨fd, F'⟩ := F.ex
  exact ⟨⟨fd, F'.ok S len hbody, F'.bindsN hb⟩, F.me⟩
theorem Mh.ok0 (F : Mh K c m q st) (S : FnScope N ps (defScope st))
    (hb : ∀ (kV doc pm : Value) (an : Option Addr) (cdv ct : Value) (us : List Value), us.length = ps.length → bindArgs (PySem.W.fnOf m q (defArgs st) (defBody st) (defScope st) .none kV doc pm an cdv ct) ⟨us, []⟩ = pure (ps.zip us))
    (len : ∀ vs H Q E, sp vs H Q E → vs.length = ps.length)
    (hbody : ∀ (cdv : Value) (A : Around) (outer : List Env) (s : Shared) (H : Hp) (vs : List V) (Q : VK) (E : XK), Room k (A.deeper (PyProof.Rows.envOfC q (defScope st) s.heap.objs.size (He.ma K (He.ga K c) m) cdv)) → sp vs H Q E →
      ∃ t, PSs (cxOf CX0 P w K mg base N q (defScope st) (He.ma K (He.ga K c) m) cdv A outer s H E).nox (defBody st) t ∧ t { nx := fun _ H' => Q .non H', rt := Q } (start N vs) H) : Fm P w K mg base CX0 (k + 1) c m ps sp :=
  F.ok S hb len fun cdv A outer s H vs Q E hr h => by
    obtain ⟨t, h1, h2⟩ := hbody cdv A outer s H vs Q E hr h
    exact ⟨t, h1.nox, h2⟩
end
section
variable {X : Cx} {CX : CXT} {k : Nat} {ps : List Str} {sp : Sp} {E : XK} {x c m : Str} {p pos apos : Pos} {e o : Expr} {es : List Expr} {t : TA} {ta : TE}
theorem pe_fm {pl : Sem Bool} (he : PE X o ta) (cl : Cls X.K (He.ga X.K c)) (F : Fm X.prog X.w X.K X.mg X.base CX k c m ps sp) (hr : Room k X.A) (hx : Passes CX X E) (ha : PA X (e :: es) t)
    (hst : starEach (e :: es) X.env = (false, eval e X.env) :: starEach es X.env := by rfl) (hpl : (backTo pos (starEach es X.env)).any (·.1) = false := by rfl)
    (ht : eval (.Call (.Attribute o m apos) (e :: es) [] pos) X.env = (do
      let ov ← eval o X.env
      standAt apos.atName
      let (f, first) ← holding [ov] (getMethod ov m pl)
      callWith pos f first (backTo pos (starEach (e :: es) X.env)) (backToKw pos (keywordEach [] X.env))) := by rfl) :
    PE X (.Call (.Attribute o m apos) (e :: es) [] pos) (tMeth (He.ga X.K c) m sp [] E ta t) := by
  obtain ⟨⟨fd, a, b⟩, me⟩ := F
  exact pe_meth he cl me a hr b .nil hx ha hst hpl ht
theorem pe_fm0 {pl : Sem Bool} (he : PE X o ta) (cl : Cls X.K (He.ga X.K c)) (F : Fm X.prog X.w X.K X.mg X.base CX k c m ps sp) (hr : Room k X.A) (hx : Passes CX X E)
    (ht : eval (.Call (.Attribute o m apos) [] [] pos) X.env = (do
      let ov ← eval o X.env
      standAt apos.atName
      let (f, first) ← holding [ov] (getMethod ov m pl)
      callWith pos f first (backTo pos (starEach [] X.env)) (backToKw pos (keywordEach [] X.env))) := by rfl) :
    PE X (.Call (.Attribute o m apos) [] [] pos) (tMeth (He.ga X.K c) m sp [] E ta tNil) := by
  obtain ⟨⟨fd, a, b⟩, me⟩ := F
  exact pe_meth0 he cl me a hr b .nil hx ht
end
/-! ### an exception class with one field, as the head tells it -/
structure Xh (K : PySem.W.Frag) (mg : Str → Option Value) (x f q : Str) (st : Stmt) : Prop where
  g : mg x = some (.ref (He.ga K x))
  oex : OexC K (He.ga K x)
  no : PySem.W.findIn K (.ref (He.ga K x)) f = some none
  init : Mh K x "__init__" q st
  xf : XfC K (He.ga K x)
  em : PySem.W.exmOne K (.ref (He.ga K x)) (.ref (He.ga K x)) = some true
section
variable {X : Cx} {k : Nat} {x f : Str} {p pos : Pos} {e : Expr} {te : TE} {ps : List Str} {sp : Sp}
theorem pmk_x {ta : TA} {es : List Expr} {q : Str} {st : Stmt} (T : Xh X.K X.mg x f q st) (F : Fm X.prog X.w X.K X.mg X.base CX0 k x "__init__" ps sp) (hr : Room (k + 1) X.A) (hg : Gl X x) (ha : PA X (e :: es) ta)
    (hdb : (x == ("__debug__" : Str)) = false := by decide) (he : starEach (e :: es) X.env = (false, eval e X.env) :: starEach es X.env := by rfl) (hpl : (backTo pos (starEach es X.env)).any (·.1) = false := by rfl) :
    PMk X (.Call (.Name x p) (e :: es) [] pos) (tMkO (He.ga X.K x) sp [] ta) := by
  obtain ⟨⟨fd, a, b⟩, me⟩ := F
  exact pmk_oex T.oex me.at_ (beq_iff_eq.mp me.fn) a hr b .nil (fun _ _ _ _ _ _ _ h => h.elim) hg T.g ha hdb he hpl
end
/-! ### a class with one default in its __init__ -/
structure Ih (K : PySem.W.Frag) (mg : Str → Option Value) (c q : Str) (st : Stmt) (dvs : List V) : Prop where
  ex : ∃ fd, FunD K "__init__" q (defArgs st) (defBody st) (defScope st) dvs [] (He.ma K (He.ga K c) "__init__") fd
  mkr : Mk K (He.ga K c) (He.ma K (He.ga K c) "__init__")
  g : mg c = some (.ref (He.ga K c))
  cl : Cls K (He.ga K c)
structure Fi (P : Program) (w : World) (K : PySem.W.Frag) (mg : Str → Option Value) (base : Heap) (CX : CXT) (k : Nat) (c : Str) (ps : List Str) (sp : Sp) (v : V) : Prop where
  ex : ∃ fd, FnOk P w K mg base CX k (He.ma K (He.ga K c) "__init__") fd ps sp ∧ Binds K fd ps [] ∧ ∃ ds, Vals [v] ds ∧ Binds K fd ps ds
  mkr : Mk K (He.ga K c) (He.ma K (He.ga K c) "__init__")
  g : mg c = some (.ref (He.ga K c))
section
variable {P : Program} {w : World} {K : PySem.W.Frag} {mg : Str → Option Value} {base : Heap} {CX : CXT} {k : Nat} {c q : Str} {ps N : List Str} {sp : Sp} {st : Stmt} {v : V}
theorem Ih.ok {n : Nat} (F : Ih K mg c q st [v]) (S : FnScope N ps (defScope st)) (hn : ps.length = n + 1)
    (hb1 : ∀ (T : Addr) (kV doc pm : Value) (an : Option Addr) (cdv ct : Value) (us its : List Value), us.length = n → its.length = 1 →
      ∃ k, bindArgs (PySem.W.fnOf "__init__" q (defArgs st) (defBody st) (defScope st) (.ref T) kV doc pm an cdv ct) ⟨us, []⟩ = seqItems? (.ref T) >>= k ∧ k (some its.toArray) = pure (ps.zip (us ++ its.drop 0)))
    (hb2 : ∀ (T : Addr) (kV doc pm : Value) (an : Option Addr) (cdv ct : Value) (us its : List Value), us.length = n + 1 → its.length = 1 →
      ∃ k, bindArgs (PySem.W.fnOf "__init__" q (defArgs st) (defBody st) (defScope st) (.ref T) kV doc pm an cdv ct) ⟨us, []⟩ = seqItems? (.ref T) >>= k ∧ k (some its.toArray) = pure (ps.zip (us ++ its.drop 1)))
    (len : ∀ vs H Q E, sp vs H Q E → vs.length = ps.length)
    (hbody : ∀ (cdv : Value) (A : Around) (outer : List Env) (s : Shared) (H : Hp) (vs : List V) (Q : VK) (E : XK), Room k (A.deeper (PyProof.Rows.envOfC q (defScope st) s.heap.objs.size (He.ma K (He.ga K c) "__init__") cdv)) → sp vs H Q E →
      ∃ t, PSs (cxOf CX P w K mg base N q (defScope st) (He.ma K (He.ga K c) "__init__") cdv A outer s H E) (defBody st) t ∧ t { nx := fun _ H' => Q .non H', rt := Q } (start N vs) H) : Fi P w K mg base CX (k + 1) c ps sp v := by
  obtain ⟨fd, F'⟩ := F.ex
  have b1 := F'.binds1 (ps := ps) n 0 (List.cons_ne_nil _ _) (by rw [hn]; rfl) hb1
  obtain ⟨ds, e, b2⟩ := F'.binds1 (ps := ps) (n + 1) 1 (List.cons_ne_nil _ _) (by rw [hn]; rfl) hb2
  cases e
  exact ⟨⟨fd, F'.ok S len hbody, b2, b1⟩, F.mkr, F.g⟩
end
section
variable {X : Cx} {CX : CXT} {k : Nat} {ps : List Str} {sp : Sp} {E : XK} {c : Str} {p pos : Pos} {e : Expr} {es : List Expr} {t : TA} {v : V}
/-- C(.., ..), every argument written -/
theorem pe_mk2 (F : Fi X.prog X.w X.K X.mg X.base CX k c ps sp v) (hr : Room (k + 1) X.A) (hg : Gl X c) (hx : Passes CX X E)
    (ha : PA X (e :: es) t) (hdb : (c == ("__debug__" : Str)) = false := by decide) (he : starEach (e :: es) X.env = (false, eval e X.env) :: starEach es X.env := by rfl) (hpl : (backTo pos (starEach es X.env)).any (·.1) = false := by rfl) :
    PE X (.Call (.Name c p) (e :: es) [] pos) (tMake (He.ga X.K c) sp [] E t) := by
  obtain ⟨⟨fd, a, b, _⟩, M, g⟩ := F
  exact pe_make M a hr hg g b .nil hx ha hdb he hpl
/-- .. the last by its default -/
theorem pe_mk1 (F : Fi X.prog X.w X.K X.mg X.base CX k c ps sp v) (hr : Room (k + 1) X.A) (hg : Gl X c) (hx : Passes CX X E)
    (ha : PA X (e :: es) t) (hdb : (c == ("__debug__" : Str)) = false := by decide) (he : starEach (e :: es) X.env = (false, eval e X.env) :: starEach es X.env := by rfl) (hpl : (backTo pos (starEach es X.env)).any (·.1) = false := by rfl) :
    PE X (.Call (.Name c p) (e :: es) [] pos) (tMake (He.ga X.K c) sp [v] E t) := by
  obtain ⟨⟨fd, a, _, ds, e1, b⟩, M, g⟩ := F
  exact pe_make M a hr hg g b e1 hx ha hdb he hpl
end
end Rd
namespace Rd
open PySem L2
/-! ### the hook: as the library's, with the statics -/
def frY (n : Nat) (g : Addr → Option Obj) : PySem.W.Frag := He.frG g (cStatics :: He.asD g n)
abbrev AlY : Type := He.AlT × Bool
structure SaysY (fa : List He.Fa) (fn : List He.DefD) (ts : List He.Tab) (ex : PySem.W.Frag → Bool) (w : World) (K : PySem.W.Frag) : Prop where
  t : He.SaysT fa fn ts w K
  more : ex K = true
def obsY (n : Nat) (fa : List He.Fa) (fn : List He.DefD) (ts : List He.Tab) (ex : PySem.W.Frag → Bool) (g : Addr → Option Obj) : AlY := (He.obsT fa fn ts (frY n g), ex (frY n g))
def valY (fn : List He.DefD) (ts : List He.Tab) (w : World) : AlY := (He.valT fn ts w, true)
def hookY (n : Nat) (fa : List He.Fa) (fn : List He.DefD) (ts : List He.Tab) (ex : PySem.W.Frag → Bool) : PySem.W.Hook where
  α := AlY
  obs := fun s => obsY n fa fn ts ex s.heap.get?
  val := fun w => valY fn ts w
  says := fun w h => ∃ K : PySem.W.Frag, K.In h ∧ SaysY fa fn ts ex w K
  of := fun _ _ e => ⟨_, He.frG_in, ⟨congrArg (fun z : AlY => z.1) e, congrArg (fun z : AlY => z.2) e⟩⟩
  keeps := fun _ _ _ ⟨K, hK, c⟩ k => ⟨K, PySem.W.Frag.In.keeps hK k, c⟩
theorem obsY_eq {n : Nat} {fa : List He.Fa} {fn : List He.DefD} {ts : List He.Tab} {ex : PySem.W.Frag → Bool} {g : Addr → Option Obj} {s : Shared} (h : ∀ a, g a = s.heap.get? a) : obsY n fa fn ts ex g = (hookY n fa fn ts ex).obs s := by
  have e : g = s.heap.get? := funext h
  rw [e] <;> rfl
end Rd
namespace Rd
open PySem L2
/-! ### a written dict of the module: text keys, int values -/
structure Kd (w : World) (K : PySem.W.Frag) (mg : Str → Option Value) (x : Str) (kvs : List (Str × Int)) : Prop where
  g : mg x = some (.ref (He.ga K x))
  kd : ∃ es n, KDict K w (He.ga K x) es n
  no : ∀ z, z ∉ kvs.map (·.1) → PySem.W.nsIn K (He.ga K x) z = some none
  ys : ∀ p ∈ kvs, ∃ t, PySem.W.nsIn K (He.ga K x) p.1 = some (some (.int p.2 t))
def kdB (K : PySem.W.Frag) (a : Addr) (kvs : List (Str × Int)) : Bool := (match K.lookup a with
  | some ⟨_, _, .dict es _, _⟩ => es.toList.all fun e => (match e.key with
    | .str x _ => (kvs.map (·.1)).contains x
    | _ => false)
  | _ => false) && kvs.all fun p => (match PySem.W.nsIn K a p.1 with
    | some (some (.int i _)) => decide (i = p.2)
    | _ => false)
theorem kd_ok {w : World} {K : PySem.W.Frag} {mg : Str → Option Value} {x : Str} {kvs : List (Str × Int)} (g : mg x = some (.ref (He.ga K x))) (kd : ∃ es n, KDict K w (He.ga K x) es n) (h : kdB K (He.ga K x) kvs = true) : Kd w K mg x kvs := by
  obtain ⟨h1, h2⟩ := He.ba h
  refine ⟨g, kd, fun z hz => ?_, fun p hp => ?_⟩
  · obtain ⟨es, n, D⟩ := kd
    rw [D.at_] at h1
    have h3 : es.toList.all (fun e => (match e.key with
      | .str x _ => (kvs.map (·.1)).contains x
      | _ => false)) = true := h1
    have h4 := List.all_eq_true.mp h3
    unfold PySem.W.nsIn
    rw [D.at_]
    have e1 : es.toList.find? (·.key.isStr z) = none := by
      rw [List.find?_eq_none]
      intro e he q
      have h5 := h4 e he
      cases ek : e.key with
      | str y t =>
        rw [ek] at h5 q
        have e2 : y = z := eq_of_beq q
        subst e2
        exact hz (List.contains_iff_mem.mp h5)
      | _ =>
        rw [ek] at h5
        cases h5
    have e2 : es.toList.any (·.refKey) = false := by
      rw [List.any_eq_false]
      intro e he q
      have h5 := h4 e he
      unfold DictEntry.refKey at q
      cases ek : e.key with
      | str y t =>
        rw [ek] at q
        cases q
      | _ =>
        rw [ek] at h5
        cases h5
    show (match es.toList.find? (·.key.isStr z) with
      | some e => some (some e.val)
      | none => if es.toList.any (·.refKey) then none else some none) = some none
    rw [e1, e2]
    rfl
  · have h3 := List.all_eq_true.mp h2 p hp
    split at h3
    · rename_i i t e
      rw [e]
      exact ⟨t, by rw [of_decide_eq_true h3]⟩
    · cases h3
section
variable {X : Cx} {x : Str} {kvs : List (Str × Int)} {pos : Pos}
theorem pe_kd (D : Kd X.w X.K X.mg x kvs) (hg : Gl X x := by rfl) (hd : (x == ("__debug__" : Str)) = false := by decide) : PE X (.Name x pos) (tC (.ref (He.ga X.K x))) := pe_glob hg D.g rfl hd
def rInK (K : PySem.W.Frag) (x : Str) (kvs : List (Str × Int)) : R2 := fun a b H Q => ∃ z, a = .str z ∧ b = .ref (He.ga K x) ∧ Q (.bl (decide (z ∈ kvs.map (·.1)))) H
def rNotInK (K : PySem.W.Frag) (x : Str) (kvs : List (Str × Int)) : R2 := fun a b H Q => ∃ z, a = .str z ∧ b = .ref (He.ga K x) ∧ Q (.bl (!decide (z ∈ kvs.map (·.1)))) H
theorem Kd.look {w : World} {K : PySem.W.Frag} {mg : Str → Option Value} (D : Kd w K mg x kvs) (z : Str) : ∃ r, PySem.W.nsIn K (He.ga K x) z = some r ∧ r.isSome = decide (z ∈ kvs.map (·.1)) := by
  by_cases h : z ∈ kvs.map (·.1)
  · obtain ⟨p, hp, rfl⟩ := List.mem_map.mp h
    obtain ⟨t, e⟩ := D.ys p hp
    exact ⟨_, e, by rw [decide_eq_true h]; rfl⟩
  · exact ⟨_, D.no z h, by rw [decide_eq_false h]; rfl⟩
theorem op_inK (D : Kd X.w X.K X.mg x kvs) : OpR X (compareOp .In) (rInK X.K x kvs) := by
  intro pins s σ H a b v u Q I ra rb h
  obtain ⟨z, rfl, rfl, q⟩ := h
  obtain ⟨es, n, kd⟩ := D.kd
  obtain ⟨r, e1, e2⟩ := D.look z
  exact op_in_kd kd pins s σ H _ _ v u Q I ra rb ⟨z, r, rfl, rfl, e1, by rw [e2]; exact q⟩
theorem op_notInK (D : Kd X.w X.K X.mg x kvs) : OpR X (compareOp .NotIn) (rNotInK X.K x kvs) := by
  intro pins s σ H a b v u Q I ra rb h
  obtain ⟨z, rfl, rfl, q⟩ := h
  obtain ⟨es, n, kd⟩ := D.kd
  obtain ⟨r, e1, e2⟩ := D.look z
  exact op_notIn_kd kd pins s σ H _ _ v u Q I ra rb ⟨z, r, rfl, rfl, e1, by rw [e2]; exact q⟩
def rIxK (K : PySem.W.Frag) (x : Str) (kvs : List (Str × Int)) : R2 := fun a b H Q => ∃ p ∈ kvs, a = .ref (He.ga K x) ∧ b = .str p.1 ∧ Q (.int p.2) H
theorem ix_K (D : Kd X.w X.K X.mg x kvs) : IxR X (rIxK X.K x kvs) := by
  intro value slice pins s σ H a b v u Q I ra rb h hs
  obtain ⟨p, hp, rfl, rfl, q⟩ := h
  obtain ⟨es, n, kd⟩ := D.kd
  obtain ⟨t, e⟩ := D.ys p hp
  exact ix_kdict value slice pins s σ H _ _ v u Q I ra rb ⟨_, _, V.int p.2, rfl, rfl, ⟨es, n, _, kd.at_, kd.lit, e, ⟨t, rfl⟩⟩, q⟩ hs
end
end Rd
namespace Rd
open PySem L2
/-! ### calls whose raise is wished for at the caller's slots (in a try's body) -/
def tMakeS (C : Addr) (sp : Sp) (dvs : List V) (E : St → XK) (t : TA) : TE := fun σ H Q => t σ H fun vs H1 => ∀ x dx, H1 x = none → H1 dx = none → dx ≠ x →
  sp (.ref x :: (vs ++ dvs)) (upd (upd H1 dx (.own x)) x (.ins C dx [])) (fun v H2 => v = .non ∧ Q (.ref x) H2) (E σ)
def tMethS (C : Addr) (m : Str) (sp : Sp) (E : St → XK) (ta : TE) (t : TA) : TE := fun σ H Q => ta σ H fun x H1 => ∃ a dx fs, x = .ref a ∧ H1 a = some (.ins C dx fs) ∧ fs.lookup m = none ∧
  t σ H1 fun vs H2 => sp (x :: vs) H2 Q (E σ)
section
variable {X : Cx} {CX : CXT} {k : Nat} {ps : List Str} {sp : Sp} {E : St → XK} {x c m : Str} {p pos apos : Pos} {e o : Expr} {es : List Expr} {t : TA} {ta : TE} {v : V}
theorem run_makeS {C f : Addr} {fd : FuncData} {dvs : List V} {ds : List Value} {pins : List (Addr × Obj)} {σ : St} {H : Hp} {s : Shared} {Q : VK} {us : List Value} {vs : List V} (M : Mk X.K C f) (F : FnOk X.prog X.w X.K X.mg X.base CX k f fd ps sp) (hr : Room (k + 1) X.A) (hb : Binds X.K fd ps ds) (hd : Vals dvs ds)
    (hx : PassesAt CX X σ (E σ)) (I : Inv X pins σ H s) (r : Vals vs us)
    (h : ∀ x dx, H x = none → H dx = none → dx ≠ x → sp (.ref x :: (vs ++ dvs)) (upd (upd H dx (.own x)) x (.ins C dx [])) (fun v H2 => v = .non ∧ Q (.ref x) H2) (E σ)) :
    wpAny (model X.prog X.w) X.A (call (.ref C) us) (EP X pins σ Q) X.xe s := by
  have hq := h (s.heap.objs.size + 1) s.heap.objs.size (I.hok.fresh (Nat.le_succ _)) (I.hok.fresh (Nat.le_refl _)) (Nat.ne_of_lt (Nat.lt_succ_self _))
  have I2 := Inv.made (C := C) I
  have r2 : Vals (V.ref (s.heap.objs.size + 1) :: (vs ++ dvs)) (Value.ref (s.heap.objs.size + 1) :: (us ++ ds)) := .cons rfl (r.append hd)
  have hl : (Value.ref (s.heap.objs.size + 1) :: us ++ ds).length = ps.length := by
    have e := r2.length
    rw [F.len _ _ _ _ hq] at e
    exact e.symm
  refine wpAny_call (make_map (f := f) I.kIn M.makes M.init (beq_iff_eq.mp M.fn) (codeAny_mono (F.run _ X.stack _ _ ⟨Value.ref (s.heap.objs.size + 1) :: us, []⟩ (Value.ref (s.heap.objs.size + 1) :: (us ++ ds)) _ _ (E σ) (hr.make C us [])
    (I2.env0.make C us []) (hb _ (Value.ref (s.heap.objs.size + 1) :: us) I2.kIn hl) r2 hq) fun r s' hq' => ?_))
  cases r with
  | error e => exact hx pins _ _ e s' I2 hq'
  | ok fl =>
    cases fl with
    | ret u =>
      obtain ⟨v, H', I3, rv, ev, q3⟩ := I2.after hq'
      subst ev
      exact ⟨rv, ⟨V.ref (s.heap.objs.size + 1), H', I3, rfl, q3⟩⟩
    | next => exact False.elim hq'
    | brk => exact False.elim hq'
    | cont => exact False.elim hq'
theorem pe_mk1S (F : Fi X.prog X.w X.K X.mg X.base CX k c ps sp v) (hr : Room (k + 1) X.A) (hg : Gl X c) (hx : ∀ σ, PassesAt CX X σ (E σ))
    (ha : PA X (e :: es) t) (hdb : (c == ("__debug__" : Str)) = false := by decide) (he : starEach (e :: es) X.env = (false, eval e X.env) :: starEach es X.env := by rfl) (hpl : (backTo pos (starEach es X.env)).any (·.1) = false := by rfl) :
    PE X (.Call (.Name c p) (e :: es) [] pos) (tMakeS (He.ga X.K c) sp [v] E t) := by
  obtain ⟨⟨fd, a, _, ds, e1, b⟩, M, g⟩ := F
  refine ⟨fun pins s σ H Q I h => ?_⟩
  refine wpAny_Call_Name_kw (ld_glob I hg g ?_ hdb)
  refine PySem.W.callWith_K (h₀ := X.base) I.ok.mod.kin M.kp (thn (ha.run pos pins s σ H _ I h) fun us s1 ⟨vs, H1, I1, r, q⟩ => ⟨I1.kIn, ?_⟩) he hpl
  exact run_makeS M a hr b e1 (hx σ) I1 r q
theorem pe_fkS (F : Fk X.prog X.w X.K X.mg X.base CX k x ps sp) (hr : Room k X.A) (hg : Gl X x) (hx : ∀ σ, PassesAt CX X σ (E σ))
    (ha : PA X (e :: es) t) (hdb : (x == ("__debug__" : Str)) = false := by decide) (he : starEach (e :: es) X.env = (false, eval e X.env) :: starEach es X.env := by rfl) (hpl : (backTo pos (starEach es X.env)).any (·.1) = false := by rfl) :
    PE X (.Call (.Name x p) (e :: es) [] pos) (tCallS sp E t) := by
  obtain ⟨⟨fd, a, b⟩, c, d⟩ := F
  exact pe_callS a hr hg c d b hx ha hdb he hpl
end
end Rd
namespace Rd
open PySem L2
/-! ### own operators -/
theorem at0 {X : Cx} {σ : St} : PassesAt CX0 X σ E0 := fun _ _ _ _ _ _ h => h.elim
theorem back_of {X : Cx} {pins : List (Addr × Obj)} {σ : St} {Q : VK} {v : Value} {s : Shared} (h : EP X pins σ Q v s) : PySem.W.CmpBack (EP X pins σ Q) v s := by
  obtain ⟨x, H', I', r, q⟩ := id h
  cases v with
  | notImplemented =>
    cases x with
    | non => cases r
    | bl b => cases r
    | int i => obtain ⟨t, e⟩ := r; cases e
    | str z => obtain ⟨t, e⟩ := r; cases e
    | byt b => obtain ⟨t, e⟩ := r; cases e
    | flt b => obtain ⟨t, e⟩ := r; cases e
    | ref a => cases r
    | ty n => cases r
  | _ => exact h
def tBo (C : Addr) (sp : Sp) (E : St → XK) (ta tb : TE) : TE := fun σ H Q => ta σ H fun x H1 => tb σ H1 fun y H2 => ∃ a b dx dy fs gs, x = .ref a ∧ y = .ref b ∧ H2 a = some (.ins C dx fs) ∧ H2 b = some (.ins C dy gs) ∧ sp [.ref a, .ref b] H2 Q (E σ)
def tUo (C : Addr) (sp : Sp) (E : St → XK) (ta : TE) : TE := fun σ H Q => ta σ H fun x H1 => ∃ a dx fs, x = .ref a ∧ H1 a = some (.ins C dx fs) ∧ sp [.ref a] H1 Q (E σ)
section
variable {X : Cx} {CX : CXT} {k : Nat} {ps : List Str} {sp : Sp} {E : St → XK} {c m : Str} {pos : Pos} {a b : Expr} {ta tb : TE}
theorem pe_bo {op : Operator} (ha : PE X a ta) (hb : PE X b tb) (sf : PySem.W.selfFirst X.K (He.ga X.K c) = true) (F : Fm X.prog X.w X.K X.mg X.base CX k c m ps sp) (hr : Room k X.A) (hx : ∀ σ, PassesAt CX X σ (E σ)) (hm : PySem.dunder op.info.2 = m := by decide +kernel) :
    PE X (.BinOp a op b pos) (tBo (He.ga X.K c) sp E ta tb) := by
  obtain ⟨⟨fd, f1, b1⟩, me⟩ := F
  refine ⟨fun pins s σ H Q I h => ?_⟩
  refine wpAny_BinOp (binT ha hb I h fun v u s2 x y H2 I2 rx ry q => ?_)
  obtain ⟨p, r, dx, dy, fs, gs, rfl, rfl, hp, hr2, q⟩ := q
  cases rx
  cases ry
  obtain ⟨mA, J, _⟩ := ins_get I2.hok hp
  obtain ⟨mB, J', _⟩ := ins_get I2.hok hr2
  obtain ⟨od, J, _⟩ := J.look
  obtain ⟨od', J', _⟩ := J'.look
  obtain ⟨mm, hF⟩ := I2.fr
  refine PySem.W.binop_K hF I2.ok.mod.kin J J'.type sf (by rw [hm]; exact me.at_) me.fn (thn (run_fnS (vs := [.ref p, .ref r]) (E := E) f1 hr b1 (hx σ) I2 (.cons rfl (.cons rfl .nil)) q) fun v s' hq => back_of hq)
theorem pe_uo {op : UnaryOp} (ha : PE X a ta) (F : Fm X.prog X.w X.K X.mg X.base CX k c m ps sp) (hr : Room k X.A) (hx : ∀ σ, PassesAt CX X σ (E σ))
    (hm : (op = .Invert ∧ m = "__invert__") ∨ (op = .UAdd ∧ m = "__pos__") ∨ (op = .USub ∧ m = "__neg__")) : PE X (.UnaryOp op a pos) (tUo (He.ga X.K c) sp E ta) := by
  obtain ⟨⟨fd, f1, b1⟩, me⟩ := F
  refine ⟨fun pins s σ H Q I h => ?_⟩
  refine PyProof.Rows.UnaryOp_ (thn (ha.run pins s σ H _ I h) fun v s1 ⟨x, H1, I1, r1, q1⟩ => ?_)
  obtain ⟨p, dx, fs, rfl, hp, q⟩ := q1
  cases r1
  obtain ⟨mA, J, _⟩ := ins_get I1.hok hp
  obtain ⟨od, J, _⟩ := J.look
  have go : wpAny (model X.prog X.w) X.A (callSpecial? (.ref p) m) (fun r s' => ∃ v, r = some v ∧ EP X pins σ Q v s') X.xe s1 :=
    PySem.W.special_fn I1.kIn J me.at_ (beq_iff_eq.mp me.fn) (thn (run_fnS (vs := [.ref p]) (E := E) f1 hr b1 (hx σ) I1 (.cons rfl .nil) q) fun v s' hq => ⟨v, rfl, hq⟩)
  unfold unaryOp
  refine wpAny_holding ?_
  rcases hm with ⟨rfl, rfl⟩ | ⟨rfl, rfl⟩ | ⟨rfl, rfl⟩
  · refine wpAny_bind (thn go fun r s' ⟨v, e, hq⟩ => ?_)
    subst e
    exact wpAny_pure hq
  · refine wpAny_bind (thn go fun r s' ⟨v, e, hq⟩ => ?_)
    subst e
    exact wpAny_pure hq
  · refine wpAny_bind (thn go fun r s' ⟨v, e, hq⟩ => ?_)
    subst e
    exact wpAny_pure hq
end
end Rd
namespace Rd
open PySem L2
theorem in_strs (z : Str) : ∀ l : List Str, inV (.str z) (l.map V.str) = decide (z ∈ l)
  | [] => by simp [inV]
  | a :: r => by
    have ih := in_strs z r
    unfold inV at ih ⊢
    rw [List.map_cons, List.any_cons, ih]
    show ((a == z) || _) = _
    by_cases h : a = z
    · subst h
      simp
    · have e : (a == z) = false := by simpa using h
      rw [e, Bool.false_or]
      have h' : z ≠ a := fun q => h q.symm
      simp [h']
theorem flat_strs : ∀ l : List Str, (l.map V.str).all flatV = true
  | [] => rfl
  | a :: r => by rw [List.map_cons, List.all_cons, flat_strs r]; rfl
section
variable {X : Cx}
def rInT (K : PySem.W.Frag) : R2 := fun x y H Q => ∃ (z : Str) (p : Addr) (l : List Str), x = .str z ∧ y = .ref p ∧ SqT K H p (l.map V.str) ∧ Q (.bl (decide (z ∈ l))) H
def rNotInT (K : PySem.W.Frag) : R2 := fun x y H Q => ∃ (z : Str) (p : Addr) (l : List Str), x = .str z ∧ y = .ref p ∧ SqT K H p (l.map V.str) ∧ Q (.bl (!decide (z ∈ l))) H
theorem op_inT : OpR X (compareOp .In) (rInT X.K) := by
  intro pins s σ H x y v u Q I rx ry h
  obtain ⟨z, p, l, rfl, rfl, hs, q⟩ := h
  exact op_in_seq pins s σ H _ _ v u Q I rx ry ⟨p, _, rfl, .inr hs, rfl, flat_strs l, by show Q (.bl (inV _ _)) H; rw [in_strs]; exact q⟩
theorem op_notInT : OpR X (compareOp .NotIn) (rNotInT X.K) := by
  intro pins s σ H x y v u Q I rx ry h
  obtain ⟨z, p, l, rfl, rfl, hs, q⟩ := h
  exact op_notIn_seq pins s σ H _ _ v u Q I rx ry ⟨p, _, rfl, .inr hs, rfl, flat_strs l, by show Q (.bl (!inV _ _)) H; rw [in_strs]; exact q⟩
end
end Rd
namespace Rd
open PySem L2
/-! ### exceptions whose context is known, methods called where one is handled -/
theorem passN {X : Cx} : Passes (L2N.CX X.prog X.w) X E0 := fun _ _ _ _ _ _ _ h => by
  obtain ⟨_, _, _, _, _, _, _, _, _, _, _, _, z⟩ := h
  exact z.elim
theorem atN {X : Cx} {σ : St} : PassesAt (L2N.CX X.prog X.w) X σ E0 := fun _ _ _ _ _ I h => passN _ _ _ _ _ _ I h
theorem takes0N {X : Cx} : L2N.Takes X (fun _ _ _ _ => False) := fun _ _ x => by
  obtain ⟨_, _, _, _, _, _, _, _, _, _, _, _, _, _, _, _, z⟩ := x
  exact z.elim
section
variable {X : Cx} {k : Nat} {x f c m : Str} {p pos apos : Pos} {e o : Expr} {te : TE} {ta : TA} {ps : List Str} {sp : Sp} {CX : CXT} {to : TE}
theorem pmk_xN {es : List Expr} {q : Str} {st : Stmt} (T : Xh X.K X.mg x f q st) (Fq : Fm X.prog X.w X.K X.mg X.base CX0 k x "__init__" ps sp) (hr : Room (k + 1) X.A) (hg : Gl X x) (ha : PA X (e :: es) ta)
    (hdb : (x == ("__debug__" : Str)) = false := by decide) (he : starEach (e :: es) X.env = (false, eval e X.env) :: starEach es X.env := by rfl) (hpl : (backTo pos (starEach es X.env)).any (·.1) = false := by rfl) :
    L2N.PMk X (.Call (.Name x p) (e :: es) [] pos) (tMkO (He.ga X.K x) sp [] ta) := by
  obtain ⟨⟨fd, F1, hb⟩, me⟩ := Fq
  intro pins s σ H Q I h
  obtain ⟨nm, q', N, bs, bm, sn, sub, ab, col, dd, k0, k1, k2, k3, k5, hC, hbm⟩ := T.oex.cls
  refine wpAny_Call_Name_kw (ld_glob I hg T.g ?_ hdb)
  refine PySem.W.callWith_K (h₀ := X.base) I.ok.mod.kin T.oex.kC (thn (ha.run pos pins s σ H _ I h) fun us s1 ⟨vs, H1, I1, r1, hz, q1⟩ => ⟨I1.kIn, ?_⟩) he hpl
  show wpAny _ _ (call (.ref (He.ga X.K x)) us) _ _ _
  obtain ⟨hp, g, dr, tk, os⟩ := s1
  have hsz : hp.objs.size ≤ hp.objs.size + 1 := Nat.le_succ _
  have hn : H1 (hp.objs.size + 1) = none := I1.hok.fresh hsz
  have hq := q1 (hp.objs.size + 1) hn
  rw [List.append_nil] at hq
  have kk : ∀ b o, hp.get? b = some o → ((hp.push (PySem.W.kdv_tup us)).push (PySem.HandSPX.excO (He.ga X.K x) hp.objs.size)).get? b = some o := fun b o e => Heap.get?_push_of_some _ (Heap.get?_push_of_some _ e)
  have hget : ((hp.push (PySem.W.kdv_tup us)).push (PySem.HandSPX.excO (He.ga X.K x) hp.objs.size)).get? (hp.objs.size + 1) = some (PySem.HandSPX.excO (He.ga X.K x) hp.objs.size) := by heap_get
  have I2 : Inv X pins σ (upd H1 (hp.objs.size + 1) (exo (hp.objs.size + 1) (He.ga X.K x) none)) ⟨(hp.push (PySem.W.kdv_tup us)).push (PySem.HandSPX.excO (He.ga X.K x) hp.objs.size), g, dr, tk, os⟩ :=
    I1.laid (t' := tk) (a := hp.objs.size + 1) (o := exo (hp.objs.size + 1) (He.ga X.K x) none) (h' := (hp.push (PySem.W.kdv_tup us)).push (PySem.HandSPX.excO (He.ga X.K x) hp.objs.size)) kk hsz (exo_ok hget)
  have r2 : Vals (V.ref (hp.objs.size + 1) :: vs) (Value.ref (hp.objs.size + 1) :: us) := .cons rfl r1
  have hl : (Value.ref (hp.objs.size + 1) :: us).length = ps.length := by
    have e := r2.length
    rw [F1.len _ _ _ _ hq] at e
    exact e.symm
  have hus : us.length ≤ sizeLine := by
    rw [← Paired.length r1, sizeLine_eq]
    omega
  have hbt := hb ⟨(hp.push (PySem.W.kdv_tup us)).push (PySem.HandSPX.excO (He.ga X.K x) hp.objs.size), g, dr, tk, os⟩ (Value.ref (hp.objs.size + 1) :: us) I2.kIn (by rw [List.append_nil]; exact hl)
  rw [List.append_nil] at hbt
  refine wpAny_call (PySem.HandSPX.call_own PySem.F.excBase_ValueError (fun Y => PySem.HandSPX.refsVE_contains Y bm hbm) (I1.kIn _ _ hC) (PySem.W.looks_findIn I1.kIn me.at_) (fun self => PySem.W.bind_fn I1.kIn self (beq_iff_eq.mp me.fn)) hus
    (codeAny_mono (F1.run _ X.stack _ _ ⟨Value.ref (hp.objs.size + 1) :: us, []⟩ (Value.ref (hp.objs.size + 1) :: us) _ _ (fun _ _ _ => False) (hr.make (He.ga X.K x) us []) (I2.env0.make (He.ga X.K x) us []) hbt r2 hq) fun r s' hq' => ?_))
  cases r with
  | error er => exact hq'.elim
  | ok fl =>
    cases fl with
    | ret u =>
      obtain ⟨v, H2, os2, bare2, un2, hok2, rv, ev, d, fs, ea, ed, hd1, q2⟩ := hq'
      subst ev
      obtain ⟨h2, g2, d2, t2, os'⟩ := s'
      obtain ⟨t0, G, J, kG, ge, hoe, na⟩ := mk_end0 (d2 := d2) (t2 := t2) I1 hsz kk un2 hok2 os2 bare2 ea ed hd1
      exact ⟨rv, _, _, _, ⟨G, g2, d2, t2, os'⟩, _, .ref (He.ga X.K x), some d, rfl, J, kG, ge, hoe, ⟨rfl, rfl, fun vs e => by cases e; rfl⟩, rfl, rfl, na, rfl, bare2, raises_own T.oex.exC T.oex.tyC, q2⟩
    | next => exact False.elim hq'
    | brk => exact False.elim hq'
    | cont => exact False.elim hq'
/-- a method, called where an exception is handled -/
structure FmH (P : Program) (w : World) (K : PySem.W.Frag) (mg : Str → Option Value) (base : Heap) (CX : CXT) (k : Nat) (c m : Str) (ps : List Str) (sp : Sp) : Prop where
  ex : ∃ fd, L2H.FnH P w K mg base CX k (He.ma K (He.ga K c) m) fd ps sp ∧ Binds K fd ps []
  me : Meth K (He.ga K c) m (He.ma K (He.ga K c) m)
theorem Mh.okH {P : Program} {w : World} {K : PySem.W.Frag} {mg : Str → Option Value} {base : Heap} {N : List Str} {q : Str} {st : Stmt} (F : Mh K c m q st) (S : FnScope N ps (defScope st))
    (hb : ∀ (kV doc pm : Value) (an : Option Addr) (cdv ct : Value) (us : List Value), us.length = ps.length → bindArgs (PySem.W.fnOf m q (defArgs st) (defBody st) (defScope st) .none kV doc pm an cdv ct) ⟨us, []⟩ = pure (ps.zip us))
    (len : ∀ vs H Q E, sp vs H Q E → vs.length = ps.length)
    (hbody : ∀ (cdv : Value) (A : Around) (outer : List Env) (s : Shared) (H : Hp) (vs : List V) (Q : VK) (E : XK) (p : Addr × Obj), L2H.Hot1 A p → L2H.RoomH k (A.deeper (PyProof.Rows.envOfC q (defScope st) s.heap.objs.size (He.ma K (He.ga K c) m) cdv)) → sp vs H Q E →
      ∃ t, PSs (L2H.cxH CX P w K mg base N q (defScope st) (He.ma K (He.ga K c) m) cdv A outer s H E p) (defBody st) t ∧ t { nx := fun _ H' => Q .non H', rt := Q } (start N vs) H) : FmH P w K mg base CX (k + 1) c m ps sp := by
  obtain ⟨fd, F'⟩ := F.ex
  have hbn := F'.bindsN hb
  obtain ⟨oc, od, dV, kV, doc, pm, an, cdv, ct, osl, rfl, lk, hcd, _, _⟩ := F'.ex
  exact ⟨⟨_, L2H.fn_ofH lk hcd S len fun A outer s H vs Q E p hp hr hsp => hbody cdv A outer s H vs Q E p hp hr hsp, hbn⟩, F.me⟩
theorem pe_fmH0 {pl : Sem Bool} {E : St → XK} (he : PE X o te) (cl : Cls X.K (He.ga X.K c)) (F : FmH X.prog X.w X.K X.mg X.base CX k c m ps sp) (hr : L2H.RoomH k X.A) (hc : L2H.HotC X) (hx : ∀ σ, PassesAt CX X σ (E σ))
    (ht : eval (.Call (.Attribute o m apos) [] [] pos) X.env = (do
      let ov ← eval o X.env
      standAt apos.atName
      let (f, first) ← holding [ov] (getMethod ov m pl)
      callWith pos f first (backTo pos (starEach [] X.env)) (backToKw pos (keywordEach [] X.env))) := by rfl) :
    PE X (.Call (.Attribute o m apos) [] [] pos) (L2H.tMethH (He.ga X.K c) m sp E te tNil) := by
  obtain ⟨⟨fd, a, b⟩, me⟩ := F
  refine ⟨fun pins s σ H Q I h => ?_⟩
  refine PySem.W.methodCall_KW (pl := pl) (thn (he.run pins s σ H _ I h) fun u s1 ⟨y, H1, I1, rx, i, dx, fs, ex, ea, l, q⟩ => ?_) ht
  subst ex
  obtain rfl : u = Value.ref i := rx
  refine getmeth_ok I1 ea cl me l ?_
  exact PySem.W.callWith_K0 (first := [.ref i]) I1.kIn me.kp (L2H.run_fnH (us := [.ref i]) (vs := [.ref i]) a hr hc b (hx σ) I1 (.cons rfl .nil) q)
theorem hotC {X : Cx} {a : Addr} {oe : Obj} {cls : Value} {d : Option Addr} {pn : List (Addr × Obj)} (hz : L2N.Zn cls d oe) (hf : ∃ vs, oe.data = .fields vs) : L2H.HotC (X.suite a ((a, oe) :: pn)) := by
  obtain ⟨vs, e⟩ := hf
  exact ⟨(a, oe), ⟨rfl, vs, e, hz.2.2 vs e⟩, List.mem_cons_self⟩
end
end Rd
namespace Rd
open PySem L2
/-! ### own comparisons, isinstance of an own class -/
structure IsiC (K : PySem.W.Frag) (C : Addr) : Prop where
  ha : PySem.W.findIn K (.ref C) "__class__" = some (some (.builtin "object.__class__"))
  hn : PySem.W.specialIn K (.builtin "object.__class__") "__get__" = some (some (.builtin "getset_descriptor.__get__"))
  htk : PySem.W.takesIn K (.builtin "object.__class__") = some true
  hm : PySem.W.mroIn K C (.type "object") = some true
  ne : PySem.W.findIn K (.ref C) "__ne__" = some (some (.builtin "object.__ne__"))
def isiB (K : PySem.W.Frag) (C : Addr) : Bool := He.eqO (PySem.W.findIn K (.ref C) "__class__") (some (some (.builtin "object.__class__"))) && (He.eqO (PySem.W.specialIn K (.builtin "object.__class__") "__get__") (some (some (.builtin "getset_descriptor.__get__"))) &&
  (decide (PySem.W.takesIn K (.builtin "object.__class__") = some true) && (decide (PySem.W.mroIn K C (.type "object") = some true) && He.eqO (PySem.W.findIn K (.ref C) "__ne__") (some (some (.builtin "object.__ne__"))))))
theorem isiB_ok {K : PySem.W.Frag} {C : Addr} (h : isiB K C = true) : IsiC K C := by
  obtain ⟨h1, h⟩ := He.ba h
  obtain ⟨h2, h⟩ := He.ba h
  obtain ⟨h3, h⟩ := He.ba h
  obtain ⟨h4, h5⟩ := He.ba h
  exact ⟨He.eqO_ok h1, He.eqO_ok h2, of_decide_eq_true h3, of_decide_eq_true h4, He.eqO_ok h5⟩
theorem IsiC.ty {K : PySem.W.Frag} {C : Addr} (h : IsiC K C) (cl : Cls K C) {H : Hp} {a dx : Addr} {fs : List (Str × V)} (e : H a = some (.ins C dx fs)) : TyX K H (.ref a) (.ref C) := .base (.ins e cl h.ha h.hn h.htk h.hm)
theorem kit_self {K : PySem.W.Frag} {C : Addr} : PySem.W.kitOne K (.ref C) (.ref C) = some true := by
  unfold PySem.W.kitOne
  rw [if_pos (by simp)]
theorem pe_gcls {X : Cx} {x : Str} {pos : Pos} (hg : Gl X x) (hm : X.mg x = some (.ref (He.ga X.K x))) (hd : (x == ("__debug__" : Str)) = false := by decide) : PE X (.Name x pos) (tC (.ref (He.ga X.K x))) := pe_glob hg hm rfl hd
/-- x op y, both of the class at C, its def for op keeps sp -/
def rCmp (C : Addr) (sp : Sp) : R2 := fun x y H Q => ∃ a b dx dy fs gs, x = .ref a ∧ y = .ref b ∧ H a = some (.ins C dx fs) ∧ H b = some (.ins C dy gs) ∧ sp [.ref a, .ref b] H Q E0
/-- x != y, by __eq__'s def -/
def rNeO (C : Addr) (sp : Sp) : R2 := fun x y H Q => ∃ a b dx dy fs gs, x = .ref a ∧ y = .ref b ∧ H a = some (.ins C dx fs) ∧ H b = some (.ins C dy gs) ∧ sp [.ref a, .ref b] H (fun v H' => ∃ k, v = .bl k ∧ Q (.bl (!k)) H') E0
section
variable {X : Cx} {k : Nat} {ps : List Str} {sp : Sp} {c m : Str}
theorem op_cmp {op : CmpOp} (F : Fm X.prog X.w X.K X.mg X.base CX0 k c m ps sp) (hr : Room k X.A) (hop : ∀ a b, compareOp op a b = richCompare op a b) (hm : (cmpInfo op).2.1 = m := by rfl) : OpR X (compareOp op) (rCmp (He.ga X.K c) sp) := by
  obtain ⟨⟨fd, f1, b1⟩, me⟩ := F
  intro pins s σ H x y v u Q I rx ry h
  obtain ⟨a, b, dx, dy, fs, gs, rfl, rfl, ha, hb, q⟩ := h
  cases (show v = Value.ref a from rx)
  cases (show u = Value.ref b from ry)
  obtain ⟨mA, J, _⟩ := ins_get I.hok ha
  obtain ⟨mB, J', _⟩ := ins_get I.hok hb
  obtain ⟨od, J, _⟩ := J.look
  obtain ⟨od', J', _⟩ := J'.look
  obtain ⟨mm, hF⟩ := I.fr
  rw [hop]
  refine PySem.W.cmp_K (op := op) (tb := .ref (He.ga X.K c)) hr.units0 hF I.ok.mod.kin J J'.type (by simp [PySem.W.notFirst]) (by rw [hm]; exact me.at_) me.fn ?_
  exact thn (run_fnS (vs := [.ref a, .ref b]) (E := fun _ => E0) f1 hr b1 at0 I (.cons rfl (.cons rfl .nil)) q) fun v s' hq => back_of hq
theorem op_neO (T : IsiC X.K (He.ga X.K c)) (F : Fm X.prog X.w X.K X.mg X.base CX0 k c "__eq__" ps sp) (hr : Room (k + 1) X.A) : OpR X (compareOp .NotEq) (rNeO (He.ga X.K c) sp) := by
  obtain ⟨⟨fd, f1, b1⟩, me⟩ := F
  intro pins s σ H x y v u Q I rx ry h
  obtain ⟨a, b, dx, dy, fs, gs, rfl, rfl, ha, hb, q⟩ := h
  cases (show v = Value.ref a from rx)
  cases (show u = Value.ref b from ry)
  obtain ⟨mA, J, _⟩ := ins_get I.hok ha
  obtain ⟨mB, J', _⟩ := ins_get I.hok hb
  obtain ⟨od, J, _⟩ := J.look
  obtain ⟨od', J', _⟩ := J'.look
  have hl := f1.len _ _ _ _ q
  have r2 : Vals [V.ref a, V.ref b] [Value.ref a, Value.ref b] := .cons rfl (.cons rfl .nil)
  have bb := b1 s [.ref a, .ref b] I.kIn (by simpa using hl)
  have call : wpAny (model X.prog X.w) X.A.in1 (call (.ref (He.ma X.K (He.ga X.K c) "__eq__")) [.ref a, .ref b]) (fun r s' => ∃ kk : Bool, r = .bool kk ∧ EP X pins σ Q (.bool (!kk)) s') X.xe s := by
    refine wpAny_call (codeAny_mono (f1.run X.A.in1 X.stack s H ⟨[.ref a, .ref b], []⟩ [.ref a, .ref b] [.ref a, .ref b] _ E0 hr.in1 I.env0.in1 (by simpa using bb) r2 q) fun r s' hq => ?_)
    cases r with
    | error e => exact hq.elim
    | ok fl =>
      cases fl with
      | ret u =>
        obtain ⟨v, H', I', rv, kk, rfl, q'⟩ := I.after hq
        cases rv
        exact ⟨kk, rfl, .bl (!kk), H', I', rfl, q'⟩
      | next => exact False.elim hq
      | brk => exact False.elim hq
      | cont => exact False.elim hq
  have hu1 : X.A.in1.units < cLine := (hr.in1).units0
  have body : wpAny (model X.prog X.w) X.A.in1 (Builtin.«object.__ne__» ⟨[.ref a, .ref b], []⟩) (fun fin s' => ∃ v, fin = .done (.ret v) ∧ v ≠ .notImplemented ∧ EP X pins σ Q v s') X.xe s := by
    unfold Builtin.«object.__ne__»
    repeat (first
      | with_reducible refine wpAny_cRoomFor hu1 ?_
      | (refine wpAny_bind (m := callSpecialIfBound? (.ref a) (Str.ofString "__eq__") [.ref b]) (PySem.W.ifBound_K I.kIn J me.at_ me.fn (wpAny_mono call (fun r s' hr => by
          obtain ⟨kk, rfl, hq⟩ := hr
          exact wpAny_bind (wpAny_truthy_bool (wpAny_pure ⟨_, rfl, (fun z => nomatch z), hq⟩))) fun _ _ e => e)))
      | wp_step)
  have nec : wpAny (model X.prog X.w) X.A (PySem.call (.builtin "object.__ne__") [.ref a, .ref b]) (fun v s' => v ≠ .notImplemented ∧ EP X pins σ Q v s') X.xe s := by
    have hi : PySem.W.Looks (model X.prog X.w) s.heap (isInstance (.ref a) (.type "object")) true := J.type.andThen (PySem.W.looks_mroIn I.kIn T.hm)
    refine wpAny_call (codeAny_call_builtin F.cmp_object.ne.plain F.cmpEntry_ne (PySem.W.check_slot F.cmpKind_ne F.cmpSplit_ne hi (F.cmpArgs_ne _ _) (wpAny_mono body (fun fin s' hf => ?_) fun _ _ e => e)))
    obtain ⟨v, rfl, hv⟩ := hf
    exact hv
  have one : wpAny (model X.prog X.w) X.A (tryCompare (.ref a) "__ne__" (.ref b)) (fun r s' => ∃ v, r = some v ∧ EP X pins σ Q v s') X.xe s := by
    have fin : wpAny (model X.prog X.w) X.A (callSpecialIfBound? (.ref a) "__ne__" [.ref b]) (fun r s' => ∃ v, r = some v ∧ v ≠ .notImplemented ∧ EP X pins σ Q v s') X.xe s := by
      simp only [callSpecialIfBound?, bindSpecialIfBound?]
      refine wpAny_holding (wpAny_bind (wpAny_bind (wpAny_bind (J.type.here ((PySem.W.looks_findIn I.kIn T.ne).here ?_)))))
      refine wpAny_bind (wpAny_askSetting (wpAny_ite ?_))
      have e : wpAny (model X.prog X.w) X.A (PySem.call (.builtin "object.__ne__") ([.ref a] ++ [.ref b]) >>= fun v => pure (some v)) (fun r s' => ∃ v, r = some v ∧ v ≠ .notImplemented ∧ EP X pins σ Q v s') X.xe s :=
        wpAny_bind (wpAny_mono nec (fun v s' h' => wpAny_pure ⟨v, rfl, h'⟩) fun _ _ h' => h')
      have bd : PySem.W.Looks (model X.prog X.w) s.heap (bindSpecial (.builtin "object.__ne__") (.ref a)) (.builtin "object.__ne__", [.ref a]) := PySem.W.Looks.of_pure (F.cmp_object.ne.bind _)
      split
      · exact wpAny_bind (bd.here (wpAny_pure (by exact e)))
      · exact wpAny_tryCatch (wpAny_bind (bd.here (wpAny_pure (by exact e))))
    unfold tryCompare
    refine wpAny_bind (wpAny_mono fin (fun r s' hr => ?_) fun _ _ e => e)
    obtain ⟨v, rfl, hv, hq⟩ := hr
    cases v <;> first | exact absurd rfl hv | exact wpAny_pure ⟨_, rfl, hq⟩
  show wpAny _ _ (richCompare .NotEq (.ref a) (.ref b)) _ _ _
  unfold richCompare
  simp only [oneThing_ref]
  refine wpAny_holding (wpAny_bind (wpAny_cRoomFor hr.units0 ?_))
  refine wpAny_bind (J.type.here (wpAny_bind (J'.type.here ?_)))
  rw [show (Value.ref (He.ga X.K c) != Value.ref (He.ga X.K c)) = false from by simp]
  simp only [Bool.false_eq_true, if_false]
  refine wpAny_bind (wpAny_pure ?_)
  simp only [Bool.false_eq_true, if_false]
  refine wpAny_bind (wpAny_mono one (fun r s' z => ?_) fun _ _ e => e)
  obtain ⟨v, rfl, hq⟩ := z
  exact wpAny_pure hq
end
end Rd
namespace Rd
open PySem L2
/-! ### static methods -/
def sfn (K : PySem.W.Frag) (c m : Str) : Addr := He5.wf K (He.ga K c) "staticmethod" m
structure Sh (K : PySem.W.Frag) (mg : Str → Option Value) (c m q : Str) (st : Stmt) : Prop where
  ex : ∃ fd, FunD K m q (defArgs st) (defBody st) (defScope st) [] [] (sfn K c m) fd
  g : mg c = some (.ref (He.ga K c))
  at_ : PySem.W.findCls K (.ref (He.ga K c)) (.type "type") m = some (.get (.builtin "staticmethod.__get__") (.ref (He.ma K (He.ga K c) m)) .none (.ref (He.ga K c)))
  rc : ∃ rest, PySem.W.recIn K (He.ma K (He.ga K c) m) "staticmethod" = some (.ref (sfn K c m) :: rest)
  sga : PySem.W.specialIn K (.ref (He.ga K c)) "__getattribute__" = some (some (.builtin "type.__getattribute__"))
  ty : PySem.W.typeIn K (.ref (He.ga K c)) = some (.type "type")
  rd : PySem.W.readsIn K (He.ga K c) (.type "type") = true
def statB (K : PySem.W.Frag) (c m : Str) : Bool := He5.wrapB K (He.ga K c) "staticmethod" "staticmethod.__get__" m && (He.eqO (PySem.W.specialIn K (.ref (He.ga K c)) "__getattribute__") (some (some (.builtin "type.__getattribute__"))) &&
  (decide (PySem.W.typeIn K (.ref (He.ga K c)) = some (.type "type")) && PySem.W.readsIn K (He.ga K c) (.type "type")))
theorem sh_ok {K : PySem.W.Frag} {mg : Str → Option Value} {c m q : Str} {st : Stmt} (ex : ∃ fd, FunD K m q (defArgs st) (defBody st) (defScope st) [] [] (sfn K c m) fd) (g : mg c = some (.ref (He.ga K c))) (h : statB K c m = true) : Sh K mg c m q st := by
  obtain ⟨h1, h⟩ := He.ba h
  obtain ⟨h2, h⟩ := He.ba h
  obtain ⟨h3, h4⟩ := He.ba h
  obtain ⟨a, b⟩ := He5.wrapB_ok h1
  exact ⟨ex, g, a, b, He.eqO_ok h2, of_decide_eq_true h3, h4⟩
structure Fs (P : Program) (w : World) (K : PySem.W.Frag) (mg : Str → Option Value) (base : Heap) (CX : CXT) (k : Nat) (c m q : Str) (st : Stmt) (ps : List Str) (sp : Sp) : Prop where
  ex : ∃ fd, FnOk P w K mg base CX k (sfn K c m) fd ps sp ∧ Binds K fd ps [] ∧ PySem.W.keepIn K (.ref (sfn K c m)) = true
  sh : Sh K mg c m q st
section
variable {P : Program} {w : World} {K : PySem.W.Frag} {mg : Str → Option Value} {base : Heap} {CX : CXT} {k : Nat} {c m q : Str} {ps N : List Str} {sp : Sp} {st : Stmt}
theorem Sh.ok (F : Sh K mg c m q st) (S : FnScope N ps (defScope st))
    (hb : ∀ (kV doc pm : Value) (an : Option Addr) (cdv ct : Value) (us : List Value), us.length = ps.length → bindArgs (PySem.W.fnOf m q (defArgs st) (defBody st) (defScope st) .none kV doc pm an cdv ct) ⟨us, []⟩ = pure (ps.zip us))
    (len : ∀ vs H Q E, sp vs H Q E → vs.length = ps.length)
    (hbody : ∀ (cdv : Value) (A : Around) (outer : List Env) (s : Shared) (H : Hp) (vs : List V) (Q : VK) (E : XK), Room k (A.deeper (PyProof.Rows.envOfC q (defScope st) s.heap.objs.size (sfn K c m) cdv)) → sp vs H Q E →
      ∃ t, PSs (cxOf CX P w K mg base N q (defScope st) (sfn K c m) cdv A outer s H E) (defBody st) t ∧ t { nx := fun _ H' => Q .non H', rt := Q } (start N vs) H) : Fs P w K mg base CX (k + 1) c m q st ps sp := by
  obtain ⟨fd, F'⟩ := F.ex
  exact ⟨⟨fd, F'.ok S len hbody, F'.bindsN hb, F'.kp⟩, F⟩
end
section
variable {X : Cx} {CX : CXT} {k : Nat} {c m q : Str} {ps : List Str} {sp : Sp} {st : Stmt} {e : Expr} {es : List Expr} {ta : TA} {p1 p2 pos : Pos} {E : St → XK}
theorem pe_fs {pl : Sem Bool} (F : Fs X.prog X.w X.K X.mg X.base CX k c m q st ps sp) (hr : Room k X.A) (hg : Gl X c) (hx : ∀ σ, PassesAt CX X σ (E σ)) (ha : PA X (e :: es) ta) (hd : (c == ("__debug__" : Str)) = false := by decide)
    (hc : eval (.Call (.Attribute (.Name c p1) m p2) (e :: es) [] pos) X.env = (do
      let ov ← eval (.Name c p1) X.env
      standAt p2.atName
      let (f, first) ← holding [ov] (getMethod ov m pl)
      callWith pos f first (backTo pos (starEach (e :: es) X.env)) (backToKw pos (keywordEach [] X.env))) := by rfl)
    (he : starEach (e :: es) X.env = (false, eval e X.env) :: starEach es X.env := by rfl) (hpl : (backTo pos (starEach es X.env)).any (·.1) = false := by rfl) :
    PE X (.Call (.Attribute (.Name c p1) m p2) (e :: es) [] pos) (tCallS sp E ta) := by
  obtain ⟨⟨fd, f1, b1, kp⟩, S⟩ := F
  refine ⟨fun pins s σ H Q I h => ?_⟩
  refine PySem.W.methodCall_KW (ld_glob I hg S.g ?_ hd) hc
  obtain ⟨mm, fr⟩ := I.fr
  obtain ⟨rest, rc⟩ := S.rc
  refine PySem.W.method_of_cls fr I.ok.mod.kin S.sga (PySem.W.cls_sm fr I.ok.mod.kin S.ty S.rd S.at_ rc rfl ?_)
  refine PySem.W.callWith_K (first := []) (h₀ := X.base) I.ok.mod.kin kp (thn (ha.run pos pins _ σ H _ (I.tok _) h) fun us s1 ⟨vs, H1, I1, r1, q1⟩ => ⟨I1.kIn, ?_⟩) he hpl
  exact run_fnS (E := E) f1 hr b1 (hx σ) I1 r1 q1
end
/-! ### the hook, with defs at any address -/
abbrev AlZ : Type := AlY × He.AlD
structure SaysZ (fa : List He.Fa) (fn : List He.DefD) (ts : List He.Tab) (ex : PySem.W.Frag → Bool) (fs : List He5.DefA) (w : World) (K : PySem.W.Frag) : Prop where
  y : SaysY fa fn ts ex w K
  s : He5.SaysA [] fs K
def obsZ (n : Nat) (fa : List He.Fa) (fn : List He.DefD) (ts : List He.Tab) (ex : PySem.W.Frag → Bool) (fs : List He5.DefA) (g : Addr → Option Obj) : AlZ := (obsY n fa fn ts ex g, He5.obsA [] fs (frY n g))
def valZ (fn : List He.DefD) (ts : List He.Tab) (fs : List He5.DefA) (w : World) : AlZ := (valY fn ts w, He5.valA fs)
def hookZ (n : Nat) (fa : List He.Fa) (fn : List He.DefD) (ts : List He.Tab) (ex : PySem.W.Frag → Bool) (fs : List He5.DefA) : PySem.W.Hook where
  α := AlZ
  obs := fun s => obsZ n fa fn ts ex fs s.heap.get?
  val := fun w => valZ fn ts fs w
  says := fun w h => ∃ K : PySem.W.Frag, K.In h ∧ SaysZ fa fn ts ex fs w K
  of := fun _ _ e => ⟨_, He.frG_in, ⟨⟨congrArg (fun z : AlZ => z.1.1) e, congrArg (fun z : AlZ => z.1.2) e⟩, congrArg (fun z : AlZ => z.2) e⟩⟩
  keeps := fun _ _ _ ⟨K, hK, c⟩ k => ⟨K, PySem.W.Frag.In.keeps hK k, c⟩
theorem obsZ_eq {n : Nat} {fa : List He.Fa} {fn : List He.DefD} {ts : List He.Tab} {ex : PySem.W.Frag → Bool} {fs : List He5.DefA} {g : Addr → Option Obj} {s : Shared} (h : ∀ a, g a = s.heap.get? a) : obsZ n fa fn ts ex fs g = (hookZ n fa fn ts ex fs).obs s := by
  have e : g = s.heap.get? := funext h
  rw [e] <;> rfl
end Rd
/-! ### order of tuples, by the first pair that differs alone -/
namespace Rd
open PySem PySem.SeqAt
open PySem.AutoSeq1 (wpAny_loadPart')
open PySem.MeetsSeq PySem.MeetsSeq2 PySem.MeetsSeq3
open Ob (RcOp lexAt lexAt_succ lexAt_zero)
/-- the pairs ahead of j are equal -/
def Ahead (e : Nat → Bool) (j : Nat) : Prop := ∀ i, i < j → e i = true
theorem Ahead.more {e : Nat → Bool} {j : Nat} (h : Ahead e j) (q : e j = true) : Ahead e (j + 1) := fun i hi => by
  rcases Nat.lt_succ_iff_lt_or_eq.mp hi with z | z
  · exact h i z
  · rw [z]; exact q
theorem first_lt (l b : Addr) (xs ys : Array Value) (n m : Nat) (d1 d2 : Option Addr) (sl1 sl2 : Array (Option Value)) (e r : Nat → Bool) :
    Meets (Builtin.«tuple.__lt__» ⟨[.ref l, .ref b], []⟩)
      (fun A R s => s.heap.get? l = some { cls := .type "tuple", dict := d1, data := .seq xs n, slots := sl1 } ∧ s.heap.get? b = some { cls := .type "tuple", dict := d2, data := .seq ys m, slots := sl2 } ∧
        (∀ j (h1 : j < xs.size) (h2 : j < ys.size), EqAt A.in1 s xs[j] ys[j] (e j)) ∧
        (∀ j (h1 : j < xs.size) (h2 : j < ys.size), Ahead e j → e j = false → RcOp .Lt A.in1 s xs[j] ys[j] (r j)) ∧
        R (.ok (.ret (.bool (lexAt e r (decide (xs.size < ys.size)) 0 (min xs.size ys.size))))) s) :=
  .of_wp fun prog w A R s h => by
    obtain ⟨hp, g, dr, tk, os⟩ := s; obtain ⟨hl, hb, he, hr, h⟩ := h
    have sub := AutoSeq1.sub_tuple_tuple
    have len : (xs.toList.zip ys.toList).length = min xs.size ys.size := by simp
    wp_walk using wpAny_loadPart' hl, wpAny_loadPart' hb, wpAny_forIn_list _ (fun rest b s' => b.1 = none ∧ s' = ⟨hp, g, dr, tk, os⟩ ∧ ∃ i, Ahead e i ∧ rest = (xs.toList.zip ys.toList).drop i ∧
      R (.ok (.ret (.bool (lexAt e r (decide (xs.size < ys.size)) i (min xs.size ys.size - i))))) ⟨hp, g, dr, tk, os⟩) _
    case turn =>
      rintro ⟨y, x⟩ rest b s' ⟨hb', rfl, i, ah, hz, hR⟩
      have lt : i < (xs.toList.zip ys.toList).length := by
        rcases Nat.lt_or_ge i (xs.toList.zip ys.toList).length with q | q
        · exact q
        · rw [List.drop_of_length_le q] at hz; cases hz
      have hm : i < min xs.size ys.size := len ▸ lt
      have h1 : i < xs.size := by omega
      have h2 : i < ys.size := by omega
      rw [List.drop_eq_getElem_cons lt] at hz
      injection hz with hyx hrest
      have hy : y = xs[i] := by have := congrArg Prod.fst hyx; simpa using this
      have hx : x = ys[i] := by have := congrArg Prod.snd hyx; simpa using this
      subst hy hx
      rw [show min xs.size ys.size - i = (min xs.size ys.size - (i + 1)) + 1 by omega, lexAt_succ] at hR
      refine wpAny_bind (he i h1 h2 prog w _ _ ?_)
      cases hei : e i with
      | true =>
        rw [hei, if_pos rfl] at hR
        wp_walk
        exact ⟨rfl, rfl, i + 1, ah.more hei, hrest, hR⟩
      | false =>
        rw [hei, if_neg Bool.false_ne_true] at hR
        have hri := hr i h1 h2 ah hei prog w
        wp_walk using hri
        exact ⟨_, rfl, by simpa using hR⟩
    case fin =>
      rintro ⟨b1, b2⟩ s' ⟨hb', rfl, i, ah, hz, hR⟩
      simp only at hb'
      subst hb'
      have ge : min xs.size ys.size ≤ i := by
        rcases Nat.lt_or_ge i (xs.toList.zip ys.toList).length with q | q
        · rw [List.drop_eq_getElem_cons q] at hz; cases hz
        · exact len ▸ q
      rw [Nat.sub_eq_zero_of_le ge, lexAt_zero] at hR
      wp_walk
      exact ⟨_, rfl, by simpa [Builtin.Tuple.tupleCompareSizes] using hR⟩
    case h =>
      exact ⟨rfl, rfl, 0, (fun i hi => absurd hi (Nat.not_lt_zero _)), rfl, by simpa using h⟩
theorem tup_lt {A : Around} {s : Shared} {l b : Addr} {xs ys : Array Value} {e r : Nat → Bool} (hl : s.heap.IsTuple l xs) (hb : s.heap.IsTuple b ys) (hu : A.units < cLine)
    (he : ∀ j (h1 : j < xs.size) (h2 : j < ys.size), EqAt A.in1 s xs[j] ys[j] (e j))
    (hr : ∀ j (h1 : j < xs.size) (h2 : j < ys.size), Ahead e j → e j = false → RcOp .Lt A.in1 s xs[j] ys[j] (r j)) :
    RcOp .Lt A s (.ref l) (.ref b) (lexAt e r (decide (xs.size < ys.size)) 0 (min xs.size ys.size)) := fun prog w E Q h => by
  obtain ⟨⟨c1, d1, dt1, sl1⟩, ho, hc, n, hd⟩ := id hl
  obtain ⟨⟨c2, d2, dt2, sl2⟩, ho2, hc2, m, hd2⟩ := id hb
  simp only at hc hd hc2 hd2
  subst hc hd hc2 hd2
  exact richCompare_meets_room (op := .Lt) ⟨_, ho, rfl⟩ ⟨_, ho2, rfl⟩ F.slot_tuple_lt F.entry_tuple_lt (F.args_tuple_lt_2 _ _) (first_lt l b xs ys n m d1 d2 sl1 sl2 e r)
    ⟨ho, ho2, he, hr, ⟨(fun x => nomatch x), h⟩⟩ hu
theorem first_le (l b : Addr) (xs ys : Array Value) (n m : Nat) (d1 d2 : Option Addr) (sl1 sl2 : Array (Option Value)) (e r : Nat → Bool) :
    Meets (Builtin.«tuple.__le__» ⟨[.ref l, .ref b], []⟩)
      (fun A R s => s.heap.get? l = some { cls := .type "tuple", dict := d1, data := .seq xs n, slots := sl1 } ∧ s.heap.get? b = some { cls := .type "tuple", dict := d2, data := .seq ys m, slots := sl2 } ∧
        (∀ j (h1 : j < xs.size) (h2 : j < ys.size), EqAt A.in1 s xs[j] ys[j] (e j)) ∧
        (∀ j (h1 : j < xs.size) (h2 : j < ys.size), Ahead e j → e j = false → RcOp .LtE A.in1 s xs[j] ys[j] (r j)) ∧
        R (.ok (.ret (.bool (lexAt e r (decide (xs.size ≤ ys.size)) 0 (min xs.size ys.size))))) s) :=
  .of_wp fun prog w A R s h => by
    obtain ⟨hp, g, dr, tk, os⟩ := s; obtain ⟨hl, hb, he, hr, h⟩ := h
    have sub := AutoSeq1.sub_tuple_tuple
    have len : (xs.toList.zip ys.toList).length = min xs.size ys.size := by simp
    wp_walk using wpAny_loadPart' hl, wpAny_loadPart' hb, wpAny_forIn_list _ (fun rest b s' => b.1 = none ∧ s' = ⟨hp, g, dr, tk, os⟩ ∧ ∃ i, Ahead e i ∧ rest = (xs.toList.zip ys.toList).drop i ∧
      R (.ok (.ret (.bool (lexAt e r (decide (xs.size ≤ ys.size)) i (min xs.size ys.size - i))))) ⟨hp, g, dr, tk, os⟩) _
    case turn =>
      rintro ⟨y, x⟩ rest b s' ⟨hb', rfl, i, ah, hz, hR⟩
      have lt : i < (xs.toList.zip ys.toList).length := by
        rcases Nat.lt_or_ge i (xs.toList.zip ys.toList).length with q | q
        · exact q
        · rw [List.drop_of_length_le q] at hz; cases hz
      have hm : i < min xs.size ys.size := len ▸ lt
      have h1 : i < xs.size := by omega
      have h2 : i < ys.size := by omega
      rw [List.drop_eq_getElem_cons lt] at hz
      injection hz with hyx hrest
      have hy : y = xs[i] := by have := congrArg Prod.fst hyx; simpa using this
      have hx : x = ys[i] := by have := congrArg Prod.snd hyx; simpa using this
      subst hy hx
      rw [show min xs.size ys.size - i = (min xs.size ys.size - (i + 1)) + 1 by omega, lexAt_succ] at hR
      refine wpAny_bind (he i h1 h2 prog w _ _ ?_)
      cases hei : e i with
      | true =>
        rw [hei, if_pos rfl] at hR
        wp_walk
        exact ⟨rfl, rfl, i + 1, ah.more hei, hrest, hR⟩
      | false =>
        rw [hei, if_neg Bool.false_ne_true] at hR
        have hri := hr i h1 h2 ah hei prog w
        wp_walk using hri
        exact ⟨_, rfl, by simpa using hR⟩
    case fin =>
      rintro ⟨b1, b2⟩ s' ⟨hb', rfl, i, ah, hz, hR⟩
      simp only at hb'
      subst hb'
      have ge : min xs.size ys.size ≤ i := by
        rcases Nat.lt_or_ge i (xs.toList.zip ys.toList).length with q | q
        · rw [List.drop_eq_getElem_cons q] at hz; cases hz
        · exact len ▸ q
      rw [Nat.sub_eq_zero_of_le ge, lexAt_zero] at hR
      wp_walk
      exact ⟨_, rfl, by simpa [Builtin.Tuple.tupleCompareSizes] using hR⟩
    case h =>
      exact ⟨rfl, rfl, 0, (fun i hi => absurd hi (Nat.not_lt_zero _)), rfl, by simpa using h⟩
theorem tup_le {A : Around} {s : Shared} {l b : Addr} {xs ys : Array Value} {e r : Nat → Bool} (hl : s.heap.IsTuple l xs) (hb : s.heap.IsTuple b ys) (hu : A.units < cLine)
    (he : ∀ j (h1 : j < xs.size) (h2 : j < ys.size), EqAt A.in1 s xs[j] ys[j] (e j))
    (hr : ∀ j (h1 : j < xs.size) (h2 : j < ys.size), Ahead e j → e j = false → RcOp .LtE A.in1 s xs[j] ys[j] (r j)) :
    RcOp .LtE A s (.ref l) (.ref b) (lexAt e r (decide (xs.size ≤ ys.size)) 0 (min xs.size ys.size)) := fun prog w E Q h => by
  obtain ⟨⟨c1, d1, dt1, sl1⟩, ho, hc, n, hd⟩ := id hl
  obtain ⟨⟨c2, d2, dt2, sl2⟩, ho2, hc2, m, hd2⟩ := id hb
  simp only at hc hd hc2 hd2
  subst hc hd hc2 hd2
  exact richCompare_meets_room (op := .LtE) ⟨_, ho, rfl⟩ ⟨_, ho2, rfl⟩ F.slot_tuple_le F.entry_tuple_le (F.args_tuple_le_2 _ _) (first_le l b xs ys n m d1 d2 sl1 sl2 e r)
    ⟨ho, ho2, he, hr, ⟨(fun x => nomatch x), h⟩⟩ hu
theorem first_gt (l b : Addr) (xs ys : Array Value) (n m : Nat) (d1 d2 : Option Addr) (sl1 sl2 : Array (Option Value)) (e r : Nat → Bool) :
    Meets (Builtin.«tuple.__gt__» ⟨[.ref l, .ref b], []⟩)
      (fun A R s => s.heap.get? l = some { cls := .type "tuple", dict := d1, data := .seq xs n, slots := sl1 } ∧ s.heap.get? b = some { cls := .type "tuple", dict := d2, data := .seq ys m, slots := sl2 } ∧
        (∀ j (h1 : j < xs.size) (h2 : j < ys.size), EqAt A.in1 s xs[j] ys[j] (e j)) ∧
        (∀ j (h1 : j < xs.size) (h2 : j < ys.size), Ahead e j → e j = false → RcOp .Gt A.in1 s xs[j] ys[j] (r j)) ∧
        R (.ok (.ret (.bool (lexAt e r (decide (xs.size > ys.size)) 0 (min xs.size ys.size))))) s) :=
  .of_wp fun prog w A R s h => by
    obtain ⟨hp, g, dr, tk, os⟩ := s; obtain ⟨hl, hb, he, hr, h⟩ := h
    have sub := AutoSeq1.sub_tuple_tuple
    have len : (xs.toList.zip ys.toList).length = min xs.size ys.size := by simp
    wp_walk using wpAny_loadPart' hl, wpAny_loadPart' hb, wpAny_forIn_list _ (fun rest b s' => b.1 = none ∧ s' = ⟨hp, g, dr, tk, os⟩ ∧ ∃ i, Ahead e i ∧ rest = (xs.toList.zip ys.toList).drop i ∧
      R (.ok (.ret (.bool (lexAt e r (decide (xs.size > ys.size)) i (min xs.size ys.size - i))))) ⟨hp, g, dr, tk, os⟩) _
    case turn =>
      rintro ⟨y, x⟩ rest b s' ⟨hb', rfl, i, ah, hz, hR⟩
      have lt : i < (xs.toList.zip ys.toList).length := by
        rcases Nat.lt_or_ge i (xs.toList.zip ys.toList).length with q | q
        · exact q
        · rw [List.drop_of_length_le q] at hz; cases hz
      have hm : i < min xs.size ys.size := len ▸ lt
      have h1 : i < xs.size := by omega
      have h2 : i < ys.size := by omega
      rw [List.drop_eq_getElem_cons lt] at hz
      injection hz with hyx hrest
      have hy : y = xs[i] := by have := congrArg Prod.fst hyx; simpa using this
      have hx : x = ys[i] := by have := congrArg Prod.snd hyx; simpa using this
      subst hy hx
      rw [show min xs.size ys.size - i = (min xs.size ys.size - (i + 1)) + 1 by omega, lexAt_succ] at hR
      refine wpAny_bind (he i h1 h2 prog w _ _ ?_)
      cases hei : e i with
      | true =>
        rw [hei, if_pos rfl] at hR
        wp_walk
        exact ⟨rfl, rfl, i + 1, ah.more hei, hrest, hR⟩
      | false =>
        rw [hei, if_neg Bool.false_ne_true] at hR
        have hri := hr i h1 h2 ah hei prog w
        wp_walk using hri
        exact ⟨_, rfl, by simpa using hR⟩
    case fin =>
      rintro ⟨b1, b2⟩ s' ⟨hb', rfl, i, ah, hz, hR⟩
      simp only at hb'
      subst hb'
      have ge : min xs.size ys.size ≤ i := by
        rcases Nat.lt_or_ge i (xs.toList.zip ys.toList).length with q | q
        · rw [List.drop_eq_getElem_cons q] at hz; cases hz
        · exact len ▸ q
      rw [Nat.sub_eq_zero_of_le ge, lexAt_zero] at hR
      wp_walk
      exact ⟨_, rfl, by simpa [Builtin.Tuple.tupleCompareSizes] using hR⟩
    case h =>
      exact ⟨rfl, rfl, 0, (fun i hi => absurd hi (Nat.not_lt_zero _)), rfl, by simpa using h⟩
theorem tup_gt {A : Around} {s : Shared} {l b : Addr} {xs ys : Array Value} {e r : Nat → Bool} (hl : s.heap.IsTuple l xs) (hb : s.heap.IsTuple b ys) (hu : A.units < cLine)
    (he : ∀ j (h1 : j < xs.size) (h2 : j < ys.size), EqAt A.in1 s xs[j] ys[j] (e j))
    (hr : ∀ j (h1 : j < xs.size) (h2 : j < ys.size), Ahead e j → e j = false → RcOp .Gt A.in1 s xs[j] ys[j] (r j)) :
    RcOp .Gt A s (.ref l) (.ref b) (lexAt e r (decide (xs.size > ys.size)) 0 (min xs.size ys.size)) := fun prog w E Q h => by
  obtain ⟨⟨c1, d1, dt1, sl1⟩, ho, hc, n, hd⟩ := id hl
  obtain ⟨⟨c2, d2, dt2, sl2⟩, ho2, hc2, m, hd2⟩ := id hb
  simp only at hc hd hc2 hd2
  subst hc hd hc2 hd2
  exact richCompare_meets_room (op := .Gt) ⟨_, ho, rfl⟩ ⟨_, ho2, rfl⟩ F.slot_tuple_gt F.entry_tuple_gt (F.args_tuple_gt_2 _ _) (first_gt l b xs ys n m d1 d2 sl1 sl2 e r)
    ⟨ho, ho2, he, hr, ⟨(fun x => nomatch x), h⟩⟩ hu
theorem first_ge (l b : Addr) (xs ys : Array Value) (n m : Nat) (d1 d2 : Option Addr) (sl1 sl2 : Array (Option Value)) (e r : Nat → Bool) :
    Meets (Builtin.«tuple.__ge__» ⟨[.ref l, .ref b], []⟩)
      (fun A R s => s.heap.get? l = some { cls := .type "tuple", dict := d1, data := .seq xs n, slots := sl1 } ∧ s.heap.get? b = some { cls := .type "tuple", dict := d2, data := .seq ys m, slots := sl2 } ∧
        (∀ j (h1 : j < xs.size) (h2 : j < ys.size), EqAt A.in1 s xs[j] ys[j] (e j)) ∧
        (∀ j (h1 : j < xs.size) (h2 : j < ys.size), Ahead e j → e j = false → RcOp .GtE A.in1 s xs[j] ys[j] (r j)) ∧
        R (.ok (.ret (.bool (lexAt e r (decide (xs.size ≥ ys.size)) 0 (min xs.size ys.size))))) s) :=
  .of_wp fun prog w A R s h => by
    obtain ⟨hp, g, dr, tk, os⟩ := s; obtain ⟨hl, hb, he, hr, h⟩ := h
    have sub := AutoSeq1.sub_tuple_tuple
    have len : (xs.toList.zip ys.toList).length = min xs.size ys.size := by simp
    wp_walk using wpAny_loadPart' hl, wpAny_loadPart' hb, wpAny_forIn_list _ (fun rest b s' => b.1 = none ∧ s' = ⟨hp, g, dr, tk, os⟩ ∧ ∃ i, Ahead e i ∧ rest = (xs.toList.zip ys.toList).drop i ∧
      R (.ok (.ret (.bool (lexAt e r (decide (xs.size ≥ ys.size)) i (min xs.size ys.size - i))))) ⟨hp, g, dr, tk, os⟩) _
    case turn =>
      rintro ⟨y, x⟩ rest b s' ⟨hb', rfl, i, ah, hz, hR⟩
      have lt : i < (xs.toList.zip ys.toList).length := by
        rcases Nat.lt_or_ge i (xs.toList.zip ys.toList).length with q | q
        · exact q
        · rw [List.drop_of_length_le q] at hz; cases hz
      have hm : i < min xs.size ys.size := len ▸ lt
      have h1 : i < xs.size := by omega
      have h2 : i < ys.size := by omega
      rw [List.drop_eq_getElem_cons lt] at hz
      injection hz with hyx hrest
      have hy : y = xs[i] := by have := congrArg Prod.fst hyx; simpa using this
      have hx : x = ys[i] := by have := congrArg Prod.snd hyx; simpa using this
      subst hy hx
      rw [show min xs.size ys.size - i = (min xs.size ys.size - (i + 1)) + 1 by omega, lexAt_succ] at hR
      refine wpAny_bind (he i h1 h2 prog w _ _ ?_)
      cases hei : e i with
      | true =>
        rw [hei, if_pos rfl] at hR
        wp_walk
        exact ⟨rfl, rfl, i + 1, ah.more hei, hrest, hR⟩
      | false =>
        rw [hei, if_neg Bool.false_ne_true] at hR
        have hri := hr i h1 h2 ah hei prog w
        wp_walk using hri
        exact ⟨_, rfl, by simpa using hR⟩
    case fin =>
      rintro ⟨b1, b2⟩ s' ⟨hb', rfl, i, ah, hz, hR⟩
      simp only at hb'
      subst hb'
      have ge : min xs.size ys.size ≤ i := by
        rcases Nat.lt_or_ge i (xs.toList.zip ys.toList).length with q | q
        · rw [List.drop_eq_getElem_cons q] at hz; cases hz
        · exact len ▸ q
      rw [Nat.sub_eq_zero_of_le ge, lexAt_zero] at hR
      wp_walk
      exact ⟨_, rfl, by simpa [Builtin.Tuple.tupleCompareSizes] using hR⟩
    case h =>
      exact ⟨rfl, rfl, 0, (fun i hi => absurd hi (Nat.not_lt_zero _)), rfl, by simpa using h⟩
theorem tup_ge {A : Around} {s : Shared} {l b : Addr} {xs ys : Array Value} {e r : Nat → Bool} (hl : s.heap.IsTuple l xs) (hb : s.heap.IsTuple b ys) (hu : A.units < cLine)
    (he : ∀ j (h1 : j < xs.size) (h2 : j < ys.size), EqAt A.in1 s xs[j] ys[j] (e j))
    (hr : ∀ j (h1 : j < xs.size) (h2 : j < ys.size), Ahead e j → e j = false → RcOp .GtE A.in1 s xs[j] ys[j] (r j)) :
    RcOp .GtE A s (.ref l) (.ref b) (lexAt e r (decide (xs.size ≥ ys.size)) 0 (min xs.size ys.size)) := fun prog w E Q h => by
  obtain ⟨⟨c1, d1, dt1, sl1⟩, ho, hc, n, hd⟩ := id hl
  obtain ⟨⟨c2, d2, dt2, sl2⟩, ho2, hc2, m, hd2⟩ := id hb
  simp only at hc hd hc2 hd2
  subst hc hd hc2 hd2
  exact richCompare_meets_room (op := .GtE) ⟨_, ho, rfl⟩ ⟨_, ho2, rfl⟩ F.slot_tuple_ge F.entry_tuple_ge (F.args_tuple_ge_2 _ _) (first_ge l b xs ys n m d1 d2 sl1 sl2 e r)
    ⟨ho, ho2, he, hr, ⟨(fun x => nomatch x), h⟩⟩ hu
end Rd
namespace Rd
open PySem PySem.Spec PyProof.Rows L2
/-! ### sets of texts -/
def kt (e : Int × Value) : Str := match e.2 with | .str x _ => x | _ => Str.empty
/-- a row of such a set -/
def GT (w : World) (e : Int × Value) : Prop := ∃ x t, e.2 = Value.str x t ∧ e.1 = hashStr w x
def addS (l : List Str) (x : Str) : List Str := if x ∈ l then l else x :: l
/-- what a table must be so that it can be walked -/
structure Tb (w : World) (n : Nat) (t : SetTable) : Prop where
  sm : n < scanBound
  ft : t.fits n = true
  ri : Ris t.place.toList
  ld : w.params.followText "set-order" = true ∨ t.led = true
/-- a set of the texts l (in any order) at a -/
structure SetS (w : World) (h : Heap) (a : Addr) (l : List Str) : Prop where
  nd : l.Nodup
  ex : ∃ o es ep t, h.get? a = some o ∧ o.ExactSet ∧ o.data = .set es ep t ∧ (∀ e ∈ es.toList, GT w e) ∧ (es.toList.map kt).Perm l ∧ Tb w es.size t
theorem SetS.at {w : World} {h h' : Heap} {a : Addr} {l : List Str} (R : SetS w h a l) (k : ∀ o, h.get? a = some o → h'.get? a = some o) : SetS w h' a l := by
  obtain ⟨nd, o, es, ep, t, ho, r⟩ := R
  exact ⟨nd, o, es, ep, t, k o ho, r⟩
section
variable {P : Program} {w : World}
theorem gt_is {e : Int × Value} (g : GT w e) (x : Str) : (PySem.strKind P w).is x e.2 = true ↔ kt e = x := by
  obtain ⟨y, t, h1, _⟩ := g
  unfold kt
  rw [h1]
  show ((y == x) = true) ↔ y = x
  exact beq_iff_eq
theorem gt_elems {l : List (Int × Value)} (g : ∀ e ∈ l, GT w e) : ElemsOf (PySem.strKind P w) l := fun e he => by
  obtain ⟨x, t, h1, h2⟩ := g e he
  exact ⟨⟨x, by rw [h1]; exact strKind_is P w x t, h2⟩, by rw [h1] <;> rfl⟩
theorem gt_mem {l : List (Int × Value)} (g : ∀ e ∈ l, GT w e) (x : Str) : x ∈ l.map kt ↔ ∃ e ∈ l, (PySem.strKind P w).is x e.2 = true := by
  constructor
  · intro h
    obtain ⟨e, he, q⟩ := List.mem_map.mp h
    exact ⟨e, he, (gt_is (g e he) x).2 q⟩
  · rintro ⟨e, he, q⟩
    exact List.mem_map.mpr ⟨e, he, (gt_is (g e he) x).1 q⟩
theorem SetS.setOf {h : Heap} {a : Addr} {l : List Str} (R : SetS w h a l) : h.SetOf (PySem.strKind P w) a (fun x => decide (x ∈ l)) l.length := by
  obtain ⟨nd, o, es, ep, t, ho, hx, hd, g, pm, T⟩ := R
  refine ⟨o, es, ep, t, ho, hx, hd, gt_elems g, fun x => ?_, T.sm, T.ft, ?_⟩
  · rw [decide_eq_true_eq, ← pm.mem_iff]
    exact gt_mem g x
  · rw [← pm.length_eq, List.length_map, Array.length_toList]
theorem setS_fresh {h : Heap} {a : Addr} (ho : h.get? a = some { cls := .type "set", dict := none, data := .set #[] 0 (.fresh 0 0 (!w.params.followText "set-order")) }) : SetS w h a [] := by
  refine ⟨List.nodup_nil, _, #[], 0, _, ho, ⟨rfl, rfl, rfl⟩, rfl, (fun e he => by simp at he), List.Perm.refl _, (by decide), (by rfl), List.Pairwise.nil, ?_⟩
  show _ ∨ (!w.params.followText "set-order") = true
  cases w.params.followText "set-order" with
  | false => exact .inr rfl
  | true => exact .inl rfl
end
section
variable {P : Program} {w : World} {A : Around} {E : Value → Shared → Prop} {s : Shared} {a : Addr} {l : List Str}
theorem setS_tail {g : Bool → Sem Unit} (hg : ∀ (b : Bool) (s₁ : Shared) (Q' : Unit → Shared → Prop), Q' () s₁ → wpAny (model P w) A (g b) Q' E s₁)
    {o : Obj} {es e1 : Array (Int × Value)} {ep : Nat} {t t2 : SetTable} {m : List Str} (ho : s.heap.get? a = some o) (hx : o.ExactSet) (hd : o.data = .set es ep t)
    (g1 : ∀ e ∈ e1.toList, GT w e) (p1 : (e1.toList.map kt).Perm m) (nm : m.Nodup) (T : Tb w e1.size t2) {old : Bool} {R : Option Bool → Shared → Prop} (hR : ∀ h', Heap.SameBut a s.heap h' → SetS w h' a m → R (some true) { s with heap := h' }) :
    wpAny (model P w) A (do
        storeSet a e1 t2
        if (!old && t2.tooFull) = true then do
            g (relayAll t2 e1 (SetTable.grown e1.size)).2.2
            storeSet a (relayAll t2 e1 (SetTable.grown e1.size)).1 (relayAll t2 e1 (SetTable.grown e1.size)).2.1
            pure (some true)
          else pure (some true)) R E s := by
  refine wpAny_bind (wpAny_storeSet_of ho hd ?_ (fits_of_scanBound T.sm))
  have o1 := store_at (es' := e1) (t' := t2) ho hd
  have b1 := Heap.SameBut.update s.heap a (Obj.putSet e1 t2)
  split
  · have pm := relayAll_perm t2 e1 (SetTable.grown e1.size)
    have f3 := relayAll_fits t2 e1 (SetTable.grown e1.size)
    have r3 := relayAll_ris t2 e1 (SetTable.grown e1.size)
    have l3 := relayAll_led t2 e1 (SetTable.grown e1.size)
    generalize relayAll t2 e1 (SetTable.grown e1.size) = Z at pm f3 r3 l3 ⊢
    obtain ⟨e2, t3, gave⟩ := Z
    dsimp only at pm f3 r3 l3 ⊢
    have z2 : e2.size = e1.size := by rw [← Array.length_toList, pm.length_eq, Array.length_toList]
    have T3 : Tb w e2.size t3 := ⟨by rw [z2]; exact T.sm, f3, r3, T.ld.imp id fun z => by rw [l3]; exact z⟩
    refine wpAny_bind (hg _ _ _ ?_)
    refine wpAny_bind (wpAny_storeSet_of o1 rfl ?_ (fits_of_scanBound T3.sm))
    exact wpAny_pure (hR _ (b1.trans (Heap.SameBut.update _ a _)) ⟨nm, _, e2, _, t3, store_at (es' := e2) (t' := t3) o1 rfl, hx, rfl, fun e he => g1 e (pm.mem_iff.mp he), (pm.map kt).trans p1, T3⟩)
  · exact wpAny_pure (hR _ b1 ⟨nm, _, e1, _, t2, o1, hx, rfl, g1, p1, T⟩)
theorem setS_addH {x : Str} {tk : Tok} {Q : Bool → Shared → Prop} (R : SetS w s.heap a l) (room : l.length + 1 < scanBound)
    (hQ : ∀ b h', Heap.SameBut a s.heap h' → SetS w h' a (addS l x) → Q b { s with heap := h' }) : wpAny (model P w) A (setAddHashed a (.str x tk) ((PySem.strKind P w).hash x)) Q E s := by
  obtain ⟨nd, o, es, ep, t, ho, hx, hd, g, pm, T⟩ := R
  have sc : (Value.str x tk).scannable = true := rfl
  have el : ElemsOf (PySem.strKind P w) es.toList := gt_elems g
  have zl : es.size = l.length := by rw [← pm.length_eq, List.length_map, Array.length_toList]
  unfold setAddHashed setAddHashedIn
  refine wpAny_holding (wpAny_bind (wpAny_setState_of ho hd T.ft ?_))
  dsimp only
  rw [byScan_of sc T.sm el]
  simp only [↓reduceIte]
  unfold setAddByScan
  refine wpAny_bind ?_
  refine wpAny_bind (wpAny_rule ?_)
  refine wpAny_bind (wpAny_setScan_of (strKind_is P w x tk) ho hd T.ft el ?_)
  cases fi : List.findIdx? (fun e => (PySem.strKind P w).is x e.2) es.toList with
  | some j =>
    dsimp only
    obtain ⟨hj, pj, _⟩ := List.findIdx?_eq_some_iff_getElem.mp fi
    have inl : x ∈ l := pm.mem_iff.mp ((gt_mem (P := P) g x).2 ⟨es.toList[j], List.getElem_mem hj, pj⟩)
    have e : addS l x = l := if_pos inl
    exact wpAny_pure (wpAny_pure (hQ _ s.heap (Heap.SameBut.refl a s.heap) (by rw [e]; exact ⟨nd, o, es, ep, t, ho, hx, hd, g, pm, T⟩)))
  | none =>
    dsimp only
    have nin : x ∉ l := fun z => by
      obtain ⟨e, he, q⟩ := (gt_mem (P := P) g x).1 (pm.mem_iff.mpr z)
      have c := List.findIdx?_eq_none_iff.mp fi e he
      rw [q] at c
      cases c
    have ea : addS l x = x :: l := if_neg nin
    rw [ea] at hQ
    have nm : (x :: l).Nodup := List.nodup_cons.mpr ⟨nin, nd⟩
    have gw : ∀ (b : Bool) {s₁ : Shared} {Q' : Unit → Shared → Prop}, Q' () s₁ → wpAny (model P w) A (match b with | true => rule "set.scan.the-table-gave-way" | false => pure ()) Q' E s₁ :=
      fun b s₁ Q' q => by cases b <;> first | exact wpAny_pure q | exact wpAny_rule q
    have pq := layNew_perm t es ((PySem.strKind P w).hash x) (.str x tk)
    have f1 := layNew_fits t es ((PySem.strKind P w).hash x) (.str x tk)
    have r1 := layNew_ris t es ((PySem.strKind P w).hash x) (.str x tk) T.ri
    have l1 := layNew_led t es ((PySem.strKind P w).hash x) (.str x tk)
    generalize layNew t es ((PySem.strKind P w).hash x) (.str x tk) = Z at pq f1 r1 l1 ⊢
    obtain ⟨e1, t1, old, gave⟩ := Z
    dsimp only at pq f1 r1 l1 ⊢
    rw [Array.toList_push] at pq
    have pc : e1.toList.Perm (((PySem.strKind P w).hash x, Value.str x tk) :: es.toList) := pq.trans (List.perm_append_singleton _ _)
    have p1 : (e1.toList.map kt).Perm (x :: l) := (pc.map kt).trans (pm.cons x)
    have g1 : ∀ e ∈ e1.toList, GT w e := fun e he => by
      rcases List.mem_cons.mp (pc.mem_iff.mp he) with z | z
      · rw [z]; exact ⟨x, tk, rfl, rfl⟩
      · exact g e z
    have z1 : e1.size = l.length + 1 := by rw [← Array.length_toList, pc.length_eq, List.length_cons, Array.length_toList, zl]
    have s1 : e1.size < scanBound := by rw [z1]; exact room
    have ld : w.params.followText "set-order" = true ∨ t1.led = true := T.ld.imp id fun z => by rw [l1]; exact z
    refine wpAny_bind (gw _ ?_)
    split
    · refine wpAny_bind ?_
      rw [hashByValue_scannable 8 sc]
      refine wpAny_pure ?_
      refine setS_tail ?_ ho hx hd g1 p1 nm ⟨s1, ?_, ?_, ?_⟩ ?_
      · intro b s₁ Q' q; cases b <;> first | exact wpAny_pure q | exact wpAny_rule q
      · first | (split <;> first | exact f1 | exact SetTable.fits_plain_off f1) | exact f1
      · first | (split <;> exact r1) | exact r1
      · first | (split <;> exact ld) | exact ld
      · intro h' sb r; dsimp only; exact wpAny_pure (hQ _ h' sb r)
    · refine wpAny_bind (wpAny_pure ?_)
      simp only [↓reduceIte]
      refine setS_tail ?_ ho hx hd g1 p1 nm ⟨s1, f1, r1, ld⟩ ?_
      · intro b s₁ Q' q; cases b <;> first | exact wpAny_pure q | exact wpAny_rule q
      · intro h' sb r; dsimp only; exact wpAny_pure (hQ _ h' sb r)
/-- found.add(x) -/
theorem setS_add {x : Str} {tk : Tok} {Q : Value → Shared → Prop} (R : SetS w s.heap a l) (room : l.length + 1 < scanBound)
    (hQ : ∀ h', Heap.SameBut a s.heap h' → SetS w h' a (addS l x) → Q .none { s with heap := h', toks := s.toks + 1 }) : wpAny (model P w) A (call (.builtin "set.add") [.ref a, .str x tk]) Q E s := by
  refine wpAny_call_entry F.slot_set_add (R.setOf (P := P)).typeIs F.entry_set_add ?_ (F.args_set_add_2 _ _)
  unfold Builtin.«set.add» Builtin.Frozenset.oneOther
  simp only [List.isEmpty_nil, bind_assoc]
  unfold Builtin.Frozenset.addrOf setAdd
  refine wpAny_bind (wpAny_pure ?_)
  try dsimp only
  refine wpAny_bind (wpAny_pure ?_)
  try dsimp only
  refine wpAny_bind (wpAny_holding (wpAny_bind ((PySem.strKind P w).pyHash (strKind_is P w x tk) ?_)))
  refine setS_addH (s := { s with toks := s.toks + 1 }) R room fun b h' sb r => ?_
  show wpAny _ _ (ret Value.none) _ _ _
  exact wpAny_pure ⟨_, rfl, hQ h' sb r⟩
end
/-! ### as tracked things -/
def SetSO (w : World) (a : Addr) (l : List Str) : HO := .ext fun h => SetS w h a l
theorem setSO_new {w : World} {P : Program} {H : Hp} {h : Heap} {a : Addr} {l : List Str} (R : SetS w h a l) : ObjOk P w H h a (SetSO w a l) := by
  have ⟨_, o, _, _, _, ho, _⟩ := R
  exact ⟨R, ⟨o, ho⟩, fun h1 h2 p k => SetS.at p k⟩
section
variable {X : Cx}
theorem setSO_get {pins : List (Addr × Obj)} {σ : L2.St} {H : Hp} {s : Shared} {a : Addr} {l : List Str} (I : Inv X pins σ H s) (ha : H a = some (SetSO X.w a l)) : SetS X.w s.heap a l := (I.hok a _ ha).1
theorem addS_ok {pins : List (Addr × Obj)} {σ : L2.St} {H : Hp} {s : Shared} {E : Value → Shared → Prop} {D : Addr} {l : List Str} {x : Str} {tk : Tok} {Q : Value → Shared → Prop} (I : Inv X pins σ H s) (hD : H D = some (SetSO X.w D l)) (room : l.length + 1 < scanBound)
    (h : ∀ s', Inv X pins σ (upd H D (SetSO X.w D (addS l x))) s' → Q .none s') : wpAny (model X.prog X.w) X.A (call (.builtin "set.add") [.ref D, .str x tk]) Q E s := by
  refine setS_add (setSO_get I hD) room fun h' sb new => ?_
  have he : ∃ u, h'.get? D = some u := by
    have ⟨_, o, _, _, _, ho, _⟩ := new
    exact ⟨o, ho⟩
  exact h _ (I.write (e := D) (t' := s.toks + 1) (by rw [hD]; trivial) (.inl rfl) (fun b u hb hu => (sb.2 b hb).trans hu) he (setSO_new new))
end
end Rd
namespace Rd
open PySem PySem.Spec PyProof.Rows L2
/-! ### {text for ..} -/
def tScS (w : World) (wi : TI) (g : TG) (tt : TT) (te : TE) (vs : List Nat) : TE := fun σ H Q => wi σ H fun J H1 => ∀ D, H1 D = none → ∃ W : Nat → Nat → Hp → Prop, (∃ m, W 0 m (upd H1 D (SetSO w D []))) ∧ ∀ i m H, W i m H →
  (J.stop i H ∧ Q (.ref D) H) ∨ (J.go i H ∧ ∃ Nx : Hp → Prop, (∀ H', Nx H' → ∃ m', m' < m ∧ W (i + 1) m' H') ∧ ∀ x H', J.yld i H x H' → g x (wipe σ vs) H' fun σ2 H2 => wipe σ2 vs = wipe σ vs ∧ tt σ2 H2 fun b H3 =>
    if b = true then te σ2 H3 fun y H4 => ∃ (c : Str) (l : List Str), y = .str c ∧ H4 D = some (SetSO w D l) ∧ l.length + 1 < scanBound ∧ Nx (upd H4 D (SetSO w D (addS l c))) else Nx H3)
section
variable {X : Cx}
theorem pe_scS {elt tg iter : Expr} {ifs : List Expr} {scope : Scope} {own : List (PySem.Str × Nat)} {pos : Pos} {wi : TI} {g : TG} {tt : TT} {te : TE} (hc : X.calm = true) (hN : X.N.Nodup) (hi : PI X tg iter wi) (ok : BlkOk X.N X.env.scope scope own)
    (hg : ∀ (s : Shared) (H : Hp) (C : Addr) (cl : List (PySem.Str × Addr)) (fp : List Addr), PG (X.blk s H scope (compEnvC scope cl C X.env) fp) tg g) (ht : ∀ (s : Shared) (H : Hp) (C : Addr) (cl : List (PySem.Str × Addr)) (fp : List Addr), PTs (X.blk s H scope (compEnvC scope cl C X.env) fp) ifs tt)
    (he : ∀ (s : Shared) (H : Hp) (C : Addr) (cl : List (PySem.Str × Addr)) (fp : List Addr), PE (X.blk s H scope (compEnvC scope cl C X.env) fp) elt te) (hs : ∀ x, foldedSetIterable iter X.env x = pure x := by intro _; rfl) :
    PE X (.SetComp elt [⟨tg, iter, ifs, 0⟩] scope pos) (tScS X.w wi g tt te (own.map (·.2))) := by
  refine ⟨fun pins s σ H Q I h => ?_⟩
  rw [PpSet.eval_SetComp]
  have hfree : ∀ y ∈ scope.names, y.2 = .free → ∃ c, X.env.cells.lookup y.1 = some c := fun y hy e => (ok.free y hy e).elim (fun k => I.ok.has _ (.inl k)) fun k => I.ok.has _ (.inr k)
  refine wpAny_comprehension_free (use := none) rfl hs (closure_ok hfree) ok.kind (fun y hy e => by rw [ok.uniq y hy, e]) (thn (hi.run pins s σ H _ I h) fun xv s1 hx => thn hx fun itv s2 h2 => ?_)
  obtain ⟨it, fp, tn, J, H2, e, I2, T, st2, f2, q⟩ := h2
  subst e
  refine PpSet.newSet_ok (newEnv_comp ?_)
  generalize hD : s2.heap.objs.size = D
  have Dn : H2 D = none := I2.hok.fresh (Nat.le_of_eq hD)
  obtain ⟨W, ⟨m0, w0⟩, turn⟩ := q D Dn
  generalize hO : ({ cls := .type "set", dict := none, data := .set #[] 0 (.fresh 0 0 (!X.w.params.followText "set-order")) } : Obj) = ob
  generalize e3 : ({ s2 with heap := s2.heap.push ob } : Shared) = s3
  have h3 : s3.heap = s2.heap.push ob := by rw [← e3]
  have I3 : Inv X pins σ (upd H2 D (SetSO X.w D [])) s3 := by
    rw [← e3]
    refine I2.laid (t' := s2.toks) (fun b o e => Heap.get?_push_of_some _ e) (Nat.le_of_eq hD) (setSO_new (setS_fresh ?_))
    rw [← hD, ← hO]
    exact Heap.get?_push_size _ rfl
  have f3 : ∀ b ∈ fp, FpOk X pins (upd H2 D (SetSO X.w D [])) b ∧ b < s3.heap.objs.size := fun b hb => by
    obtain ⟨o, e, _⟩ := T.obj _ _ st2 b hb
    have lt := Heap.lt_size e
    refine ⟨⟨?_, (f2 b hb).2⟩, by rw [h3, Heap.size_push]; exact Nat.lt_succ_of_lt lt⟩
    rw [upd_ne (by rw [← hD]; exact Nat.ne_of_lt lt)]
    exact (f2 b hb).1
  have st3 : tn 0 s3.heap := T.keep _ _ _ st2 fun b _ o e => by rw [h3]; exact Heap.get?_push_of_some _ e
  have I4 := block_start I3 ok hN f3
  have pg := hg s3 (upd H2 D (SetSO X.w D [])) s3.heap.objs.size (cellsFrom (s3.heap.objs.size + 1) scope.names (cloFrom X.env.cells scope.names [])) fp
  have pt := ht s3 (upd H2 D (SetSO X.w D [])) s3.heap.objs.size (cellsFrom (s3.heap.objs.size + 1) scope.names (cloFrom X.env.cells scope.names [])) fp
  have pe := he s3 (upd H2 D (SetSO X.w D [])) s3.heap.objs.size (cellsFrom (s3.heap.objs.size + 1) scope.names (cloFrom X.env.cells scope.names [])) fp
  show codeAny _ _ (.compStart (.SetComp elt [⟨tg, iter, ifs, 0⟩] scope pos) 0 (.ref it) (.ref D) (compEnvC scope (cellsFrom (s3.heap.objs.size + 1) scope.names (cloFrom X.env.cells scope.names [])) s3.heap.objs.size X.env)) _ { s3 with heap := pushCells (s3.heap.push { cls := .type "dict", data := .dict #[] }) scope.names }
  have nfp : ∀ b ∈ fp, (upd H2 D (SetSO X.w D [])) b = none := fun b hb => (f3 b hb).1.1
  generalize hce : compEnvC scope (cellsFrom (s3.heap.objs.size + 1) scope.names (cloFrom X.env.cells scope.names [])) s3.heap.objs.size X.env = ce at I4 pg pt pe ⊢
  have cL : ce.locals = s3.heap.objs.size := by subst hce; rfl
  generalize hH3 : upd H2 D (SetSO X.w D []) = H3 at I3 I4 pg pt pe w0 nfp f3
  generalize hs4 : ({ s3 with heap := pushCells (s3.heap.push { cls := .type "dict", data := .dict #[] }) scope.names } : Shared) = s4 at I4 ⊢
  have st4 : tn 0 s4.heap := T.keep _ _ _ st3 fun b _ o e => by rw [← hs4]; exact pushCells_keeps _ _ _ _ (Heap.get?_push_of_some _ e)
  have stat : ∀ {σ' : L2.St} {H' : Hp} {s' : Shared}, Inv (X.blk s3 H3 scope ce fp) [] σ' H' s' → (∀ b ∈ fp, H' b = none) → ∀ b ∈ fp, FpOk (X.blk s3 H3 scope ce fp) [] H' b := fun {σ' H' s'} I' hn b hb =>
    ⟨hn b hb, (I'.ok.exf b hb).1, I'.ok.exfs b hb, .inl hb, fun x c e => (I'.ok.exf b hb).2 x c e, fun p hp => absurd (show p ∈ ([] : List (Addr × Obj)) ++ [] from hp) (by simp)⟩
  have loop : codeAny (model X.prog X.w) X.A (.compLoop (.SetComp elt [⟨tg, iter, ifs, 0⟩] scope pos) 0 (.ref it) (.ref D) ce) (compPost (model X.prog X.w) X.A X.xe none (EP X pins σ Q) (.ref D) s3.heap.objs.size) s4 := by
    refine PpSet.compLoopS_any (fun n s' => ∃ i H', Inv (X.blk s3 H3 scope ce fp) [] (wipe σ (own.map (·.2))) H' s' ∧ tn i s'.heap ∧ (∀ b ∈ fp, H' b = none) ∧ W i n H') ?_ m0 ⟨0, H3, I4, st4, nfp, w0⟩
    rintro n s5 ⟨i, H5, I5, st5, n5, w5⟩
    rcases turn i n H5 w5 with ⟨stop, qq⟩ | ⟨go, Nx, hNx, step⟩
    · refine thnF (T.done (X.blk s3 H3 scope ce fp) rfl rfl rfl hc i [] s5 _ H5 (fun _ _ => False) I5 (stat I5 n5) st5 stop) fun r s6 ⟨hr, I6⟩ => ?_
      subst hr
      have I7 : Inv X pins σ H5 s6 := I3.call' (ch := fp) I6.os I6.base I6.hok I6.bare fun b hb => ⟨(f3 b hb).1.2.2.2.1, (f3 b hb).1.2.1, (f3 b hb).1.2.2.2.2.1, (f3 b hb).1.2.2.2.2.2⟩
      have nC : H5 s3.heap.objs.size = none := by
        have z : H5 ce.locals = none := I6.free
        rw [cL] at z
        exact z
      obtain ⟨m, hn, _⟩ := I6.loc
      have hn : s6.heap.Ns ce.locals m := hn
      rw [cL] at hn
      refine ⟨m, hn, fun h'' sb => ?_⟩
      obtain ⟨g0, g1, g2, g3, g4, g5⟩ := I3.fpOk (Nat.le_refl _) nC
      exact ⟨.ref D, H5, I7.turned (t' := s6.toks) (fun b o hb e => (sb.2 b hb).trans e) g0 g1 g3 g4 g5, rfl, qq⟩
    · refine thnF (T.item (X.blk s3 H3 scope ce fp) rfl rfl rfl hc i [] s5 _ H5 (fun _ _ => False) I5 (stat I5 n5) st5 go) fun r s6 ⟨u, hr, h6⟩ => ?_
      subst hr
      refine thnF h6 fun _ s7 ⟨x, H7, I7, r7, y7, st7, n7⟩ => ?_
      refine thnF (pg.run _ s7 _ H7 x u _ (I7.pinned (stat I7 n7) (T.obj _ _ st7)) r7 (step x H7 y7)) fun _ s8 ⟨σ8, H8, I8, hw8, q8⟩ => ?_
      refine thnF (pt.run _ s8 σ8 H8 _ I8 q8) fun b s9 ⟨H9, I9, q9⟩ => ?_
      have fin : ∀ {s' : Shared} {H' : Hp}, Inv (X.blk s3 H3 scope ce fp) ([] ++ pinsAt fp s7.heap) σ8 H' s' → Nx H' → ∃ m, m < n ∧ ∃ i H', Inv (X.blk s3 H3 scope ce fp) [] (wipe σ (own.map (·.2))) H' s' ∧ tn i s'.heap ∧ (∀ b ∈ fp, H' b = none) ∧ W i m H' := fun {s' H'} I' nx => by
        obtain ⟨m', hm, w'⟩ := hNx H' nx
        have pin' : ∀ b ∈ fp, ∀ o, s7.heap.get? b = some o → s'.heap.get? b = some o ∧ H' b = none := fun b hb o e => by
          have z := I'.pin (b, o) (List.mem_append_right _ (List.mem_append_right _ (mem_pinsAt hb e)))
          exact ⟨z.1, z.2.1⟩
        refine ⟨m', hm, i + 1, H', (I'.unpinned (pins := [])).weak (by rw [← hw8, wipe_length]) (fun j v e => by rw [← hw8] at e; exact (wipe_some e).1), T.keep _ _ _ st7 fun b hb o e => (pin' b hb o e).1, fun b hb => ?_, w'⟩
        obtain ⟨o, e, _⟩ := T.obj _ _ st7 b hb
        exact (pin' b hb o e).2
      cases b with
      | false =>
        simp only [Bool.false_eq_true, if_false] at q9 ⊢
        exact fin I9 q9
      | true =>
        simp only [if_true] at q9 ⊢
        refine thnF (pe.run _ s9 σ8 H9 _ I9 q9) fun z s10 ⟨yv, H10, I10, r10, c, l, ey, hD10, hz10, nx⟩ => ?_
        subst ey
        obtain ⟨tk, rfl⟩ := r10
        exact addS_ok (X := X.blk s3 H3 scope ce fp) I10 hD10 hz10 fun s11 I11 => fin I11 nx
  exact PpSet.codeAny_compStart_set loop (T.self X.A 0 _ _ _ st4 loop)
end
/-! ### set(list of texts), sorted(set of texts) -/
section
variable {P : Program} {w : World} {A : Around} {E : Value → Shared → Prop} {s : Shared}
theorem strs_of : ∀ (l : List Value), (∀ v ∈ l, ∃ x t, v = Value.str x t) → ∃ xs, StrsAre l xs
  | [], _ => ⟨[], .nil⟩
  | v :: l, h => by
    obtain ⟨x, t, rfl⟩ := h v List.mem_cons_self
    obtain ⟨xs, g⟩ := strs_of l fun u hu => h u (List.mem_cons_of_mem _ hu)
    exact ⟨x :: xs, .cons x t g⟩
theorem strs_kt {es : List (Int × Value)} (g : ∀ e ∈ es, GT w e) : StrsAre (es.map (·.2)) (es.map kt) := by
  induction es with
  | nil => exact .nil
  | cons e r ih =>
    obtain ⟨x, t, h1, _⟩ := g e List.mem_cons_self
    have hk : kt e = x := by unfold kt; rw [h1]
    rw [List.map_cons, List.map_cons, h1, hk]
    exact .cons x t (ih fun e he => g e (List.mem_cons_of_mem _ he))
def rawS : Value → Str
  | .str x _ => x
  | _ => Str.empty
theorem strs_raw {l : List Value} {xs : List Str} (h : StrsAre l xs) : l.map rawS = xs := by
  induction h with
  | nil => rfl
  | cons x t _ ih => rw [List.map_cons, ih]; rfl
theorem sorted_setS {a : Addr} {l : List Str} {Q : Value → Shared → Prop} (R : SetS w s.heap a l) (hh : A.handled = none)
    (hQ : ∀ s' p (out : Array Value) (c : Nat) (ys : List Str), (∀ b o, s.heap.get? b = some o → s'.heap.get? b = some o) → s'.gens = s.gens → s'.os = s.os → s.heap.objs.size ≤ p →
      s'.heap.get? p = some (seqObj "list" out c) → StrsAre out.toList ys → ys.Perm l → sortedS ys = true → Q (.ref p) s') :
    wpAny (model P w) A (call (.builtin "sorted") [.ref a]) Q E s := by
  obtain ⟨nd, o, es, ep, t, ho, hx, hd, g, pm, T⟩ := R
  refine Calls.call_function_entry kind_sorted plain_sorted entry_sorted (args_sorted1 _) ?_
  unfold Builtin.«sorted»
  refine wpAny_bind (m := checkCount "sorted" 1 1 _) (wpAny_pure ?_)
  refine wpAny_bind (collect_set (A := A.in1) hh ⟨o, ho, hx.1, hd⟩ T.ft T.sm T.ri T.ld fun s1 vs k1 hz g1 o1 pv => ?_)
  have hvl : vs.length = es.size := by rw [pv.length_eq, List.length_map, Array.length_toList]
  obtain ⟨xs, hxs⟩ := strs_of vs fun v hv => by
    obtain ⟨e, he, q⟩ := List.mem_map.mp (pv.mem_iff.mp hv)
    obtain ⟨x, tk, h1, _⟩ := g e he
    exact ⟨x, tk, by rw [← q]; exact h1⟩
  have px : xs.Perm l := by
    rw [← strs_raw hxs]
    refine ((pv.map rawS).trans ?_).trans pm
    rw [strs_raw (strs_kt g)]
  have hvs : vs.length ≤ sizeLine := by rw [hvl]; exact fits_of_scanBound T.sm
  refine wpAny_bind (wpAny_newList ?_ hvs)
  have hoL : (s1.heap.push (seqObj "list" vs.toArray 0)).get? s1.heap.objs.size = some (seqObj "list" vs.toArray 0) := Heap.get?_push_size _ rfl
  refine wpAny_bind (wpAny_holding (wpAny_call_entry slot_list_sort ⟨_, hoL, rfl⟩ entry_list_sort (list_sort_treeKAny strKind_oneLt hoL hxs.keysOf (fun v₁ v₂ rest e => keyKind_strs (by rw [← e]; exact hxs)) hvs fun st' hp hs => ⟨_, rfl, ?_⟩) (args_list_sort _)))
  obtain ⟨ys, h1, h2, h3⟩ := sorted_out_str hxs hp hs
  obtain ⟨c, hc⟩ := sortedHeap_at (vs := vs) hoL
  refine wpAny_pure ⟨_, rfl, hQ _ s1.heap.objs.size _ c ys (fun b u e => ?_) g1 o1 hz hc h1 (h2.trans px) h3⟩
  have q := k1 b u e
  have hlt := Heap.lt_size q
  rw [sortedHeap_old (Nat.ne_of_lt hlt) (by rw [size_push']; exact Nat.lt_succ_of_lt hlt)]
  exact Heap.get?_push_of_some _ q
end
section
variable {X : Cx}
def rSortedSS (w : World) : List V → Hp → VK → Prop := fun vs H Q => ∃ (a : Addr) (l : List Str), vs = [V.ref a] ∧ H a = some (SetSO w a l) ∧
  ∀ (ys : List Str) (p : Addr), ys.Perm l → ys.Nodup → sortedS ys = true → H p = none → Q (.ref p) (upd H p (.lst (ys.map V.str)))
theorem cr_sortedSS (hc : X.calm = true) : CallR X (.builtin "sorted") (rSortedSS X.w) := by
  intro pins s σ H vs us Q I r h
  obtain ⟨a, l, rfl, ha, q⟩ := h
  have R := setSO_get I ha
  rw [Vals.ref1 r]
  have hl : l.length ≤ sizeLine := by
    have ⟨_, o, es, ep, t, _, _, _, _, pm, T⟩ := R
    rw [← pm.length_eq, List.length_map, Array.length_toList]
    exact fits_of_scanBound T.sm
  refine sorted_setS R (I.ok.hd hc) fun s' p out c ys k g o hp hgt hi pm hs => ?_
  have hlen : (ys.map V.str).length ≤ sizeLine := by rw [List.length_map, pm.length_eq]; exact hl
  have hn : H p = none := I.hok.fresh hp
  obtain ⟨h2, g2, d2, t2, o2⟩ := s'
  obtain rfl : o2 = s.os := o
  obtain rfl : g2 = s.gens := g
  have J : Inv X pins σ (upd H p (.lst (ys.map V.str))) ⟨h2, s.gens, d2, t2, s.os⟩ := I.call (d' := d2) (t' := t2) (g' := s.gens) (ch := []) (Un.laid k hp hn) (I.hok.laid k hp ⟨hlen, out.toList, c, vals_of_strs hi, hgt⟩) I.bare (fun _ z => nomatch z)
  exact ⟨.ref p, _, J, rfl, q ys p pm (pm.nodup_iff.mpr R.nd) hs hn⟩
end
end Rd
namespace Rd
open PySem PySem.Spec PyProof.Rows L2
/-- texts put into a set one behind another -/
def putS (l : List Str) : List Str → List Str
  | [] => l
  | x :: r => putS (addS l x) r
theorem addS_mem {l : List Str} {x y : Str} : y ∈ addS l x ↔ y ∈ l ∨ y = x := by
  unfold addS
  split
  · exact ⟨.inl, fun h => h.elim id fun e => by rw [e]; assumption⟩
  · rw [List.mem_cons]
    exact Or.comm
theorem addS_nd {l : List Str} {x : Str} (h : l.Nodup) : (addS l x).Nodup := by
  unfold addS
  split
  · exact h
  · exact List.nodup_cons.mpr ⟨by assumption, h⟩
theorem addS_len {l : List Str} {x : Str} : (addS l x).length ≤ l.length + 1 := by
  unfold addS
  split
  · exact Nat.le_succ _
  · exact Nat.le_refl _
theorem putS_mem {y : Str} : ∀ {r l : List Str}, y ∈ putS l r ↔ y ∈ l ∨ y ∈ r
  | [], l => by simp [putS]
  | x :: r, l => by
    rw [putS, putS_mem, addS_mem, List.mem_cons, or_assoc]
theorem putS_nd : ∀ {r l : List Str}, l.Nodup → (putS l r).Nodup
  | [], _, h => h
  | _ :: r, _, h => putS_nd (r := r) (addS_nd h)
theorem putS_len : ∀ {r l : List Str}, (putS l r).length ≤ l.length + r.length
  | [], l => Nat.le_refl _
  | x :: r, l => by
    have h := putS_len (r := r) (l := addS l x)
    have := addS_len (l := l) (x := x)
    rw [putS, List.length_cons]
    omega
theorem putS_app : ∀ {r q l : List Str}, putS l (r ++ q) = putS (putS l r) q
  | [], _, _ => rfl
  | x :: r, q, l => putS_app (r := r) (q := q) (l := addS l x)
section
variable {P : Program} {w : World} {A : Around} {E : Value → Shared → Prop} {s : Shared}
theorem fillS {I : Addr} {fp wr : List Addr} {G : Array GenState → Array GenState → Prop} {n : Nat} {Pv : Nat → Value → Prop} {St : Nat → Shared → Prop} {R : Result → Shared → Prop}
    (W : WalksS P w A.in1 I fp wr G n Pv St) (S : Addr) (nS : S ∉ fp) (xs : List Str) (hn : n = xs.length) (hb : xs.length + 1 < scanBound) (hv : ∀ i v, Pv i v → ∃ x t, xs[i]? = some x ∧ v = .str x t) :
    ∀ (k i : Nat) (s : Shared), n - i = k → i ≤ n → St i s → SetS w s.heap S (putS [] (xs.take i)) →
      (∀ s', Moved (S :: wr) G s s' → SetS w s'.heap S (putS [] xs) → R (.ok (.ret .none)) s') → codeAny (model P w) A (.builtin "set.update.loop" ⟨[.ref S, .ref I], []⟩) R s := by
  have nw : S ∉ wr := fun h => nS (W.sub _ h)
  have su : ∀ b ∈ wr, b ∈ S :: wr := fun b hb => List.mem_cons_of_mem _ hb
  intro k
  induction k with
  | zero =>
    intro i s hk hi hst hS hR
    obtain rfl : i = n := by omega
    refine codeAny_builtin F.entry_set_update_loop ?_
    rw [Around.under_plainId F.plain_set_update_loop _]
    show wpAny _ A.in1 (pyNext (.ref I) >>= _) _ _ s
    refine wpAny_bind (W.done s _ _ hst fun s' hm => ?_)
    show wpAny _ A.in1 (ret Value.none) _ _ s'
    rw [List.take_of_length_le (by omega)] at hS
    exact wpAny_pure (hR s' (hm.mono su) (hS.at fun o e => hm.heap S o nw e))
  | succ k ih =>
    intro i s hk hi hst hS hR
    have lt : i < n := by omega
    refine codeAny_builtin F.entry_set_update_loop ?_
    rw [Around.under_plainId F.plain_set_update_loop _]
    show wpAny _ A.in1 (pyNext (.ref I) >>= _) _ _ s
    refine wpAny_bind (W.item i s _ _ lt hst fun v s' hP hst' hm => ?_)
    obtain ⟨x, t, hx, rfl⟩ := hv i v hP
    show wpAny _ A.in1 (holding [Value.str x t] (setAdd S (.str x t)) >>= _) _ _ s'
    refine wpAny_bind (wpAny_holding ?_)
    unfold setAdd
    refine wpAny_holding (wpAny_bind ((PySem.strKind P w).pyHash (k := x) (strKind_is _ _ _ _) ?_))
    have len : (putS [] (xs.take i)).length + 1 < scanBound := by
      have := putS_len (r := xs.take i) (l := [])
      rw [List.length_take, List.length_nil] at this
      omega
    refine setS_addH (s := { s' with toks := s'.toks + 1 }) (hS.at fun o e => hm.heap S o nw e) len fun b h' sb hS2 => ?_
    have hS3 : SetS w h' S (putS [] (xs.take (i + 1))) := by
      rw [List.take_add_one, hx, putS_app]
      exact hS2
    refine wpAny_pure ⟨plainId_quiet F.plain_set_update_loop _, ih (i + 1) _ (by omega) lt (W.frame _ s' _ _ hst' (Nat.le_succ _) fun b hb o e => ?_) hS3 fun s'' hm2 hS4 => ?_⟩
    · rw [sb.2 b (fun h : b = S => nS (by rw [← h]; exact hb))]; exact e
    · refine hR s'' (Moved.trans W.gtrans ((hm.mono su).then_heap (Nat.le_succ _) fun b o hb e => ?_) hm2) hS4
      rw [sb.2 b (fun h : b = S => hb (by rw [h]; exact List.mem_cons_self))]; exact e
theorem strs_val : ∀ {us : List Value} {xs : List Str}, StrsAre us xs → ∀ (i : Nat) (v : Value), us[i]? = some v → ∃ x t, xs[i]? = some x ∧ v = .str x t
  | _, _, .nil, i, v, h => by simp at h
  | _, _, .cons n t hr, 0, v, h => by simp at h; exact ⟨n, t, rfl, h.symm⟩
  | _, _, .cons n t hr, i + 1, v, h => by
    rw [List.getElem?_cons_succ] at h ⊢
    exact strs_val hr i v h
/-- the new set -/
abbrev newO (w : World) : Obj := { cls := .type "set", dict := none, data := .set #[] 0 (.fresh 0 0 (!w.params.followText "set-order")) }
theorem set_of_list {l : Addr} {items : Array Value} (xs : List Str) {Q : Value → Shared → Prop} (hh : A.handled = none) (hl : s.heap.IsList l items) (hit : StrsAre items.toList xs) (hb : xs.length + 1 < scanBound)
    (h : ∀ (h' : Heap) (tk : Nat), SetS w h' s.heap.objs.size (putS [] xs) → (∀ b o, s.heap.get? b = some o → h'.get? b = some o) → Q (.ref s.heap.objs.size) { s with heap := h', toks := tk }) :
    wpAny (model P w) A (call (.type "set") [.ref l]) Q E s := by
  have isz : items.size = xs.length := by
    have q := StrsAre.length hit
    rw [Array.length_toList] at q
    exact q
  obtain ⟨c, tl, hmro⟩ := F.called_set.mro
  have hmade := F.called_set.made
  have hsub := F.called_set.sub
  refine wpAny_call (codeAny_of_tree ?_)
  show wpAny _ _ (callAny (.type "set") _) _ _ _
  refine wpAny_pure ⟨Code.quiet_builtin _ (by decide +kernel), codeAny_builtin F.entry_type_call ?_⟩
  rw [Around.under_plain (weight_type_call_type "set" [.ref l] []) rfl]
  have h1 := F.called_set.notType
  have h2 := F.called_set.canCreate
  have hct := F.typeCall_set_1 (.ref l)
  repeat (any_goals (first | assumption | wp_step))
  refine codeAny_mono (code_set_led1 (.ref l) (E := E) (Q₁ := fun obj s₁ => obj = .ref s.heap.objs.size ∧ s₁ = { s with heap := s.heap.push (newO w) }) ⟨rfl, rfl⟩) fun r s₁ hr => ?_
  cases r with
  | error e => exact hr
  | ok fl =>
    cases fl with
    | ret obj =>
      obtain ⟨rfl, rfl⟩ := hr
      have hS : (s.heap.push (newO w)).get? s.heap.objs.size = some (newO w) := Heap.get?_push_size _ rfl
      have hT : Shared.TypeIs { s with heap := s.heap.push (newO w) } (.ref s.heap.objs.size) "set" := ⟨_, hS, rfl⟩
      have hli := F.called_set.init.lookup
      have hbi := F.called_set.init.bind (.ref s.heap.objs.size)
      repeat (any_goals (first | assumption | wp_step))
      refine codeAny_mono (codeAny_call_builtin (R := wants (fun r s₂ => r = .none ∧ ∃ h' tk, s₂ = { s with heap := h', toks := tk } ∧ SetS w h' s.heap.objs.size (putS [] xs) ∧ (∀ b o, s.heap.get? b = some o → h'.get? b = some o)) E) F.called_set.init.plain F.entry_set_init (check_set_init_1 hT ?_)) fun r₂ s₂ hr₂ => ?_
      · obtain ⟨ol, hol, hcl, nl, hdl⟩ := hl
        obtain ⟨ocls, odict, odata, oslots⟩ := ol
        simp only at hcl hdl
        subst hcl; subst hdl
        have hol' : (s.heap.push (newO w)).get? l = some { cls := .type "list", dict := odict, data := .seq items nl, slots := oslots } := Heap.get?_push_of_some _ hol
        have hsls := F.sub_list_set
        have hslf := F.sub_list_frozenset
        have hne : (Value.type "list" == Value.type "dict") = false := by decide
        have hl1 : (s.heap.push (newO w)).IsList l items := ⟨_, hol', rfl, nl, rfl⟩
        unfold Builtin.«set.__init__» noKeywords Builtin.Frozenset.updateFrom
        generalize hPI : pyIter = PI
        wp_walk
        subst hPI
        refine wpAny_pyIter_list hl1 ?_
        refine wpAny_bind (wpAny_runValue ?_)
        have lS : l < s.heap.objs.size := Heap.lt_size hol
        have hh3 : A.in1.in1.in1.handled = none := by simp [hh]
        have nI : l ≠ (s.heap.push (newO w)).objs.size := by
          rw [Heap.size_push]; exact Nat.ne_of_lt (Nat.lt_succ_of_lt lS)
        have nSf : s.heap.objs.size ∉ [(s.heap.push (newO w)).objs.size, l] := by
          rw [Heap.size_push]
          simp only [List.mem_cons, List.mem_singleton, List.not_mem_nil, or_false, not_or]
          exact ⟨Nat.ne_of_lt (Nat.lt_succ_self _), Nat.ne_of_gt lS⟩
        refine fillS ((Walks.list hh3 _ l nI items).toS) s.heap.objs.size nSf xs isz hb (fun i v hv => strs_val hit i v (by rw [Array.getElem?_toList]; exact hv)) (items.size - 0) 0 _ (by omega) (Nat.zero_le _)
          ⟨⟨_, Heap.get?_push_size _ rfl, rfl, rfl⟩, (hl1.push _)⟩ (setS_fresh (Heap.get?_push_of_some _ hS)) ?_
        intro s' hm hS'
        obtain ⟨h', g2, d', tk', os'⟩ := s'
        have eg : g2 = s.gens := hm.gens
        have ed : d' = s.drawn := hm.drawn
        have eo : os' = s.os := hm.os
        subst eg; subst ed; subst eo
        show wpAny _ _ _ _ _ _
        refine wpAny_pure ?_
        show wpAny _ _ (ret Value.none) _ _ _
        refine wpAny_pure ⟨rfl, h', tk', rfl, hS', fun b o e => ?_⟩
        have hb0 : b < s.heap.objs.size := Heap.lt_size e
        have hb2 : b ≠ (s.heap.push (newO w)).objs.size := by
          rw [Heap.size_push]; exact Nat.ne_of_lt (Nat.lt_succ_of_lt hb0)
        exact hm.heap b o (by simp only [List.mem_cons, List.mem_singleton, List.not_mem_nil, or_false, not_or]; exact ⟨Nat.ne_of_lt hb0, hb2⟩) (Heap.get?_push_of_some _ (Heap.get?_push_of_some _ e))
      · cases r₂ with
        | error e => exact hr₂
        | ok fl₂ =>
          cases fl₂ with
          | ret r =>
            obtain ⟨rfl, h', tk, rfl, hS', hk'⟩ := hr₂
            repeat (any_goals (first | assumption | wp_step))
            exact h _ _ hS' hk'
          | _ => exact hr₂.elim
    | _ => exact hr.elim
end
section
variable {X : Cx}
def rSetOfS (K : PySem.W.Frag) (w : World) : List V → Hp → VK → Prop := fun vs H Q => ∃ (l : Addr) (xs : List Str), vs = [V.ref l] ∧ SqL K H l (xs.map V.str) ∧ xs.length + 1 < scanBound ∧ ∀ a, H a = none → Q (.ref a) (upd H a (SetSO w a (putS [] xs)))
theorem cr_setOfS (hc : X.calm = true) : CallR X (.type "set") (rSetOfS X.K X.w) := by
  intro pins s σ H vs us Q I r h
  obtain ⟨l, xs, rfl, hl, hb, q⟩ := h
  rw [Vals.ref1 r]
  obtain ⟨its, rv, pl, hz⟩ := I.list hl
  exact set_of_list xs (I.ok.hd hc) pl.isList (by simpa using rv.strs) hb fun h' tk R k =>
    ⟨.ref s.heap.objs.size, upd H s.heap.objs.size (SetSO X.w s.heap.objs.size (putS [] xs)), I.laid (t' := tk) k (Nat.le_refl _) (setSO_new R), rfl, q _ (I.hok.fresh (Nat.le_refl _))⟩
/-- len(a set of texts) -/
def rLenSS (w : World) : List V → Hp → VK → Prop := fun vs H Q => ∃ (a : Addr) (l : List Str), vs = [V.ref a] ∧ H a = some (SetSO w a l) ∧ Q (.int l.length) H
end
end Rd
namespace Rd
open PySem L2
/-! ### own in, own len -/
def rInO (C : Addr) (sp : Sp) (f : Bool → Bool) : R2 := fun x y H Q => ∃ b dy gs, y = .ref b ∧ H b = some (.ins C dy gs) ∧ sp [.ref b, x] H (fun v H' => ∃ k, v = .bl k ∧ Q (.bl (f k)) H') E0
def rLenO (C : Addr) (sp : Sp) : List V → Hp → VK → Prop := fun vs H Q => ∃ a dx fs, vs = [.ref a] ∧ H a = some (.ins C dx fs) ∧ sp [.ref a] H (fun v H' => ∃ n : Nat, v = .int n ∧ n < 2 ^ 62 ∧ Q (.int n) H') E0
section
variable {X : Cx} {k : Nat} {ps : List Str} {sp : Sp} {c : Str}
theorem op_inO (F : Fm X.prog X.w X.K X.mg X.base CX0 k c "__contains__" ps sp) (hr : Room k X.A) : OpR X (compareOp .In) (rInO (He.ga X.K c) sp id) := by
  obtain ⟨⟨fd, f1, b1⟩, me⟩ := F
  intro pins s σ H x y v u Q I rx ry h
  obtain ⟨b, dy, gs, rfl, hb, q⟩ := h
  cases (show u = Value.ref b from ry)
  obtain ⟨mA, J, _⟩ := ins_get I.hok hb
  obtain ⟨od, J, _⟩ := J.look
  obtain ⟨mm, hF⟩ := I.fr
  refine PySem.W.in_K hF I.ok.mod.kin J me.at_ me.fn (thn (run_fnS (vs := [.ref b, x]) (E := fun _ => E0) f1 hr b1 at0 I (.cons rfl (.cons rx .nil)) q) fun r s' hq => ?_)
  obtain ⟨z, H', I', rz, kk, rfl, q'⟩ := hq
  cases rz
  exact wpAny_truthy_bool ⟨.bl kk, H', I', rfl, q'⟩
theorem op_notInO (F : Fm X.prog X.w X.K X.mg X.base CX0 k c "__contains__" ps sp) (hr : Room k X.A) : OpR X (compareOp .NotIn) (rInO (He.ga X.K c) sp not) := by
  obtain ⟨⟨fd, f1, b1⟩, me⟩ := F
  intro pins s σ H x y v u Q I rx ry h
  obtain ⟨b, dy, gs, rfl, hb, q⟩ := h
  cases (show u = Value.ref b from ry)
  obtain ⟨mA, J, _⟩ := ins_get I.hok hb
  obtain ⟨od, J, _⟩ := J.look
  obtain ⟨mm, hF⟩ := I.fr
  refine PySem.W.notIn_K hF I.ok.mod.kin J me.at_ me.fn (thn (run_fnS (vs := [.ref b, x]) (E := fun _ => E0) f1 hr b1 at0 I (.cons rfl (.cons rx .nil)) q) fun r s' hq => ?_)
  obtain ⟨z, H', I', rz, kk, rfl, q'⟩ := hq
  cases rz
  exact wpAny_truthy_bool ⟨.bl (!kk), H', I', rfl, q'⟩
theorem call_lenO (F : Fm X.prog X.w X.K X.mg X.base CX0 k c "__len__" ps sp) (hr : Room (k + 1) X.A) : CallR X (.builtin "len") (rLenO (He.ga X.K c) sp) := by
  obtain ⟨⟨fd, f1, b1⟩, me⟩ := F
  intro pins s σ H vs us Q I r h
  obtain ⟨a, dx, fs, rfl, ha, q⟩ := h
  rw [Vals.ref1 r]
  obtain ⟨mA, J, _⟩ := ins_get I.hok ha
  obtain ⟨od, J, _⟩ := J.look
  obtain ⟨mm, hF⟩ := I.fr
  have hl := f1.len _ _ _ _ q
  have r2 : Vals [V.ref a] [Value.ref a] := .cons rfl .nil
  have bb := b1 s [.ref a] I.kIn (by simpa using hl)
  refine PySem.W.len_K hF I.ok.mod.kin J me.at_ me.fn (wpAny_call (codeAny_mono (f1.run X.A.in1 X.stack s H ⟨[.ref a], []⟩ [.ref a] [.ref a] _ E0 hr.in1 I.env0.in1 (by simpa using bb) r2 q) fun r s' hq => ?_))
  cases r with
  | error e => exact hq.elim
  | ok fl =>
    cases fl with
    | ret u =>
      obtain ⟨v, H', I', rv, n, rfl, hn, q'⟩ := I.after hq
      obtain ⟨t, rfl⟩ := rv
      exact ⟨⟨by omega, by omega⟩, .int n, H', I'.tok _, ⟨_, rfl⟩, q'⟩
    | next => exact False.elim hq
    | brk => exact False.elim hq
    | cont => exact False.elim hq
end
end Rd
namespace Rd
open PySem L2
theorem _root_.L2.Room.units65 {k : Nat} {A : Around} (r : Room k A) : A.units + 65 < cLine := by have := r.un; omega
end Rd
namespace Rd
open PySem L2
/-! ### rules with the written part named: for comprehensions -/
section
variable {X : Cx} {K : PySem.W.Frag}
theorem kIx {r : PySem.W.Frag → R2} (hK : X.K = K) (h : IxR X (r X.K)) : IxR X (r K) := hK ▸ h
theorem kOp {o : Value → Value → Sem Value} {r : PySem.W.Frag → R2} (hK : X.K = K) (h : OpR X o (r X.K)) : OpR X o (r K) := hK ▸ h
theorem kE {e : Expr} {t : PySem.W.Frag → TE} (hK : X.K = K) (h : PE X e (t X.K)) : PE X e (t K) := hK ▸ h
theorem kSl {r : PySem.W.Frag → _} (hK : X.K = K) (h : SlR X (r X.K)) : SlR X (r K) := hK ▸ h
theorem kCall {f : Value} {r : PySem.W.Frag → List V → Hp → VK → Prop} (hK : X.K = K) (h : CallR X f (r X.K)) : CallR X f (r K) := hK ▸ h
def rLenSq (K : PySem.W.Frag) : List V → Hp → VK → Prop := fun xs H Q => ∃ p ys, xs = [.ref p] ∧ (SqL K H p ys ∨ SqT K H p ys) ∧ Q (.int ys.length) H
theorem call_lenk (hK : X.K = K) : CallR X (.builtin "len") (rLenSq K) := by subst hK; exact call_len_seq
theorem pe_kdk {x : Str} {kvs : List (Str × Int)} {pos : Pos} (hK : X.K = K) (D : Kd X.w X.K X.mg x kvs) (hg : Gl X x := by rfl) (hd : (x == ("__debug__" : Str)) = false := by decide) : PE X (.Name x pos) (tC (.ref (He.ga K x))) := by subst hK; exact pe_kd D hg hd
theorem op_inKk {x : Str} {kvs : List (Str × Int)} (hK : X.K = K) (D : Kd X.w X.K X.mg x kvs) : OpR X (compareOp .In) (rInK K x kvs) := by subst hK; exact op_inK D
theorem op_notInKk {x : Str} {kvs : List (Str × Int)} (hK : X.K = K) (D : Kd X.w X.K X.mg x kvs) : OpR X (compareOp .NotIn) (rNotInK K x kvs) := by subst hK; exact op_notInK D
theorem op_inOk {k : Nat} {ps : List Str} {sp : Sp} {c : Str} (hK : X.K = K) (F : Fm X.prog X.w X.K X.mg X.base CX0 k c "__contains__" ps sp) (hr : Room k X.A) : OpR X (compareOp .In) (rInO (He.ga K c) sp id) := by subst hK; exact op_inO F hr
end
end Rd
namespace Rd
open PySem L2
/-! ### e(..): what e tells is one of some functions of the module -/
def tCallE (K : PySem.W.Frag) (L : List (Str × Sp)) (tf : TE) (t : TA) : TE := fun σ H Q => tf σ H fun x H1 => ∃ p ∈ L, x = .ref (He.ga K p.1) ∧ t σ H1 fun vs H2 => p.2 vs H2 Q E0
section
variable {X : Cx} {k : Nat} {e f : Expr} {es : List Expr} {tf : TE} {t : TA} {pos : Pos}
theorem pe_callE (L : List (Str × Sp)) (hL : ∀ p ∈ L, ∃ ps, Fk X.prog X.w X.K X.mg X.base CX0 k p.1 ps p.2) (hr : Room k X.A) (hf : PE X f tf) (ha : PA X (e :: es) t)
    (hc : eval (.Call f (e :: es) [] pos) X.env = (do callWith pos (← eval f X.env) [] (backTo pos (starEach (e :: es) X.env)) (backToKw pos (keywordEach [] X.env))) := by rfl)
    (he : starEach (e :: es) X.env = (false, eval e X.env) :: starEach es X.env := by rfl) (hpl : (backTo pos (starEach es X.env)).any (·.1) = false := by rfl) :
    PE X (.Call f (e :: es) [] pos) (tCallE X.K L tf t) := by
  refine ⟨fun pins s σ H Q I h => ?_⟩
  rw [hc]
  refine wpAny_bind (thn (hf.run pins s σ H _ I h) fun u s1 ⟨x, H1, I1, rx, p, hp, ex, q⟩ => ?_)
  subst ex
  obtain rfl : u = Value.ref (He.ga X.K p.1) := rx
  obtain ⟨ps, ⟨fd, F, b⟩, g, kp⟩ := hL p hp
  refine PySem.W.callWith_K (first := []) (h₀ := X.base) I1.ok.mod.kin kp (thn (ha.run pos pins _ σ H1 _ I1 q) fun us s2 ⟨vs, H2, I2, r2, q2⟩ => ⟨I2.kIn, ?_⟩) he hpl
  exact run_fnS (E := fun _ => E0) F hr b at0 I2 r2 q2
end
end Rd
namespace Rd
open PySem L2
section
variable {X : Cx}
/-- x in a tuple, data of any depth -/
def rInDT (K : PySem.W.Frag) : R2 := fun x y H Q => ∃ d ds, Dp K H x d ∧ Dp K H y (.tuple ds) ∧ SeqAt.shaped d = true ∧ SeqAt.shaped (.tuple ds) = true ∧ Q (.bl (ds.any fun z => PyData.eqv z d)) H
theorem op_inDT (hu : X.A.units + 65 < cLine) : OpR X (compareOp .In) (rInDT X.K) := by
  intro pins s σ H x y v u Q I rx ry h
  obtain ⟨d, ds, hd, he, sd, se, q⟩ := h
  obtain ⟨as, r1⟩ := Dp.reads I d x v hd rx
  obtain ⟨bs, r2⟩ := Dp.reads I (.tuple ds) y u he ry
  exact SeqAt.in_tuple_reads r2 r1 (SeqAt.canLay_of_shaped se) (SeqAt.canLay_of_shaped sd) (PyProof.Rows.room_in_shaped sd hu) ⟨.bl _, H, I, rfl, q⟩
end
end Rd
/-! Rl: == and != of two dicts with texts or ints as keys and data of any depth as values, where they are equal -/
namespace Rd
open PySem PySem.Spec L2
def DEq (K : PySem.W.Frag) (H : Hp) (x y : V) : Prop := ∃ d e, Dp K H x d ∧ Dp K H y e ∧ SeqAt.shaped d = true ∧ SeqAt.shaped e = true ∧ PyData.eqv d e = true
section
variable {X : Cx} {pins : List (Addr × Obj)} {σ : St} {H : Hp} {s : Shared}
theorem hits_dat (I : Inv X pins σ H s) {A : Around} (hu : A.units + 65 < cLine) {ls : List (Key × V)} {vb : List (Key × Value)} (rb : KV ls vb) {ks : List (Key × V)} {va : List (Key × Value)}
    (ra : KV ks va) : (∀ p ∈ ks, ∃ u, valV ls p.1 = some u ∧ DEq X.K H p.2 u) → PySem.W.KeqHits A.in1 s vb va true := by
  unfold KV at ra
  induction ra with
  | nil => intro _; exact .nil
  | @cons p q ps qs h t k =>
    intro hp
    obtain ⟨h1, h2⟩ := h
    obtain ⟨u, e, d, d', hd, he, sd, se, ev⟩ := hp p List.mem_cons_self
    have rr : RelO (some u) (valueAt vb p.1) := by rw [← e]; exact rb.val p.1
    obtain ⟨y, hy, ry⟩ := rr.some_of
    obtain ⟨key, v⟩ := q
    have h1' : p.1 = key := h1
    rw [h1'] at hy
    obtain ⟨as, r1⟩ := Dp.reads I d _ _ hd h2
    obtain ⟨bs, r2⟩ := Dp.reads I d' _ _ he ry
    have e := PySem.W.keq_at (A := A) r1 r2 sd se (by show A.units + 1 + 64 < cLine; omega)
    rw [ev] at e
    show PySem.W.KeqHits A.in1 s vb ((key, v) :: qs) (true && true)
    exact .hit hy e (k fun p' hm => hp p' (List.mem_cons_of_mem _ hm))
end
section
variable {X : Cx}
def rEqDD (K : PySem.W.Frag) : R2 := fun x y H Q => ∃ a b ks ls, x = .ref a ∧ y = .ref b ∧ H a = some (.dK ks) ∧ H b = some (.dK ls) ∧ ks.length = ls.length ∧ (∀ p ∈ ks, ∃ u, valV ls p.1 = some u ∧ DEq K H p.2 u) ∧ Q (.bl true) H
def rNeDD (K : PySem.W.Frag) : R2 := fun x y H Q => ∃ a b ks ls, x = .ref a ∧ y = .ref b ∧ H a = some (.dK ks) ∧ H b = some (.dK ls) ∧ ks.length = ls.length ∧ (∀ p ∈ ks, ∃ u, valV ls p.1 = some u ∧ DEq K H p.2 u) ∧ Q (.bl false) H
theorem op_eqDD (hu : X.A.units + 65 < cLine) : OpR X (compareOp .Eq) (rEqDD X.K) := by
  intro pins s σ H x y v u Q I rx ry h
  obtain ⟨a, b, ks, ls, rfl, rfl, ea, eb, hlen, hp, q⟩ := h
  obtain rfl : v = Value.ref a := rx
  obtain rfl : u = Value.ref b := ry
  obtain ⟨_, ya, va, ra, da⟩ := (show ObjOk X.prog X.w H s.heap a (.dK ks) from I.hok a _ ea)
  obtain ⟨_, yb, vb, rb, db⟩ := (show ObjOk X.prog X.w H s.heap b (.dK ls) from I.hok b _ eb)
  have hl : va.length = vb.length := by rw [← ra.length, ← rb.length]; exact hlen
  exact PySem.W.keq_eq (knd := mixKind X.prog X.w) (r := true) ya yb da db (by omega) (fun _ => hits_dat I hu rb ra hp) (fin_bl I q (by simp [hl]))
theorem op_neDD (hu : X.A.units + 65 < cLine) : OpR X (compareOp .NotEq) (rNeDD X.K) := by
  intro pins s σ H x y v u Q I rx ry h
  obtain ⟨a, b, ks, ls, rfl, rfl, ea, eb, hlen, hp, q⟩ := h
  obtain rfl : v = Value.ref a := rx
  obtain rfl : u = Value.ref b := ry
  obtain ⟨_, ya, va, ra, da⟩ := (show ObjOk X.prog X.w H s.heap a (.dK ks) from I.hok a _ ea)
  obtain ⟨_, yb, vb, rb, db⟩ := (show ObjOk X.prog X.w H s.heap b (.dK ls) from I.hok b _ eb)
  have hl : va.length = vb.length := by rw [← ra.length, ← rb.length]; exact hlen
  exact PySem.W.keq_ne (knd := mixKind X.prog X.w) (r := true) ya yb da db (by omega) (fun _ => hits_dat I hu rb ra hp) (fin_bl I q (by simp [hl]))
end
/-! ### rules with the written part named, for comprehensions -/
section
variable {X : Cx} {K : PySem.W.Frag}
theorem pg_tupk {es : List Expr} {k : Nat} {pos : Pos} {t : TGs} {n : Nat} (hK : X.K = K) (hc : X.calm = true) (h : PGs X es t)
    (hn : (assignEach es X.env).length = n := by rfl) (hst : (assignEach es X.env).findIdx? (·.1) = none := by rfl) : PG X (.Tuple es k pos) (gTup K n t) := by subst hK; exact pg_tup hc h hn hst
theorem pe_fldk {e : Expr} {f : Str} {pos : Pos} {ta : TE} (hK : X.K = K) (he : PE X e ta) (hb : attributeBase e f X.env (eval e X.env) = eval e X.env) : PE X (.Attribute e f pos) (tFld K ta f) := by subst hK; exact pe_fld he hb
end
/-! ### y = {..: .. for ..} -/
section
variable {X : Cx}
theorem ps_setDc {i : Nat} {y : Str} {py : Pos} {kx vx tg iter : Expr} {ifs : List Expr} {scope : Scope} {own : List (Str × Nat)} {pos spos : Pos} {wi : TI} {g : TG} {tt : TT} {tk tv : TE} (hc : X.calm = true) (hN : X.N.Nodup) (hy : X.N[i]? = some y) (hyl : X.env.scope.names.lookup y = some .local)
    (hsw : swapsWith (.DictComp kx vx [⟨tg, iter, ifs, 0⟩] scope pos) (some (.Name y py)) spos.line X.env = pure true) (hi : PI X tg iter wi) (ok : BlkOk X.N X.env.scope scope own)
    (hg : ∀ (s : Shared) (H : Hp) (C : Addr) (cl : List (Str × Addr)) (fp : List Addr), PG (X.blk s H scope (compEnvC scope cl C X.env) fp) tg g) (ht : ∀ (s : Shared) (H : Hp) (C : Addr) (cl : List (Str × Addr)) (fp : List Addr), PTs (X.blk s H scope (compEnvC scope cl C X.env) fp) ifs tt)
    (hk : ∀ (s : Shared) (H : Hp) (C : Addr) (cl : List (Str × Addr)) (fp : List Addr), PE (X.blk s H scope (compEnvC scope cl C X.env) fp) kx tk)
    (he : ∀ (s : Shared) (H : Hp) (C : Addr) (cl : List (Str × Addr)) (fp : List Addr), PE (X.blk s H scope (compEnvC scope cl C X.env) fp) vx tv) (hs : ∀ x, foldedSetIterable iter X.env x = pure x := by intro _; rfl) :
    PS X (.Assign [.Name y py] (.DictComp kx vx [⟨tg, iter, ifs, 0⟩] scope pos) spos) (tAsg (tDc wi g tt tk tv (own.map (·.2))) (gName i)) := by
  refine ⟨fun pins s σ H D I h => ?_⟩
  rw [exec_Assign_Name_used _ _ _ _ hsw]
  refine wpAny_bind (wpAny_standAt (wpAny_bind ?_))
  show wpAny _ X.A (do let _ ← comprehension (.DictComp kx vx [⟨tg, iter, ifs, 0⟩] scope pos) scope X.env (firstIterPos [⟨tg, iter, ifs, 0⟩] pos) newDict false (eval iter X.env) (some (assign (.Name y py) X.env))) _ _ s
  have h : tDc wi g tt tk tv (own.map (·.2)) σ H (fun x H1 => gName i x σ H1 D.nx) := h
  refine wpAny_bind (thn (dc_core (Qf := fun _ s' => SP X pins D .next s') hc hN I hi ok hg ht hk he hs h fun L C s' m H' I' q hn f => ?_) fun _ s' hq => wpAny_pure (wpAny_pure hq))
  show wpAny _ _ (assign (.Name y py) X.env (.ref L)) _ _ _
  refine wpAny_assign_Name (store_ok2 (v := V.ref L) I' hN hy (.inl hyl) rfl (fun s2 I2 ⟨a, sb, ha⟩ => ?_) (.inr hyl))
  obtain ⟨f0, f1, f2, f3, f4, f5⟩ := f
  have haC : C ≠ a := by
    rcases ha with z | z
    · rw [z]; exact f1
    · exact fun e => f4 y a z e.symm
  refine ⟨m, hn.sameBut sb haC, fun h3 sb3 => ?_⟩
  exact ⟨_, H', I2.turned (t' := s2.toks) (fun b o hb e => (sb3.2 b hb).trans e) f0 f1 f3 f4 f5, q⟩
theorem sw_trueD {kx vx : Expr} {gs : List Comprehension} {scope : Scope} {pos py : Pos} {y : Str} {l : Nat} {env : Env} (hk : env.scope.kind = .function) (hy : env.scope.names.lookup y = some .local) (hl : (py.line == pos.line) = true)
    (ha : (scope.names.any fun (n, k) => n == y && (k == .local || k == .cell)) = false) : swapsWith (.DictComp kx vx gs scope pos) (some (.Name y py)) l env = pure true := by
  have ky : env.kindOf y = some .local := hy
  have hb : env.blockKind = .function := by unfold Env.blockKind; rw [hk]; rfl
  unfold swapsWith
  simp only [hb, ky, ha, Expr.pos, hl]
  rfl
end
end Rd
namespace Rd
open PySem PySem.Spec PyProof.Rows L2
/-- the tuples at a and b, the items in new pairs -/
def Itzt (K : PySem.W.Frag) (a b : Addr) : It :=
  ⟨fun i H => ∃ (xs ys : List V) (x y : V), SqT K H a xs ∧ SqT K H b ys ∧ xs[i]? = some x ∧ ys[i]? = some y,
    fun i H v H' => ∃ T x y, v = .ref T ∧ H T = none ∧ H' = L2.upd H T (.tup [x, y]) ∧ (∀ xs, SqT K H a xs → xs[i]? = some x) ∧ ∀ ys, SqT K H b ys → ys[i]? = some y,
    fun i H => ∃ xs ys : List V, SqT K H a xs ∧ SqT K H b ys ∧ i = min xs.length ys.length⟩
theorem turn_zipT {P : Program} {w : World} {K : PySem.W.Frag} {elts : List Expr} {kk : Nat} {tpos : Pos} {a b z TI TO i1 i2 : Addr} (S : ZipSep2 z TI TO i1 i2 [i1, a] [i2, b]) (hia : a ≠ i1) (hib : b ≠ i2) :
    Turn P w K (.Tuple elts kk tpos) (Itzt K a b) [z, TI, TO, i1, i2] z (fun i h => IsZip h z TI TO .none ∧ IsTupOf2 h TI (.ref i1) (.ref i2) ∧ (∃ x y, IsTupOf2 h TO x y) ∧ h.IsTupleIter i1 a i ∧ h.IsTupleIter i2 b i) where
  mem := by simp
  obj := fun i h st c hc => by
    obtain ⟨hz, hTI, ⟨x, y, hTO⟩, ⟨o1, e1, _, d1⟩, ⟨o2, e2, _, d2⟩⟩ := st
    have e' : c = z ∨ c = TI ∨ c = TO ∨ c = i1 ∨ c = i2 := by simpa using hc
    rcases e' with q | q | q | q | q
    · rw [q]; exact ⟨_, hz, fun v q => nomatch q⟩
    · rw [q]; exact ⟨_, hTI, fun v q => nomatch q⟩
    · rw [q]; exact ⟨_, hTO, fun v q => nomatch q⟩
    · rw [q]; exact ⟨o1, e1, fun v q => by rw [d1] at q; cases q⟩
    · rw [q]; exact ⟨o2, e2, fun v q => by rw [d2] at q; cases q⟩
  keep := fun i h h' st k => by
    obtain ⟨hz, hTI, ⟨x, y, hTO⟩, h1, h2⟩ := st
    exact ⟨k z (by simp) _ hz, k TI (by simp) _ hTI, ⟨x, y, k TO (by simp) _ hTO⟩, h1.at fun o q => k i1 (by simp) o q, h2.at fun o q => k i2 (by simp) o q⟩
  item := by
    intro X hP hw hK hc i pins s σ H E I hf st hg
    subst hP hw hK
    obtain ⟨hz, hTI, hTO, h1, h2⟩ := st
    obtain ⟨xs, ys, x, y, hqx, hqy, hx, hy⟩ := hg
    obtain ⟨its, rv, p, _⟩ := I.tuple hqx
    obtain ⟨its2, rv2, p2, _⟩ := I.tuple hqy
    obtain ⟨u, hu, ru⟩ := rv.get hx
    obtain ⟨u2, hu2, ru2⟩ := rv2.get hy
    have l1 : i < its.length := by
      obtain ⟨q, _⟩ := List.getElem?_eq_some_iff.mp hu
      exact q
    have l2 : i < its2.length := by
      obtain ⟨q, _⟩ := List.getElem?_eq_some_iff.mp hu2
      exact q
    have G := GoesN.zip2 (elts := elts) (x1 := kk) (pos := tpos) (A := X.A) S (Draws.tuple (prog := X.prog) (w := X.w) (A := X.A.in1) (I.ok.hd hc) i1 a hia its.toArray) (Draws.tuple (prog := X.prog) (w := X.w) (A := X.A.in1) (I.ok.hd hc) i2 b hib its2.toArray)
    refine G.goes i s (fun v s2 => ∃ x H', Inv X pins σ H' s2 ∧ RelV x v ∧ (Itzt X.K a b).yld i H x H' ∧ (IsZip s2.heap z TI TO .none ∧ IsTupOf2 s2.heap TI (.ref i1) (.ref i2) ∧ (∃ x y, IsTupOf2 s2.heap TO x y) ∧ s2.heap.IsTupleIter i1 a (i + 1) ∧ s2.heap.IsTupleIter i2 b (i + 1)) ∧ ∀ b ∈ [z, TI, TO, i1, i2], H' b = none) E (by simp; omega) ⟨hz, hTI, hTO, ⟨h1, p⟩, ⟨h2, p2⟩⟩ fun v h' tk hY st' hk htk => ?_
    obtain ⟨T, x', y', rfl, hnew, ex, ey, hT⟩ := hY
    have ex' : x' = u := by
      have : its[i]? = some x' := by simpa using ex
      rw [hu] at this
      exact (Option.some.inj this).symm
    have ey' : y' = u2 := by
      have : its2[i]? = some y' := by simpa using ey
      rw [hu2] at this
      exact (Option.some.inj this).symm
    subst ex' ey'
    obtain ⟨z', hTI', hTO', ⟨h1', _⟩, ⟨h2', _⟩⟩ := st'
    have new : ObjOk X.prog X.w (L2.upd H T (.tup [x, y])) h' T (.tup [x, y]) :=
      ⟨by show 2 ≤ sizeLine; decide, [x', y'], .cons ru (.cons ru2 .nil), hT⟩
    have I1 : Inv X pins σ (L2.upd H T (.tup [x, y])) { s with heap := h', toks := tk } :=
      I.turnedNew (t' := tk) (ch := [z, TI, TO, i1, i2]) (fun c o hb q => hk c o (fun q' => hb (by
        have e' : c = z ∨ c = TO ∨ c = i1 ∨ c = i2 := by simpa using q'
        rcases e' with q | q | q | q <;> simp [q])) q) hf hnew new
    refine ⟨.ref T, _, I1, rfl, ⟨T, x, y, rfl, I.hok.fresh hnew, rfl, fun l hl => by rw [I.tuple_inj hl hqx]; exact hx, fun l hl => by rw [I.tuple_inj hl hqy]; exact hy⟩, ⟨z', hTI', hTO', h1', h2'⟩, fun c hcm => ?_⟩
    have hlt : c < s.heap.objs.size := by
      have e' : c = z ∨ c = TI ∨ c = TO ∨ c = i1 ∨ c = i2 := by simpa using hcm
      obtain ⟨_, _, hTO⟩ := hTO
      rcases e' with q | q | q | q | q
      · rw [q]; exact Heap.lt_size hz
      · rw [q]; exact Heap.lt_size hTI
      · rw [q]; exact Heap.lt_size hTO
      · rw [q]; obtain ⟨_, e1, _⟩ := h1; exact Heap.lt_size e1
      · rw [q]; obtain ⟨_, e2, _⟩ := h2; exact Heap.lt_size e2
    rw [upd_ne (Nat.ne_of_lt (Nat.lt_of_lt_of_le hlt hnew))]
    exact (hf c hcm).1
  done := by
    intro X hP hw hK hc i pins s σ H E I hf st hg
    subst hP hw hK
    obtain ⟨hz, hTI, hTO, h1, h2⟩ := st
    obtain ⟨xs, ys, hqx, hqy, hend⟩ := hg
    obtain ⟨its, rv, p, _⟩ := I.tuple hqx
    obtain ⟨its2, rv2, p2, _⟩ := I.tuple hqy
    have l1 := rv.length
    have l2 := rv2.length
    have G := GoesN.zip2 (elts := elts) (x1 := kk) (pos := tpos) (A := X.A) S (Draws.tuple (prog := X.prog) (w := X.w) (A := X.A.in1) (I.ok.hd hc) i1 a hia its.toArray) (Draws.tuple (prog := X.prog) (w := X.w) (A := X.A.in1) (I.ok.hd hc) i2 b hib its2.toArray)
    have hi : i = min its.toArray.size its2.toArray.size := by simp; omega
    subst hi
    exact G.stops s (fun s1 => Inv X pins σ H s1) E ⟨hz, hTI, hTO, ⟨h1, p⟩, ⟨h2, p2⟩⟩ fun h' tk hk htk => I.turnedL (t' := tk) (ch := [z, TI, TO, i1, i2]) (fun c o hb q => hk c o (fun q' => hb (by
        have e' : c = z ∨ c = TO ∨ c = i1 ∨ c = i2 := by simpa using q'
        rcases e' with q | q | q | q <;> simp [q])) q) hf
  self := fun A i s Q E st h => wpAny_pyIter_zip st.1 h
def iZipT (K : PySem.W.Frag) (ta : TA) : TI := fun σ H R => ta σ H fun vs H1 => ∃ a b xs ys, vs = [.ref a, .ref b] ∧ SqT K H1 a xs ∧ SqT K H1 b ys ∧ R (Itzt K a b) H1
theorem pi_zipT {X : Cx} {e e2 : Expr} {ta : TA} {p pos tpos : Pos} {elts : List Expr} {kk : Nat} (hg : Gl X "zip") (hm : X.mg "zip" = none) (ha : PA X [e, e2] ta)
    (hs : starEach [e, e2] X.env = (false, eval e X.env) :: starEach [e2] X.env := by rfl) (hpl : (backTo pos (starEach [e2] X.env)).any (·.1) = false := by rfl) :
    PI X (.Tuple elts kk tpos) (.Call (.Name "zip" p) [e, e2] [] pos) (iZipT X.K ta) := by
  refine ⟨fun pins s σ H R I h => ?_⟩
  refine Call_ (ld_blt I hg hm PyProof.Rows.boot_zip (PyProof.Rows.callWith_type1 (thn (ha.run pos pins s σ H _ I h) fun us s1 ⟨vs, H1, I1, r1, q1⟩ => ?_) hs hpl))
  obtain ⟨a, b, xs, ys, ex, hqx, hqy, q⟩ := q1
  subst ex
  cases r1 with
  | cons r rr =>
    cases rr with
    | cons r' rr =>
      cases rr
      cases r
      cases r'
      obtain ⟨its, rv, p1, _⟩ := I1.tuple hqx
      obtain ⟨its2, rv2, p2, _⟩ := I1.tuple hqy
      have la : a < s1.heap.objs.size := by obtain ⟨_, e1, _⟩ := p1; exact Heap.lt_size e1
      have lb : b < s1.heap.objs.size := by obtain ⟨_, e1, _⟩ := p2; exact Heap.lt_size e1
      refine zip_begins2 (begins_tuple a its.toArray) (begins_tuple b its2.toArray) p1 p2 fun h' hz hTI hTO h1 h2 hsz hk => wpAny_pyIter_zip hz ?_
      have I2 : Inv X pins σ H1 { s1 with heap := h' } := I1.kept (t' := s1.toks) hk
      refine ⟨s1.heap.objs.size + 4, [s1.heap.objs.size + 4, s1.heap.objs.size + 2, s1.heap.objs.size + 3, s1.heap.objs.size, s1.heap.objs.size + 1], _, _, H1, rfl, I2, turn_zipT (zip_sep2 (fp1 := [a]) (fp2 := [b]) (by simpa using la) (by simpa using lb)) (Nat.ne_of_lt la) (Nat.ne_of_lt (Nat.lt_succ_of_lt lb)), ⟨hz, hTI, ⟨_, _, hTO⟩, ⟨_, h1, rfl, rfl⟩, ⟨_, h2, rfl, rfl⟩⟩, fun c hcm => ?_, q⟩
      have e' : c = s1.heap.objs.size + 4 ∨ c = s1.heap.objs.size + 2 ∨ c = s1.heap.objs.size + 3 ∨ c = s1.heap.objs.size ∨ c = s1.heap.objs.size + 1 := by simpa using hcm
      have hle : s1.heap.objs.size ≤ c := by
        rcases e' with z | z | z | z | z
        · rw [z]; exact Nat.le_add_right _ _
        · rw [z]; exact Nat.le_add_right _ _
        · rw [z]; exact Nat.le_add_right _ _
        · rw [z]; exact Nat.le_refl _
        · rw [z]; exact Nat.le_add_right _ _
      exact I1.fpOk hle (I1.hok.fresh hle)
end Rd
namespace Rd
open PySem L2
theorem pi_zipTk {X : Cx} {K : PySem.W.Frag} {e e2 : Expr} {ta : TA} {p pos tpos : Pos} {elts : List Expr} {kk : Nat} (hK : X.K = K) (hg : Gl X "zip") (hm : X.mg "zip" = none) (ha : PA X [e, e2] ta)
    (hs : starEach [e, e2] X.env = (false, eval e X.env) :: starEach [e2] X.env := by rfl) (hpl : (backTo pos (starEach [e2] X.env)).any (·.1) = false := by rfl) :
    PI X (.Tuple elts kk tpos) (.Call (.Name "zip" p) [e, e2] [] pos) (iZipT K ta) := by subst hK; exact pi_zipT hg hm ha hs hpl
end Rd
/-! Rp: a written tuple of texts of the module -/
namespace Rd
open PySem L2
def strsB : List Value → List Str → Bool
  | [], [] => true
  | .str z _ :: r, x :: s => decide (z = x) && strsB r s
  | _, _ => false
def ktB (K : PySem.W.Frag) (a : Addr) (xs : List Str) : Bool := match K.lookup a with
  | some ⟨.type "tuple", _, .seq its _, _⟩ => strsB its.toList xs && decide (its.size ≤ sizeLine)
  | _ => false
theorem strsB_ok : ∀ {us : List Value} {xs : List Str}, strsB us xs = true → Vals (xs.map V.str) us
  | [], [], _ => .nil
  | .str z t :: r, x :: s, h => by
    obtain ⟨h1, h2⟩ := He.ba h
    cases of_decide_eq_true h1
    exact .cons ⟨t, rfl⟩ (strsB_ok h2)
structure Ktu (K : PySem.W.Frag) (mg : Str → Option Value) (x : Str) (xs : List Str) : Prop where
  g : mg x = some (.ref (He.ga K x))
  tp : ∀ H, SqT K H (He.ga K x) (xs.map V.str)
theorem ktB_ok {K : PySem.W.Frag} {mg : Str → Option Value} {x : Str} {xs : List Str} (g : mg x = some (.ref (He.ga K x))) (h : ktB K (He.ga K x) xs = true) : Ktu K mg x xs := by
  refine ⟨g, fun H => .inr ?_⟩
  unfold ktB at h
  split at h
  · rename_i d its n sl e
    obtain ⟨h1, h2⟩ := He.ba h
    exact ⟨_, its, n, e, rfl, rfl, of_decide_eq_true h2, strsB_ok h1⟩
  · cases h
theorem pe_ktk {X : Cx} {K : PySem.W.Frag} {x : Str} {xs : List Str} {pos : Pos} (hK : X.K = K) (D : Ktu X.K X.mg x xs) (hg : Gl X x := by rfl) (hd : (x == ("__debug__" : Str)) = false := by decide) : PE X (.Name x pos) (tC (.ref (He.ga K x))) := by subst hK; exact pe_glob hg D.g rfl hd
end Rd
/-! Rq: list.extend by a tuple -/
namespace PySem
namespace AutoSeq1
theorem extend_list_tupleG (l : Addr) (items : Array Value) (n : Nat) (b : Addr) (dc : Option Addr) (sl : Array (Option Value)) (items2 : Array Value) (n2 : Nat) (hs0 : ¬(!items.isEmpty && Builtin.List.listTooLong (items.size + items2.size)) = true) (hs1 : items.size ≤ sizeLine) (hs2 : items.size + items2.size ≤ sizeLine + 1) :
    Meets (Builtin.«list.extend» ⟨[.ref l, .ref b], []⟩) (fun _ R s => s.heap.get? l = some { cls := .type "list", dict := none, data := .seq items n, slots := #[] } ∧ s.heap.get? b = some { cls := .type "tuple", dict := dc, data := .seq items2 n2, slots := sl } ∧ R (.ok (.ret Value.none)) { s with heap := s.heap.update l (Obj.mapSeq fun x => x ++ items2), toks := s.toks }) :=
  .of_wp fun prog w A R s h => by
    obtain ⟨hp, g, d, tk, os⟩ := s; obtain ⟨hl, hb, h⟩ := h; have f1 := idx_int; have f2 := sub_tuple_tuple; have f3 := sub_list_list; have f4 := sub_tuple_list; have f5 := sub_list_tuple;
    have hz' : (items ++ items2).size ≤ sizeLine + 1 := by rw [Array.size_append]; exact hs2
    wp_walk using (wpAny_updateSeq hl rfl (hz := hs1) (_hz' := hz')), wpAny_loadPart' hl, wpAny_loadPart' hb; exact ⟨_, rfl, h⟩
end AutoSeq1
end PySem
namespace Rd
open PySem PySem.Spec PyProof.Rows L2
section
variable {X : Cx}
def rExtT (K : PySem.W.Frag) : V → List V → Hp → VK → Prop := fun x vs H Q => ∃ l b xs zs, x = .ref l ∧ vs = [.ref b] ∧ H l = some (.lst xs) ∧ SqT K H b zs ∧ xs.length + zs.length ≤ sizeLine ∧ Q .non (L2.upd H l (.lst (xs ++ zs)))
theorem mt_extT : MtM X "list.extend" (rExtT X.K) := by
  intro pins s σ H x vs v us Q I rx rv h
  obtain ⟨l, b, xs, zs, rfl, rfl, hH, hB, hz, q⟩ := h
  cases rx
  obtain ⟨u, rfl, ru⟩ := rv.one
  cases ru
  obtain ⟨z, its, n, r, hl, e⟩ := I.lstM hH
  obtain ⟨its2, r2, ⟨⟨c2, d2, dt2, sl2⟩, e2, ec, n2, ed⟩, z2⟩ := I.tuple hB
  cases ec
  cases ed
  have hl2 := r2.length
  have hsz : its.toArray.size + its2.toArray.size ≤ sizeLine := by rw [List.size_toArray, List.size_toArray]; omega
  have hlong : ¬ (!its.toArray.isEmpty && Builtin.List.listTooLong (its.toArray.size + its2.toArray.size)) = true := by
    rw [notLongL hsz, Bool.and_false]
    exact Bool.false_ne_true
  refine call_meets F.slot_list_extend ⟨_, e, rfl⟩ F.entry_list_extend (F.args_list_extend_2 _ _)
    (AutoSeq1.extend_list_tupleG l its.toArray n b d2 sl2 its2.toArray n2 hlong (by rw [List.size_toArray]; omega) (by omega)) ⟨e, e2, ?_⟩
  refine ⟨.non, _, I.lset (its' := its ++ its2) hH e (by simp) (r.append r2) ?_, rfl, q⟩
  rw [List.length_append]
  omega
end
end Rd
/-! Rr: an own operator whose right operand is an instance of another own class -/
namespace PySem.W
open Lean Elab Tactic Meta PySem PySem.Calls PyProof.Rows
section
variable {prog : Program} {w : World} {M : Model} {A : Around} {E : Value → Shared → Prop} {s : Shared} {K : Frag} {x C D L f f' : Addr} {h₀ : Heap} {m : Str → Option Value} {ox : Obj} {od : Option Obj}
theorem ksp_binD {op : Operator} {b : Value} {Q : Value → Shared → Prop} (F : Fr h₀ L s.heap m) (X₀ : K.In h₀) (I : InstAt s.heap x ox C od) (hb : Looks (model prog w) s.heap (typeOf b) (.ref D)) (hc : selfFirst K C = true) (hc' : selfFirst K D = true) (hne : C ≠ D)
    (hs : findIn K (.ref C) (PySem.dunder op.info.2) = some (some (.ref f))) (hf : isFn K (.ref f) = true) (hr : findIn K (.ref C) (dunderR op.info.2) = some none)
    (h1 : findIn K (.ref D) (PySem.dunder op.info.2) = some (some (.ref f'))) (h2 : findIn K (.ref D) (dunderR op.info.2) = some none) (hsub : subIn K (.ref D) (.ref C) = some false)
    (h : wpAny (model prog w) A (call (.ref f) [.ref x, b]) (CmpBack Q) E s) : wpAny (model prog w) A (binaryOp op (.ref x) b) Q E s := by
  have X := X₀.keeps F.keep
  obtain ⟨cd, rest, hcd, hm⟩ := ksp_first hc
  obtain ⟨cd', rest', hcd', hm'⟩ := ksp_first hc'
  rcases hi : op.info with ⟨sym, nm'⟩
  rw [hi] at hs hr h1 h2
  dsimp only at hs hr h1 h2
  have one := ksp_try X I hs hf h
  obtain ⟨hh, g, d, tt, os⟩ := s
  have L1 : Looks (model prog w) hh (typeOf (.ref x)) (.ref C) := I.type
  have L2 : Looks (model prog w) hh (typeOf b) (.ref D) := hb
  have L3 : Looks (model prog w) hh (fillsNumberSlot (.ref C) nm') true := fills_K X hcd hm hs
  have L4 : Looks (model prog w) hh (fillsNumberSlot (.ref D) nm') true := fills_K X hcd' hm' h1
  have L5 : Looks (model prog w) hh (isSubtype (.ref D) (.ref C)) false := looks_subIn X hsub
  have L6 : Looks (model prog w) hh (numberSlotInPython (.ref C) nm') true := ksp_inPy X hs hr (.inl rfl)
  have L7 : Looks (model prog w) hh (numberSlotInPython (.ref D) nm') true := ksp_inPy X h1 h2 (.inl rfl)
  have hne' : (Value.ref C == Value.ref D) = false := Bool.eq_false_iff.mpr fun q => hne (by cases beq_iff_eq.mp q; rfl)
  simp only [binaryOp, hi]
  refine wpAny_holding (wpAny_bind ?_)
  unfold binaryOp1
  refine wpAny_bind (L1.at (wpAny_bind (L2.at (wpAny_bind (L3.at ?_)))))
  simp only [hne', Bool.false_eq_true, if_false]
  ksp_lk
  refine wpAny_mono one (fun r s' hr' => ?_) fun _ _ e => e
  obtain ⟨v, rfl, hq⟩ := hr'
  ksp_lk
  exact hq
end
end PySem.W
namespace Rd
open PySem L2
structure BoD (K : PySem.W.Frag) (c d : Str) (m r : Str) : Prop where
  ne : He.ga K c ≠ He.ga K d
  rc : PySem.W.findIn K (.ref (He.ga K c)) r = some none
  rd : PySem.W.findIn K (.ref (He.ga K d)) r = some none
  sub : PySem.W.subIn K (.ref (He.ga K d)) (.ref (He.ga K c)) = some false
def noneB : Option (Option Value) → Bool
  | some none => true
  | _ => false
theorem noneB_ok {o : Option (Option Value)} (h : noneB o = true) : o = some none := by
  unfold noneB at h
  split at h
  · rfl
  · cases h
def boB (K : PySem.W.Frag) (c d r : Str) : Bool := decide (He.ga K c ≠ He.ga K d) && (noneB (PySem.W.findIn K (.ref (He.ga K c)) r) && (noneB (PySem.W.findIn K (.ref (He.ga K d)) r) && decide (PySem.W.subIn K (.ref (He.ga K d)) (.ref (He.ga K c)) = some false)))
theorem boB_ok {K : PySem.W.Frag} {c d m r : Str} (h : boB K c d r = true) : BoD K c d m r := by
  obtain ⟨h1, h⟩ := He.ba h
  obtain ⟨h2, h⟩ := He.ba h
  obtain ⟨h3, h4⟩ := He.ba h
  exact ⟨of_decide_eq_true h1, noneB_ok h2, noneB_ok h3, of_decide_eq_true h4⟩
def tBoD (C D : Addr) (sp : Sp) (E : St → XK) (ta tb : TE) : TE := fun σ H Q => ta σ H fun x H1 => tb σ H1 fun y H2 => ∃ a b dx dy fs gs, x = .ref a ∧ y = .ref b ∧ H2 a = some (.ins C dx fs) ∧ H2 b = some (.ins D dy gs) ∧ sp [.ref a, .ref b] H2 Q (E σ)
section
variable {X : Cx} {CX CX' : CXT} {k k' : Nat} {ps ps' : List Str} {sp sp' : Sp} {E : St → XK} {c d m r : Str} {pos : Pos} {a b : Expr} {ta tb : TE}
theorem pe_boD {op : Operator} (ha : PE X a ta) (hb : PE X b tb) (sf : PySem.W.selfFirst X.K (He.ga X.K c) = true) (sf' : PySem.W.selfFirst X.K (He.ga X.K d) = true) (B : BoD X.K c d m r) (F : Fm X.prog X.w X.K X.mg X.base CX k c m ps sp) (F' : Fm X.prog X.w X.K X.mg X.base CX' k' d m ps' sp') (hr : Room k X.A) (hx : ∀ σ, PassesAt CX X σ (E σ)) (hm : PySem.dunder op.info.2 = m := by decide +kernel) (hm' : dunderR op.info.2 = r := by decide +kernel) :
    PE X (.BinOp a op b pos) (tBoD (He.ga X.K c) (He.ga X.K d) sp E ta tb) := by
  obtain ⟨⟨fd, f1, b1⟩, me⟩ := F
  obtain ⟨_, me'⟩ := F'
  refine ⟨fun pins s σ H Q I h => ?_⟩
  refine wpAny_BinOp (binT ha hb I h fun v u s2 x y H2 I2 rx ry q => ?_)
  obtain ⟨p, r, dx, dy, fs, gs, rfl, rfl, hp, hr2, q⟩ := q
  cases rx
  cases ry
  obtain ⟨mA, J, _⟩ := ins_get I2.hok hp
  obtain ⟨mB, J', _⟩ := ins_get I2.hok hr2
  obtain ⟨od, J, _⟩ := J.look
  obtain ⟨od', J', _⟩ := J'.look
  obtain ⟨mm, hF⟩ := I2.fr
  refine PySem.W.ksp_binD hF I2.ok.mod.kin J J'.type sf sf' B.ne (by rw [hm]; exact me.at_) me.fn (by rw [hm']; exact B.rc) (by rw [hm]; exact me'.at_) (by rw [hm']; exact B.rd) B.sub (thn (run_fnS (vs := [.ref p, .ref r]) (E := E) f1 hr b1 (hx σ) I2 (.cons rfl (.cons rfl .nil)) q) fun v s' hq => back_of hq)
end
end Rd
namespace Rd
open PySem L2
/-! ### properties -/
def pfn (K : PySem.W.Frag) (c m : Str) : Addr := He5.wf K (He.ga K c) "property" m
structure Ph (K : PySem.W.Frag) (c m q : Str) (st : Stmt) : Prop where
  ex : ∃ fd, FunD K m q (defArgs st) (defBody st) (defScope st) [] [] (pfn K c m) fd
  pr : PropOf K (He.ga K c) m (He.ma K (He.ga K c) m) (pfn K c m)
def propB (K : PySem.W.Frag) (c m : Str) : Bool := He.eqO (PySem.W.findIn K (.ref (He.ga K c)) m) (some (some (.ref (He.ma K (He.ga K c) m)))) && (He.eqO (PySem.W.specialIn K (.ref (He.ma K (He.ga K c) m)) "__get__") (some (some (.builtin "property.__get__"))) &&
  (decide (PySem.W.takesIn K (.ref (He.ma K (He.ga K c) m)) = some true) && (match PySem.W.recIn K (He.ma K (He.ga K c) m) "property" with
    | some (.ref _ :: _) => true
    | _ => false)))
theorem ph_ok {K : PySem.W.Frag} {c m q : Str} {st : Stmt} (ex : ∃ fd, FunD K m q (defArgs st) (defBody st) (defScope st) [] [] (pfn K c m) fd) (h : propB K c m = true) : Ph K c m q st := by
  obtain ⟨h1, h⟩ := He.ba h
  obtain ⟨h2, h⟩ := He.ba h
  obtain ⟨h3, h4⟩ := He.ba h
  refine ⟨ex, He.eqO_ok h1, He.eqO_ok h2, of_decide_eq_true h3, ?_⟩
  unfold pfn He5.wf
  split at h4
  · rename_i f r e
    rw [e]
    exact ⟨_, rfl⟩
  · cases h4
structure Fp (P : Program) (w : World) (K : PySem.W.Frag) (mg : Str → Option Value) (base : Heap) (CX : CXT) (k : Nat) (c m : Str) (ps : List Str) (sp : Sp) : Prop where
  ex : ∃ fd, FnOk P w K mg base CX k (pfn K c m) fd ps sp ∧ Binds K fd ps []
  pr : PropOf K (He.ga K c) m (He.ma K (He.ga K c) m) (pfn K c m)
section
variable {P : Program} {w : World} {K : PySem.W.Frag} {mg : Str → Option Value} {base : Heap} {k : Nat} {c m q : Str} {ps N : List Str} {sp : Sp} {st : Stmt}
theorem Ph.ok0 (F : Ph K c m q st) (S : FnScope N ps (defScope st))
    (hb : ∀ (kV doc pm : Value) (an : Option Addr) (cdv ct : Value) (us : List Value), us.length = ps.length → bindArgs (PySem.W.fnOf m q (defArgs st) (defBody st) (defScope st) .none kV doc pm an cdv ct) ⟨us, []⟩ = pure (ps.zip us))
    (len : ∀ vs H Q E, sp vs H Q E → vs.length = ps.length)
    (hbody : ∀ (cdv : Value) (A : Around) (outer : List Env) (s : Shared) (H : Hp) (vs : List V) (Q : VK) (E : XK), Room k (A.deeper (PyProof.Rows.envOfC q (defScope st) s.heap.objs.size (pfn K c m) cdv)) → sp vs H Q E →
      ∃ t, PSs (cxOf CX0 P w K mg base N q (defScope st) (pfn K c m) cdv A outer s H E).nox (defBody st) t ∧ t { nx := fun _ H' => Q .non H', rt := Q } (start N vs) H) : Fp P w K mg base CX0 (k + 1) c m ps sp := by
  obtain ⟨fd, F'⟩ := F.ex
  refine ⟨⟨fd, F'.ok S len fun cdv A outer s H vs Q E hr h => ?_, F'.bindsN hb⟩, F.pr⟩
  obtain ⟨t, h1, h2⟩ := hbody cdv A outer s H vs Q E hr h
  exact ⟨t, h1.nox, h2⟩
end
section
variable {X : Cx} {K : PySem.W.Frag} {CX : CXT} {k : Nat} {ps : List Str} {sp : Sp} {E : XK} {c f : Str} {pos : Pos} {e : Expr} {ta : TE}
theorem pe_fp (hK : X.K = K) (he : PE X e ta) (cl : Cls X.K (He.ga X.K c)) (F : Fp X.prog X.w X.K X.mg X.base CX k c f ps sp) (hr : Room (k + 1) X.A) (hx : Passes CX X.nox E)
    (hab : attributeBase e f X.env (eval e X.env) = eval e X.env := by rfl) : PE X (.Attribute e f pos) (tProp (He.ga K c) sp [] E ta) := by
  subst hK
  obtain ⟨⟨fd, a, b⟩, pr⟩ := F
  exact pe_prop he cl pr a hr b .nil hx hab
end
end Rd
namespace Rd
open PySem PySem.Spec PyProof.Rows L2
theorem pi_listk {X : Cx} {K : PySem.W.Frag} {tg l : Expr} {tl : TE} (hK : X.K = K) (hl : PE X l tl) : PI X tg l (iList K tl) := by subst hK; exact pi_list hl
theorem cr_lenSS {X : Cx} {w : World} (hw : X.w = w) : CallR X (.builtin "len") (rLenSS w) := by
  subst hw
  intro pins s σ H vs us Q I r h
  obtain ⟨a, l, rfl, ha, q⟩ := h
  rw [Vals.ref1 r]
  obtain ⟨nd, o, es, ep, t, ho, hex, hd, g, pm, tb⟩ := setSO_get I ha
  have e : es.size = l.length := by
    have := pm.length_eq
    rw [List.length_map] at this
    simpa using this
  have hs := tb.sm
  have hb : scanBound ≤ 2 ^ 62 := by decide
  refine call_len_set ho hex hd tb.ft (by omega) ?_
  rw [e]
  exact ⟨.int l.length, H, (I.tok _).tok _, ⟨_, rfl⟩, q⟩
end Rd
namespace Rd
open PySem L2
def top (i : Nat) : Stmt := PySem.Challenge.pw_openroads_k16_books_kept.main.body.getD i (.Pass ⟨0, 0, 0, 0⟩)
structure Tx (w : World) (K : PySem.W.Frag) (mg : Str → Option Value) : Prop where
  z_len : mg "len" = none
  z_all : mg "all" = none
  z_any : mg "any" = none
  z_abs : mg "abs" = none
  z_int : mg "int" = none
  z_list : mg "list" = none
  z_tuple : mg "tuple" = none
  z_range : mg "range" = none
  z_max : mg "max" = none
  z_min : mg "min" = none
  z_isinstance : mg "isinstance" = none
  z_sorted : mg "sorted" = none
  z_str : mg "str" = none
  z_set : mg "set" = none
  z_dict : mg "dict" = none
  z_enumerate : mg "enumerate" = none
  z_zip : mg "zip" = none
  z_ValueError : mg "ValueError" = none
  z_NotImplemented : mg "NotImplemented" = none
  z_sum : mg "sum" = none
  z_bool : mg "bool" = none
  c_SMALL : ∃ t, mg "SMALL" = some (.str "abcdefghijklmnopqrstuvwxyz" t)
  c_GREAT : ∃ t, mg "GREAT" = some (.str "ABCDEFGHIJKLMNOPQRSTUVWXYZ" t)
  c_DIGITS : ∃ t, mg "DIGITS" = some (.str "0123456789" t)
  D_SIGNS : Kd w K mg "SIGNS" [("pair", 2), ("seal", 2), ("lock", 2), ("mark", 1), ("open", 1), ("own", 1)]
  U_MAKEABLE : Ktu K mg "MAKEABLE" ["pair", "seal", "lock", "mark", "open"]
  U_SHUT : Ktu K mg "SHUT" ["seal", "lock"]
  F_is_word : Fh K mg "is_word" (top 15)
  F_is_unknown : Fh K mg "is_unknown" (top 16)
  F_is_name : Fh K mg "is_name" (top 17)
  F_atom_tree : Fh K mg "atom_tree" (top 18)
  F_is_atom_form : Fh K mg "is_atom_form" (top 19)
  F_check_form : Fh K mg "check_form" (top 20)
  F_parts_of : Fh K mg "parts_of" (top 21)
  F_atoms_of : Fh K mg "atoms_of" (top 22)
  F_tree_text : Fh K mg "tree_text" (top 23)
  F_made_tree : Fh K mg "made_tree" (top 24)
  F_is_plain : Fh K mg "is_plain" (top 27)
  F_has_digits : Fh K mg "has_digits" (top 28)
  F_partner : Fh K mg "partner" (top 32)
  F_undoing_key : Fh K mg "undoing_key" (top 33)
  F_is_made : Fh K mg "is_made" (top 34)
  F_halves_of : Fh K mg "halves_of" (top 35)
  F_opened_parts : Fh K mg "opened_parts" (top 36)
  F_are_unlike : Fh K mg "are_unlike" (top 38)
  F_is_fresh : Fh K mg "is_fresh" (top 39)
  F_check_role : Fh K mg "check_role" (top 40)
  F_is_seen_through : Fh K mg "is_seen_through" (top 41)
  F_check_fit : Fh K mg "check_fit" (top 42)
  F__law_stream : Fh K mg "_law_stream" (top 46)
  F__law_draw : Fh K mg "_law_draw" (top 47)
  F__law_pick : Fh K mg "_law_pick" (top 48)
  F__law_letter : Fh K mg "_law_letter" (top 49)
  F__law_parts : Fh K mg "_law_parts" (top 50)
  F__law_built : Fh K mg "_law_built" (top 51)
  F__law_wanted : Fh K mg "_law_wanted" (top 52)
  F__law_fit_role : Fh K mg "_law_fit_role" (top 53)
  F__law_small : Fh K mg "_law_small" (top 54)
  F__law_role : Fh K mg "_law_role" (top 55)
  F__law_told : Fh K mg "_law_told" (top 56)
  F__law_tried : Fh K mg "_law_tried" (top 57)
  g_RoadError : mg "RoadError" = some (.ref (He.ga K "RoadError"))
  r_RoadError : REx K (He.ga K "RoadError")
  X_BadAtom : Xh K mg "BadAtom" "text" "BadAtom.__init__" (inClass (top 3) 0)
  X_BadForm : Xh K mg "BadForm" "path" "BadForm.__init__" (inClass (top 4) 0)
  X_BadKey : Xh K mg "BadKey" "key" "BadKey.__init__" (inClass (top 5) 0)
  X_BadText : Xh K mg "BadText" "line" "BadText.__init__" (inClass (top 6) 0)
  X_BadRole : Xh K mg "BadRole" "field" "BadRole.__init__" (inClass (top 7) 0)
  X_NotFit : Xh K mg "NotFit" "index" "NotFit.__init__" (inClass (top 8) 0)
  X_BadBook : Xh K mg "BadBook" "field" "BadBook.__init__" (inClass (top 9) 0)
  f_Reader : PySem.W.selfFirst K (He.ga K "Reader") = true
  Y_Reader : IsiC K (He.ga K "Reader")
  k_Reader : Cls K (He.ga K "Reader")
  g_Reader : mg "Reader" = some (.ref (He.ga K "Reader"))
  n_Reader_signs : NoAttr K (He.ga K "Reader") "signs"
  n_Reader_at : NoAttr K (He.ga K "Reader") "at"
  n_Reader_begun : NoAttr K (He.ga K "Reader") "begun"
  J_Reader : Mk K (He.ga K "Reader") (He.ma K (He.ga K "Reader") "__init__")
  M_Reader_init : Mh K "Reader" "__init__" "Reader.__init__" (inClass (top 25) 0)
  M_Reader_takes : Mh K "Reader" "takes" "Reader.takes" (inClass (top 25) 1)
  M_Reader_word_here : Mh K "Reader" "word_here" "Reader.word_here" (inClass (top 25) 2)
  M_Reader_next_atom : Mh K "Reader" "next_atom" "Reader.next_atom" (inClass (top 25) 3)
  M_Reader_closed : Mh K "Reader" "closed" "Reader.closed" (inClass (top 25) 4)
  M_Reader_whole : Mh K "Reader" "whole" "Reader.whole" (inClass (top 25) 5)
  f_Letter : PySem.W.selfFirst K (He.ga K "Letter") = true
  Y_Letter : IsiC K (He.ga K "Letter")
  k_Letter : Cls K (He.ga K "Letter")
  g_Letter : mg "Letter" = some (.ref (He.ga K "Letter"))
  n_Letter_tree : NoAttr K (He.ga K "Letter") "tree"
  I_Letter : Ih K mg "Letter" "Letter.__init__" (inClass (top 26) 0) [.non]
  S_Letter_of : Sh K mg "Letter" "of" "Letter.of" (inClass (top 26) 1)
  S_Letter_read : Sh K mg "Letter" "read" "Letter.read" (inClass (top 26) 2)
  M_Letter_form : Mh K "Letter" "form" "Letter.form" (inClass (top 26) 3)
  M_Letter_written : Mh K "Letter" "written" "Letter.written" (inClass (top 26) 4)
  M_Letter_unknowns : Mh K "Letter" "unknowns" "Letter.unknowns" (inClass (top 26) 5)
  M_Letter_names : Mh K "Letter" "names" "Letter.names" (inClass (top 26) 6)
  M_Letter_add : Mh K "Letter" "__add__" "Letter.__add__" (inClass (top 26) 8)
  M_Letter_mul : Mh K "Letter" "__mul__" "Letter.__mul__" (inClass (top 26) 9)
  M_Letter_xor : Mh K "Letter" "__xor__" "Letter.__xor__" (inClass (top 26) 10)
  M_Letter_invert : Mh K "Letter" "__invert__" "Letter.__invert__" (inClass (top 26) 11)
  M_Letter_pos : Mh K "Letter" "__pos__" "Letter.__pos__" (inClass (top 26) 12)
  M_Letter_neg : Mh K "Letter" "__neg__" "Letter.__neg__" (inClass (top 26) 13)
  M_Letter_eq : Mh K "Letter" "__eq__" "Letter.__eq__" (inClass (top 26) 14)
  M_Letter_lt : Mh K "Letter" "__lt__" "Letter.__lt__" (inClass (top 26) 15)
  M_Letter_le : Mh K "Letter" "__le__" "Letter.__le__" (inClass (top 26) 16)
  M_Letter_gt : Mh K "Letter" "__gt__" "Letter.__gt__" (inClass (top 26) 17)
  M_Letter_ge : Mh K "Letter" "__ge__" "Letter.__ge__" (inClass (top 26) 18)
  M_Letter_contains : Mh K "Letter" "__contains__" "Letter.__contains__" (inClass (top 26) 19)
  M_Letter_len : Mh K "Letter" "__len__" "Letter.__len__" (inClass (top 26) 20)
  f_Role : PySem.W.selfFirst K (He.ga K "Role") = true
  Y_Role : IsiC K (He.ga K "Role")
  k_Role : Cls K (He.ga K "Role")
  g_Role : mg "Role" = some (.ref (He.ga K "Role"))
  n_Role_title : NoAttr K (He.ga K "Role") "title"
  n_Role_kept : NoAttr K (He.ga K "Role") "kept"
  J_Role : Mk K (He.ga K "Role") (He.ma K (He.ga K "Role") "__init__")
  M_Role_init : Mh K "Role" "__init__" "Role.__init__" (inClass (top 43) 0)
  P_Role_params : Ph K "Role" "params" "Role.params" (inClass (top 43) 1)
  P_Role_knows : Ph K "Role" "knows" "Role.knows" (inClass (top 43) 2)
  P_Role_fresh : Ph K "Role" "fresh" "Role.fresh" (inClass (top 43) 3)
  P_Role_rows : Ph K "Role" "rows" "Role.rows" (inClass (top 43) 4)
  f_Book : PySem.W.selfFirst K (He.ga K "Book") = true
  Y_Book : IsiC K (He.ga K "Book")
  k_Book : Cls K (He.ga K "Book")
  g_Book : mg "Book" = some (.ref (He.ga K "Book"))
  n_Book_kept : NoAttr K (He.ga K "Book") "kept"
  J_Book : Mk K (He.ga K "Book") (He.ma K (He.ga K "Book") "__init__")
  M_Book_init : Mh K "Book" "__init__" "Book.__init__" (inClass (top 44) 0)
  P_Book_roles : Ph K "Book" "roles" "Book.roles" (inClass (top 44) 1)
  P_Book_known : Ph K "Book" "known" "Book.known" (inClass (top 44) 2)
  ne_Role : He.ga K "Role" ≠ He.ga K "Letter"
section
set_option maxHeartbeats 0
def d0 : He.DefD := ⟨("is_word", none), "is_word", "is_word", defArgs (top 15), defBody (top 15), defScope (top 15), [], []⟩
def d1 : He.DefD := ⟨("is_unknown", none), "is_unknown", "is_unknown", defArgs (top 16), defBody (top 16), defScope (top 16), [], []⟩
def d2 : He.DefD := ⟨("is_name", none), "is_name", "is_name", defArgs (top 17), defBody (top 17), defScope (top 17), [], []⟩
def d3 : He.DefD := ⟨("atom_tree", none), "atom_tree", "atom_tree", defArgs (top 18), defBody (top 18), defScope (top 18), [], []⟩
def d4 : He.DefD := ⟨("is_atom_form", none), "is_atom_form", "is_atom_form", defArgs (top 19), defBody (top 19), defScope (top 19), [], []⟩
def d5 : He.DefD := ⟨("check_form", none), "check_form", "check_form", defArgs (top 20), defBody (top 20), defScope (top 20), [], []⟩
def d6 : He.DefD := ⟨("parts_of", none), "parts_of", "parts_of", defArgs (top 21), defBody (top 21), defScope (top 21), [], []⟩
def d7 : He.DefD := ⟨("atoms_of", none), "atoms_of", "atoms_of", defArgs (top 22), defBody (top 22), defScope (top 22), [], []⟩
def d8 : He.DefD := ⟨("tree_text", none), "tree_text", "tree_text", defArgs (top 23), defBody (top 23), defScope (top 23), [], []⟩
def d9 : He.DefD := ⟨("made_tree", none), "made_tree", "made_tree", defArgs (top 24), defBody (top 24), defScope (top 24), [], []⟩
def d10 : He.DefD := ⟨("is_plain", none), "is_plain", "is_plain", defArgs (top 27), defBody (top 27), defScope (top 27), [], []⟩
def d11 : He.DefD := ⟨("has_digits", none), "has_digits", "has_digits", defArgs (top 28), defBody (top 28), defScope (top 28), [], []⟩
def d12 : He.DefD := ⟨("partner", none), "partner", "partner", defArgs (top 32), defBody (top 32), defScope (top 32), [], []⟩
def d13 : He.DefD := ⟨("undoing_key", none), "undoing_key", "undoing_key", defArgs (top 33), defBody (top 33), defScope (top 33), [], []⟩
def d14 : He.DefD := ⟨("is_made", none), "is_made", "is_made", defArgs (top 34), defBody (top 34), defScope (top 34), [], []⟩
def d15 : He.DefD := ⟨("halves_of", none), "halves_of", "halves_of", defArgs (top 35), defBody (top 35), defScope (top 35), [], []⟩
def d16 : He.DefD := ⟨("opened_parts", none), "opened_parts", "opened_parts", defArgs (top 36), defBody (top 36), defScope (top 36), [], []⟩
def d17 : He.DefD := ⟨("are_unlike", none), "are_unlike", "are_unlike", defArgs (top 38), defBody (top 38), defScope (top 38), [], []⟩
def d18 : He.DefD := ⟨("is_fresh", none), "is_fresh", "is_fresh", defArgs (top 39), defBody (top 39), defScope (top 39), [], []⟩
def d19 : He.DefD := ⟨("check_role", none), "check_role", "check_role", defArgs (top 40), defBody (top 40), defScope (top 40), [], []⟩
def d20 : He.DefD := ⟨("is_seen_through", none), "is_seen_through", "is_seen_through", defArgs (top 41), defBody (top 41), defScope (top 41), [], []⟩
def d21 : He.DefD := ⟨("check_fit", none), "check_fit", "check_fit", defArgs (top 42), defBody (top 42), defScope (top 42), [], []⟩
def d22 : He.DefD := ⟨("_law_stream", none), "_law_stream", "_law_stream", defArgs (top 46), defBody (top 46), defScope (top 46), [], []⟩
def d23 : He.DefD := ⟨("_law_draw", none), "_law_draw", "_law_draw", defArgs (top 47), defBody (top 47), defScope (top 47), [], []⟩
def d24 : He.DefD := ⟨("_law_pick", none), "_law_pick", "_law_pick", defArgs (top 48), defBody (top 48), defScope (top 48), [], []⟩
def d25 : He.DefD := ⟨("_law_letter", none), "_law_letter", "_law_letter", defArgs (top 49), defBody (top 49), defScope (top 49), [], []⟩
def d26 : He.DefD := ⟨("_law_parts", none), "_law_parts", "_law_parts", defArgs (top 50), defBody (top 50), defScope (top 50), [], []⟩
def d27 : He.DefD := ⟨("_law_built", none), "_law_built", "_law_built", defArgs (top 51), defBody (top 51), defScope (top 51), [], []⟩
def d28 : He.DefD := ⟨("_law_wanted", none), "_law_wanted", "_law_wanted", defArgs (top 52), defBody (top 52), defScope (top 52), [], []⟩
def d29 : He.DefD := ⟨("_law_fit_role", none), "_law_fit_role", "_law_fit_role", defArgs (top 53), defBody (top 53), defScope (top 53), [], []⟩
def d30 : He.DefD := ⟨("_law_small", none), "_law_small", "_law_small", defArgs (top 54), defBody (top 54), defScope (top 54), [], []⟩
def d31 : He.DefD := ⟨("_law_role", none), "_law_role", "_law_role", defArgs (top 55), defBody (top 55), defScope (top 55), [], []⟩
def d32 : He.DefD := ⟨("_law_told", none), "_law_told", "_law_told", defArgs (top 56), defBody (top 56), defScope (top 56), [], []⟩
def d33 : He.DefD := ⟨("_law_tried", none), "_law_tried", "_law_tried", defArgs (top 57), defBody (top 57), defScope (top 57), [], []⟩
def d34 : He.DefD := ⟨("law", none), "law", "law", defArgs (top 58), defBody (top 58), defScope (top 58), [], []⟩
def d35 : He.DefD := ⟨("BadAtom", some "__init__"), "__init__", "BadAtom.__init__", defArgs (inClass (top 3) 0), defBody (inClass (top 3) 0), defScope (inClass (top 3) 0), [], []⟩
def d36 : He.DefD := ⟨("BadForm", some "__init__"), "__init__", "BadForm.__init__", defArgs (inClass (top 4) 0), defBody (inClass (top 4) 0), defScope (inClass (top 4) 0), [], []⟩
def d37 : He.DefD := ⟨("BadKey", some "__init__"), "__init__", "BadKey.__init__", defArgs (inClass (top 5) 0), defBody (inClass (top 5) 0), defScope (inClass (top 5) 0), [], []⟩
def d38 : He.DefD := ⟨("BadText", some "__init__"), "__init__", "BadText.__init__", defArgs (inClass (top 6) 0), defBody (inClass (top 6) 0), defScope (inClass (top 6) 0), [], []⟩
def d39 : He.DefD := ⟨("BadRole", some "__init__"), "__init__", "BadRole.__init__", defArgs (inClass (top 7) 0), defBody (inClass (top 7) 0), defScope (inClass (top 7) 0), [], []⟩
def d40 : He.DefD := ⟨("NotFit", some "__init__"), "__init__", "NotFit.__init__", defArgs (inClass (top 8) 0), defBody (inClass (top 8) 0), defScope (inClass (top 8) 0), [], []⟩
def d41 : He.DefD := ⟨("BadBook", some "__init__"), "__init__", "BadBook.__init__", defArgs (inClass (top 9) 0), defBody (inClass (top 9) 0), defScope (inClass (top 9) 0), [], []⟩
def d42 : He.DefD := ⟨("Reader", some "__init__"), "__init__", "Reader.__init__", defArgs (inClass (top 25) 0), defBody (inClass (top 25) 0), defScope (inClass (top 25) 0), [], []⟩
def d43 : He.DefD := ⟨("Reader", some "takes"), "takes", "Reader.takes", defArgs (inClass (top 25) 1), defBody (inClass (top 25) 1), defScope (inClass (top 25) 1), [], []⟩
def d44 : He.DefD := ⟨("Reader", some "word_here"), "word_here", "Reader.word_here", defArgs (inClass (top 25) 2), defBody (inClass (top 25) 2), defScope (inClass (top 25) 2), [], []⟩
def d45 : He.DefD := ⟨("Reader", some "next_atom"), "next_atom", "Reader.next_atom", defArgs (inClass (top 25) 3), defBody (inClass (top 25) 3), defScope (inClass (top 25) 3), [], []⟩
def d46 : He.DefD := ⟨("Reader", some "closed"), "closed", "Reader.closed", defArgs (inClass (top 25) 4), defBody (inClass (top 25) 4), defScope (inClass (top 25) 4), [], []⟩
def d47 : He.DefD := ⟨("Reader", some "whole"), "whole", "Reader.whole", defArgs (inClass (top 25) 5), defBody (inClass (top 25) 5), defScope (inClass (top 25) 5), [], []⟩
def d48 : He.DefD := ⟨("Letter", some "__init__"), "__init__", "Letter.__init__", defArgs (inClass (top 26) 0), defBody (inClass (top 26) 0), defScope (inClass (top 26) 0), [.non], []⟩
def d49 : He.DefD := ⟨("Letter", some "form"), "form", "Letter.form", defArgs (inClass (top 26) 3), defBody (inClass (top 26) 3), defScope (inClass (top 26) 3), [], []⟩
def d50 : He.DefD := ⟨("Letter", some "written"), "written", "Letter.written", defArgs (inClass (top 26) 4), defBody (inClass (top 26) 4), defScope (inClass (top 26) 4), [], []⟩
def d51 : He.DefD := ⟨("Letter", some "unknowns"), "unknowns", "Letter.unknowns", defArgs (inClass (top 26) 5), defBody (inClass (top 26) 5), defScope (inClass (top 26) 5), [], []⟩
def d52 : He.DefD := ⟨("Letter", some "names"), "names", "Letter.names", defArgs (inClass (top 26) 6), defBody (inClass (top 26) 6), defScope (inClass (top 26) 6), [], []⟩
def d53 : He.DefD := ⟨("Letter", some "__add__"), "__add__", "Letter.__add__", defArgs (inClass (top 26) 8), defBody (inClass (top 26) 8), defScope (inClass (top 26) 8), [], []⟩
def d54 : He.DefD := ⟨("Letter", some "__mul__"), "__mul__", "Letter.__mul__", defArgs (inClass (top 26) 9), defBody (inClass (top 26) 9), defScope (inClass (top 26) 9), [], []⟩
def d55 : He.DefD := ⟨("Letter", some "__xor__"), "__xor__", "Letter.__xor__", defArgs (inClass (top 26) 10), defBody (inClass (top 26) 10), defScope (inClass (top 26) 10), [], []⟩
def d56 : He.DefD := ⟨("Letter", some "__invert__"), "__invert__", "Letter.__invert__", defArgs (inClass (top 26) 11), defBody (inClass (top 26) 11), defScope (inClass (top 26) 11), [], []⟩
def d57 : He.DefD := ⟨("Letter", some "__pos__"), "__pos__", "Letter.__pos__", defArgs (inClass (top 26) 12), defBody (inClass (top 26) 12), defScope (inClass (top 26) 12), [], []⟩
def d58 : He.DefD := ⟨("Letter", some "__neg__"), "__neg__", "Letter.__neg__", defArgs (inClass (top 26) 13), defBody (inClass (top 26) 13), defScope (inClass (top 26) 13), [], []⟩
def d59 : He.DefD := ⟨("Letter", some "__eq__"), "__eq__", "Letter.__eq__", defArgs (inClass (top 26) 14), defBody (inClass (top 26) 14), defScope (inClass (top 26) 14), [], []⟩
def d60 : He.DefD := ⟨("Letter", some "__lt__"), "__lt__", "Letter.__lt__", defArgs (inClass (top 26) 15), defBody (inClass (top 26) 15), defScope (inClass (top 26) 15), [], []⟩
def d61 : He.DefD := ⟨("Letter", some "__le__"), "__le__", "Letter.__le__", defArgs (inClass (top 26) 16), defBody (inClass (top 26) 16), defScope (inClass (top 26) 16), [], []⟩
def d62 : He.DefD := ⟨("Letter", some "__gt__"), "__gt__", "Letter.__gt__", defArgs (inClass (top 26) 17), defBody (inClass (top 26) 17), defScope (inClass (top 26) 17), [], []⟩
def d63 : He.DefD := ⟨("Letter", some "__ge__"), "__ge__", "Letter.__ge__", defArgs (inClass (top 26) 18), defBody (inClass (top 26) 18), defScope (inClass (top 26) 18), [], []⟩
def d64 : He.DefD := ⟨("Letter", some "__contains__"), "__contains__", "Letter.__contains__", defArgs (inClass (top 26) 19), defBody (inClass (top 26) 19), defScope (inClass (top 26) 19), [], []⟩
def d65 : He.DefD := ⟨("Letter", some "__len__"), "__len__", "Letter.__len__", defArgs (inClass (top 26) 20), defBody (inClass (top 26) 20), defScope (inClass (top 26) 20), [], []⟩
def d66 : He.DefD := ⟨("Role", some "__init__"), "__init__", "Role.__init__", defArgs (inClass (top 43) 0), defBody (inClass (top 43) 0), defScope (inClass (top 43) 0), [], []⟩
def d67 : He.DefD := ⟨("Book", some "__init__"), "__init__", "Book.__init__", defArgs (inClass (top 44) 0), defBody (inClass (top 44) 0), defScope (inClass (top 44) 0), [], []⟩
def fa0 : List He.Fa := [.free "len", .free "all", .free "any", .free "abs", .free "int", .free "list", .free "tuple", .free "range", .free "max", .free "min", .free "isinstance", .free "sorted", .free "str", .free "set", .free "dict", .free "enumerate", .free "zip", .free "ValueError", .free "NotImplemented", .free "sum", .free "bool", .str "SMALL" "abcdefghijklmnopqrstuvwxyz", .str "GREAT" "ABCDEFGHIJKLMNOPQRSTUVWXYZ", .str "DIGITS" "0123456789", .glo "SIGNS", .glo "MAKEABLE", .glo "SHUT", .glo "is_word", .glo "is_unknown", .glo "is_name"]
def fa1 : List He.Fa := [.glo "atom_tree", .glo "is_atom_form", .glo "check_form", .glo "parts_of", .glo "atoms_of", .glo "tree_text", .glo "made_tree", .glo "is_plain", .glo "has_digits", .glo "partner", .glo "undoing_key", .glo "is_made", .glo "halves_of", .glo "opened_parts", .glo "are_unlike", .glo "is_fresh", .glo "check_role", .glo "is_seen_through", .glo "check_fit", .glo "_law_stream", .glo "_law_draw", .glo "_law_pick", .glo "_law_letter", .glo "_law_parts", .glo "_law_built", .glo "_law_wanted", .glo "_law_fit_role", .glo "_law_small", .glo "_law_role", .glo "_law_told"]
def fa2 : List He.Fa := [.glo "_law_tried", .glo "law", .glo "RoadError", .exm "RoadError" "RoadError" true, .glo "BadAtom", .exm "BadAtom" "BadAtom" true, .meth "BadAtom" "__init__", .noat "BadAtom" "text", .glo "BadForm", .exm "BadForm" "BadForm" true, .meth "BadForm" "__init__", .noat "BadForm" "path", .glo "BadKey", .exm "BadKey" "BadKey" true, .meth "BadKey" "__init__", .noat "BadKey" "key", .glo "BadText", .exm "BadText" "BadText" true, .meth "BadText" "__init__", .noat "BadText" "line", .glo "BadRole", .exm "BadRole" "BadRole" true, .meth "BadRole" "__init__", .noat "BadRole" "field", .glo "NotFit", .exm "NotFit" "NotFit" true, .meth "NotFit" "__init__", .noat "NotFit" "index", .glo "BadBook", .exm "BadBook" "BadBook" true]
def fa3 : List He.Fa := [.meth "BadBook" "__init__", .noat "BadBook" "field", .glo "Reader", .cls "Reader", .noat "Reader" "signs", .noat "Reader" "at", .noat "Reader" "begun", .meth "Reader" "__init__", .mkr "Reader", .meth "Reader" "takes", .meth "Reader" "word_here", .meth "Reader" "next_atom", .meth "Reader" "closed", .meth "Reader" "whole", .glo "Letter", .cls "Letter", .noat "Letter" "tree", .meth "Letter" "__init__", .mkr "Letter", .meth "Letter" "form", .meth "Letter" "written", .meth "Letter" "unknowns", .meth "Letter" "names", .meth "Letter" "__add__", .meth "Letter" "__mul__", .meth "Letter" "__xor__", .meth "Letter" "__invert__", .meth "Letter" "__pos__", .meth "Letter" "__neg__", .meth "Letter" "__eq__"]
def fa4 : List He.Fa := [.meth "Letter" "__lt__", .meth "Letter" "__le__", .meth "Letter" "__gt__", .meth "Letter" "__ge__", .meth "Letter" "__contains__", .meth "Letter" "__len__", .glo "Role", .cls "Role", .noat "Role" "title", .noat "Role" "kept", .meth "Role" "__init__", .mkr "Role", .glo "Book", .cls "Book", .noat "Book" "kept", .meth "Book" "__init__", .mkr "Book"]
def fa : List He.Fa := fa0 ++ fa1 ++ fa2 ++ fa3 ++ fa4
def fn0 : List He.DefD := [d0, d1, d2, d3, d4, d5, d6, d7, d8, d9, d10, d11, d12, d13, d14, d15, d16, d17, d18, d19, d20, d21, d22, d23, d24, d25, d26, d27, d28, d29]
def fn1 : List He.DefD := [d30, d31, d32, d33, d34, d35, d36, d37, d38, d39, d40, d41, d42, d43, d44, d45, d46, d47, d48, d49, d50, d51, d52, d53, d54, d55, d56, d57, d58, d59]
def fn2 : List He.DefD := [d60, d61, d62, d63, d64, d65, d66, d67]
def fn : List He.DefD := fn0 ++ fn1 ++ fn2
def loo0 : List PySem.Str := ["_wall", "RoadError", "BadAtom", "BadForm", "BadKey", "BadText", "BadRole", "NotFit", "BadBook", "SMALL", "GREAT", "DIGITS", "SIGNS", "is_word", "is_unknown", "is_name", "atom_tree", "is_atom_form", "check_form", "parts_of", "atoms_of", "tree_text", "made_tree", "Reader", "Letter", "is_plain", "has_digits", "MAKEABLE", "SHUT", "partner"]
def loo1 : List PySem.Str := ["undoing_key", "is_made", "halves_of", "opened_parts", "are_unlike", "is_fresh", "check_role", "is_seen_through", "check_fit", "Role", "Book", "_law_stream", "_law_draw", "_law_pick", "_law_letter", "_law_parts", "_law_built", "_law_wanted", "_law_fit_role", "_law_small", "_law_role", "_law_told", "_law_tried"]
def loo : List PySem.Str := loo0 ++ loo1
def e0 : He5.DefA := ⟨fun K => sfn K "Letter" "of", "of", "Letter.of", defArgs (inClass (top 26) 1), defBody (inClass (top 26) 1), defScope (inClass (top 26) 1), [], []⟩
def e1 : He5.DefA := ⟨fun K => sfn K "Letter" "read", "read", "Letter.read", defArgs (inClass (top 26) 2), defBody (inClass (top 26) 2), defScope (inClass (top 26) 2), [], []⟩
def e2 : He5.DefA := ⟨fun K => pfn K "Role" "params", "params", "Role.params", defArgs (inClass (top 43) 1), defBody (inClass (top 43) 1), defScope (inClass (top 43) 1), [], []⟩
def e3 : He5.DefA := ⟨fun K => pfn K "Role" "knows", "knows", "Role.knows", defArgs (inClass (top 43) 2), defBody (inClass (top 43) 2), defScope (inClass (top 43) 2), [], []⟩
def e4 : He5.DefA := ⟨fun K => pfn K "Role" "fresh", "fresh", "Role.fresh", defArgs (inClass (top 43) 3), defBody (inClass (top 43) 3), defScope (inClass (top 43) 3), [], []⟩
def e5 : He5.DefA := ⟨fun K => pfn K "Role" "rows", "rows", "Role.rows", defArgs (inClass (top 43) 4), defBody (inClass (top 43) 4), defScope (inClass (top 43) 4), [], []⟩
def e6 : He5.DefA := ⟨fun K => pfn K "Book" "roles", "roles", "Book.roles", defArgs (inClass (top 44) 1), defBody (inClass (top 44) 1), defScope (inClass (top 44) 1), [], []⟩
def e7 : He5.DefA := ⟨fun K => pfn K "Book" "known", "known", "Book.known", defArgs (inClass (top 44) 2), defBody (inClass (top 44) 2), defScope (inClass (top 44) 2), [], []⟩
def fs : List He5.DefA := [e0, e1, e2, e3, e4, e5, e6, e7]
def ts : List He.Tab := [(fun K => He.ga K "SIGNS", ["pair", "seal", "lock", "mark", "open", "own"])]
def exl (K : PySem.W.Frag) : List Bool := [kdB K (He.ga K "SIGNS") [("pair", 2), ("seal", 2), ("lock", 2), ("mark", 1), ("open", 1), ("own", 1)], ktB K (He.ga K "MAKEABLE") ["pair", "seal", "lock", "mark", "open"], ktB K (He.ga K "SHUT") ["seal", "lock"], oexB K "RoadError", xfB K (He.ga K "RoadError"), rexB K "RoadError", oexB K "BadAtom", xfB K (He.ga K "BadAtom"), oexB K "BadForm", xfB K (He.ga K "BadForm"), oexB K "BadKey", xfB K (He.ga K "BadKey"), oexB K "BadText", xfB K (He.ga K "BadText"), oexB K "BadRole", xfB K (He.ga K "BadRole"), oexB K "NotFit", xfB K (He.ga K "NotFit"), oexB K "BadBook", xfB K (He.ga K "BadBook"), PySem.W.selfFirst K (He.ga K "Reader"), isiB K (He.ga K "Reader"), PySem.W.selfFirst K (He.ga K "Letter"), isiB K (He.ga K "Letter"), statB K "Letter" "of", statB K "Letter" "read", PySem.W.selfFirst K (He.ga K "Role"), isiB K (He.ga K "Role"), propB K "Role" "params", propB K "Role" "knows", propB K "Role" "fresh", propB K "Role" "rows", PySem.W.selfFirst K (He.ga K "Book"), isiB K (He.ga K "Book"), propB K "Book" "roles", propB K "Book" "known", decide (He.ga K "Role" ≠ He.ga K "Letter")]
def exq : PySem.W.Frag → Bool := fun K => (exl K).all id
theorem exl_ok {K : PySem.W.Frag} (h : exq K = true) (i : Nat) {b : Bool} (e : (exl K)[i]? = some b) : b = true := List.all_eq_true.mp h b (List.mem_of_getElem? e)
abbrev R : PySem.W.OpenRow := PySem.W.OpenLaw.row PySem.Challenge.rw_openroads_k16_books_kept
abbrev hk : PySem.W.Hook := hookZ 6 fa fn ts exq fs
def ob (s : PySem.W.SharedT) : AlZ := obsZ 6 fa fn ts exq fs (HandSHeadRun.getT s)
theorem ob_eq (s : PySem.W.SharedT) : ob s = hk.obs s.abs := obsZ_eq (HandSHeadRun.getT_eq s)
abbrev qv : Program := PySem.W.view R.prog [58]
theorem join3 {α β γ δ : Type _} {o : Option α} {f : α → β} {g : α → γ} {h : α → δ} {a : β} {b : γ} {c : δ} (e1 : o.map f = some a) (e2 : o.map g = some b) (e3 : o.map h = some c) : o.map (fun s => (f s, g s, h s)) = some (a, b, c) := by
  cases o with
  | none => cases e1
  | some s =>
    cases e1
    cases e2
    cases e3
    rfl
theorem join5 {α β γ δ : Type _} {o : Option α} {fA fB fE : α → Bool} {fV : α → β} {fT : α → γ} {fS : α → δ} {b : β} {t : γ} {d : δ} (hA : o.map fA = some true) (hB : o.map fB = some true) (hV : o.map (fun s => (fV s, fT s)) = some (b, t)) (hE : o.map fE = some true) (hS : o.map fS = some d) : o.map (fun s => ((((fA s && fB s, fV s), fT s), fE s), fS s)) = some ((((true, b), t), true), d) := by
  cases o with
  | none => cases hA
  | some s =>
    have hA : fA s = true := Option.some.inj hA
    have hB : fB s = true := Option.some.inj hB
    have hV : (fV s, fT s) = (b, t) := Option.some.inj hV
    have hE : fE s = true := Option.some.inj hE
    have hS : fS s = d := Option.some.inj hS
    show some ((((fA s && fB s, fV s), fT s), fE s), fS s) = _
    cases hV
    rw [hA, hB, hE, hS]
    rfl
open PySem PySem.W PySem.Calls PyProof.Rows HandSHeadRun in
theorem run0a (w : World) (os : OsState) : (HandSHeadRun.endF (HandSHeadRun.stepQ (HandSHeadRun.denQ HandSHeadRun.tabQ) R.prog (w.withFollow "special-get-raises" false)) 6000 R.prog (w.withFollow "special-get-raises" false) os).map (fun s => looksF R.prog (boot_heap (w.withFollow "special-get-raises" false).params) s.abs) = some true := by
  kernel_rfl
open PySem PySem.W PySem.Calls PyProof.Rows HandSHeadRun in
theorem run0b (w : World) (os : OsState) : (HandSHeadRun.endF (HandSHeadRun.stepQ (HandSHeadRun.denQ HandSHeadRun.tabQ) R.prog (w.withFollow "special-get-raises" false)) 6000 R.prog (w.withFollow "special-get-raises" false) os).map (fun s => seenQ qv loo (importedModules R.prog.main.body) (fun s => xlAt qv [] s && recOk R.toRowW.records s) s.abs) = some (openGood qv loo) := by
  kernel_rfl
open PySem PySem.W PySem.Calls PyProof.Rows HandSHeadRun in
theorem run0A (w : World) (os : OsState) : (HandSHeadRun.endF (HandSHeadRun.stepQ (HandSHeadRun.denQ HandSHeadRun.tabQ) R.prog (w.withFollow "special-get-raises" false)) 6000 R.prog (w.withFollow "special-get-raises" false) os).map (fun s => fa.all fun f => f.ok (frY 6 (HandSHeadRun.getT s))) = some true := by
  kernel_rfl
open PySem PySem.W PySem.Calls PyProof.Rows HandSHeadRun in
theorem run0B (w : World) (os : OsState) : (HandSHeadRun.endF (HandSHeadRun.stepQ (HandSHeadRun.denQ HandSHeadRun.tabQ) R.prog (w.withFollow "special-get-raises" false)) 6000 R.prog (w.withFollow "special-get-raises" false) os).map (fun s => fn.all fun f => f.ok (frY 6 (HandSHeadRun.getT s))) = some true := by
  kernel_rfl
open PySem PySem.W PySem.Calls PyProof.Rows HandSHeadRun in
theorem run0V (w : World) (os : OsState) : (HandSHeadRun.endF (HandSHeadRun.stepQ (HandSHeadRun.denQ HandSHeadRun.tabQ) R.prog (w.withFollow "special-get-raises" false)) 6000 R.prog (w.withFollow "special-get-raises" false) os).map (fun s => (fn.map fun d => He.fnW (frY 6 (HandSHeadRun.getT s)) d.at_, ts.map fun t => He.dicW (frY 6 (HandSHeadRun.getT s)) (t.1 (frY 6 (HandSHeadRun.getT s))))) = some (fn.map He.DefD.val, ts.map fun t => some (He.keysIn (w.withFollow "special-get-raises" false).params t.2)) := by
  kernel_rfl
open PySem PySem.W PySem.Calls PyProof.Rows HandSHeadRun in
theorem run0E (w : World) (os : OsState) : (HandSHeadRun.endF (HandSHeadRun.stepQ (HandSHeadRun.denQ HandSHeadRun.tabQ) R.prog (w.withFollow "special-get-raises" false)) 6000 R.prog (w.withFollow "special-get-raises" false) os).map (fun s => exq (frY 6 (HandSHeadRun.getT s))) = some true := by
  kernel_rfl
open PySem PySem.W PySem.Calls PyProof.Rows HandSHeadRun in
theorem run0S (w : World) (os : OsState) : (HandSHeadRun.endF (HandSHeadRun.stepQ (HandSHeadRun.denQ HandSHeadRun.tabQ) R.prog (w.withFollow "special-get-raises" false)) 6000 R.prog (w.withFollow "special-get-raises" false) os).map (fun s => He5.obsA [] fs (frY 6 (HandSHeadRun.getT s))) = some (He5.valA fs) := by
  kernel_rfl
open PySem PySem.W PySem.Calls PyProof.Rows HandSHeadRun in
theorem run0c (w : World) (os : OsState) : (HandSHeadRun.endF (HandSHeadRun.stepQ (HandSHeadRun.denQ HandSHeadRun.tabQ) R.prog (w.withFollow "special-get-raises" false)) 6000 R.prog (w.withFollow "special-get-raises" false) os).map ob = some (hk.val (w.withFollow "special-get-raises" false)) := join5 (run0A w os) (run0B w os) (run0V w os) (run0E w os) (run0S w os)
theorem run0 (w : World) : HandSHeadRun.RunEq R qv hk ob 6000 loo (w.withFollow "special-get-raises" false) := fun os => join3 (run0a w os) (run0b w os) (run0c w os)
open PySem PySem.W PySem.Calls PyProof.Rows HandSHeadRun in
theorem run1a (w : World) (os : OsState) : (HandSHeadRun.endF (HandSHeadRun.stepQ (HandSHeadRun.denQ HandSHeadRun.tabQ) R.prog (w.withFollow "special-get-raises" true)) 6000 R.prog (w.withFollow "special-get-raises" true) os).map (fun s => looksF R.prog (boot_heap (w.withFollow "special-get-raises" true).params) s.abs) = some true := by
  kernel_rfl
open PySem PySem.W PySem.Calls PyProof.Rows HandSHeadRun in
theorem run1b (w : World) (os : OsState) : (HandSHeadRun.endF (HandSHeadRun.stepQ (HandSHeadRun.denQ HandSHeadRun.tabQ) R.prog (w.withFollow "special-get-raises" true)) 6000 R.prog (w.withFollow "special-get-raises" true) os).map (fun s => seenQ qv loo (importedModules R.prog.main.body) (fun s => xlAt qv [] s && recOk R.toRowW.records s) s.abs) = some (openGood qv loo) := by
  kernel_rfl
open PySem PySem.W PySem.Calls PyProof.Rows HandSHeadRun in
theorem run1A (w : World) (os : OsState) : (HandSHeadRun.endF (HandSHeadRun.stepQ (HandSHeadRun.denQ HandSHeadRun.tabQ) R.prog (w.withFollow "special-get-raises" true)) 6000 R.prog (w.withFollow "special-get-raises" true) os).map (fun s => fa.all fun f => f.ok (frY 6 (HandSHeadRun.getT s))) = some true := by
  kernel_rfl
open PySem PySem.W PySem.Calls PyProof.Rows HandSHeadRun in
theorem run1B (w : World) (os : OsState) : (HandSHeadRun.endF (HandSHeadRun.stepQ (HandSHeadRun.denQ HandSHeadRun.tabQ) R.prog (w.withFollow "special-get-raises" true)) 6000 R.prog (w.withFollow "special-get-raises" true) os).map (fun s => fn.all fun f => f.ok (frY 6 (HandSHeadRun.getT s))) = some true := by
  kernel_rfl
open PySem PySem.W PySem.Calls PyProof.Rows HandSHeadRun in
theorem run1V (w : World) (os : OsState) : (HandSHeadRun.endF (HandSHeadRun.stepQ (HandSHeadRun.denQ HandSHeadRun.tabQ) R.prog (w.withFollow "special-get-raises" true)) 6000 R.prog (w.withFollow "special-get-raises" true) os).map (fun s => (fn.map fun d => He.fnW (frY 6 (HandSHeadRun.getT s)) d.at_, ts.map fun t => He.dicW (frY 6 (HandSHeadRun.getT s)) (t.1 (frY 6 (HandSHeadRun.getT s))))) = some (fn.map He.DefD.val, ts.map fun t => some (He.keysIn (w.withFollow "special-get-raises" true).params t.2)) := by
  kernel_rfl
open PySem PySem.W PySem.Calls PyProof.Rows HandSHeadRun in
theorem run1E (w : World) (os : OsState) : (HandSHeadRun.endF (HandSHeadRun.stepQ (HandSHeadRun.denQ HandSHeadRun.tabQ) R.prog (w.withFollow "special-get-raises" true)) 6000 R.prog (w.withFollow "special-get-raises" true) os).map (fun s => exq (frY 6 (HandSHeadRun.getT s))) = some true := by
  kernel_rfl
open PySem PySem.W PySem.Calls PyProof.Rows HandSHeadRun in
theorem run1S (w : World) (os : OsState) : (HandSHeadRun.endF (HandSHeadRun.stepQ (HandSHeadRun.denQ HandSHeadRun.tabQ) R.prog (w.withFollow "special-get-raises" true)) 6000 R.prog (w.withFollow "special-get-raises" true) os).map (fun s => He5.obsA [] fs (frY 6 (HandSHeadRun.getT s))) = some (He5.valA fs) := by
  kernel_rfl
open PySem PySem.W PySem.Calls PyProof.Rows HandSHeadRun in
theorem run1c (w : World) (os : OsState) : (HandSHeadRun.endF (HandSHeadRun.stepQ (HandSHeadRun.denQ HandSHeadRun.tabQ) R.prog (w.withFollow "special-get-raises" true)) 6000 R.prog (w.withFollow "special-get-raises" true) os).map ob = some (hk.val (w.withFollow "special-get-raises" true)) := join5 (run1A w os) (run1B w os) (run1V w os) (run1E w os) (run1S w os)
theorem run1 (w : World) : HandSHeadRun.RunEq R qv hk ob 6000 loo (w.withFollow "special-get-raises" true) := fun os => join3 (run1a w os) (run1b w os) (run1c w os)
theorem run (w : World) : HandSHeadRun.RunEq R qv hk ob 6000 loo w := PySem.W.byRow2 "special-get-raises" (P := fun w => HandSHeadRun.RunEq R qv hk ob 6000 loo w) run0 run1 w
end
end Rd
namespace Rd
open PySem L2
def SMALL : Str := "abcdefghijklmnopqrstuvwxyz"
def GREAT : Str := "ABCDEFGHIJKLMNOPQRSTUVWXYZ"
def DIGITS : Str := "0123456789"
def inS (s : Str) (c : Nat) : Bool := decide (c ∈ s.cps.toList)
def isWord (z : Str) : Bool := decide (1 ≤ z.length) && (decide (z.length ≤ 8) && z.cps.toList.all (inS SMALL))
def isUnk (z : Str) : Bool := isWord z && decide (z.length ≤ 7)
def isName (z : Str) : Bool := decide (1 ≤ (Txt.rstripChars z DIGITS).length) && (decide (z.length ≤ 8) && (Txt.rstripChars z DIGITS).cps.toList.all (inS GREAT))
theorem lineBig : 200000 ≤ sizeLine := by decide
theorem allId (l : List Nat) (p : Nat → Bool) : (l.map p).all id = l.all p := by simp [List.all_map]
theorem decNat {a b : Nat} : decide ((a : Int) ≤ (b : Int)) = decide (a ≤ b) := by
  by_cases h : a ≤ b
  · rw [decide_eq_true h, decide_eq_true (by omega)]
  · rw [decide_eq_false h, decide_eq_false (by omega)]
def spTB (f : Str → Bool) : Sp := fun vs H Q _ => ∃ z : Str, vs = [.str z] ∧ z.length ≤ 200000 ∧ ∀ H', Same H H' → Q (.bl (f z)) H'
section
variable {P : Program} {w : World} {K : PySem.W.Frag} {mg : Str → Option Value} {base : Heap}
abbrev s_is_word : Stmt := top 15
theorem sc_is_word : FnScope ["text", "sign"] ["text"] (defScope s_is_word) := ⟨rfl, rfl, rfl, by decide +kernel, rfl, by decide +kernel, by decide +kernel⟩
theorem ok_is_word (T : Tx w K mg) : Fk P w K mg base CX0 1 "is_word" ["text"] (spTB isWord) := by
  refine T.F_is_word.ok0 sc_is_word (fun _ _ _ _ _ _ us hl => match us, hl with | [_], _ => rfl)
    (fun vs H Q E h => ?_) (fun cdv A outer s H vs Q E hr h => ?_)
  · obtain ⟨z, rfl, _⟩ := h
    rfl
  · obtain ⟨z, rfl, hz, k⟩ := h
    have hl : z.length ≤ sizeLine := Nat.le_trans hz lineBig
    refine ⟨_, (pss_one (ps_ret (pe_and (pe_chain op_le op_le pe_int (pe_callB call_len_str (by rfl) T.z_len (by decide +kernel) (pa_cons (pv 0) pa_nil)) pe_int) (pe_one (pe_callB (cr_all rfl) (by rfl) T.z_all (by decide +kernel) (pa_cons (pe_lc (own := [("sign", 1)]) (g := gName 1) (tt := tYes) (by rfl) sc_is_word.nd (pi_str (pv 0)) (blkOk_by (own := [("sign", 1)]) (N := ["text", "sign"]) (sc := defScope s_is_word) (by decide +kernel)) (fun _ _ _ _ _ => (pg_name (i := 1) sc_is_word.nd rfl (Or.inl rfl))) (fun _ _ _ _ _ => pts_nil) (fun _ _ _ _ _ => (pe_cmpR op_in_sign (pv 1) (pe_gstr T.c_SMALL) (by rfl)))) pa_nil)))))), ?_⟩
    refine ⟨_, rfl, z, rfl, hl, _, _, rfl, rfl, _, rfl, ?_⟩
    refine ite2 (fun h1 => ?_) (fun h1 => ⟨false, rfl, ?_⟩)
    · refine ⟨_, _, rfl, rfl, _, rfl, ?_⟩
      refine ite2 (fun h2 => ?_) (fun h2 => ?_)
      · refine ⟨_, rfl, z, rfl, fun D hD => lcs (f := fun c => V.bl (inS SMALL c)) hl (fun c H Q hc q => ⟨_, rfl, _, _, rfl, rfl, q⟩) ?_⟩
        refine ⟨D, z.cps.toList.map (inS SMALL), rfl, SqL.of (by rw [upd_same, List.map_map]; rfl), ?_⟩
        have e : isWord z = (z.cps.toList.map (inS SMALL)).all id := by
          have a1 : decide (1 ≤ z.length) = true := decide_eq_true (by have := of_decide_eq_true h1; omega)
          have a2 : decide (z.length ≤ 8) = true := decide_eq_true (by have := of_decide_eq_true h2; omega)
          rw [isWord, a1, a2, allId] <;> rfl
        show Q (V.bl ((z.cps.toList.map (inS SMALL)).all id)) _
        rw [← e]
        exact k _ (Rd.Same.upd hD)
      · have e : isWord z = false := by
          have a2 : decide (z.length ≤ 8) = false := decide_eq_false (fun q => h2 (decide_eq_true (by omega)))
          rw [isWord, a2] <;> simp
        show Q (V.bl false) _
        rw [← e]
        exact k _ (Same.refl _)
    · have e : isWord z = false := by
        have a1 : decide (1 ≤ z.length) = false := decide_eq_false (fun q => h1 (decide_eq_true (by omega)))
        rw [isWord, a1] <;> rfl
      show Q (V.bl false) _
      rw [← e]
      exact k _ (Same.refl _)
abbrev s_is_unknown : Stmt := top 16
theorem sc_is_unknown : FnScope ["text"] ["text"] (defScope s_is_unknown) := ⟨rfl, rfl, rfl, by decide +kernel, rfl, by decide +kernel, by decide +kernel⟩
theorem ok_is_unknown (T : Tx w K mg) : Fk P w K mg base CX0 2 "is_unknown" ["text"] (spTB isUnk) := by
  refine T.F_is_unknown.ok0 sc_is_unknown (fun _ _ _ _ _ _ us hl => match us, hl with | [_], _ => rfl)
    (fun vs H Q E h => ?_) (fun cdv A outer s H vs Q E hr h => ?_)
  · obtain ⟨z, rfl, _⟩ := h
    rfl
  · obtain ⟨z, rfl, hz, k⟩ := h
    have hl : z.length ≤ sizeLine := Nat.le_trans hz lineBig
    refine ⟨_, (pss_one (ps_ret (pe_and (pe_fk (ok_is_word T) (hr.mono (by omega)) rfl pass0 (pa_cons (pv 0) pa_nil)) (pe_one (pe_cmpR op_le (pe_callB call_len_str (by rfl) T.z_len (by decide +kernel) (pa_cons (pv 0) pa_nil)) pe_int (nomark _)))))), ?_⟩
    refine ⟨_, rfl, z, rfl, hz, fun H1 s1 => ⟨_, rfl, ?_⟩⟩
    refine ite2 (fun h1 => ?_) (fun h1 => ?_)
    · refine ⟨_, rfl, z, rfl, hl, _, _, rfl, rfl, ?_⟩
      have e : isUnk z = decide ((z.length : Int) ≤ 7) := by
        rw [isUnk, h1]
        exact (decNat (b := 7)).symm
      show Q (V.bl (decide ((z.length : Int) ≤ 7))) _
      rw [← e]
      exact k _ s1
    · have e : isUnk z = false := by
        rw [isUnk, Bool.eq_false_iff.mpr h1] <;> rfl
      show Q (V.bl false) _
      rw [← e]
      exact k _ s1
abbrev s_is_name : Stmt := top 17
theorem sc_is_name : FnScope ["text", "letters", "sign"] ["text"] (defScope s_is_name) := ⟨rfl, rfl, rfl, by decide +kernel, rfl, by decide +kernel, by decide +kernel⟩
theorem ok_is_name (T : Tx w K mg) : Fk P w K mg base CX0 1 "is_name" ["text"] (spTB isName) := by
  refine T.F_is_name.ok0 sc_is_name (fun _ _ _ _ _ _ us hl => match us, hl with | [_], _ => rfl)
    (fun vs H Q E h => ?_) (fun cdv A outer s H vs Q E hr h => ?_)
  · obtain ⟨z, rfl, _⟩ := h
    rfl
  · obtain ⟨z, rfl, hz, k⟩ := h
    have hl : z.length ≤ sizeLine := Nat.le_trans hz lineBig
    refine ⟨_, (pss_cons (ps_set (i := 1) sc_is_name.nd rfl (Or.inl rfl) (pe_bm PySem.F.plainAttrs_str PySem.F.slot_str_rstrip PySem.F.type_str_rstrip mt_rstripChars (pv 0) (pa_cons (pe_gstr T.c_DIGITS) pa_nil)))
  (pss_one (ps_ret (pe_and (pe_cmpR op_le pe_int (pe_callB call_len_str (by rfl) T.z_len (by decide +kernel) (pa_cons (pv 1) pa_nil)) (nomark _)) (pe_and (pe_cmpR op_le (pe_callB call_len_str (by rfl) T.z_len (by decide +kernel) (pa_cons (pv 0) pa_nil)) pe_int (nomark _)) (pe_one (pe_callB (cr_all rfl) (by rfl) T.z_all (by decide +kernel) (pa_cons (pe_lc (own := [("sign", 2)]) (g := gName 2) (tt := tYes) (by rfl) sc_is_name.nd (pi_str (pv 1)) (blkOk_by (own := [("sign", 2)]) (N := ["text", "letters", "sign"]) (sc := defScope s_is_name) (by decide +kernel)) (fun _ _ _ _ _ => (pg_name (i := 2) sc_is_name.nd rfl (Or.inl rfl))) (fun _ _ _ _ _ => pts_nil) (fun _ _ _ _ _ => (pe_cmpR op_in_sign (pv 2) (pe_gstr T.c_GREAT) (by rfl)))) pa_nil)))))))), ?_⟩
    have hl2 : (Txt.rstripChars z DIGITS).length ≤ sizeLine := Nat.le_trans (PyProof.Rows.len_rstripChars z DIGITS) hl
    refine ⟨_, rfl, rfl, z, DIGITS, rfl, rfl, hl, ?_⟩
    refine ⟨_, rfl, _, rfl, hl2, _, _, rfl, rfl, _, rfl, ?_⟩
    refine ite2 (fun h1 => ?_) (fun h1 => ?_)
    · refine ⟨_, rfl, z, rfl, hl, _, _, rfl, rfl, _, rfl, ?_⟩
      refine ite2 (fun h2 => ?_) (fun h2 => ?_)
      · refine ⟨_, rfl, _, rfl, fun D hD => lcs (f := fun c => V.bl (inS GREAT c)) hl2 (fun c H Q hc q => ⟨_, rfl, _, _, rfl, rfl, q⟩) ?_⟩
        refine ⟨D, (Txt.rstripChars z DIGITS).cps.toList.map (inS GREAT), rfl, SqL.of (by rw [upd_same, List.map_map]; rfl), ?_⟩
        have e : isName z = ((Txt.rstripChars z DIGITS).cps.toList.map (inS GREAT)).all id := by
          have a1 : decide (1 ≤ (Txt.rstripChars z DIGITS).length) = true := decide_eq_true (by have := of_decide_eq_true h1; omega)
          have a2 : decide (z.length ≤ 8) = true := decide_eq_true (by have := of_decide_eq_true h2; omega)
          rw [isName, a1, a2, allId] <;> rfl
        show Q (V.bl (((Txt.rstripChars z DIGITS).cps.toList.map (inS GREAT)).all id)) _
        rw [← e]
        exact k _ (Rd.Same.upd hD)
      · have e : isName z = false := by
          have a2 : decide (z.length ≤ 8) = false := decide_eq_false (fun q => h2 (decide_eq_true (by omega)))
          rw [isName, a2] <;> simp
        show Q (V.bl false) _
        rw [← e]
        exact k _ (Same.refl _)
    · have e : isName z = false := by
        have a1 : decide (1 ≤ (Txt.rstripChars z DIGITS).length) = false := decide_eq_false (fun q => h1 (decide_eq_true (by omega)))
        rw [isName, a1] <;> rfl
      show Q (V.bl false) _
      rw [← e]
      exact k _ (Same.refl _)
/-- text[1:] -/
def tailS (z : Str) : Str := cutS z (some 1) none
theorem cutS_nat (z : Str) (a b : Nat) (ha : a ≤ z.length) (hb : b ≤ z.length) : (cutS z (some (a : Int)) (some (b : Int))).cps.toList = (z.cps.toList.take b).drop a := by
  show ((z.cps.toList.drop (HT.sIx z.length 0 (some (a : Int)))).take (HT.sIx z.length z.length (some (b : Int)) - HT.sIx z.length 0 (some (a : Int)))) = _
  rw [HT.sIx_nat, HT.sIx_nat, Nat.min_eq_left ha, Nat.min_eq_left hb, List.drop_take]
theorem cutS_from (z : Str) (a : Nat) : (cutS z (some (a : Int)) none).cps.toList = z.cps.toList.drop a := by
  show ((z.cps.toList.drop (HT.sIx z.length 0 (some (a : Int)))).take (z.length - HT.sIx z.length 0 (some (a : Int)))) = _
  have hs : z.cps.toList.length = z.length := by rw [Array.length_toList]; rfl
  rw [HT.sIx_nat, List.take_of_length_le (by rw [List.length_drop, hs]; exact Nat.le_refl _)]
  rcases Nat.le_total a z.length with h | h
  · rw [Nat.min_eq_left h]
  · rw [Nat.min_eq_right h, List.drop_of_length_le (by omega), List.drop_of_length_le (by omega)]
theorem cutS_to (z : Str) (b : Nat) : (cutS z none (some (b : Int))).cps.toList = z.cps.toList.take b := by
  show ((z.cps.toList.drop 0).take (HT.sIx z.length z.length (some (b : Int)) - 0)) = _
  have hs : z.cps.toList.length = z.length := by rw [Array.length_toList]; rfl
  rw [HT.sIx_nat, List.drop_zero, Nat.sub_zero]
  rcases Nat.le_total b z.length with h | h
  · rw [Nat.min_eq_left h]
  · rw [Nat.min_eq_right h, List.take_of_length_le (by omega), List.take_of_length_le (by omega)]
theorem len_list (z : Str) : z.length = z.cps.toList.length := by rw [Array.length_toList]; rfl
theorem tailS_list (z : Str) : (tailS z).cps.toList = z.cps.toList.drop 1 := cutS_from z 1
theorem tailS_len (z : Str) : (tailS z).length ≤ z.length := by
  rw [len_list, len_list, tailS_list, List.length_drop]
  omega
def atomOf (z : Str) : Option (Str × Str) := if isWord z = true then some ("word", z) else if isName z = true then some ("name", z) else if (Txt.startswith z "?" && isUnk (tailS z)) = true then some ("unknown", tailS z) else none
def sp_atom_tree : Sp := fun vs H Q _ => ∃ z : Str, vs = [.str z] ∧ z.length ≤ 200000 ∧ (∀ H', Same H H' → atomOf z = none → Q .non H') ∧ ∀ k x p H', Same H H' → atomOf z = some (k, x) → H p = none → H' p = some (.tup [.str k, .str x]) → Q (.ref p) H'
abbrev s_atom_tree : Stmt := top 18
theorem sc_atom_tree : FnScope ["text"] ["text"] (defScope s_atom_tree) := ⟨rfl, rfl, rfl, by decide +kernel, rfl, by decide +kernel, by decide +kernel⟩
theorem ok_atom_tree (T : Tx w K mg) : Fk P w K mg base CX0 3 "atom_tree" ["text"] sp_atom_tree := by
  refine T.F_atom_tree.ok0 sc_atom_tree (fun _ _ _ _ _ _ us hl => match us, hl with | [_], _ => rfl)
    (fun vs H Q E h => ?_) (fun cdv A outer s H vs Q E hr h => ?_)
  · obtain ⟨z, rfl, _⟩ := h
    rfl
  · obtain ⟨z, rfl, hz, k0, k1⟩ := h
    have hl : z.length ≤ sizeLine := Nat.le_trans hz lineBig
    have hz2 : (tailS z).length ≤ 200000 := Nat.le_trans (tailS_len z) hz
    refine ⟨_, (pss_cons (ps_if (pt_val (pe_fk (ok_is_word T) (hr.mono (by omega)) rfl pass0 (pa_cons (pv 0) pa_nil)))
  (pss_one (ps_ret (pe_tup (pa_cons pe_str (pa_cons (pv 0) pa_nil)))))
  pss_nil)
  (pss_cons (ps_if (pt_val (pe_fk (ok_is_name T) (hr.mono (by omega)) rfl pass0 (pa_cons (pv 0) pa_nil)))
  (pss_one (ps_ret (pe_tup (pa_cons pe_str (pa_cons (pv 0) pa_nil)))))
  pss_nil)
  (pss_cons (ps_if (PW.pt (pw_and (pt_val (pe_bm PySem.F.plainAttrs_str PySem.F.slot_str_startswith PySem.F.type_str_startswith mt_startswith (pv 0) (pa_cons pe_str pa_nil))) (pw_and1 (pt_val (pe_fk (ok_is_unknown T) (hr.mono (by omega)) rfl pass0 (pa_cons (pe_slice sl_str (pv 0) (po_some pe_int) po_none) pa_nil))))))
  (pss_one (ps_ret (pe_tup (pa_cons pe_str (pa_cons (pe_slice sl_str (pv 0) (po_some pe_int) po_none) pa_nil)))))
  pss_nil)
  (pss_one (ps_ret pe_non))))), ?_⟩
    refine ⟨_, rfl, z, rfl, hz, fun H1 s1 => ⟨_, rfl, ite2 (fun h1 => ?_) (fun h1 => ?_)⟩⟩
    · refine ⟨_, rfl, (by show 2 ≤ sizeLine; decide), fun p hp => ?_⟩
      exact k1 _ _ p _ (Rd.Same.upd' s1 hp) (by rw [atomOf, if_pos h1]) (s1.free hp) upd_same
    · refine ⟨_, rfl, z, rfl, hz, fun H2 s2 => ⟨_, rfl, ite2 (fun h2 => ?_) (fun h2 => ?_)⟩⟩
      · refine ⟨_, rfl, (by show 2 ≤ sizeLine; decide), fun p hp => ?_⟩
        exact k1 _ _ p _ (Rd.Same.upd' (s1.trans s2) hp) (by rw [atomOf, if_neg h1, if_pos h2]) ((s1.trans s2).free hp) upd_same
      · refine ⟨_, rfl, rfl, z, "?", rfl, rfl, _, rfl, ite2 (fun h3 => ?_) (fun h3 => ?_)⟩
        · refine ⟨_, rfl, _, rfl, z, rfl, hl, tailS z, rfl, hz2, fun H3 s3 => ⟨_, rfl, ite2 (fun h4 => ?_) (fun h4 => ?_)⟩⟩
          · refine ⟨_, rfl, _, rfl, z, rfl, hl, (by show 2 ≤ sizeLine; decide), fun p hp => ?_⟩
            exact k1 _ _ p _ (Rd.Same.upd' ((s1.trans s2).trans s3) hp) (by rw [atomOf, if_neg h1, if_neg h2, if_pos (by rw [h3, h4]; rfl)]; rfl) (((s1.trans s2).trans s3).free hp) upd_same
          · exact k0 _ ((s1.trans s2).trans s3) (by rw [atomOf, if_neg h1, if_neg h2, if_neg (by rw [Bool.eq_false_iff.mpr h4]; simp)])
        · exact k0 _ (s1.trans s2) (by rw [atomOf, if_neg h1, if_neg h2, if_neg (by rw [Bool.eq_false_iff.mpr h3]; simp)])
end
end Rd
namespace Rd
open PySem L2
theorem str_ext {a b : Str} (h : a.cps.toList = b.cps.toList) : a = b := by
  obtain ⟨⟨a⟩⟩ := a
  obtain ⟨⟨b⟩⟩ := b
  have e : a = b := h
  rw [e]
theorem app_list (a b : Str) : (a ++ b).cps.toList = a.cps.toList ++ b.cps.toList := by
  show (a.cps ++ b.cps).toList = _
  rw [Array.toList_append]
theorem contains_in (s : Str) (c : Nat) : s.cps.contains c = inS s c := by
  unfold inS
  rw [Bool.eq_iff_iff, decide_eq_true_iff, Array.contains_iff_mem]
  exact Array.mem_def
theorem rstrip_list (z s : Str) : (Txt.rstripChars z s).cps.toList = (z.cps.toList.reverse.dropWhile (inS s)).reverse := by
  have e0 : s.cps.contains = inS s := funext (contains_in s)
  show (Txt.stripBy s.cps.contains false true z).cps.toList = _
  rw [PyProof.Rows.stripBy_eq, e0]
  show (z.cps.extract 0 (z.length - ((z.cps.toList.drop 0).reverse.takeWhile (inS s)).length)).toList = _
  rw [List.drop_zero, len_list]
  generalize z.cps = a
  obtain ⟨l⟩ := a
  rw [List.extract_toArray]
  show (l.extract 0 (l.length - (l.reverse.takeWhile (inS s)).length)) = (l.reverse.dropWhile (inS s)).reverse
  rw [List.extract_eq_drop_take, List.drop_zero, Nat.sub_zero]
  have e1 : l.reverse = l.reverse.takeWhile (inS s) ++ l.reverse.dropWhile (inS s) := (List.takeWhile_append_dropWhile).symm
  have e2 : l = (l.reverse.dropWhile (inS s)).reverse ++ (l.reverse.takeWhile (inS s)).reverse := by
    have := congrArg List.reverse e1
    rw [List.reverse_reverse, List.reverse_append] at this
    exact this
  have e3 : l.length = (l.reverse.dropWhile (inS s)).length + (l.reverse.takeWhile (inS s)).length := by
    have := congrArg List.length e2
    rw [List.length_append, List.length_reverse, List.length_reverse] at this
    exact this
  rw [e3, Nat.add_sub_cancel]
  have key : ∀ (A B : List Nat), l = A.reverse ++ B.reverse → l.take A.length = A.reverse := fun A B q => by
    rw [q, List.take_append_of_le_length (by rw [List.length_reverse]; exact Nat.le_refl _), List.take_of_length_le (by rw [List.length_reverse]; exact Nat.le_refl _)]
  exact key _ _ e2
theorem starts_q (z : Str) : Txt.startswith z "?" = true ↔ ∃ r, z.cps.toList = 63 :: r := by
  show (decide (0 + ("?" : Str).length ≤ z.length) && (z.cps.extract 0 (0 + ("?" : Str).length) == ("?" : Str).cps)) = true ↔ _
  have e1 : ("?" : Str).length = 1 := by decide
  have e2 : ("?" : Str).cps = #[63] := by decide +kernel
  rw [e1, e2, len_list]
  generalize z.cps = a
  obtain ⟨l⟩ := a
  cases l with
  | nil => simp
  | cons c r =>
    constructor
    · intro h
      obtain ⟨_, h2⟩ := He.ba h
      have h3 : (⟨c :: r⟩ : Array Nat).extract 0 1 = #[63] := eq_of_beq h2
      have h4 := congrArg Array.toList h3
      simp at h4
      exact ⟨r, by rw [h4]⟩
    · rintro ⟨r', e⟩
      have e' : c :: r = 63 :: r' := e
      injection e' with e3 e4
      subst e3
      simp
theorem q_tail {z : Str} (h : Txt.startswith z "?" = true) : "?" ++ tailS z = z := by
  obtain ⟨r, e⟩ := (starts_q z).mp h
  refine str_ext ?_
  rw [app_list, tailS_list, e]
  have e2 : ("?" : Str).cps.toList = [63] := by decide +kernel
  rw [e2]
  rfl
theorem disj {c : Nat} (h : inS GREAT c = true) : inS DIGITS c = false := by
  have h1 : c ∈ GREAT.cps.toList := of_decide_eq_true h
  have h2 : GREAT.cps.toList.all (fun c => !inS DIGITS c) = true := by decide +kernel
  have h3 := List.all_eq_true.mp h2 c h1
  simpa using h3
theorem disj2 {c : Nat} (h : inS DIGITS c = true) : inS GREAT c = false := by
  cases e : inS GREAT c with
  | false => rfl
  | true => rw [disj e] at h; cases h
theorem dropAll {p : Nat → Bool} : ∀ (l : List Nat), (∀ c ∈ l, p c = true) → l.dropWhile p = []
  | [], _ => rfl
  | a :: r, h => by
    rw [List.dropWhile_cons, if_pos (h a List.mem_cons_self)]
    exact dropAll r fun c hc => h c (List.mem_cons_of_mem _ hc)
theorem name_iff (l : List Nat) : (1 ≤ ((l.reverse.dropWhile (inS DIGITS)).reverse).length ∧ ((l.reverse.dropWhile (inS DIGITS)).reverse).all (inS GREAT) = true) ↔
    ((0 < (l.filter (inS GREAT)).length ∧ (l.take (l.filter (inS GREAT)).length).all (inS GREAT) = true) ∧ (l.drop (l.filter (inS GREAT)).length).all (inS DIGITS) = true) := by
  have e1 : l.reverse = l.reverse.takeWhile (inS DIGITS) ++ l.reverse.dropWhile (inS DIGITS) := (List.takeWhile_append_dropWhile).symm
  have e2 : l = (l.reverse.dropWhile (inS DIGITS)).reverse ++ (l.reverse.takeWhile (inS DIGITS)).reverse := by
    have := congrArg List.reverse e1
    rw [List.reverse_reverse, List.reverse_append] at this
    exact this
  have hD : ∀ c ∈ (l.reverse.takeWhile (inS DIGITS)).reverse, inS DIGITS c = true := fun c hc => by
    rw [List.mem_reverse] at hc
    have := List.all_takeWhile (p := inS DIGITS) (l := l.reverse)
    exact List.all_eq_true.mp this c hc
  constructor
  · rintro ⟨h1, h2⟩
    generalize (l.reverse.dropWhile (inS DIGITS)).reverse = A at e2 h1 h2
    generalize (l.reverse.takeWhile (inS DIGITS)).reverse = B at e2 hD
    subst e2
    have fA : A.filter (inS GREAT) = A := List.filter_eq_self.mpr fun c hc => List.all_eq_true.mp h2 c hc
    have fB : B.filter (inS GREAT) = [] := List.filter_eq_nil_iff.mpr fun c hc q => by rw [disj2 (hD c hc)] at q; cases q
    rw [List.filter_append, fA, fB, List.append_nil]
    refine ⟨⟨h1, ?_⟩, ?_⟩
    · rw [List.take_append_of_le_length (Nat.le_refl _), List.take_length]
      exact h2
    · rw [List.drop_append_of_le_length (Nat.le_refl _), List.drop_length, List.nil_append]
      exact List.all_eq_true.mpr hD
  · rintro ⟨⟨h1, h2⟩, h3⟩
    have hle := List.length_filter_le (inS GREAT) l
    generalize (l.filter (inS GREAT)).length = n at h1 h2 h3 hle
    have el : l = l.take n ++ l.drop n := (List.take_append_drop n l).symm
    have key : l.reverse.dropWhile (inS DIGITS) = (l.take n).reverse := by
      conv => lhs; rw [el]
      rw [List.reverse_append, List.dropWhile_append]
      have z1 : (l.drop n).reverse.dropWhile (inS DIGITS) = [] := by
        exact dropAll _ fun c hc => by
          rw [List.mem_reverse] at hc
          exact List.all_eq_true.mp h3 c hc
      rw [z1]
      simp only [List.isEmpty_nil, if_true]
      cases hr : (l.take n).reverse with
      | nil => rfl
      | cons c r =>
        have hc : c ∈ l.take n := by
          rw [← List.mem_reverse, hr]
          exact List.mem_cons_self
        rw [List.dropWhile_cons, if_neg]
        rw [disj (List.all_eq_true.mp h2 c hc)]
        decide
    rw [key, List.reverse_reverse, List.length_take]
    exact ⟨by omega, h2⟩
theorem isName_first {z : Str} (h : isName z = true) (q : Txt.startswith z "?" = true) : False := by
  obtain ⟨h1, h2⟩ := He.ba h
  obtain ⟨h3, h4⟩ := He.ba h2
  obtain ⟨r, e⟩ := (starts_q z).mp q
  have h1' := of_decide_eq_true h1
  rw [len_list, rstrip_list] at h1'
  rw [rstrip_list] at h4
  obtain ⟨⟨a1, a2⟩, a3⟩ := (name_iff z.cps.toList).mp ⟨h1', h4⟩
  rw [e] at a1 a2
  have hg : inS GREAT 63 = false := by decide +kernel
  generalize ((63 :: r).filter (inS GREAT)).length = n at a1 a2
  cases n with
  | zero => cases a1
  | succ n =>
    have := List.all_eq_true.mp a2 63 (by rw [List.take_succ_cons]; exact List.mem_cons_self)
    rw [hg] at this
    cases this
end Rd
namespace Rd
open PySem L2
/-- a stream's list, with n draws still in the bound -/
def StL (n : Nat) (xs : List V) : Prop := ∃ a b c : Int, xs = [.int a, .int b, .int c] ∧ 0 ≤ a ∧ 0 ≤ b ∧ b ≤ 1099511627776 ∧ 0 ≤ c ∧ c + n ≤ 1099511627776
theorem StL.mono {n m : Nat} {xs : List V} (h : StL n xs) (hm : m ≤ n) : StL m xs := by
  obtain ⟨a, b, c, e, h1, h2, h3, h4, h5⟩ := h
  exact ⟨a, b, c, e, h1, h2, h3, h4, by omega⟩
def sp_stream (K : PySem.W.Frag) : Sp := fun vs H Q _ => ∃ (a : Addr) (ns : List Int) (k : Int), vs = [.ref a, .int k] ∧ SqL K H a (ns.map V.int) ∧ ns.length ≤ 63 ∧ 0 ≤ k ∧ k ≤ 100 ∧
  ∀ p xs H', Same H H' → H p = none → H' p = some (.lst xs) → StL 1000000000 xs → Q (.ref p) H'
def sp_draw : Sp := fun vs H Q _ => ∃ (p : Addr) (xs : List V) (n : Nat) (m : Int), vs = [.ref p, .int m] ∧ H p = some (.lst xs) ∧ StL (n + 1) xs ∧ 0 < m ∧ m < 1073741824 ∧
  ∀ d ys, 0 ≤ d → d < m → StL n ys → Q (.int d) (upd H p (.lst ys))
def sp_pick (K : PySem.W.Frag) : Sp := fun vs H Q _ => ∃ (p a : Addr) (xs us : List V) (n : Nat), vs = [.ref p, .ref a] ∧ H p = some (.lst xs) ∧ StL (n + 1) xs ∧ SqL K H a us ∧ SqL K (upd H p (.lst [])) a us ∧ 0 < us.length ∧ us.length < 1073741824 ∧
  ∀ (j : Nat) v ys, us[j]? = some v → StL n ys → Q v (upd H p (.lst ys))
section
variable {P : Program} {w : World} {K : PySem.W.Frag} {mg : Str → Option Value} {base : Heap}
abbrev s__law_stream : Stmt := top 46
theorem sc__law_stream : FnScope ["_law_script", "_law_k", "_law_cell"] ["_law_script", "_law_k"] (defScope s__law_stream) := ⟨rfl, rfl, rfl, by decide +kernel, rfl, by decide +kernel, by decide +kernel⟩
theorem ok__law_stream (T : Tx w K mg) : Fk P w K mg base CX0 1 "_law_stream" ["_law_script", "_law_k"] (sp_stream K) := by
  refine T.F__law_stream.ok0 sc__law_stream (fun _ _ _ _ _ _ us hl => match us, hl with | [_, _], _ => rfl)
    (fun vs H Q E h => ?_) (fun cdv A outer s H vs Q E hr h => ?_)
  · obtain ⟨a, ns, k, rfl, _⟩ := h
    rfl
  · obtain ⟨a, ns, k, rfl, hS, hn, hk0, hk1, kk⟩ := h
    have fin : ∀ a0 cell : Int, 0 ≤ a0 → ∀ p, H p = none → Q (.ref p) (upd H p (.lst [.int a0, .int (cell % 2147483647 + 31 * k), .int 0])) := fun a0 cell hc p hp => by
      refine kk p _ _ (Rd.Same.upd hp) hp upd_same ⟨_, _, _, rfl, hc, ?_, ?_, by omega, by omega⟩
      · have := Int.emod_nonneg cell (show (2147483647 : Int) ≠ 0 by decide)
        omega
      · have := Int.emod_lt_of_pos cell (show (0 : Int) < 2147483647 by decide)
        omega
    refine ⟨_, (pss_cons (ps_set (i := 2) sc__law_stream.nd rfl (Or.inl rfl) (pe_ifExp (pt_cmpR op_lt (pv 1) (pe_callB call_len_seq (by rfl) T.z_len (by decide +kernel) (pa_cons (pv 0) pa_nil)) (nomark _)) (pe_callB call_abs (by rfl) T.z_abs (by decide +kernel) (pa_cons (pe_ix ix_list (pv 0) (pv 1) (fun _ _ => rfl)) pa_nil)) pe_int))
  (pss_one (ps_ret (pe_lst (pa_cons (pe_ifExp (pt_cmpR op_ge (pv 2) (pe_op op_pow pe_int pe_int) (nomark _)) (pv 2) pe_int) (pa_cons (pe_op op_add (pe_op op_mod (pe_callTy call_int1 (by rfl) T.z_int (by decide +kernel) (pa_cons (pv 2) pa_nil)) pe_int) (pe_op op_mul pe_int (pv 1))) (pa_cons pe_int pa_nil))))))), ?_⟩
    refine ⟨_, rfl, _, rfl, a, _, rfl, .inl hS, _, _, rfl, rfl, _, rfl, ite2 (fun h1 => ?_) (fun h1 => ?_)⟩
    · have hk : k.toNat < ns.length := by
        have := of_decide_eq_true h1
        rw [List.length_map] at this
        omega
      have ea : atI (ns.map V.int) k = some (V.int (ns[k.toNat]'hk)) := at_of (j := k.toNat) (by omega) (by rw [List.getElem?_map, List.getElem?_eq_getElem hk]; rfl)
      refine ⟨_, rfl, _, rfl, a, _, _, _, rfl, rfl, hS, ea, _, rfl, ?_⟩
      refine ⟨_, rfl, _, _, rfl, rfl, ⟨by decide, by decide, by decide⟩, _, _, rfl, rfl, _, rfl, ?_⟩
      refine ite2 (fun h2 => ?_) (fun h2 => ?_)
      · refine ⟨_, rfl, _, rfl, .inl ⟨_, rfl, _, _, rfl, rfl, (by show (0 : Int) < 2147483647; decide), _, rfl, _, _, rfl, rfl, .inl ⟨by decide, by decide⟩, _, _, rfl, rfl, (by show 3 ≤ sizeLine; decide), fun p hp => ?_⟩⟩
        exact fin _ _ (by split <;> omega) p hp
      · refine ⟨_, rfl, .inl ⟨_, rfl, _, _, rfl, rfl, (by show (0 : Int) < 2147483647; decide), _, rfl, _, _, rfl, rfl, .inl ⟨by decide, by decide⟩, _, _, rfl, rfl, (by show 3 ≤ sizeLine; decide), fun p hp => ?_⟩⟩
        exact fin _ _ (Int.le_refl 0) p hp
    · refine ⟨_, rfl, _, _, rfl, rfl, ⟨by decide, by decide, by decide⟩, _, _, rfl, rfl, _, rfl, ?_⟩
      refine ite2 (fun h2 => ?_) (fun h2 => ?_)
      · refine ⟨_, rfl, _, rfl, .inl ⟨_, rfl, _, _, rfl, rfl, (by show (0 : Int) < 2147483647; decide), _, rfl, _, _, rfl, rfl, .inl ⟨by decide, by decide⟩, _, _, rfl, rfl, (by show 3 ≤ sizeLine; decide), fun p hp => ?_⟩⟩
        exact fin _ _ (Int.le_refl 0) p hp
      · refine ⟨_, rfl, .inl ⟨_, rfl, _, _, rfl, rfl, (by show (0 : Int) < 2147483647; decide), _, rfl, _, _, rfl, rfl, .inl ⟨by decide, by decide⟩, _, _, rfl, rfl, (by show 3 ≤ sizeLine; decide), fun p hp => ?_⟩⟩
        exact fin _ _ (Int.le_refl 0) p hp
abbrev s__law_draw : Stmt := top 47
theorem sc__law_draw : FnScope ["_law_stream_here", "_law_many", "_law_digit", "_law_spread"] ["_law_stream_here", "_law_many"] (defScope s__law_draw) := ⟨rfl, rfl, rfl, by decide +kernel, rfl, by decide +kernel, by decide +kernel⟩
theorem ok__law_draw (T : Tx w K mg) : Fk P w K mg base CX0 1 "_law_draw" ["_law_stream_here", "_law_many"] sp_draw := by
  refine T.F__law_draw.ok0 sc__law_draw (fun _ _ _ _ _ _ us hl => match us, hl with | [_, _], _ => rfl)
    (fun vs H Q E h => ?_) (fun cdv A outer s H vs Q E hr h => ?_)
  · obtain ⟨p, xs, n, m, rfl, _⟩ := h
    rfl
  · obtain ⟨p, xs, n, m, rfl, hp, ⟨a, b, c, rfl, ha, hb0, hb1, hc0, hc1⟩, hm0, hm1, k⟩ := h
    refine ⟨_, (pss_cons (ps_if (pt_cmpR op_gt (pe_ix ix_list (pv 0) pe_int (fun _ _ => rfl)) pe_int (nomark _))
  (pss_cons (ps_set (i := 2) sc__law_draw.nd rfl (Or.inl rfl) (pe_op op_mod (pe_callTy call_int1 (by rfl) T.z_int (by decide +kernel) (pa_cons (pe_ix ix_list (pv 0) pe_int (fun _ _ => rfl)) pa_nil)) (pv 1)))
  (pss_cons (ps_asg (pe_op op_fdiv (pe_ix ix_list (pv 0) pe_int (fun _ _ => rfl)) (pv 1)) (pg_sub (pv 0) pe_int set_list))
  (pss_one (ps_ret (pv 2)))))
  pss_nil)
  (pss_cons (ps_asg (pe_op op_add (pe_ix ix_list (pv 0) pe_int (fun _ _ => rfl)) pe_int) (pg_sub (pv 0) pe_int set_list))
  (pss_cons (ps_set (i := 3) sc__law_draw.nd rfl (Or.inl rfl) (pe_op op_mod (pe_op op_pow (pe_callTy call_int1 (by rfl) T.z_int (by decide +kernel) (pa_cons (pe_op op_add (pe_op op_add (pe_ix ix_list (pv 0) pe_int (fun _ _ => rfl)) (pe_op op_mul pe_int (pe_ix ix_list (pv 0) pe_int (fun _ _ => rfl)))) pe_int) pa_nil)) pe_int) pe_int))
  (pss_one (ps_ret (pe_op op_mod (pe_op op_fdiv (pe_op op_mod (pe_callTy call_int1 (by rfl) T.z_int (by decide +kernel) (pa_cons (pe_op op_mul (pe_op op_add (pv 3) (pe_ix ix_list (pv 0) pe_int (fun _ _ => rfl))) pe_int) pa_nil)) pe_int) pe_int) (pv 1))))))), ?_⟩
    refine ⟨_, rfl, p, _, _, _, rfl, rfl, SqL.of hp, at_of (j := 0) rfl rfl, _, _, rfl, rfl, _, rfl, ?_⟩
    refine ite2 (fun h1 => ?_) (fun h1 => ?_)
    · refine ⟨_, rfl, p, _, _, _, rfl, rfl, SqL.of hp, at_of (j := 0) rfl rfl, .inl ⟨_, rfl, _, rfl, _, _, rfl, rfl, hm0, ?_⟩⟩
      refine ⟨_, rfl, p, _, _, _, rfl, rfl, SqL.of hp, at_of (j := 0) rfl rfl, _, rfl, _, _, rfl, rfl, ⟨hm0, hm1⟩, ?_⟩
      refine ⟨_, rfl, p, _, _, 0, rfl, rfl, hp, rfl, _, rfl, ?_⟩
      refine k _ _ (Int.emod_nonneg _ (by omega)) (Int.emod_lt_of_pos _ hm0) ⟨_, _, _, rfl, ?_, hb0, hb1, hc0, by omega⟩
      exact Int.ediv_nonneg ha (by omega)
    · refine ⟨_, rfl, p, _, _, _, rfl, rfl, SqL.of hp, at_of (j := 2) rfl rfl, _, _, rfl, rfl, _, rfl, p, _, _, 2, rfl, rfl, hp, rfl, ?_⟩
      have hp2 : upd H p (.lst [.int a, .int b, .int (c + 1)]) p = some (.lst [.int a, .int b, .int (c + 1)]) := upd_same
      refine ⟨_, rfl, p, _, _, _, rfl, rfl, SqL.of hp2, at_of (j := 1) rfl rfl, _, rfl, p, _, _, _, rfl, rfl, SqL.of hp2, at_of (j := 2) rfl rfl, _, _, rfl, rfl, .inl ⟨by decide, by decide⟩, _, _, rfl, rfl, _, _, rfl, rfl, .inl ⟨_, rfl, _, _, rfl, rfl, ⟨by decide, by decide, ?_⟩, _, _, rfl, rfl, (by show (0 : Int) < 2147483647; decide), ?_⟩⟩
      · show (b + 7919 * (c + 1) + 104729).natAbs < 18446744073709551616
        omega
      · have s0 : 0 ≤ (b + 7919 * (c + 1) + 104729) ^ Int.toNat 5 % 2147483647 := Int.emod_nonneg _ (by decide)
        have s1 : (b + 7919 * (c + 1) + 104729) ^ Int.toNat 5 % 2147483647 < 2147483647 := Int.emod_lt_of_pos _ (by decide)
        refine ⟨_, rfl, _, rfl, p, _, _, _, rfl, rfl, SqL.of hp2, at_of (j := 2) rfl rfl, _, _, rfl, rfl, _, _, rfl, rfl, .inl ⟨?_, ?_⟩, .inl ⟨_, rfl, _, _, rfl, rfl, (by show (0 : Int) < 2147483629; decide), _, _, rfl, rfl, ⟨by decide, by decide⟩, _, rfl, _, _, rfl, rfl, hm0, ?_⟩⟩
        · show -(18446744073709551616 : Int) < (b + 7919 * (c + 1) + 104729) ^ Int.toNat 5 % 2147483647 + (c + 1)
          generalize (b + 7919 * (c + 1) + 104729) ^ Int.toNat 5 % 2147483647 = sp at s0 s1 ⊢
          omega
        · show (b + 7919 * (c + 1) + 104729) ^ Int.toNat 5 % 2147483647 + (c + 1) < (18446744073709551616 : Int)
          generalize (b + 7919 * (c + 1) + 104729) ^ Int.toNat 5 % 2147483647 = sp at s0 s1 ⊢
          omega
        · exact k _ _ (Int.emod_nonneg _ (by omega)) (Int.emod_lt_of_pos _ hm0) ⟨_, _, _, rfl, ha, hb0, hb1, by omega, by omega⟩
abbrev s__law_pick : Stmt := top 48
theorem sc__law_pick : FnScope ["_law_stream_here", "_law_things"] ["_law_stream_here", "_law_things"] (defScope s__law_pick) := ⟨rfl, rfl, rfl, by decide +kernel, rfl, by decide +kernel, by decide +kernel⟩
theorem ok__law_pick (T : Tx w K mg) : Fk P w K mg base CX0 2 "_law_pick" ["_law_stream_here", "_law_things"] (sp_pick K) := by
  refine T.F__law_pick.ok0 sc__law_pick (fun _ _ _ _ _ _ us hl => match us, hl with | [_, _], _ => rfl)
    (fun vs H Q E h => ?_) (fun cdv A outer s H vs Q E hr h => ?_)
  · obtain ⟨p, a, xs, us, n, rfl, _⟩ := h
    rfl
  · obtain ⟨p, a, xs, us, n, rfl, hp, hx, hS, hS2, hu0, hu1, k⟩ := h
    refine ⟨_, (pss_one (ps_ret (pe_ix ix_list (pv 1) (pe_fk (ok__law_draw T) (hr.mono (by omega)) rfl pass0 (pa_cons (pv 0) (pa_cons (pe_callB call_len_seq (by rfl) T.z_len (by decide +kernel) (pa_cons (pv 1) pa_nil)) pa_nil))) (fun _ _ => rfl)))), ?_⟩
    refine ⟨_, rfl, _, rfl, _, rfl, a, us, rfl, .inl hS, p, xs, n, _, rfl, hp, hx, by omega, by omega, fun d ys hd0 hd1 hy => ?_⟩
    have hj : d.toNat < us.length := by omega
    have hS3 : SqL K (upd H p (.lst ys)) a us := by
      by_cases e : a = p
      · subst e
        rcases hS2 with (h | ⟨o, h⟩) | h
        · rw [upd_same] at h
          cases h
          exact absurd hu0 (by decide)
        · rw [upd_same] at h
          cases h
        · exact .inr h
      · rcases hS2 with (h | ⟨o, h⟩) | h
        · rw [upd_ne e] at h
          exact .inl (.inl (by rw [upd_ne e]; exact h))
        · rw [upd_ne e] at h
          exact .inl (.inr ⟨o, by rw [upd_ne e]; exact h⟩)
        · exact .inr h
    exact ⟨a, us, _, _, rfl, rfl, hS3, at_of (j := d.toNat) (by omega) (List.getElem?_eq_getElem hj), k _ _ ys (List.getElem?_eq_getElem hj) hy⟩
end
end Rd
namespace Rd
open PySem L2
/-- all but p stays -/
def But (p : Addr) (H H' : Hp) : Prop := ∀ b o, b ≠ p → H b = some o → H' b = some o
theorem But.refl {p : Addr} {H : Hp} : But p H H := fun _ _ _ e => e
theorem But.trans {p : Addr} {H H1 H2 : Hp} (a : But p H H1) (b : But p H1 H2) : But p H H2 := fun c o hc h => b c o hc (a c o hc h)
theorem But.of_same {p : Addr} {H H' : Hp} (s : Same H H') : But p H H' := fun b o _ e => s b o e
theorem But.upd {p : Addr} {H : Hp} {o : HO} : But p H (L2.upd H p o) := fun b u hb e => by rw [upd_ne hb]; exact e
theorem But.new {p q : Addr} {H : Hp} {o : HO} (h : H q = none) : But p H (L2.upd H q o) := fun b u hb e => by rw [upd_ne (ne_of_none e h)]; exact e
theorem But.free {p q : Addr} {H H' : Hp} {xs : List V} (s : But p H H') (hp : H' p = some (.lst xs)) (h : H' q = none) : H q = none := by
  cases e : H q with
  | none => rfl
  | some o =>
    have hq : q ≠ p := fun z => by rw [z, hp] at h; cases h
    rw [s q o hq e] at h
    cases h
def imm (C : Addr) : HO → Bool
  | .tup _ => true
  | .ins C' _ _ => C' == C
  | _ => false
/-- tuples and instances of C stay -/
def Kp (C : Addr) (H H' : Hp) : Prop := ∀ b o, imm C o = true → H b = some o → H' b = some o
theorem Kp.refl {C : Addr} {H : Hp} : Kp C H H := fun _ _ _ e => e
theorem Kp.trans {C : Addr} {H H1 H2 : Hp} (a : Kp C H H1) (b : Kp C H1 H2) : Kp C H H2 := fun c o hc h => b c o hc (a c o hc h)
theorem Kp.of_same {C : Addr} {H H' : Hp} (s : Same H H') : Kp C H H' := fun b o _ e => s b o e
theorem But.kp {C p : Addr} {H H' : Hp} {xs : List V} (s : But p H H') (hp : H p = some (.lst xs)) : Kp C H H' := fun b o hi e => s b o (fun z => by
  rw [z, hp] at e
  cases e
  cases hi) e
theorem Kp.upd_lst {C D : Addr} {H : Hp} {xs ys : List V} (h : H D = some (.lst xs)) : Kp C H (L2.upd H D (.lst ys)) := fun b o hi e => by
  have hb : b ≠ D := fun z => by
    rw [z, h] at e
    cases e
    cases hi
  rw [upd_ne hb]
  exact e
/-- [.. for _ in range(..)] with draws -/
theorem lcr_draw {C p D : Addr} {σ : St} {i0 m r n : Nat} {lo : Int} {te : TE} {H1 : Hp} {xs0 : List V} {Qd : Hp → Prop} (good : Hp → V → Prop) (gm : ∀ H H' v, Kp C H H' → good H v → good H' v)
    (hp : H1 p = some (.lst xs0)) (hx : StL (n + r * m) xs0) (hD : H1 D = none) (hm : m ≤ 100000)
    (hte : ∀ (i : Nat) (H : Hp) (xs : List V) (n' : Nat) (Q : VK), i < m → But p H1 H → H p = some (.lst xs) → StL (n' + r) xs → (∀ v H' ys, But p H H' → H' p = some (.lst ys) → StL n' ys → good H' v → Q v H') → te ((wipe σ [i0]).set i0 (some (.int (lo + i)))) H Q)
    (hq : ∀ vs H' ys, But p H1 H' → H' p = some (.lst ys) → StL n ys → H' D = some (.lst vs) → vs.length = m → (∀ v ∈ vs, good H' v) → Qd H') :
    ∃ W : Nat → Nat → Hp → Prop, (∃ k, W 0 k (L2.upd H1 D (.lst []))) ∧ ∀ i k H, W i k H →
      ((Itr lo m).stop i H ∧ Qd H) ∨ ((Itr lo m).go i H ∧ ∃ Nx : Hp → Prop, (∀ H', Nx H' → ∃ k', k' < k ∧ W (i + 1) k' H') ∧ ∀ x H', (Itr lo m).yld i H x H' → gName i0 x (wipe σ [i0]) H' fun σ2 H2 => wipe σ2 [i0] = wipe σ [i0] ∧ tYes σ2 H2 fun b H3 =>
        if b = true then te σ2 H3 fun y H4 => ∃ acc, H4 D = some (.lst acc) ∧ acc.length < sizeLine ∧ Nx (L2.upd H4 D (.lst (acc ++ [y]))) else Nx H3) := by
  have nDp : D ≠ p := fun z => by rw [z, hp] at hD; cases hD
  refine lc_range (fun i H => ∃ vs ys, But p H1 H ∧ H p = some (.lst ys) ∧ StL (n + r * (m - i)) ys ∧ H D = some (.lst vs) ∧ vs.length = i ∧ (∀ v ∈ vs, good H v)) ?_ ?_ ?_
  · refine ⟨[], xs0, But.new hD, by rw [upd_ne (Ne.symm nDp)]; exact hp, hx, upd_same, rfl, fun v hv => by cases hv⟩
  · rintro i H hi ⟨vs, ys, b, hpy, hy, hDv, hl, hg⟩
    have hr : n + r * (m - i) = (n + r * (m - (i + 1))) + r := by
      rw [show m - i = (m - (i + 1)) + 1 by omega, Nat.mul_succ, Nat.add_assoc]
    rw [hr] at hy
    refine ⟨by simp [wipe], hte i H ys _ _ hi b hpy hy fun v H' zs b' hpz hz hv => ⟨vs, b' D _ nDp hDv, ?_, ?_⟩⟩
    · have : 100000 < sizeLine := by decide
      omega
    · have hDv' := b' D _ nDp hDv
      refine ⟨vs ++ [v], zs, fun c o hc e => ?_, by rw [upd_ne (Ne.symm nDp)]; exact hpz, hz, upd_same, by rw [List.length_append, hl]; rfl, fun v' hv' => ?_⟩
      · rw [upd_ne (ne_of_none e hD)]
        exact b' c o hc (b c o hc e)
      · rcases List.mem_append.mp hv' with q | q
        · exact gm _ _ _ ((b'.kp hpy).trans (Kp.upd_lst hDv')) (hg v' q)
        · rw [List.mem_singleton.mp q]
          exact gm _ _ _ (Kp.upd_lst hDv') hv
  · rintro H ⟨vs, ys, b, hpy, hy, hDv, hl, hg⟩
    exact hq vs H ys b hpy (by simpa using hy) hDv hl hg
/-- a table of ints at a drawn place -/
theorem atI_of {us : List V} {d : Int} {m : Nat} (h0 : 0 ≤ d) (h1 : d < m) (hm : m = us.length) : ∃ (j : Nat) (v : V), us[j]? = some v ∧ atI us d = some v := by
  have hj : d.toNat < us.length := by omega
  exact ⟨d.toNat, us[d.toNat], List.getElem?_eq_getElem hj, at_of (j := d.toNat) (by omega) (List.getElem?_eq_getElem hj)⟩
theorem atT_of {z : Str} {d : Int} {m : Nat} (h0 : 0 ≤ d) (h1 : d < m) (hm : m = z.cps.toList.length) : ∃ (c : Nat), c ∈ z.cps.toList ∧ atI z.cps.toList d = some c := by
  have hj : d.toNat < z.cps.toList.length := by omega
  refine ⟨z.cps.toList[d.toNat], List.getElem_mem hj, ?_⟩
  have e : d = ((d.toNat : Nat) : Int) := by omega
  have e2 := atI_nat (xs := z.cps.toList) (j := d.toNat) (List.getElem?_eq_getElem hj)
  rw [← e] at e2
  exact e2
/-- signs as Python has them -/
def okS (z : Str) : Prop := ∀ c ∈ z.cps.toList, c < 1114112
theorem okS_by {z : Str} (h : z.cps.toList.all (fun c => decide (c < 1114112)) = true) : okS z := fun c hc => of_decide_eq_true (List.all_eq_true.mp h c hc)
theorem okS_app {a b : Str} (ha : okS a) (hb : okS b) : okS (a ++ b) := fun c hc => by
  have e : (a ++ b).cps.toList = a.cps.toList ++ b.cps.toList := by
    show (a.cps ++ b.cps).toList = _
    rw [Array.toList_append]
  rw [e] at hc
  exact (List.mem_append.mp hc).elim (ha c) (hb c)
theorem strOk_of {z : Str} (h : okS z) : PySem.PyData.strOk z = true := by
  show z.cps.all (fun c => decide (c < 0x110000)) = true
  rw [Array.all_eq_true']
  intro c hc
  exact decide_eq_true (h c (Array.mem_toList_iff.mpr hc))
/-- a text of these codes -/
def ofC (cs : List Nat) : Str := ⟨cs.toArray⟩
theorem ofC_list (cs : List Nat) : (ofC cs).cps.toList = cs := by show cs.toArray.toList = cs; rw [List.toList_toArray]
def sg1 (c : Nat) : V := .str ⟨#[c]⟩
theorem join_signs : ∀ (cs : List Nat), (Str.join "" (cs.map fun c => (⟨#[c]⟩ : Str))).cps.toList = cs
  | [] => by decide +kernel
  | [a] => rfl
  | a :: b :: r => by
    have e := join_signs (b :: r)
    have e0 : ("" : Str).cps.toList = [] := by decide +kernel
    show (((⟨#[a]⟩ : Str) ++ ("" : Str)) ++ Str.join "" ((b :: r).map fun c => (⟨#[c]⟩ : Str))).cps.toList = _
    rw [app_list, app_list, e, e0]
    rfl
theorem glue_signs (cs : List Nat) : Txt.join "" (cs.map fun c => (⟨#[c]⟩ : Str)) = ofC cs := by
  show Builtin.Str.glued "" _ = _
  rw [PySem.StrLaws.glued_eq_join]
  exact str_ext (by rw [join_signs, ofC_list])
/-- a text drawn: at most r draws, of which Pz holds -/
def sp_tx (r : Nat) (Pz : Str → Prop) : Sp := fun vs H Q _ => ∃ (p : Addr) (xs : List V) (n : Nat), vs = [.ref p] ∧ H p = some (.lst xs) ∧ StL (n + r) xs ∧
  ∀ z ys H', But p H H' → H' p = some (.lst ys) → StL n ys → Pz z → Q (.str z) H'
theorem cods_of {z : Str} : ∀ (vs : List V), (∀ v ∈ vs, ∃ c ∈ z.cps.toList, v = sg1 c) → ∃ cs : List Nat, vs = cs.map sg1 ∧ ∀ c ∈ cs, c ∈ z.cps.toList
  | [], _ => ⟨[], rfl, fun c hc => nomatch hc⟩
  | v :: r, h => by
    obtain ⟨c, hc, rfl⟩ := h v List.mem_cons_self
    obtain ⟨cs, rfl, h2⟩ := cods_of r fun v hv => h v (List.mem_cons_of_mem _ hv)
    exact ⟨c :: cs, rfl, fun c' hc' => (List.mem_cons.mp hc').elim (fun e => e ▸ hc) (h2 c')⟩
theorem sum_signs (cs : List Nat) : ((cs.map fun c => (⟨#[c]⟩ : Str)).map (·.length)).sum = cs.length := by
  induction cs with
  | nil => rfl
  | cons a r ih =>
    rw [List.map_cons, List.map_cons, List.sum_cons, ih, List.length_cons]
    show 1 + r.length = _
    omega
def smallV (lo l : Nat) : V → Bool
  | .int i => decide ((lo : Int) ≤ i) && decide (i ≤ l)
  | _ => false
theorem small_of {us : List V} {v : V} {lo l : Nat} (h : v ∈ us) (ha : us.all (smallV lo l) = true) : ∃ m : Nat, v = V.int m ∧ lo ≤ m ∧ m ≤ l := by
  have h1 := List.all_eq_true.mp ha v h
  cases v with
  | int i =>
    obtain ⟨h2, h3⟩ := He.ba (show (decide ((lo : Int) ≤ i) && decide (i ≤ l)) = true from h1)
    have h4 := of_decide_eq_true h2
    have h5 := of_decide_eq_true h3
    exact ⟨i.toNat, by rw [Int.toNat_of_nonneg (by omega)], by omega, by omega⟩
  | _ => cases h1
/-- [..][draw] : an item of a written list at a drawn place -/
theorem rd_tab {K : PySem.W.Frag} {us : List V} {t : TA} {σ : St} {i m n : Nat} {p : Addr} {xs : List V} {H : Hp} {Q : VK} (ht : ∀ (H : Hp) (Q' : List V → Hp → Prop), Q' us H → t σ H Q') (hi : σ[i]? = some (some (.ref p))) (hp : H p = some (.lst xs)) (hx : StL (n + 1) xs)
    (hm : us.length = m) (h0 : 0 < m) (hb : m ≤ 1000) (k : ∀ v H' ys, v ∈ us → But p H H' → H' p = some (.lst ys) → StL n ys → Q v H') : tOp (rIxL K) (tLst t) (tCall sp_draw [] E0 (tCons (tVar i) (tCons (tC (V.int m)) tNil))) σ H Q := by
  have hl : 1000 ≤ sizeLine := by decide
  refine ht _ _ ⟨by omega, fun q hq => ⟨_, hi, p, xs, n, (m : Int), rfl, ?_, hx, by omega, by omega, fun d ys hd0 hd1 hy => ?_⟩⟩
  · rw [upd_ne (ne_of_none hp hq)]
    exact hp
  · obtain ⟨j, v, hv, ha⟩ := atI_of (us := us) (m := m) hd0 hd1 hm.symm
    refine ⟨q, us, d, v, rfl, rfl, SqL.of ?_, ha, k v _ ys (List.mem_of_getElem? hv) ((But.new hq).trans But.upd) upd_same hy⟩
    rw [upd_ne (Ne.symm (ne_of_none hp hq)), upd_same]
/-- draw(many) -/
theorem rd_draw {σ : St} {i m n : Nat} {p : Addr} {xs : List V} {H : Hp} {Q : VK} (hi : σ[i]? = some (some (.ref p))) (hp : H p = some (.lst xs)) (hx : StL (n + 1) xs) (h0 : 0 < m) (hb : m ≤ 1000)
    (k : ∀ (d : Nat) H' ys, d < m → But p H H' → H' p = some (.lst ys) → StL n ys → Q (.int d) H') : tCall sp_draw [] E0 (tCons (tVar i) (tCons (tC (V.int m)) tNil)) σ H Q := by
  refine ⟨_, hi, p, xs, n, (m : Int), rfl, hp, hx, by omega, by omega, fun d ys hd0 hd1 hy => ?_⟩
  obtain ⟨e, rfl⟩ := Int.eq_ofNat_of_zero_le hd0
  exact k e _ ys (by omega) But.upd upd_same hy
theorem rd_sign {σ : St} {i m n : Nat} {z : Str} {p : Addr} {xs : List V} {H : Hp} {Q : VK} (hi : σ[i]? = some (some (.ref p))) (hp : H p = some (.lst xs)) (hx : StL (n + 1) xs) (hm : z.cps.toList.length = m) (h0 : 0 < m) (hb : m ≤ 1000)
    (k : ∀ (c : Nat) H' ys, c ∈ z.cps.toList → But p H H' → H' p = some (.lst ys) → StL n ys → Q (.str ⟨#[c]⟩) H') : tOp rIxS (tC (.str z)) (tCall sp_draw [] E0 (tCons (tVar i) (tCons (tC (V.int m)) tNil))) σ H Q := by
  refine rd_draw hi hp hx h0 hb fun d H' ys hd b hp' hy => ?_
  obtain ⟨c, hc, ha⟩ := atT_of (z := z) (d := (d : Int)) (m := m) (by omega) (by omega) hm.symm
  have hl : 1000 ≤ sizeLine := by decide
  have hz : z.length = m := by rw [← hm, Array.length_toList]; rfl
  exact ⟨z, _, c, rfl, rfl, by omega, ha, k c H' ys hc b hp' hy⟩
/-- ['..'[draw(M)] for _ in range(m)] -/
theorem rd_signs {σ : St} {i i0 m M n : Nat} {lo : Int} {z : Str} {p D : Addr} {xs : List V} {H1 : Hp} {Qd : Hp → Prop} (hi : ∀ x, ((wipe σ [i0]).set i0 (some x))[i]? = some (some (.ref p))) (hp : H1 p = some (.lst xs)) (hx : StL (n + m) xs) (hD : H1 D = none) (hm : m ≤ 1000)
    (hM : z.cps.toList.length = M) (h0 : 0 < M) (hb : M ≤ 1000)
    (k : ∀ (cs : List Nat) H' ys, But p H1 H' → H' p = some (.lst ys) → StL n ys → H' D = some (.lst (cs.map sg1)) → cs.length = m → (∀ c ∈ cs, c ∈ z.cps.toList) → Qd H') :
    ∃ W : Nat → Nat → Hp → Prop, (∃ k, W 0 k (L2.upd H1 D (.lst []))) ∧ ∀ j k H, W j k H →
      ((Itr lo m).stop j H ∧ Qd H) ∨ ((Itr lo m).go j H ∧ ∃ Nx : Hp → Prop, (∀ H', Nx H' → ∃ k', k' < k ∧ W (j + 1) k' H') ∧ ∀ x H', (Itr lo m).yld j H x H' → gName i0 x (wipe σ [i0]) H' fun σ2 H2 => wipe σ2 [i0] = wipe σ [i0] ∧ tYes σ2 H2 fun b H3 =>
        if b = true then (tOp rIxS (tC (.str z)) (tCall sp_draw [] E0 (tCons (tVar i) (tCons (tC (V.int M)) tNil)))) σ2 H3 fun y H4 => ∃ acc, H4 D = some (.lst acc) ∧ acc.length < sizeLine ∧ Nx (L2.upd H4 D (.lst (acc ++ [y]))) else Nx H3) := by
  refine lcr_draw (C := 0) (r := 1) (n := n) (fun _ v => ∃ c ∈ z.cps.toList, v = sg1 c) (fun _ _ _ _ h => h) hp (by rw [Nat.one_mul]; exact hx) hD (by omega) (fun j H2 zs n' Q2 hj b hz hsz kq => ?_) (fun vs H2 zs b hz hsz hDv hl hg => ?_)
  · exact rd_sign (hi _) hz hsz hM h0 hb fun c H' ys hc b' hp' hy => kq _ _ ys b' hp' hy ⟨c, hc, rfl⟩
  · obtain ⟨cs, rfl, ho⟩ := cods_of vs hg
    rw [List.length_map] at hl
    exact k cs H2 zs b hz hsz hDv hl ho
theorem allIn {s : Str} {cs : List Nat} (h : ∀ c ∈ cs, c ∈ s.cps.toList) : cs.all (inS s) = true := List.all_eq_true.mpr fun c hc => decide_eq_true (h c hc)
theorem word_of {cs : List Nat} (h1 : 1 ≤ cs.length) (h8 : cs.length ≤ 8) (h : ∀ c ∈ cs, c ∈ SMALL.cps.toList) : isWord (ofC cs) = true := by
  have e : (ofC cs).length = cs.length := by rw [len_list, ofC_list]
  rw [isWord, e, ofC_list, allIn h, decide_eq_true h1, decide_eq_true h8]
  rfl
theorem name_of {as ds : List Nat} (h1 : 1 ≤ as.length) (h8 : as.length + ds.length ≤ 8) (ha : ∀ c ∈ as, c ∈ GREAT.cps.toList) (hd : ∀ c ∈ ds, c ∈ DIGITS.cps.toList) : isName (ofC (as ++ ds)) = true := by
  have e : (ofC (as ++ ds)).length = as.length + ds.length := by rw [len_list, ofC_list, List.length_append]
  have fA : as.filter (inS GREAT) = as := List.filter_eq_self.mpr fun c hc => decide_eq_true (ha c hc)
  have fB : ds.filter (inS GREAT) = [] := List.filter_eq_nil_iff.mpr fun c hc q => by rw [disj2 (decide_eq_true (hd c hc))] at q; cases q
  have key := (name_iff (as ++ ds)).mpr (by
    rw [List.filter_append, fA, fB, List.append_nil, List.take_append_of_le_length (Nat.le_refl _), List.take_length, List.drop_append_of_le_length (Nat.le_refl _), List.drop_length, List.nil_append]
    exact ⟨⟨h1, allIn ha⟩, allIn hd⟩)
  rw [isName, e, decide_eq_true h8, len_list, rstrip_list, ofC_list, key.2, decide_eq_true key.1]
  rfl
theorem word_noname {z : Str} (h : isName z = true) : isWord z = false := by
  cases e : isWord z with
  | false => rfl
  | true =>
    obtain ⟨h1, h2⟩ := He.ba h
    obtain ⟨h3, h4⟩ := He.ba h2
    have h1' := of_decide_eq_true h1
    rw [len_list, rstrip_list] at h1'
    rw [rstrip_list] at h4
    obtain ⟨⟨a1, a2⟩, a3⟩ := (name_iff z.cps.toList).mp ⟨h1', h4⟩
    obtain ⟨w1, w2⟩ := He.ba e
    obtain ⟨w3, w4⟩ := He.ba w2
    obtain ⟨c, hc⟩ := List.exists_mem_of_length_pos a1
    rw [List.mem_filter] at hc
    have s1 := List.all_eq_true.mp w4 c hc.1
    have dj : GREAT.cps.toList.all (fun c => !inS SMALL c) = true := by decide +kernel
    have s2 := List.all_eq_true.mp dj c (of_decide_eq_true hc.2)
    rw [s1] at s2
    cases s2
theorem word_len {z : Str} (h : isWord z = true) : 1 ≤ z.length ∧ z.length ≤ 8 ∧ okS z := by
  obtain ⟨h1, h2⟩ := He.ba h
  obtain ⟨h3, h4⟩ := He.ba h2
  have dj : SMALL.cps.toList.all (fun c => decide (c < 1114112)) = true := by decide +kernel
  exact ⟨of_decide_eq_true h1, of_decide_eq_true h3, fun c hc => of_decide_eq_true (List.all_eq_true.mp dj c (of_decide_eq_true (List.all_eq_true.mp h4 c hc)))⟩
theorem name_len {z : Str} (h : isName z = true) : z.length ≤ 8 ∧ okS z := by
  obtain ⟨h1, h2⟩ := He.ba h
  obtain ⟨h3, h4⟩ := He.ba h2
  have h1' := of_decide_eq_true h1
  rw [len_list, rstrip_list] at h1'
  rw [rstrip_list] at h4
  obtain ⟨⟨a1, a2⟩, a3⟩ := (name_iff z.cps.toList).mp ⟨h1', h4⟩
  have dj : GREAT.cps.toList.all (fun c => decide (c < 1114112)) = true := by decide +kernel
  have dk : DIGITS.cps.toList.all (fun c => decide (c < 1114112)) = true := by decide +kernel
  refine ⟨of_decide_eq_true h3, fun c hc => ?_⟩
  rw [← List.take_append_drop (z.cps.toList.filter (inS GREAT)).length z.cps.toList] at hc
  rcases List.mem_append.mp hc with q | q
  · exact of_decide_eq_true (List.all_eq_true.mp dj c (of_decide_eq_true (List.all_eq_true.mp a2 c q)))
  · exact of_decide_eq_true (List.all_eq_true.mp dk c (of_decide_eq_true (List.all_eq_true.mp a3 c q)))
section
variable {P : Program} {w : World} {K : PySem.W.Frag} {mg : Str → Option Value} {base : Heap}
end
end Rd
namespace Rd
open PySem L2
/-! ### forms -/
inductive Tr where
  | am (k x : Str)
  | un (s : Str) (a : Tr)
  | bi (s : Str) (a b : Tr)
  deriving DecidableEq
def Tr.dep : Tr → Nat
  | .am _ _ => 0
  | .un _ a => a.dep + 1
  | .bi _ a b => max a.dep b.dep + 1
def Tr.nod : Tr → Nat
  | .am _ _ => 0
  | .un _ a => a.nod + 1
  | .bi _ a b => a.nod + b.nod + 1
/-- how large a drawn form is -/
def Tr.unkIn (us : List V) : Tr → Prop
  | .am k x => k = "unknown" → V.str x ∈ us
  | .un _ a => a.unkIn us
  | .bi _ a b => a.unkIn us ∧ b.unkIn us
def dpN (d : Nat) (us : List V) (t : Tr) : Prop := t.dep ≤ 2 * d ∧ t.nod + 2 ≤ 2 ^ (d + 1) ∧ t.unkIn us
theorem dpN.am {d : Nat} {us : List V} {k x : Str} (h : k = "unknown" → V.str x ∈ us) : dpN d us (.am k x) := by
  refine ⟨Nat.zero_le _, ?_, h⟩
  show 0 + 2 ≤ 2 ^ (d + 1)
  rw [Nat.pow_succ]
  have := Nat.pow_pos (n := d) (show 0 < 2 by decide)
  omega
theorem dpN.un {d : Nat} {us : List V} {s : Str} {a : Tr} (h : dpN d us a) : dpN (d + 1) us (.un s a) := by
  obtain ⟨h1, h2, h3⟩ := h
  have e : 2 ^ (d + 1 + 1) = 2 * 2 ^ (d + 1) := by rw [Nat.pow_succ]; omega
  refine ⟨?_, ?_, h3⟩
  · show a.dep + 1 ≤ 2 * (d + 1)
    omega
  · show a.nod + 1 + 2 ≤ 2 ^ (d + 1 + 1)
    omega
theorem dpN.bi {d : Nat} {us : List V} {s : Str} {a b : Tr} (h : dpN d us a) (g : dpN d us b) : dpN (d + 1) us (.bi s a b) := by
  obtain ⟨h1, h2, h3⟩ := h
  obtain ⟨g1, g2, g3⟩ := g
  have e : 2 ^ (d + 1 + 1) = 2 * 2 ^ (d + 1) := by rw [Nat.pow_succ]; omega
  refine ⟨?_, ?_, h3, g3⟩
  · show max a.dep b.dep + 1 ≤ 2 * (d + 1)
    omega
  · show a.nod + b.nod + 1 + 2 ≤ 2 ^ (d + 1 + 1)
    omega
theorem dpN.lk {d : Nat} {us : List V} {s s' : Str} {a b : Tr} (h : dpN d us a) (g : dpN d us b) : dpN (d + 1) us (.bi s a (.un s' b)) := by
  obtain ⟨h1, h2, h3⟩ := h
  obtain ⟨g1, g2, g3⟩ := g
  have e : 2 ^ (d + 1 + 1) = 2 * 2 ^ (d + 1) := by rw [Nat.pow_succ]; omega
  refine ⟨?_, ?_, h3, g3⟩
  · show max a.dep (b.dep + 1) + 1 ≤ 2 * (d + 1)
    omega
  · show a.nod + (b.nod + 1) + 1 + 2 ≤ 2 ^ (d + 1 + 1)
    omega
def kindOk (k x : Str) : Prop := (k = "word" ∧ isWord x = true) ∨ (k = "name" ∧ isName x = true) ∨ (k = "unknown" ∧ isUnk x = true)
inductive Wf : Tr → Prop
  | am {k x : Str} : kindOk k x → Wf (.am k x)
  | un {s : Str} {a : Tr} : s ∈ (["mark", "open", "own"] : List Str) → Wf a → Wf (.un s a)
  | bi {s : Str} {a b : Tr} : s ∈ (["pair", "seal"] : List Str) → Wf a → Wf b → Wf (.bi s a b)
  | lk {s : Str} {a b : Tr} : s ∈ (["open", "own"] : List Str) → Wf a → Wf b → Wf (.bi "lock" a (.un s b))
def IsT (H : Hp) : Tr → V → Prop
  | .am k x, v => ∃ p, v = .ref p ∧ H p = some (.tup [.str k, .str x])
  | .un s a, v => ∃ p u, v = .ref p ∧ H p = some (.tup [.str s, u]) ∧ IsT H a u
  | .bi s a b, v => ∃ p u1 u2, v = .ref p ∧ H p = some (.tup [.str s, u1, u2]) ∧ IsT H a u1 ∧ IsT H b u2
theorem IsT.mono {C : Addr} {H H' : Hp} (k : Kp C H H') : ∀ {t : Tr} {v : V}, IsT H t v → IsT H' t v
  | .am _ _, _, ⟨p, e, h⟩ => ⟨p, e, k p _ rfl h⟩
  | .un _ _, _, ⟨p, u, e, h, h1⟩ => ⟨p, u, e, k p _ rfl h, IsT.mono k h1⟩
  | .bi _ _ _, _, ⟨p, u1, u2, e, h, h1, h2⟩ => ⟨p, u1, u2, e, k p _ rfl h, IsT.mono k h1, IsT.mono k h2⟩
theorem IsT.same {H H' : Hp} {t : Tr} {v : V} (s : Same H H') (h : IsT H t v) : IsT H' t v := h.mono (C := 0) (Kp.of_same s)
theorem IsT.but {p : Addr} {H H' : Hp} {xs : List V} {t : Tr} {v : V} (s : But p H H') (hp : H p = some (.lst xs)) (h : IsT H t v) : IsT H' t v := h.mono (C := 0) (s.kp hp)
theorem IsT.ref {H : Hp} {t : Tr} {v : V} (h : IsT H t v) : ∃ p, v = .ref p := by
  cases t with
  | am k x => obtain ⟨p, e, _⟩ := h; exact ⟨p, e⟩
  | un s a => obtain ⟨p, u, e, _⟩ := h; exact ⟨p, e⟩
  | bi s a b => obtain ⟨p, u, u2, e, _⟩ := h; exact ⟨p, e⟩
/-- a form drawn -/
def unkL (us : List V) : Prop := us.length ≤ 100 ∧ ∀ v ∈ us, ∃ z : Str, v = .str z ∧ isUnk z = true
theorem unk_len {z : Str} (h : isUnk z = true) : z.length ≤ 7 ∧ 1 ≤ z.length ∧ okS z := by
  obtain ⟨h1, h2⟩ := He.ba h
  obtain ⟨a, b, c⟩ := word_len h1
  exact ⟨of_decide_eq_true h2, a, c⟩
def unkB : V → Bool
  | .str z => isUnk z
  | _ => false
theorem unkL_by {us : List V} (hl : us.length ≤ 100) (h : us.all unkB = true) : unkL us := ⟨hl, fun v hv => by
  have h1 := List.all_eq_true.mp h v hv
  cases v with
  | str z => exact ⟨z, rfl, h1⟩
  | _ => cases h1⟩
theorem dpL {K : PySem.W.Frag} {H : Hp} : ∀ (us : List V), (∀ v ∈ us, ∃ z : Str, v = .str z ∧ isUnk z = true) → ∃ ds : List PyData, DpAll K H us ds ∧ ds.length = us.length ∧ PySem.PyData.canLayAll0 ds = true ∧ PySem.PyData.depthAll ds = 0
  | [], _ => ⟨[], .nil, rfl, rfl, rfl⟩
  | v :: r, h => by
    obtain ⟨z, rfl, hz⟩ := h v List.mem_cons_self
    obtain ⟨ds, h1, h2, h3, h4⟩ := dpL (K := K) (H := H) r fun v hv => h v (List.mem_cons_of_mem _ hv)
    refine ⟨.str z :: ds, .cons (.str z) h1, by rw [List.length_cons, h2]; rfl, ?_, ?_⟩
    · show (PySem.PyData.strOk z && PySem.PyData.canLayAll0 ds) = true
      rw [strOk_of (unk_len hz).2.2, h3]
      rfl
    · show max 0 (PySem.PyData.depthAll ds) = 0
      rw [h4]
      rfl
def sp_atom : Sp := fun vs H Q _ => ∃ (p u : Addr) (xs us : List V) (n : Nat), vs = [.ref p, .ref u] ∧ H p = some (.lst xs) ∧ StL (n + 30) xs ∧ u ≠ p ∧ H u = some (.lst us) ∧ unkL us ∧
  ∀ k x v ys H', But p H H' → H' p = some (.lst ys) → StL n ys → kindOk k x → (k = "unknown" → V.str x ∈ us) → IsT H' (.am k x) v → Q v H'
def dr (d : Nat) : Nat := 40 * 3 ^ d
def sp_drawnForm (d : Nat) : Sp := fun vs H Q _ => ∃ (p u : Addr) (xs us : List V) (n : Nat), vs = [.ref p, .ref u, .int d] ∧ H p = some (.lst xs) ∧ StL (n + dr d) xs ∧ u ≠ p ∧ H u = some (.lst us) ∧ unkL us ∧
  ∀ t v ys H', But p H H' → H' p = some (.lst ys) → StL n ys → Wf t → dpN d us t → IsT H' t v → Q v H'
/-- the promise at recursive calls of a form at most d deep -/
def spR : Nat → Sp
  | 0 => fun _ _ _ _ => False
  | d + 1 => sp_drawnForm d
/-- pick(stream, [..]) -/
theorem rd_pick {K : PySem.W.Frag} {p a : Addr} {xs us : List V} {n : Nat} {H : Hp} {Q : VK} (hp : H p = some (.lst xs)) (hx : StL (n + 1) xs) (ha : H a = some (.lst us)) (ne : a ≠ p) (h0 : 0 < us.length) (h1 : us.length ≤ 1000)
    (k : ∀ v H' ys, v ∈ us → But p H H' → H' p = some (.lst ys) → StL n ys → Q v H') : sp_pick K [.ref p, .ref a] H Q E0 :=
  ⟨p, a, xs, us, n, rfl, hp, hx, SqL.of ha, SqL.of (by rw [upd_ne ne]; exact ha), h0, by omega, fun j v ys hv hy => k v _ ys (List.mem_of_getElem? hv) But.upd upd_same hy⟩
def strIn (l : List Str) : V → Bool
  | .str z => decide (z ∈ l)
  | _ => false
theorem str_of {us : List V} {v : V} {l : List Str} (h : v ∈ us) (ha : us.all (strIn l) = true) : ∃ z : Str, v = V.str z ∧ z ∈ l := by
  have h1 := List.all_eq_true.mp ha v h
  cases v with
  | str z => exact ⟨z, rfl, of_decide_eq_true h1⟩
  | _ => cases h1
theorem eqv_nil (ds : List PyData) : PyData.eqv (.list ds) (.list []) = ds.isEmpty := by cases ds <;> rfl
end Rd
namespace Rd
open PySem L2
section
variable {P : Program} {w : World} {K : PySem.W.Frag} {mg : Str → Option Value} {base : Heap}
abbrev s_BadAtom_init : Stmt := inClass (top 3) 0
theorem sc_BadAtom_init : FnScope ["self", "text"] ["self", "text"] (defScope s_BadAtom_init) := ⟨rfl, rfl, rfl, by decide +kernel, rfl, by decide +kernel, by decide +kernel⟩
theorem ok_BadAtom (T : Tx w K mg) : Fm P w K mg base CX0 1 "BadAtom" "__init__" ["self", "text"] (spX1 K "text") := by
  refine T.X_BadAtom.init.ok0 sc_BadAtom_init (fun _ _ _ _ _ _ us hl => match us, hl with | [_, _], _ => rfl)
    (fun vs H Q E h => ?_) (fun cdv A outer s H vs Q E hr h => ?_)
  · obtain ⟨a, C, v, rfl, _⟩ := h
    rfl
  · obtain ⟨a, C, v, rfl, TC, no, ha, k⟩ := h
    refine ⟨_, (pss_cons (ps_expr (pe_reinit rfl T.g_RoadError T.r_RoadError (pa_cons (pv 0) (pa_cons pe_str pa_nil))))
  (pss_one (ps_ost (pv 0) (pv 1)))), ?_⟩
    refine ⟨_, rfl, a, C, [.str "no atom"], rfl, (by show 1 ≤ 1000; decide), TC, ha, _, rfl, _, rfl, a, C, rfl, TC, no, .inl ⟨ha, fun dx hdx ne => k dx hdx ne⟩⟩
/-- Letter(text), Letter("", tree) -/
def sp_Linit (K : PySem.W.Frag) : Sp := fun vs H Q E => ∃ (x dx : Addr) (z : Str) (v : V), vs = [.ref x, .str z, v] ∧ H x = some (.ins (He.ga K "Letter") dx []) ∧
  ((v ≠ .non ∧ Q .non (upd H x (.ins (He.ga K "Letter") dx [("tree", v)]))) ∨
   (v = .non ∧ z.length ≤ 200000 ∧ (∀ k y p H', But x H H' → atomOf z = some (k, y) → H p = none → H' p = some (.tup [.str k, .str y]) → H' x = some (.ins (He.ga K "Letter") dx [("tree", .ref p)]) → Q .non H') ∧
     ∀ d H', But x H H' → atomOf z = none → H d = none → H' d = some (.xd [("text", .str z)]) → E (.ref (He.ga K "BadAtom")) (some d) H'))
theorem look1 (v : V) : ([("tree", v)] : List (Str × V)).lookup ("tree" : Str) = some v := by simp [List.lookup]
theorem putTree (v u : V) : putF "tree" u ([("tree", v)] : List (Str × V)) = ([("tree", u)] : List (Str × V)) := by
  show (if ("tree" : Str) = "tree" then ([(("tree" : Str), u)] : List (Str × V)) else _) = _
  rw [if_pos rfl]
abbrev s_Letter_init : Stmt := inClass (top 26) 0
theorem sc_Letter_init : FnScope ["self", "atom", "tree"] ["self", "atom", "tree"] (defScope s_Letter_init) := ⟨rfl, rfl, rfl, by decide +kernel, rfl, by decide +kernel, by decide +kernel⟩
theorem ok_Letter (T : Tx w K mg) : Fi P w K mg base (L2N.CX P w) 4 "Letter" ["self", "atom", "tree"] (sp_Linit K) .non := by
  refine T.I_Letter.ok (n := 2) sc_Letter_init rfl (fun _ _ _ _ _ _ _ us its hu hi => match us, its, hu, hi with | [_, _], [_], _, _ => ⟨_, rfl, rfl⟩) (fun _ _ _ _ _ _ _ us its hu hi => match us, its, hu, hi with | [_, _, _], [_], _, _ => ⟨_, rfl, rfl⟩)
    (fun vs H Q E h => ?_) (fun cdv A outer s H vs Q E hr h => ?_)
  · obtain ⟨x, dx, z, v, rfl, _⟩ := h
    rfl
  · obtain ⟨x, dx, z, v, rfl, hx, hv⟩ := h
    refine ⟨_, (pss_cons (ps_fld (pv 0) (pv 2) rfl)
  (pss_one (ps_if (pt_cmpR op_isN (pv 2) pe_non (nomark _))
  (pss_cons (ps_fld (pv 0) (pe_fk (ok_atom_tree T) (hr.mono (by omega)) rfl pass0 (pa_cons (pv 1) pa_nil)) rfl)
  (pss_one (ps_if (pt_cmpR op_isN (pe_fld (pv 0) rfl) pe_non (nomark _))
  (pss_one (L2N.ps_raise rfl (L2N.takes_of rfl rfl rfl rfl) (pmk_xN T.X_BadAtom (ok_BadAtom T) (hr.mono (by omega)) rfl (pa_cons (pv 1) pa_nil))))
  pss_nil)))
  pss_nil))), ?_⟩
    refine ⟨_, rfl, _, rfl, x, _, dx, [], rfl, hx, T.k_Letter, T.n_Letter_tree, (by show 0 < 1000; decide), ?_⟩
    refine ⟨_, rfl, rfl, _, rfl, ?_⟩
    rcases hv with ⟨hne, q⟩ | ⟨rfl, hz, k1, k0⟩
    · exact ite2 (fun h => absurd (of_decide_eq_true h) hne) (fun _ => q)
    refine ite2 (fun _ => ?_) (fun h => absurd (decide_eq_true rfl) h)
    have b0 : But x H (upd H x (.ins (He.ga K "Letter") dx [("tree", .non)])) := But.upd
    refine ⟨_, rfl, z, rfl, hz, fun H1 s1 en => ?_, fun k y p H1 s1 es hp hp1 => ?_⟩
    · have hx1 : H1 x = some (.ins (He.ga K "Letter") dx [("tree", .non)]) := s1 x _ upd_same
      refine ⟨_, rfl, x, _, dx, _, rfl, hx1, T.k_Letter, T.n_Letter_tree, (by show 1 < 1000; decide), ?_⟩
      refine ⟨_, rfl, x, _, dx, _, .non, rfl, upd_same, T.k_Letter, T.n_Letter_tree, (by rw [putTree]; exact look1 _), rfl, _, rfl, ite2 (fun _ => ?_) (fun h => absurd (decide_eq_true rfl) h)⟩
      refine ⟨_, rfl, rd_raise1 T.X_BadAtom.oex T.X_BadAtom.no fun d H' s' nd hd => k0 d H' ?_ en ?_ hd⟩
      · exact ((b0.trans (But.of_same s1)).trans But.upd).trans (But.of_same s')
      · have nx : d ≠ x := fun e => by rw [e, upd_same] at nd; cases nd
        rw [upd_ne nx] at nd
        have n2 := s1.free nd
        rw [upd_ne nx] at n2
        exact n2
    · have hx1 : H1 x = some (.ins (He.ga K "Letter") dx [("tree", .non)]) := s1 x _ upd_same
      have npx : p ≠ x := fun e => by rw [e, hx1] at hp1; cases hp1
      refine ⟨_, rfl, x, _, dx, _, rfl, hx1, T.k_Letter, T.n_Letter_tree, (by show 1 < 1000; decide), ?_⟩
      refine ⟨_, rfl, x, _, dx, _, .ref p, rfl, upd_same, T.k_Letter, T.n_Letter_tree, (by rw [putTree]; exact look1 _), rfl, _, rfl, ite2 (fun h => absurd (of_decide_eq_true h) (fun e => by cases e)) (fun _ => ?_)⟩
      refine k1 k y p _ ((b0.trans (But.of_same s1)).trans But.upd) es ?_ (by rw [upd_ne npx]; exact hp1) (by rw [upd_same, putTree])
      rw [upd_ne npx] at hp
      exact hp
/-- an atom's form -/
def IsAtm (H : Hp) (v : V) (k x : Str) : Prop := ∃ p, v = .ref p ∧ H p = some (.tup [.str k, .str x])
abbrev s_Letter_form : Stmt := inClass (top 26) 3
theorem sc_Letter_form : FnScope ["self"] ["self"] (defScope s_Letter_form) := ⟨rfl, rfl, rfl, by decide +kernel, rfl, by decide +kernel, by decide +kernel⟩
/-- a letter at a: its field -/
def IsL (K : PySem.W.Frag) (H : Hp) (a : Addr) (v : V) : Prop := ∃ dx, H a = some (.ins (He.ga K "Letter") dx [("tree", v)])
def sp_form (K : PySem.W.Frag) : Sp := fun vs H Q _ => ∃ (a : Addr) (v : V), vs = [.ref a] ∧ IsL K H a v ∧ Q v H
theorem ok_form (T : Tx w K mg) : Fm P w K mg base CX0 1 "Letter" "form" ["self"] (sp_form K) := by
  refine T.M_Letter_form.ok0 sc_Letter_form (fun _ _ _ _ _ _ us hl => match us, hl with | [_], _ => rfl)
    (fun vs H Q E h => ?_) (fun cdv A outer s H vs Q E hr h => ?_)
  · obtain ⟨a, v, rfl, _⟩ := h
    rfl
  · obtain ⟨a, v, rfl, ⟨dx, ha⟩, k⟩ := h
    refine ⟨_, (pss_one (ps_ret (pe_fld (pv 0) rfl))), ?_⟩
    exact ⟨_, rfl, a, _, dx, _, v, rfl, ha, T.k_Letter, T.n_Letter_tree, look1 _, k⟩
end
end Rd
namespace Rd
open PySem L2
theorem lookT {m : Str} {v : V} (h : (m == ("tree" : Str)) = false) : ([("tree", v)] : List (Str × V)).lookup m = none := by simp [List.lookup, h]
theorem lookX {f : Str} (v : V) : ([(f, v)] : List (Str × V)).lookup f = some v := by simp [List.lookup]
theorem IsL.mono {K : PySem.W.Frag} {H H' : Hp} {a : Addr} {v : V} (k : Kp (He.ga K "Letter") H H') (h : IsL K H a v) : IsL K H' a v := by
  obtain ⟨dx, e⟩ := h
  exact ⟨dx, k a _ (by show ((He.ga K "Letter") == (He.ga K "Letter")) = true; exact beq_self_eq_true _) e⟩
theorem IsL.same {K : PySem.W.Frag} {H H' : Hp} {a : Addr} {v : V} (k : Same H H') (h : IsL K H a v) : IsL K H' a v := h.mono (Kp.of_same k)
/-- a letter with a form -/
def IsLet (K : PySem.W.Frag) (H : Hp) (t : Tr) (v : V) : Prop := ∃ a u, v = .ref a ∧ IsL K H a u ∧ IsT H t u
theorem IsLet.mono {K : PySem.W.Frag} {H H' : Hp} {t : Tr} {v : V} (k : Kp (He.ga K "Letter") H H') (h : IsLet K H t v) : IsLet K H' t v := by
  obtain ⟨a, u, e, h1, h2⟩ := h
  exact ⟨a, u, e, h1.mono k, h2.mono k⟩
theorem IsLet.same {K : PySem.W.Frag} {H H' : Hp} {t : Tr} {v : V} (k : Same H H') (h : IsLet K H t v) : IsLet K H' t v := h.mono (Kp.of_same k)
def Tr.head : Tr → Str
  | .am k _ => k
  | .un s _ => s
  | .bi s _ _ => s
def isKey (t : Tr) : Bool := decide (t.head ∈ (["open", "own"] : List Str))
theorem IsT.hd {H : Hp} {t : Tr} {v : V} (h : IsT H t v) : ∃ p us, v = .ref p ∧ H p = some (.tup (.str t.head :: us)) := by
  cases t with
  | am k x => obtain ⟨p, e, h⟩ := h; exact ⟨p, _, e, h⟩
  | un s a => obtain ⟨p, u, e, h, _⟩ := h; exact ⟨p, _, e, h⟩
  | bi s a b => obtain ⟨p, u, u2, e, h, _⟩ := h; exact ⟨p, _, e, h⟩
/-- a sign of two letters, of one -/
def sp_bin (K : PySem.W.Frag) (s : Str) : Sp := fun vs H Q _ => ∃ (a b : Addr) (u1 u2 : V), vs = [.ref a, .ref b] ∧ IsL K H a u1 ∧ IsL K H b u2 ∧
  ∀ x q H', Same H H' → IsL K H' x (.ref q) → H' q = some (.tup [.str s, u1, u2]) → Q (.ref x) H'
def sp_one (K : PySem.W.Frag) (s : Str) : Sp := fun vs H Q _ => ∃ (a : Addr) (u1 : V), vs = [.ref a] ∧ IsL K H a u1 ∧
  ∀ x q H', Same H H' → IsL K H' x (.ref q) → H' q = some (.tup [.str s, u1]) → Q (.ref x) H'
def sp_xor (K : PySem.W.Frag) : Sp := fun vs H Q E => ∃ (a b : Addr) (u1 u2 : V) (t2 : Tr), vs = [.ref a, .ref b] ∧ IsL K H a u1 ∧ IsL K H b u2 ∧ IsT H t2 u2 ∧
  (isKey t2 = true → ∀ x q H', Same H H' → IsL K H' x (.ref q) → H' q = some (.tup [.str "lock", u1, u2]) → Q (.ref x) H') ∧
  (isKey t2 = false → ∀ d H', Same H H' → H' d = some (.xd [("key", .ref b)]) → E (.ref (He.ga K "BadKey")) (some d) H')
/-- Letter("", tree) behind its arguments -/
theorem rd_mkL {K : PySem.W.Frag} {H1 : Hp} {q : Addr} {Q : VK} {E : XK} {xs : List V} (hq : H1 q = some (.tup xs))
    (k : ∀ x H', Same H1 H' → IsL K H' x (.ref q) → Q (.ref x) H') :
    ∀ x dx, H1 x = none → H1 dx = none → dx ≠ x → sp_Linit K (.ref x :: ([.str "", .ref q] ++ [])) (upd (upd H1 dx (.own x)) x (.ins (He.ga K "Letter") dx [])) (fun v H2 => v = .non ∧ Q (.ref x) H2) E := fun x dx nx ndx ne => by
  refine ⟨x, dx, "", .ref q, rfl, upd_same, .inl ⟨(fun e => by cases e), rfl, k x _ (fun b o e => ?_) ⟨dx, upd_same⟩⟩⟩
  rw [upd_ne (ne_of_none e nx), upd_ne (ne_of_none e nx), upd_ne (ne_of_none e ndx)]
  exact e
section
variable {P : Program} {w : World} {K : PySem.W.Frag} {mg : Str → Option Value} {base : Heap}
abbrev s_Letter_add : Stmt := inClass (top 26) 8
theorem sc_Letter_add : FnScope ["self", "other"] ["self", "other"] (defScope s_Letter_add) := ⟨rfl, rfl, rfl, by decide +kernel, rfl, by decide +kernel, by decide +kernel⟩
theorem ok_Ladd (T : Tx w K mg) : Fm P w K mg base CX0 6 "Letter" "__add__" ["self", "other"] (sp_bin K "pair") := by
  refine T.M_Letter_add.ok0 sc_Letter_add (fun _ _ _ _ _ _ us hl => match us, hl with | [_, _], _ => rfl)
    (fun vs H Q E h => ?_) (fun cdv A outer s H vs Q E hr h => ?_)
  · obtain ⟨a, b, u1, u2, rfl, _⟩ := h
    rfl
  · obtain ⟨a, b, u1, u2, rfl, ⟨dx, ha⟩, ⟨dy, hb⟩, k⟩ := h
    refine ⟨_, (pss_one (ps_ret (pe_mk2 (ok_Letter T) (hr.mono (by omega)) (by rfl) passN (pa_cons pe_str (pa_cons (pe_tup (pa_cons pe_str (pa_cons (pe_fld (pv 0) rfl) (pa_cons (pe_fld (pv 1) rfl) pa_nil)))) pa_nil))))), ?_⟩
    refine ⟨_, rfl, a, _, dx, _, _, rfl, ha, T.k_Letter, T.n_Letter_tree, look1 _, _, rfl, b, _, dy, _, _, rfl, hb, T.k_Letter, T.n_Letter_tree, look1 _, (by show 3 ≤ sizeLine; decide), fun q hq => ?_⟩
    exact rd_mkL upd_same fun x H' s' hx => k x q H' ((Rd.Same.upd hq).trans s') hx (s' _ _ upd_same)
abbrev s_Letter_mul : Stmt := inClass (top 26) 9
theorem sc_Letter_mul : FnScope ["self", "key"] ["self", "key"] (defScope s_Letter_mul) := ⟨rfl, rfl, rfl, by decide +kernel, rfl, by decide +kernel, by decide +kernel⟩
theorem ok_Lmul (T : Tx w K mg) : Fm P w K mg base CX0 6 "Letter" "__mul__" ["self", "key"] (sp_bin K "seal") := by
  refine T.M_Letter_mul.ok0 sc_Letter_mul (fun _ _ _ _ _ _ us hl => match us, hl with | [_, _], _ => rfl)
    (fun vs H Q E h => ?_) (fun cdv A outer s H vs Q E hr h => ?_)
  · obtain ⟨a, b, u1, u2, rfl, _⟩ := h
    rfl
  · obtain ⟨a, b, u1, u2, rfl, ⟨dx, ha⟩, ⟨dy, hb⟩, k⟩ := h
    refine ⟨_, (pss_one (ps_ret (pe_mk2 (ok_Letter T) (hr.mono (by omega)) (by rfl) passN (pa_cons pe_str (pa_cons (pe_tup (pa_cons pe_str (pa_cons (pe_fld (pv 0) rfl) (pa_cons (pe_fld (pv 1) rfl) pa_nil)))) pa_nil))))), ?_⟩
    refine ⟨_, rfl, a, _, dx, _, _, rfl, ha, T.k_Letter, T.n_Letter_tree, look1 _, _, rfl, b, _, dy, _, _, rfl, hb, T.k_Letter, T.n_Letter_tree, look1 _, (by show 3 ≤ sizeLine; decide), fun q hq => ?_⟩
    exact rd_mkL upd_same fun x H' s' hx => k x q H' ((Rd.Same.upd hq).trans s') hx (s' _ _ upd_same)
abbrev s_Letter_invert : Stmt := inClass (top 26) 11
theorem sc_Letter_invert : FnScope ["self"] ["self"] (defScope s_Letter_invert) := ⟨rfl, rfl, rfl, by decide +kernel, rfl, by decide +kernel, by decide +kernel⟩
theorem ok_Linvert (T : Tx w K mg) : Fm P w K mg base CX0 6 "Letter" "__invert__" ["self"] (sp_one K "mark") := by
  refine T.M_Letter_invert.ok0 sc_Letter_invert (fun _ _ _ _ _ _ us hl => match us, hl with | [_], _ => rfl)
    (fun vs H Q E h => ?_) (fun cdv A outer s H vs Q E hr h => ?_)
  · obtain ⟨a, u1, rfl, _⟩ := h
    rfl
  · obtain ⟨a, u1, rfl, ⟨dx, ha⟩, k⟩ := h
    refine ⟨_, (pss_one (ps_ret (pe_mk2 (ok_Letter T) (hr.mono (by omega)) (by rfl) passN (pa_cons pe_str (pa_cons (pe_tup (pa_cons pe_str (pa_cons (pe_fld (pv 0) rfl) pa_nil))) pa_nil))))), ?_⟩
    refine ⟨_, rfl, a, _, dx, _, _, rfl, ha, T.k_Letter, T.n_Letter_tree, look1 _, (by show 2 ≤ sizeLine; decide), fun q hq => ?_⟩
    exact rd_mkL upd_same fun x H' s' hx => k x q H' ((Rd.Same.upd hq).trans s') hx (s' _ _ upd_same)
abbrev s_Letter_pos : Stmt := inClass (top 26) 12
theorem sc_Letter_pos : FnScope ["self"] ["self"] (defScope s_Letter_pos) := ⟨rfl, rfl, rfl, by decide +kernel, rfl, by decide +kernel, by decide +kernel⟩
theorem ok_Lpos (T : Tx w K mg) : Fm P w K mg base CX0 6 "Letter" "__pos__" ["self"] (sp_one K "open") := by
  refine T.M_Letter_pos.ok0 sc_Letter_pos (fun _ _ _ _ _ _ us hl => match us, hl with | [_], _ => rfl)
    (fun vs H Q E h => ?_) (fun cdv A outer s H vs Q E hr h => ?_)
  · obtain ⟨a, u1, rfl, _⟩ := h
    rfl
  · obtain ⟨a, u1, rfl, ⟨dx, ha⟩, k⟩ := h
    refine ⟨_, (pss_one (ps_ret (pe_mk2 (ok_Letter T) (hr.mono (by omega)) (by rfl) passN (pa_cons pe_str (pa_cons (pe_tup (pa_cons pe_str (pa_cons (pe_fld (pv 0) rfl) pa_nil))) pa_nil))))), ?_⟩
    refine ⟨_, rfl, a, _, dx, _, _, rfl, ha, T.k_Letter, T.n_Letter_tree, look1 _, (by show 2 ≤ sizeLine; decide), fun q hq => ?_⟩
    exact rd_mkL upd_same fun x H' s' hx => k x q H' ((Rd.Same.upd hq).trans s') hx (s' _ _ upd_same)
abbrev s_Letter_neg : Stmt := inClass (top 26) 13
theorem sc_Letter_neg : FnScope ["self"] ["self"] (defScope s_Letter_neg) := ⟨rfl, rfl, rfl, by decide +kernel, rfl, by decide +kernel, by decide +kernel⟩
theorem ok_Lneg (T : Tx w K mg) : Fm P w K mg base CX0 6 "Letter" "__neg__" ["self"] (sp_one K "own") := by
  refine T.M_Letter_neg.ok0 sc_Letter_neg (fun _ _ _ _ _ _ us hl => match us, hl with | [_], _ => rfl)
    (fun vs H Q E h => ?_) (fun cdv A outer s H vs Q E hr h => ?_)
  · obtain ⟨a, u1, rfl, _⟩ := h
    rfl
  · obtain ⟨a, u1, rfl, ⟨dx, ha⟩, k⟩ := h
    refine ⟨_, (pss_one (ps_ret (pe_mk2 (ok_Letter T) (hr.mono (by omega)) (by rfl) passN (pa_cons pe_str (pa_cons (pe_tup (pa_cons pe_str (pa_cons (pe_fld (pv 0) rfl) pa_nil))) pa_nil))))), ?_⟩
    refine ⟨_, rfl, a, _, dx, _, _, rfl, ha, T.k_Letter, T.n_Letter_tree, look1 _, (by show 2 ≤ sizeLine; decide), fun q hq => ?_⟩
    exact rd_mkL upd_same fun x H' s' hx => k x q H' ((Rd.Same.upd hq).trans s') hx (s' _ _ upd_same)
abbrev s_BadKey_init : Stmt := inClass (top 5) 0
theorem sc_BadKey_init : FnScope ["self", "key"] ["self", "key"] (defScope s_BadKey_init) := ⟨rfl, rfl, rfl, by decide +kernel, rfl, by decide +kernel, by decide +kernel⟩
theorem ok_BadKey (T : Tx w K mg) : Fm P w K mg base CX0 1 "BadKey" "__init__" ["self", "key"] (spX1 K "key") := by
  refine T.X_BadKey.init.ok0 sc_BadKey_init (fun _ _ _ _ _ _ us hl => match us, hl with | [_, _], _ => rfl)
    (fun vs H Q E h => ?_) (fun cdv A outer s H vs Q E hr h => ?_)
  · obtain ⟨a, C, v, rfl, _⟩ := h
    rfl
  · obtain ⟨a, C, v, rfl, TC, no, ha, k⟩ := h
    refine ⟨_, (pss_cons (ps_expr (pe_reinit rfl T.g_RoadError T.r_RoadError (pa_cons (pv 0) (pa_cons pe_str pa_nil))))
  (pss_one (ps_ost (pv 0) (pv 1)))), ?_⟩
    refine ⟨_, rfl, a, C, [.str "no key of a pair"], rfl, (by show 1 ≤ 1000; decide), TC, ha, _, rfl, _, rfl, a, C, rfl, TC, no, .inl ⟨ha, fun dx hdx ne => k dx hdx ne⟩⟩
abbrev s_Letter_xor : Stmt := inClass (top 26) 10
theorem sc_Letter_xor : FnScope ["self", "key"] ["self", "key"] (defScope s_Letter_xor) := ⟨rfl, rfl, rfl, by decide +kernel, rfl, by decide +kernel, by decide +kernel⟩
theorem ok_Lxor (T : Tx w K mg) : Fm P w K mg base (L2N.CX P w) 6 "Letter" "__xor__" ["self", "key"] (sp_xor K) := by
  refine T.M_Letter_xor.ok sc_Letter_xor (fun _ _ _ _ _ _ us hl => match us, hl with | [_, _], _ => rfl)
    (fun vs H Q E h => ?_) (fun cdv A outer s H vs Q E hr h => ?_)
  · obtain ⟨a, b, u1, u2, t2, rfl, _⟩ := h
    rfl
  · obtain ⟨a, b, u1, u2, t2, rfl, ⟨dx, ha⟩, ⟨dy, hb⟩, it, k1, k0⟩ := h
    obtain ⟨p2, us, rfl, hp2⟩ := it.hd
    refine ⟨_, (pss_cons (ps_if (pt_cmpR op_notInT (pe_ix ix_tup (pe_fld (pv 1) rfl) pe_int (fun _ _ => rfl)) (pe_tup (pa_cons pe_str (pa_cons pe_str pa_nil))) (by rfl))
  (pss_one (L2N.ps_raise rfl (L2N.takes_of rfl rfl rfl rfl) (pmk_xN T.X_BadKey (ok_BadKey T) (hr.mono (by omega)) rfl (pa_cons (pv 1) pa_nil))))
  pss_nil)
  (pss_one (ps_ret (pe_mk2 (ok_Letter T) (hr.mono (by omega)) (by rfl) passN (pa_cons pe_str (pa_cons (pe_tup (pa_cons pe_str (pa_cons (pe_fld (pv 0) rfl) (pa_cons (pe_fld (pv 1) rfl) pa_nil)))) pa_nil)))))), ?_⟩
    refine ⟨_, rfl, b, _, dy, _, _, rfl, hb, T.k_Letter, T.n_Letter_tree, look1 _, p2, _, _, _, rfl, rfl, SqT.of hp2, at_of (j := 0) rfl rfl, (by show 2 ≤ sizeLine; decide), fun q hq => ?_⟩
    have sq := Rd.Same.upd (o := .tup [.str "open", .str "own"]) hq
    refine ⟨_, q, ["open", "own"], rfl, rfl, SqT.of upd_same, _, rfl, ?_⟩
    show if (!isKey t2) = true then _ else _
    cases hk : isKey t2 with
    | false =>
      refine iteT ?_
      exact ⟨_, rfl, rd_raise1 T.X_BadKey.oex T.X_BadKey.no fun d H' s' nd hd => k0 hk d H' (sq.trans s') hd⟩
    | true =>
      refine iteF ?_
      refine ⟨_, rfl, a, _, dx, _, _, rfl, sq _ _ ha, T.k_Letter, T.n_Letter_tree, look1 _, _, rfl, b, _, dy, _, _, rfl, sq _ _ hb, T.k_Letter, T.n_Letter_tree, look1 _, (by show 3 ≤ sizeLine; decide), fun q2 hq2 => ?_⟩
      exact rd_mkL upd_same fun x H' s' hx => k1 hk x q2 H' ((sq.trans (Rd.Same.upd hq2)).trans s') hx (s' _ _ upd_same)
end
end Rd
namespace Rd
open PySem L2
theorem SqT.kept {K : PySem.W.Frag} {H H' : Hp} {a : Addr} {xs : List V} (h : SqT K H a xs) (s : Same H H') : SqT K H' a xs := by
  rcases h with (h | ⟨n, h⟩) | h
  · exact .inl (.inl (s _ _ h))
  · exact .inl (.inr ⟨n, s _ _ h⟩)
  · exact .inr h
theorem iteN {c A B : Prop} [Decidable c] (h : ¬ c) (b : B) : if c then A else B := ite2 (fun q => absurd q h) fun _ => b
theorem iteP {c A B : Prop} [Decidable c] (h : c) (a : A) : if c then A else B := ite2 (fun _ => a) fun q => absurd h q
def Tr.parts : Tr → List Tr
  | .am _ _ => []
  | .un _ a => [a]
  | .bi _ a b => [a, b]
theorem mem_to {l m : List Str} {z : Str} (h : l.all (fun y => decide (y ∈ m)) = true) (hz : z ∈ l) : z ∈ m := of_decide_eq_true (List.all_eq_true.mp h z hz)
theorem Wf.sign {t : Tr} (h : Wf t) (hn : t.parts ≠ []) : t.head ∈ (["mark", "open", "own", "pair", "seal", "lock"] : List Str) ∧ (∀ u ∈ t.parts, Wf u ∧ u.dep + 1 ≤ t.dep) := by
  cases h with
  | am => exact absurd rfl hn
  | @un s a hs w =>
    refine ⟨mem_to (by decide +kernel) hs, fun u hu => ?_⟩
    rw [List.mem_singleton.mp hu]
    exact ⟨w, Nat.le_refl _⟩
  | @bi s a b hs wa wb =>
    refine ⟨mem_to (by decide +kernel) hs, fun u hu => ?_⟩
    have e : (Tr.bi s a b).dep = max a.dep b.dep + 1 := rfl
    rcases List.mem_cons.mp hu with rfl | hu
    · exact ⟨wa, by omega⟩
    · rw [List.mem_singleton.mp hu]
      exact ⟨wb, by omega⟩
  | @lk s a b hs wa wb =>
    have hs' : s ∈ (["mark", "open", "own"] : List Str) := List.mem_cons_of_mem _ hs
    refine ⟨mem_to (l := ["lock"]) (by decide +kernel) List.mem_cons_self, fun u hu => ?_⟩
    have e : (Tr.bi "lock" a (.un s b)).dep = max a.dep (Tr.un s b).dep + 1 := rfl
    rcases List.mem_cons.mp hu with rfl | hu
    · exact ⟨wa, by omega⟩
    · rw [List.mem_singleton.mp hu]
      exact ⟨.un hs' wb, by omega⟩
theorem IsT.parts {H : Hp} {t : Tr} {v : V} (h : IsT H t v) (hn : t.parts ≠ []) : ∃ p us, v = .ref p ∧ H p = some (.tup (.str t.head :: us)) ∧ us.length = t.parts.length ∧ us.length ≤ 2 ∧ us ≠ [] ∧ ∀ (i : Nat) u, us[i]? = some u → ∃ r, t.parts[i]? = some r ∧ IsT H r u := by
  cases t with
  | am k x => exact absurd rfl hn
  | un s a =>
    obtain ⟨p, u, e, h, h1⟩ := h
    refine ⟨p, [u], e, h, rfl, (by show 1 ≤ 2; decide), (fun e => by cases e), fun i v hv => ?_⟩
    cases i with
    | zero => cases hv; exact ⟨a, rfl, h1⟩
    | succ i => cases i <;> cases hv
  | bi s a b =>
    obtain ⟨p, u, u2, e, h, h1, h2⟩ := h
    refine ⟨p, [u, u2], e, h, rfl, Nat.le_refl _, (fun e => by cases e), fun i v hv => ?_⟩
    cases i with
    | zero => cases hv; exact ⟨a, rfl, h1⟩
    | succ i =>
      cases i with
      | zero => cases hv; exact ⟨b, rfl, h2⟩
      | succ i => cases i <;> cases hv
theorem cut1 {x : V} {us : List V} : cutV (x :: us) (some 1) none = us := by
  unfold cutV
  have e : HT.sIx (x :: us).length 0 (some 1) = 1 := by
    rw [show (1 : Int) = ((1 : Nat) : Int) from rfl, HT.sIx_nat, List.length_cons]
    omega
  have e2 : HT.sIx (x :: us).length (x :: us).length none = us.length + 1 := rfl
  rw [e, e2]
  show us.take (us.length + 1 - 1) = us
  rw [Nat.add_sub_cancel, List.take_length]
/-- [e for x in a tuple], each item's value by R -/
theorem lct {K : PySem.W.Frag} {C a D : Addr} {xs : List V} {te : TE} {i0 : Nat} {σ : St} {H1 : Hp} {Qd : Hp → Prop} (R : Nat → Hp → V → Prop) (rm : ∀ i H H' v, Kp C H H' → R i H v → R i H' v) (hS : SqT K H1 a xs) (hl : xs.length ≤ 100000) (hD : H1 D = none)
    (hte : ∀ (i : Nat) (x : V) (H : Hp) (Q : VK), xs[i]? = some x → Same H1 H → (∀ v H', Same H H' → R i H' v → Q v H') → te ((wipe σ [i0]).set i0 (some x)) H Q)
    (hq : ∀ vs H', Same H1 H' → H' D = some (.lst vs) → vs.length = xs.length → (∀ (i : Nat) v, vs[i]? = some v → R i H' v) → Qd H') :
    ∃ W : Nat → Nat → Hp → Prop, (∃ m, W 0 m (L2.upd H1 D (.lst []))) ∧ ∀ i m H, W i m H →
      ((Itt K a).stop i H ∧ Qd H) ∨ ((Itt K a).go i H ∧ ∃ Nx : Hp → Prop, (∀ H', Nx H' → ∃ m', m' < m ∧ W (i + 1) m' H') ∧ ∀ x H', (Itt K a).yld i H x H' → gName i0 x (wipe σ [i0]) H' fun σ2 H2 => wipe σ2 [i0] = wipe σ [i0] ∧ tYes σ2 H2 fun b H3 =>
        if b = true then te σ2 H3 fun y H4 => ∃ acc, H4 D = some (.lst acc) ∧ acc.length < sizeLine ∧ Nx (L2.upd H4 D (.lst (acc ++ [y]))) else Nx H3) := by
  refine lc_tup (K := K) (a := a) (xs := xs) (fun i H => ∃ vs, Same H1 H ∧ H D = some (.lst vs) ∧ vs.length = i ∧ (∀ (j : Nat) v, vs[j]? = some v → R j H v)) ?_ ?_ ?_ ?_
  · exact ⟨[], Rd.Same.upd hD, upd_same, rfl, fun j v h => by simp at h⟩
  · rintro i H hi ⟨vs, s, _⟩
    exact SqT.kept hS s
  · rintro i x H hx ⟨vs, s, hDv, hlv, hg⟩
    refine ⟨by simp [wipe], hte i x H _ hx s fun v H' s' hv => ⟨vs, s' _ _ hDv, ?_, ?_⟩⟩
    · have : 100000 < sizeLine := by decide
      have := (List.getElem?_eq_some_iff.mp hx).1
      omega
    · have hDv' := s' _ _ hDv
      refine ⟨vs ++ [v], fun c o e => ?_, upd_same, by rw [List.length_append, hlv]; rfl, fun j v' hv' => ?_⟩
      · rw [upd_ne (ne_of_none e hD)]
        exact s' c o (s c o e)
      · have kp := Kp.upd_lst (C := C) (ys := vs ++ [v]) hDv'
        by_cases hj : j < vs.length
        · rw [List.getElem?_append_left hj] at hv'
          exact rm _ _ _ _ kp (rm _ _ _ _ (Kp.of_same s') (hg j v' hv'))
        · have e : j = vs.length := by
            have := (List.getElem?_eq_some_iff.mp hv').1
            rw [List.length_append, List.length_singleton] at this
            omega
          subst e
          rw [List.getElem?_append_right (Nat.le_refl _), Nat.sub_self] at hv'
          have e2 : v = v' := Option.some.inj hv'
          rw [← e2, hlv]
          exact rm _ _ _ _ kp hv
  · rintro H ⟨vs, s, hDv, hlv, hg⟩
    exact hq vs H s hDv hlv hg
theorem q_starts (x : Str) : Txt.startswith ("?" ++ x) "?" = true := by
  rw [starts_q, app_list]
  have e2 : ("?" : Str).cps.toList = [63] := by decide +kernel
  exact ⟨_, by rw [e2]; rfl⟩
theorem q_tail2 (x : Str) : tailS ("?" ++ x) = x := by
  refine str_ext ?_
  rw [tailS_list, app_list]
  have e2 : ("?" : Str).cps.toList = [63] := by decide +kernel
  rw [e2]
  rfl
theorem atomOf_word {x : Str} (h : isWord x = true) : atomOf x = some (("word" : Str), x) := by rw [atomOf, if_pos h]
theorem atomOf_name {x : Str} (h : isName x = true) : atomOf x = some (("name" : Str), x) := by rw [atomOf, if_neg (by rw [word_noname h]; decide), if_pos h]
theorem atomOf_unk {x : Str} (h : isUnk x = true) : atomOf ("?" ++ x) = some (("unknown" : Str), x) := by
  have hw : ¬ isWord ("?" ++ x) = true := fun q => by
    obtain ⟨_, h2⟩ := He.ba q
    obtain ⟨_, h4⟩ := He.ba h2
    have e2 : ("?" : Str).cps.toList = [63] := by decide +kernel
    have := List.all_eq_true.mp h4 63 (by rw [app_list, e2]; exact List.mem_cons_self)
    have e3 : inS SMALL 63 = false := by decide +kernel
    rw [e3] at this
    cases this
  rw [atomOf, if_neg hw, if_neg (fun q => isName_first q (q_starts x)), q_starts, q_tail2, h]
  rfl
/-- Letter(text) of an atom's text -/
theorem rd_mkA {K : PySem.W.Frag} {H1 : Hp} {z k y : Str} {Q : VK} {E : XK} (hz : z.length ≤ 200000) (ha : atomOf z = some (k, y)) (kk : ∀ x H', Same H1 H' → IsLet K H' (.am k y) (.ref x) → Q (.ref x) H') :
    ∀ x dx, H1 x = none → H1 dx = none → dx ≠ x → sp_Linit K (.ref x :: ([.str z] ++ [.non])) (upd (upd H1 dx (.own x)) x (.ins (He.ga K "Letter") dx [])) (fun v H2 => v = .non ∧ Q (.ref x) H2) E := fun x dx nx ndx ne => by
  refine ⟨x, dx, z, .non, rfl, upd_same, .inr ⟨rfl, hz, fun k' y' p H' b' es np hp hx => ⟨rfl, ?_⟩, fun d H' b' en _ _ => ?_⟩⟩
  · rw [ha] at es
    cases es
    refine kk x H' (fun b o e => b' b o (ne_of_none e nx) ?_) ⟨x, .ref p, rfl, ⟨dx, hx⟩, p, rfl, hp⟩
    rw [upd_ne (ne_of_none e nx), upd_ne (ne_of_none e ndx)]
    exact e
  · rw [ha] at en
    cases en
def sp_letter (K : PySem.W.Frag) (d : Nat) : Sp := fun vs H Q _ => ∃ (v : V) (t : Tr), vs = [v] ∧ IsT H t v ∧ Wf t ∧ t.dep ≤ d ∧ ∀ v' H', Same H H' → IsLet K H' t v' → Q v' H'
def spLR (K : PySem.W.Frag) : Nat → Sp
  | 0 => fun _ _ _ _ => False
  | d + 1 => sp_letter K d
section
variable {P : Program} {w : World} {K : PySem.W.Frag} {mg : Str → Option Value} {base : Heap}
abbrev s__law_letter : Stmt := top 49
theorem sc__law_letter : FnScope ["_law_form", "_law_inner", "_law_part"] ["_law_form"] (defScope s__law_letter) := ⟨rfl, rfl, rfl, by decide +kernel, rfl, by decide +kernel, by decide +kernel⟩
theorem letter_step (T : Tx w K mg) (d : Nat) (ih : Fk P w K mg base CX0 (d + 7) "_law_letter" ["_law_form"] (spLR K d)) : Fk P w K mg base CX0 (d + 8) "_law_letter" ["_law_form"] (sp_letter K d) := by
  refine T.F__law_letter.ok0 sc__law_letter (fun _ _ _ _ _ _ us hl => match us, hl with | [_], _ => rfl)
    (fun vs H Q E h => ?_) (fun cdv A outer s H vs Q E hr h => ?_)
  · obtain ⟨v, t, rfl, _⟩ := h
    rfl
  · obtain ⟨v, t, rfl, it, wf, dp, k⟩ := h
    skip
    refine ⟨_, (pss_cons (ps_if (pt_cmpR op_eq (pe_ix ix_tup (pv 0) pe_int (fun _ _ => rfl)) pe_str (nomark _))
  (pss_one (ps_ret (pe_mk1 (ok_Letter T) (hr.mono (by omega)) (by rfl) passN (pa_cons (pe_op op_add_str pe_str (pe_ix ix_tup (pv 0) pe_int (fun _ _ => rfl))) pa_nil))))
  pss_nil)
  (pss_cons (ps_if (pt_cmpR op_inT (pe_ix ix_tup (pv 0) pe_int (fun _ _ => rfl)) (pe_tup (pa_cons pe_str (pa_cons pe_str pa_nil))) (by rfl))
  (pss_one (ps_ret (pe_mk1 (ok_Letter T) (hr.mono (by omega)) (by rfl) passN (pa_cons (pe_ix ix_tup (pv 0) pe_int (fun _ _ => rfl)) pa_nil))))
  pss_nil)
  (pss_cons (ps_setLc (i := 1) (own := [("_law_part", 2)]) (g := gName 2) (tt := tYes) (by rfl) sc__law_letter.nd rfl rfl (sw_true rfl rfl rfl (by decide +kernel)) (pi_tup (pe_slice sl_tup (pv 0) (po_some pe_int) po_none)) (blkOk_by (own := [("_law_part", 2)]) (N := ["_law_form", "_law_inner", "_law_part"]) (sc := defScope s__law_letter) (by decide +kernel)) (fun _ _ _ _ _ => (pg_name (i := 2) sc__law_letter.nd rfl (Or.inl rfl))) (fun _ _ _ _ _ => pts_nil) (fun _ _ _ _ _ => (pe_fk ih (hr.mono (by omega)) rfl pass0 (pa_cons (pv 2) pa_nil))))
  (pss_cons (ps_if (pt_cmpR op_eq (pe_ix ix_tup (pv 0) pe_int (fun _ _ => rfl)) pe_str (nomark _))
  (pss_one (ps_ret (pe_bo (pe_ix ix_list (pv 1) pe_int (fun _ _ => rfl)) (pe_ix ix_list (pv 1) pe_int (fun _ _ => rfl)) T.f_Letter (ok_Ladd T) (hr.mono (by omega)) (fun _ => at0))))
  pss_nil)
  (pss_cons (ps_if (pt_cmpR op_eq (pe_ix ix_tup (pv 0) pe_int (fun _ _ => rfl)) pe_str (nomark _))
  (pss_one (ps_ret (pe_bo (pe_ix ix_list (pv 1) pe_int (fun _ _ => rfl)) (pe_ix ix_list (pv 1) pe_int (fun _ _ => rfl)) T.f_Letter (ok_Lmul T) (hr.mono (by omega)) (fun _ => at0))))
  pss_nil)
  (pss_cons (ps_if (pt_cmpR op_eq (pe_ix ix_tup (pv 0) pe_int (fun _ _ => rfl)) pe_str (nomark _))
  (pss_one (ps_ret (pe_bo (pe_ix ix_list (pv 1) pe_int (fun _ _ => rfl)) (pe_ix ix_list (pv 1) pe_int (fun _ _ => rfl)) T.f_Letter (ok_Lxor T) (hr.mono (by omega)) (fun _ => atN))))
  pss_nil)
  (pss_cons (ps_if (pt_cmpR op_eq (pe_ix ix_tup (pv 0) pe_int (fun _ _ => rfl)) pe_str (nomark _))
  (pss_one (ps_ret (pe_uo (pe_ix ix_list (pv 1) pe_int (fun _ _ => rfl)) (ok_Linvert T) (hr.mono (by omega)) (fun _ => at0) (.inl ⟨rfl, rfl⟩))))
  pss_nil)
  (pss_one (ps_ret (pe_ifExp (pt_cmpR op_eq (pe_ix ix_tup (pv 0) pe_int (fun _ _ => rfl)) pe_str (nomark _)) (pe_uo (pe_ix ix_list (pv 1) pe_int (fun _ _ => rfl)) (ok_Lpos T) (hr.mono (by omega)) (fun _ => at0) (.inr (.inl ⟨rfl, rfl⟩))) (pe_uo (pe_ix ix_list (pv 1) pe_int (fun _ _ => rfl)) (ok_Lneg T) (hr.mono (by omega)) (fun _ => at0) (.inr (.inr ⟨rfl, rfl⟩))))))))))))), ?_⟩
    by_cases hpt : t.parts ≠ []
    · obtain ⟨hsg, hws⟩ := wf.sign hpt
      obtain ⟨p, us, rfl, hp, hlu, hl2, hne, hus⟩ := it.parts hpt
      have h3 : ¬ decide (t.head ∈ (["word", "name"] : List Str)) = true := by
        have : ∀ z ∈ (["mark", "open", "own", "pair", "seal", "lock"] : List Str), ¬ decide (z ∈ (["word", "name"] : List Str)) = true := by decide +kernel
        exact this _ hsg
      have h4 : ¬ decide (V.str t.head = V.str "unknown") = true := by
        have : ∀ z ∈ (["mark", "open", "own", "pair", "seal", "lock"] : List Str), ¬ decide (V.str z = V.str "unknown") = true := by decide +kernel
        exact this _ hsg
      refine ⟨_, rfl, p, _, _, _, rfl, rfl, SqT.of hp, at_of (j := 0) rfl rfl, rfl, _, rfl, iteN h4 ?_⟩
      refine ⟨_, rfl, p, _, _, _, rfl, rfl, SqT.of hp, at_of (j := 0) rfl rfl, (by show 2 ≤ sizeLine; decide), fun q hq => ?_⟩
      have sq := Rd.Same.upd (o := .tup [.str "word", .str "name"]) hq
      refine ⟨_, q, ["word", "name"], rfl, rfl, SqT.of upd_same, _, rfl, iteN h3 ?_⟩
      refine ⟨_, rfl, _, rfl, p, _, rfl, SqT.of (sq _ _ hp), ?_, fun p2 hp2 => ?_⟩
      · rintro ⟨z, _⟩
        rw [show (1 : Int) = ((1 : Nat) : Int) from rfl, HT.sIx_nat, List.length_cons] at z
        omega
      rw [cut1]
      have sq2 := sq.trans (Rd.Same.upd (o := .tup us) hp2)
      refine ⟨p2, rfl, ⟨_, SqT.of upd_same⟩, fun D hD => ?_⟩
      refine lct (C := He.ga K "Letter") (fun i H v => ∃ r, t.parts[i]? = some r ∧ IsLet K H r v) (fun i H H' v kp ⟨r, h1, h2⟩ => ⟨r, h1, h2.mono kp⟩) (SqT.of upd_same) (by omega) hD (fun i x H1 Q1 hx s1 k1 => ?_) fun vs H1 s1 hD1 hlv hvs => ?_
      · obtain ⟨r, hr1, hr2⟩ := hus i x hx
        obtain ⟨w1, w2⟩ := hws r (List.mem_of_getElem? hr1)
        cases d with
        | zero => exact absurd dp (by omega)
        | succ d =>
          exact ⟨_, rfl, x, r, rfl, hr2.same (sq2.trans s1), w1, (by omega), fun v' H' s' h' => k1 v' H' s' ⟨r, hr1, h'⟩⟩
      · have s2 := sq2.trans s1
        have hp1 := s2 _ _ hp
        refine gName_k ?_
        try dsimp only
        cases wf with
        | am => exact absurd rfl hpt
        | @un s0 a0 hs wf0 =>
          obtain ⟨v1, rfl⟩ : ∃ v1, vs = [v1] := by
            match vs, hlv.trans hlu with
            | [v1], _ => exact ⟨v1, rfl⟩
          obtain ⟨r, hr1, x1, u1, rfl, ⟨dx1, hx1⟩, hT1⟩ := hvs 0 v1 rfl
          cases hr1
          rcases List.mem_cons.mp hs with rfl | hs
          · have hp1 : H1 p = some (.tup (.str "mark" :: us)) := hp1
            refine ⟨_, rfl, p, _, _, _, rfl, rfl, SqT.of hp1, at_of (j := 0) rfl rfl, rfl, _, rfl, iteN (by decide +kernel) ?_⟩
            refine ⟨_, rfl, p, _, _, _, rfl, rfl, SqT.of hp1, at_of (j := 0) rfl rfl, rfl, _, rfl, iteN (by decide +kernel) ?_⟩
            refine ⟨_, rfl, p, _, _, _, rfl, rfl, SqT.of hp1, at_of (j := 0) rfl rfl, rfl, _, rfl, iteN (by decide +kernel) ?_⟩
            refine ⟨_, rfl, p, _, _, _, rfl, rfl, SqT.of hp1, at_of (j := 0) rfl rfl, rfl, _, rfl, iteP (by decide +kernel) ?_⟩
            refine ⟨_, rfl, D, _, _, _, rfl, rfl, SqL.of hD1, at_of (j := 0) rfl rfl, x1, dx1, _, rfl, hx1, x1, u1, rfl, ⟨dx1, hx1⟩, fun x q H' s' hl hq' => ?_⟩
            exact k _ H' (s2.trans s') ⟨x, _, rfl, hl, q, u1, rfl, hq', hT1.same s'⟩
          rcases List.mem_cons.mp hs with rfl | hs
          · have hp1 : H1 p = some (.tup (.str "open" :: us)) := hp1
            refine ⟨_, rfl, p, _, _, _, rfl, rfl, SqT.of hp1, at_of (j := 0) rfl rfl, rfl, _, rfl, iteN (by decide +kernel) ?_⟩
            refine ⟨_, rfl, p, _, _, _, rfl, rfl, SqT.of hp1, at_of (j := 0) rfl rfl, rfl, _, rfl, iteN (by decide +kernel) ?_⟩
            refine ⟨_, rfl, p, _, _, _, rfl, rfl, SqT.of hp1, at_of (j := 0) rfl rfl, rfl, _, rfl, iteN (by decide +kernel) ?_⟩
            refine ⟨_, rfl, p, _, _, _, rfl, rfl, SqT.of hp1, at_of (j := 0) rfl rfl, rfl, _, rfl, iteN (by decide +kernel) ?_⟩
            refine ⟨_, rfl, p, _, _, _, rfl, rfl, SqT.of hp1, at_of (j := 0) rfl rfl, rfl, _, rfl, iteP (by decide +kernel) ?_⟩
            refine ⟨_, rfl, D, _, _, _, rfl, rfl, SqL.of hD1, at_of (j := 0) rfl rfl, x1, dx1, _, rfl, hx1, x1, u1, rfl, ⟨dx1, hx1⟩, fun x q H' s' hl hq' => ?_⟩
            exact k _ H' (s2.trans s') ⟨x, _, rfl, hl, q, u1, rfl, hq', hT1.same s'⟩
          cases List.mem_singleton.mp hs
          have hp1 : H1 p = some (.tup (.str "own" :: us)) := hp1
          refine ⟨_, rfl, p, _, _, _, rfl, rfl, SqT.of hp1, at_of (j := 0) rfl rfl, rfl, _, rfl, iteN (by decide +kernel) ?_⟩
          refine ⟨_, rfl, p, _, _, _, rfl, rfl, SqT.of hp1, at_of (j := 0) rfl rfl, rfl, _, rfl, iteN (by decide +kernel) ?_⟩
          refine ⟨_, rfl, p, _, _, _, rfl, rfl, SqT.of hp1, at_of (j := 0) rfl rfl, rfl, _, rfl, iteN (by decide +kernel) ?_⟩
          refine ⟨_, rfl, p, _, _, _, rfl, rfl, SqT.of hp1, at_of (j := 0) rfl rfl, rfl, _, rfl, iteN (by decide +kernel) ?_⟩
          refine ⟨_, rfl, p, _, _, _, rfl, rfl, SqT.of hp1, at_of (j := 0) rfl rfl, rfl, _, rfl, iteN (by decide +kernel) ?_⟩
          refine ⟨_, rfl, D, _, _, _, rfl, rfl, SqL.of hD1, at_of (j := 0) rfl rfl, x1, dx1, _, rfl, hx1, x1, u1, rfl, ⟨dx1, hx1⟩, fun x q H' s' hl hq' => ?_⟩
          exact k _ H' (s2.trans s') ⟨x, _, rfl, hl, q, u1, rfl, hq', hT1.same s'⟩
        | @bi s0 a0 b0 hs wfa wfb =>
          obtain ⟨v1, v2, rfl⟩ : ∃ v1 v2, vs = [v1, v2] := by
            match vs, hlv.trans hlu with
            | [v1, v2], _ => exact ⟨v1, v2, rfl⟩
          obtain ⟨r, hr1, x1, u1, rfl, ⟨dx1, hx1⟩, hT1⟩ := hvs 0 v1 rfl
          cases hr1
          obtain ⟨r, hr1, x2, u2, rfl, ⟨dx2, hx2⟩, hT2⟩ := hvs 1 v2 rfl
          cases hr1
          rcases List.mem_cons.mp hs with rfl | hs
          · have hp1 : H1 p = some (.tup (.str "pair" :: us)) := hp1
            refine ⟨_, rfl, p, _, _, _, rfl, rfl, SqT.of hp1, at_of (j := 0) rfl rfl, rfl, _, rfl, iteP (by decide +kernel) ?_⟩
            refine ⟨_, rfl, D, _, _, _, rfl, rfl, SqL.of hD1, at_of (j := 0) rfl rfl, _, rfl, D, _, _, _, rfl, rfl, SqL.of hD1, at_of (j := 1) rfl rfl, x1, x2, dx1, dx2, _, _, rfl, rfl, hx1, hx2, x1, x2, u1, u2, rfl, ⟨dx1, hx1⟩, ⟨dx2, hx2⟩, fun x q H' s' hl hq' => ?_⟩
            exact k _ H' (s2.trans s') ⟨x, _, rfl, hl, q, u1, u2, rfl, hq', hT1.same s', hT2.same s'⟩
          cases List.mem_singleton.mp hs
          have hp1 : H1 p = some (.tup (.str "seal" :: us)) := hp1
          refine ⟨_, rfl, p, _, _, _, rfl, rfl, SqT.of hp1, at_of (j := 0) rfl rfl, rfl, _, rfl, iteN (by decide +kernel) ?_⟩
          refine ⟨_, rfl, p, _, _, _, rfl, rfl, SqT.of hp1, at_of (j := 0) rfl rfl, rfl, _, rfl, iteP (by decide +kernel) ?_⟩
          refine ⟨_, rfl, D, _, _, _, rfl, rfl, SqL.of hD1, at_of (j := 0) rfl rfl, _, rfl, D, _, _, _, rfl, rfl, SqL.of hD1, at_of (j := 1) rfl rfl, x1, x2, dx1, dx2, _, _, rfl, rfl, hx1, hx2, x1, x2, u1, u2, rfl, ⟨dx1, hx1⟩, ⟨dx2, hx2⟩, fun x q H' s' hl hq' => ?_⟩
          exact k _ H' (s2.trans s') ⟨x, _, rfl, hl, q, u1, u2, rfl, hq', hT1.same s', hT2.same s'⟩
        | @lk s0 a0 b0 hs wfa wfb =>
          obtain ⟨v1, v2, rfl⟩ : ∃ v1 v2, vs = [v1, v2] := by
            match vs, hlv.trans hlu with
            | [v1, v2], _ => exact ⟨v1, v2, rfl⟩
          obtain ⟨r, hr1, x1, u1, rfl, ⟨dx1, hx1⟩, hT1⟩ := hvs 0 v1 rfl
          cases hr1
          obtain ⟨r, hr1, x2, u2, rfl, ⟨dx2, hx2⟩, hT2⟩ := hvs 1 v2 rfl
          cases hr1
          have hp1 : H1 p = some (.tup (.str "lock" :: us)) := hp1
          refine ⟨_, rfl, p, _, _, _, rfl, rfl, SqT.of hp1, at_of (j := 0) rfl rfl, rfl, _, rfl, iteN (by decide +kernel) ?_⟩
          refine ⟨_, rfl, p, _, _, _, rfl, rfl, SqT.of hp1, at_of (j := 0) rfl rfl, rfl, _, rfl, iteN (by decide +kernel) ?_⟩
          refine ⟨_, rfl, p, _, _, _, rfl, rfl, SqT.of hp1, at_of (j := 0) rfl rfl, rfl, _, rfl, iteP (by decide +kernel) ?_⟩
          refine ⟨_, rfl, D, _, _, _, rfl, rfl, SqL.of hD1, at_of (j := 0) rfl rfl, _, rfl, D, _, _, _, rfl, rfl, SqL.of hD1, at_of (j := 1) rfl rfl, x1, x2, dx1, dx2, _, _, rfl, rfl, hx1, hx2, x1, x2, u1, u2, _, rfl, ⟨dx1, hx1⟩, ⟨dx2, hx2⟩, hT2, fun _ x q H' s' hl hq' => ?_, fun hk => ?_⟩
          · exact k _ H' (s2.trans s') ⟨x, _, rfl, hl, q, u1, u2, rfl, hq', hT1.same s', hT2.same s'⟩
          · exact absurd (decide_eq_true hs) (by rw [isKey] at hk; rw [show decide (s0 ∈ (["open", "own"] : List Str)) = false from hk]; decide)
    cases wf with
    | @am k0 x0 ko =>
      obtain ⟨p, rfl, hp⟩ := it
      refine ⟨_, rfl, p, _, _, _, rfl, rfl, SqT.of hp, at_of (j := 0) rfl rfl, rfl, _, rfl, ?_⟩
      rcases ko with ⟨rfl, hx⟩ | ⟨rfl, hx⟩ | ⟨rfl, hx⟩
      · refine ite2 (fun h => absurd h (by decide +kernel)) (fun _ => ?_)
        refine ⟨_, rfl, p, _, _, _, rfl, rfl, SqT.of hp, at_of (j := 0) rfl rfl, (by show 2 ≤ sizeLine; decide), fun q hq => ?_⟩
        have sq := Rd.Same.upd (o := .tup [.str "word", .str "name"]) hq
        refine ⟨_, q, ["word", "name"], rfl, rfl, SqT.of upd_same, _, rfl, ite2 (fun _ => ?_) (fun h => absurd (by decide +kernel) h)⟩
        refine ⟨_, rfl, p, _, _, _, rfl, rfl, SqT.of (sq _ _ hp), at_of (j := 1) rfl rfl, ?_⟩
        exact rd_mkA (k := "word") (by have := (word_len hx); omega) (atomOf_word hx) fun x H' s' h' => k _ H' (sq.trans s') h'
      · refine ite2 (fun h => absurd h (by decide +kernel)) (fun _ => ?_)
        refine ⟨_, rfl, p, _, _, _, rfl, rfl, SqT.of hp, at_of (j := 0) rfl rfl, (by show 2 ≤ sizeLine; decide), fun q hq => ?_⟩
        have sq := Rd.Same.upd (o := .tup [.str "word", .str "name"]) hq
        refine ⟨_, q, ["word", "name"], rfl, rfl, SqT.of upd_same, _, rfl, ite2 (fun _ => ?_) (fun h => absurd (by decide +kernel) h)⟩
        refine ⟨_, rfl, p, _, _, _, rfl, rfl, SqT.of (sq _ _ hp), at_of (j := 1) rfl rfl, ?_⟩
        exact rd_mkA (k := "name") (by have := (name_len hx); omega) (atomOf_name hx) fun x H' s' h' => k _ H' (sq.trans s') h'
      · refine ite2 (fun _ => ?_) (fun h => absurd (by decide +kernel) h)
        have hl := unk_len hx
        have h1 : (("?" : Str) ++ x0).length ≤ 200000 := by
          have e : ("?" : Str).cps.toList.length = 1 := by decide +kernel
          have e2 := len_list x0
          rw [len_list, app_list, List.length_append]
          omega
        have h2 : ("?" : Str).length + x0.length ≤ sizeLine := by
          have e : ("?" : Str).length = 1 := by decide +kernel
          have : 200000 ≤ sizeLine := by decide
          omega
        refine ⟨_, rfl, p, _, _, _, rfl, rfl, SqT.of hp, at_of (j := 1) rfl rfl, _, _, rfl, rfl, h2, ?_⟩
        exact rd_mkA (k := "unknown") h1 (atomOf_unk hx) fun x H' s' h' => k _ H' s' h'
    | _ => exact absurd (fun e => by cases e) hpt
theorem letter_none (T : Tx w K mg) : Fk P w K mg base CX0 1 "_law_letter" ["_law_form"] (spLR K 0) := by
  refine T.F__law_letter.ok0 sc__law_letter (fun _ _ _ _ _ _ us hl => match us, hl with | [_], _ => rfl) (fun vs H Q E h => h.elim) (fun cdv A outer s H vs Q E hr h => h.elim)
theorem ok__law_letter (T : Tx w K mg) : ∀ d : Nat, Fk P w K mg base CX0 (d + 8) "_law_letter" ["_law_form"] (sp_letter K d)
  | 0 => letter_step T 0 ((letter_none T).mono (by decide))
  | d + 1 => letter_step T (d + 1) (ok__law_letter T d)
end
end Rd
namespace Rd
open PySem L2
/-! ### forms as plain data -/
def dat : Tr → PyData
  | .am k x => .tuple [.str k, .str x]
  | .un s a => .tuple [.str s, dat a]
  | .bi s a b => .tuple [.str s, dat a, dat b]
theorem IsT.dp {K : PySem.W.Frag} {H : Hp} : ∀ {t : Tr} {v : V}, IsT H t v → Dp K H v (dat t)
  | .am _ _, _, ⟨p, e, h⟩ => by subst e; exact .tup (SqT.of h) (.cons (.str _) (.cons (.str _) .nil))
  | .un _ _, _, ⟨p, u, e, h, h1⟩ => by subst e; exact .tup (SqT.of h) (.cons (.str _) (.cons (IsT.dp h1) .nil))
  | .bi _ _ _, _, ⟨p, u1, u2, e, h, h1, h2⟩ => by subst e; exact .tup (SqT.of h) (.cons (.str _) (.cons (IsT.dp h1) (.cons (IsT.dp h2) .nil)))
def Tr.fine : Tr → Prop
  | .am k x => okS k ∧ okS x
  | .un s a => okS s ∧ a.fine
  | .bi s a b => okS s ∧ a.fine ∧ b.fine
theorem okS_of {l : List Str} {z : Str} (h : l.all (fun y => y.cps.toList.all (fun c => decide (c < 1114112))) = true) (hz : z ∈ l) : okS z := by
  exact okS_by (List.all_eq_true.mp h z hz)
theorem dat_lay : ∀ {t : Tr}, t.fine → (dat t).canLay0 = true
  | .am k x, ⟨h1, h2⟩ => by
    show (PySem.PyData.strOk k && (PySem.PyData.strOk x && true)) = true
    rw [strOk_of h1, strOk_of h2]
    rfl
  | .un s a, ⟨h1, h2⟩ => by
    show (PySem.PyData.strOk s && ((dat a).canLay0 && true)) = true
    rw [strOk_of h1, dat_lay h2]
    rfl
  | .bi s a b, ⟨h1, h2, h3⟩ => by
    show (PySem.PyData.strOk s && ((dat a).canLay0 && ((dat b).canLay0 && true))) = true
    rw [strOk_of h1, dat_lay h2, dat_lay h3]
    rfl
theorem dat_dep : ∀ {t : Tr}, (dat t).depth ≤ t.dep + 1
  | .am k x => by show max 0 (max 0 0) + 1 ≤ 0 + 1; decide
  | .un s a => by
    show max 0 (max (dat a).depth 0) + 1 ≤ a.dep + 1 + 1
    have := dat_dep (t := a)
    omega
  | .bi s a b => by
    show max 0 (max (dat a).depth (max (dat b).depth 0)) + 1 ≤ max a.dep b.dep + 1 + 1
    have := dat_dep (t := a)
    have := dat_dep (t := b)
    omega
theorem dat_shaped {t : Tr} (h : t.fine) (hd : t.dep ≤ 60) : SeqAt.shaped (dat t) = true := by
  have := dat_dep (t := t)
  show ((dat t).canLay0 && decide ((dat t).depth ≤ 64)) = true
  rw [dat_lay h, decide_eq_true (by omega)]
  rfl
theorem kindOk.fine {k x : Str} (h : kindOk k x) : okS k ∧ okS x := by
  rcases h with ⟨rfl, h⟩ | ⟨rfl, h⟩ | ⟨rfl, h⟩
  · exact ⟨okS_of (l := ["word"]) (by decide +kernel) List.mem_cons_self, (word_len h).2.2⟩
  · exact ⟨okS_of (l := ["name"]) (by decide +kernel) List.mem_cons_self, (name_len h).2⟩
  · exact ⟨okS_of (l := ["unknown"]) (by decide +kernel) List.mem_cons_self, (unk_len h).2.2⟩
theorem Wf.fine {t : Tr} (h : Wf t) : t.fine := by
  induction h with
  | am h => exact h.fine
  | un hs _ ih => exact ⟨okS_of (by decide +kernel) hs, ih⟩
  | bi hs _ _ ih1 ih2 => exact ⟨okS_of (by decide +kernel) hs, ih1, ih2⟩
  | lk hs _ _ ih1 ih2 => exact ⟨okS_of (l := ["lock"]) (by decide +kernel) List.mem_cons_self, ih1, okS_of (by decide +kernel) hs, ih2⟩
/-- x != y of equal forms -/
theorem rd_neT {K : PySem.W.Frag} {H : Hp} {t : Tr} {v u : V} {Q : VK} (ht : t.fine) (hd : t.dep ≤ 60) (h1 : IsT H t v) (h2 : IsT H t u) (q : Q (.bl false) H) : rNeD K v u H Q := by
  refine ⟨dat t, dat t, h1.dp, h2.dp, dat_shaped ht hd, dat_shaped ht hd, ?_⟩
  rw [SeqAt.eqv_refl _ (dat_lay ht)]
  exact q
/-- a form drawn over a written list of unknowns -/
theorem rd_form {d n : Nat} {p : Addr} {H : Hp} {xs us : List V} {Q : VK} (hp : H p = some (.lst xs)) (hx : StL (n + dr d) xs) (hU : unkL us)
    (k : ∀ t v ys H', But p H H' → H' p = some (.lst ys) → StL n ys → Wf t → dpN d us t → IsT H' t v → Q v H') : us.length ≤ sizeLine ∧ ∀ q, H q = none → sp_drawnForm d [.ref p, .ref q, .int d] (upd H q (.lst us)) Q E0 := by
  refine ⟨?_, fun q hq => ?_⟩
  · have := hU.1
    have : 100 ≤ sizeLine := by decide
    omega
  · have nqp : q ≠ p := fun z => by rw [z, hp] at hq; cases hq
    exact ⟨p, q, xs, us, n, rfl, by rw [upd_ne (Ne.symm nqp)]; exact hp, hx, nqp, upd_same, hU, fun t v ys H' b h1 h2 h3 h4 h5 => k t v ys H' ((But.new hq).trans b) h1 h2 h3 h4 h5⟩
theorem unkOk {l : List Str} (h : l.all isUnk = true) (hl : l.length ≤ 100) : unkL (l.map V.str) := by
  refine ⟨by rw [List.length_map]; exact hl, fun v hv => ?_⟩
  obtain ⟨z, hz, rfl⟩ := List.mem_map.mp hv
  exact ⟨z, rfl, List.all_eq_true.mp h z hz⟩
theorem seqJoin {s1 rest : TS} {D : Ends} {σ : St} {H : Hp} (R : St → Hp → Prop) (h : ∀ K : St → Hp → Prop, (∀ σ' H', R σ' H' → K σ' H') → s1 { D with nx := K } σ H) (hR : ∀ σ' H', R σ' H' → rest D σ' H') : tSeq s1 rest D σ H := h _ hR
theorem But.fresh {p : Addr} {H0 H H' : Hp} (s : Same H0 H) (n : H0 p = none) (b : But p H H') : Same H0 H' := fun c o e => b c o (ne_of_none e n) (s c o e)
theorem SqL.kept {K : PySem.W.Frag} {H H' : Hp} {a : Addr} {xs : List V} (h : SqL K H a xs) (s : Same H H') : SqL K H' a xs := by
  rcases h with (h | ⟨n, h⟩) | h
  · exact .inl (.inl (s _ _ h))
  · exact .inl (.inr ⟨n, s _ _ h⟩)
  · exact .inr h
section
variable {P : Program} {w : World} {K : PySem.W.Frag} {mg : Str → Option Value} {base : Heap}
theorem ok_formH (T : Tx w K mg) : FmH P w K mg base CX0 1 "Letter" "form" ["self"] (sp_form K) := by
  refine T.M_Letter_form.okH sc_Letter_form (fun _ _ _ _ _ _ us hl => match us, hl with | [_], _ => rfl)
    (fun vs H Q E h => ?_) (fun cdv A outer s H vs Q E pp hp hr h => ?_)
  · obtain ⟨a, v, rfl, _⟩ := h
    rfl
  · obtain ⟨a, v, rfl, ⟨dx, ha⟩, k⟩ := h
    refine ⟨_, (pss_one (ps_ret (pe_fld (pv 0) rfl))), ?_⟩
    exact ⟨_, rfl, a, _, dx, _, v, rfl, ha, T.k_Letter, T.n_Letter_tree, look1 _, k⟩
end
end Rd
namespace Rd
open PySem L2
theorem Wf.parts_wf {t : Tr} (h : Wf t) : ∀ u ∈ t.parts, Wf u := by
  by_cases hp : t.parts ≠ []
  · exact fun u hu => ((h.sign hp).2 u hu).1
  · intro u hu
    cases t with
    | am => cases hu
    | un => exact absurd (fun e => by cases e) hp
    | bi => exact absurd (fun e => by cases e) hp
/-! ### all parts of a form -/
def Tr.all : Tr → List Tr
  | .am k x => [.am k x]
  | .un s a => .un s a :: a.all
  | .bi s a b => .bi s a b :: (a.all ++ b.all)
theorem all_len : ∀ t : Tr, t.all.length + 1 ≤ 2 ^ (t.dep + 1)
  | .am k x => by show 1 + 1 ≤ 2 ^ 1; decide
  | .un s a => by
    have := all_len a
    show a.all.length + 1 + 1 ≤ 2 ^ (a.dep + 1 + 1)
    rw [Nat.pow_succ]
    have : 1 ≤ 2 ^ (a.dep + 1) := Nat.one_le_two_pow
    omega
  | .bi s a b => by
    have h1 := all_len a
    have h2 := all_len b
    show (a.all ++ b.all).length + 1 + 1 ≤ 2 ^ (max a.dep b.dep + 1 + 1)
    rw [List.length_append, Nat.pow_succ]
    have e1 : 2 ^ (a.dep + 1) ≤ 2 ^ (max a.dep b.dep + 1) := Nat.pow_le_pow_right (by decide) (by omega)
    have e2 : 2 ^ (b.dep + 1) ≤ 2 ^ (max a.dep b.dep + 1) := Nat.pow_le_pow_right (by decide) (by omega)
    omega
theorem all_parts (t : Tr) : t.all = t :: t.parts.flatMap Tr.all := by
  cases t with
  | am k x => rfl
  | un s a => show _ :: a.all = _ :: (a.all ++ []); rw [List.append_nil]
  | bi s a b => show _ :: (a.all ++ b.all) = _ :: (a.all ++ (b.all ++ [])); rw [List.append_nil]
theorem all_wf {t : Tr} (h : Wf t) : ∀ u ∈ t.all, Wf u ∧ u.dep ≤ t.dep := by
  induction t with
  | am k x => intro u hu; rw [List.mem_singleton.mp hu]; exact ⟨h, Nat.le_refl _⟩
  | un s a ih =>
    intro u hu
    rcases List.mem_cons.mp hu with rfl | hu
    · exact ⟨h, Nat.le_refl _⟩
    · have := ih (h.parts_wf a List.mem_cons_self) u hu
      exact ⟨this.1, by show _ ≤ a.dep + 1; omega⟩
  | bi s a b iha ihb =>
    intro u hu
    rcases List.mem_cons.mp hu with rfl | hu
    · exact ⟨h, Nat.le_refl _⟩
    · rcases List.mem_append.mp hu with hu | hu
      · have := iha (h.parts_wf a List.mem_cons_self) u hu
        exact ⟨this.1, by show _ ≤ max a.dep b.dep + 1; omega⟩
      · have := ihb (h.parts_wf b (List.mem_cons_of_mem _ List.mem_cons_self)) u hu
        exact ⟨this.1, by show _ ≤ max a.dep b.dep + 1; omega⟩
/-- values that are the forms ts, one behind another -/
structure TsAt (H : Hp) (ts : List Tr) (vs : List V) : Prop where
  len : vs.length = ts.length
  get : ∀ (i : Nat) t v, ts[i]? = some t → vs[i]? = some v → IsT H t v
theorem TsAt.mono {C : Addr} {H H' : Hp} {ts : List Tr} {vs : List V} (k : Kp C H H') (h : TsAt H ts vs) : TsAt H' ts vs := ⟨h.len, fun i t v h1 h2 => (h.get i t v h1 h2).mono k⟩
theorem TsAt.same {H H' : Hp} {ts : List Tr} {vs : List V} (s : Same H H') (h : TsAt H ts vs) : TsAt H' ts vs := h.mono (C := 0) (Kp.of_same s)
theorem TsAt.one {H : Hp} {t : Tr} {v : V} (h : IsT H t v) : TsAt H [t] [v] := ⟨rfl, fun i t' v' h1 h2 => by
  cases i with
  | zero => cases h1; cases h2; exact h
  | succ i => cases i <;> cases h1⟩
theorem TsAt.app {H : Hp} {ts us : List Tr} {vs ws : List V} (h : TsAt H ts vs) (g : TsAt H us ws) : TsAt H (ts ++ us) (vs ++ ws) := ⟨by rw [List.length_append, List.length_append, h.len, g.len], fun i t v h1 h2 => by
  by_cases hi : i < ts.length
  · rw [List.getElem?_append_left hi] at h1
    rw [List.getElem?_append_left (by rw [h.len]; exact hi)] at h2
    exact h.get i t v h1 h2
  · rw [List.getElem?_append_right (by omega)] at h1
    rw [List.getElem?_append_right (by rw [h.len]; omega), h.len] at h2
    exact g.get _ t v h1 h2⟩
theorem TsAt.mem {H : Hp} {ts : List Tr} {vs : List V} (h : TsAt H ts vs) {v : V} (hv : v ∈ vs) : ∃ t ∈ ts, IsT H t v := by
  obtain ⟨i, hi⟩ := List.mem_iff_getElem?.mp hv
  have hl := (List.getElem?_eq_some_iff.mp hi).1
  rw [h.len] at hl
  exact ⟨_, List.getElem_mem hl, h.get i _ v (List.getElem?_eq_getElem hl) hi⟩
theorem TsAt.at_ {H : Hp} {ts : List Tr} {vs : List V} (h : TsAt H ts vs) {i : Nat} {v : V} (hv : vs[i]? = some v) : ∃ t, ts[i]? = some t ∧ IsT H t v := by
  have hl := (List.getElem?_eq_some_iff.mp hv).1
  rw [h.len] at hl
  exact ⟨_, List.getElem?_eq_getElem hl, h.get i _ v (List.getElem?_eq_getElem hl) hv⟩
def sp_parts (d : Nat) : Sp := fun vs H Q _ => ∃ (v : V) (t : Tr), vs = [v] ∧ IsT H t v ∧ Wf t ∧ t.dep ≤ d ∧ d ≤ 12 ∧ ∀ p ws H', Same H H' → H p = none → H' p = some (.lst ws) → TsAt H' t.all ws → Q (.ref p) H'
def spPR : Nat → Sp
  | 0 => fun _ _ _ _ => False
  | d + 1 => sp_parts d
/-- the loop over a form's parts: p holds what is found, p2 the parts -/
structure PInv (H0 : Hp) (p p2 : Addr) (us : List V) (t : Tr) (i : Nat) (H : Hp) : Prop where
  same : Same H0 H
  free : H0 p = none
  tup : H p2 = some (.tup us)
  found : ∃ ws, H p = some (.lst ws) ∧ TsAt H (t :: (t.parts.take i).flatMap Tr.all) ws
theorem take_flat {l : List Tr} {i : Nat} {r : Tr} (h : l[i]? = some r) : (l.take (i + 1)).flatMap Tr.all = (l.take i).flatMap Tr.all ++ r.all := by
  rw [List.take_add_one, h, List.flatMap_append]
  simp
theorem flat_le {t : Tr} (i : Nat) : ((t.parts.take i).flatMap Tr.all).length + 1 ≤ t.all.length := by
  rw [all_parts t, List.length_cons]
  have e : t.parts.flatMap Tr.all = (t.parts.take i).flatMap Tr.all ++ (t.parts.drop i).flatMap Tr.all := by rw [← List.flatMap_append, List.take_append_drop]
  rw [e, List.length_append]
  omega
/-- [e for x in a list], each item's value by R -/
theorem lcl {K : PySem.W.Frag} {C a D : Addr} {xs : List V} {te : TE} {i0 : Nat} {σ : St} {H1 : Hp} {Qd : Hp → Prop} (R : Nat → Hp → V → Prop) (rm : ∀ i H H' v, Kp C H H' → R i H v → R i H' v) (hS : SqL K H1 a xs) (hl : xs.length ≤ 100000) (hD : H1 D = none)
    (hte : ∀ (i : Nat) (x : V) (H : Hp) (Q : VK), xs[i]? = some x → Same H1 H → (∀ v H', Same H H' → R i H' v → Q v H') → te ((wipe σ [i0]).set i0 (some x)) H Q)
    (hq : ∀ vs H', Same H1 H' → H' D = some (.lst vs) → vs.length = xs.length → (∀ (i : Nat) v, vs[i]? = some v → R i H' v) → Qd H') :
    ∃ W : Nat → Nat → Hp → Prop, (∃ m, W 0 m (L2.upd H1 D (.lst []))) ∧ ∀ i m H, W i m H →
      ((Itl K a).stop i H ∧ Qd H) ∨ ((Itl K a).go i H ∧ ∃ Nx : Hp → Prop, (∀ H', Nx H' → ∃ m', m' < m ∧ W (i + 1) m' H') ∧ ∀ x H', (Itl K a).yld i H x H' → gName i0 x (wipe σ [i0]) H' fun σ2 H2 => wipe σ2 [i0] = wipe σ [i0] ∧ tYes σ2 H2 fun b H3 =>
        if b = true then te σ2 H3 fun y H4 => ∃ acc, H4 D = some (.lst acc) ∧ acc.length < sizeLine ∧ Nx (L2.upd H4 D (.lst (acc ++ [y]))) else Nx H3) := by
  refine lc_list (K := K) (a := a) (xs := xs) (fun i H => ∃ vs, Same H1 H ∧ H D = some (.lst vs) ∧ vs.length = i ∧ (∀ (j : Nat) v, vs[j]? = some v → R j H v)) ?_ ?_ ?_ ?_
  · exact ⟨[], Rd.Same.upd hD, upd_same, rfl, fun j v h => by simp at h⟩
  · rintro i H hi ⟨vs, s, _⟩
    exact SqL.kept hS s
  · rintro i x H hx ⟨vs, s, hDv, hlv, hg⟩
    refine ⟨by simp [wipe], hte i x H _ hx s fun v H' s' hv => ⟨vs, s' _ _ hDv, ?_, ?_⟩⟩
    · have : 100000 < sizeLine := by decide
      have := (List.getElem?_eq_some_iff.mp hx).1
      omega
    · have hDv' := s' _ _ hDv
      refine ⟨vs ++ [v], fun c o e => ?_, upd_same, by rw [List.length_append, hlv]; rfl, fun j v' hv' => ?_⟩
      · rw [upd_ne (ne_of_none e hD)]
        exact s' c o (s c o e)
      · have kp := Kp.upd_lst (C := C) (ys := vs ++ [v]) hDv'
        by_cases hj : j < vs.length
        · rw [List.getElem?_append_left hj] at hv'
          exact rm _ _ _ _ kp (rm _ _ _ _ (Kp.of_same s') (hg j v' hv'))
        · have e : j = vs.length := by
            have := (List.getElem?_eq_some_iff.mp hv').1
            rw [List.length_append, List.length_singleton] at this
            omega
          subst e
          rw [List.getElem?_append_right (Nat.le_refl _), Nat.sub_self] at hv'
          have e2 : v = v' := Option.some.inj hv'
          rw [← e2, hlv]
          exact rm _ _ _ _ kp hv
  · rintro H ⟨vs, s, hDv, hlv, hg⟩
    exact hq vs H s hDv hlv hg
/-- (a, b) != (c, d) of truths, all four known -/
theorem tb_pair {K : PySem.W.Frag} {e1 e2 e3 e4 : TE} {σ : St} {H : Hp} {b1 b2 : Bool} (h1 : ∀ H' Q, Same H H' → Q (.bl b1) H' → e1 σ H' Q) (h2 : ∀ H' Q, Same H H' → Q (.bl b2) H' → e2 σ H' Q) (h3 : ∀ H' Q, Same H H' → Q (.bl b1) H' → e3 σ H' Q) (h4 : ∀ H' Q, Same H H' → Q (.bl b2) H' → e4 σ H' Q) :
    TB (tTest (tOp (rNeD K) (tTup (tCons e1 (tCons e2 tNil))) (tTup (tCons e3 (tCons e4 tNil))))) σ H false := by
  intro Q k
  refine h1 H _ (Same.refl _) (h2 H _ (Same.refl _) ⟨(by show 2 ≤ sizeLine; decide), fun q hq => ?_⟩)
  have sq := Rd.Same.upd (o := .tup [.bl b1, .bl b2]) hq
  refine h3 _ _ sq (h4 _ _ sq ⟨(by show 2 ≤ sizeLine; decide), fun q2 hq2 => ?_⟩)
  have sq2 := Rd.Same.upd (o := .tup [.bl b1, .bl b2]) hq2
  have hd : SeqAt.shaped (.tuple [.bool b1, .bool b2]) = true := rfl
  refine ⟨.tuple [.bool b1, .bool b2], .tuple [.bool b1, .bool b2], .tup (SqT.of (sq2 _ _ upd_same)) (.cons (.bl _) (.cons (.bl _) .nil)), .tup (SqT.of upd_same) (.cons (.bl _) (.cons (.bl _) .nil)), hd, hd, _, rfl, ?_⟩
  rw [SeqAt.eqv_refl _ (SeqAt.canLay_of_shaped hd)]
  exact k _ (sq.trans sq2)
theorem at_end {xs : List V} {v : V} : atI (xs ++ [v]) (-1) = some v := by
  have e : ixN (xs ++ [v]).length (-1) = some xs.length := by
    unfold ixN
    rw [if_neg (by decide), List.length_append, List.length_singleton]
    rw [if_pos (by omega)]
    exact congrArg some (by omega)
  unfold atI
  rw [e]
  show (xs ++ [v])[xs.length]? = some v
  rw [List.getElem?_append_right (Nat.le_refl _), Nat.sub_self]
  rfl
end Rd
namespace Rd
open PySem L2
/-! ### equal forms, lists of forms and of texts as data -/
theorem eqv_dat : ∀ t u : Tr, PyData.eqv (dat t) (dat u) = decide (t = u)
  | .am k x, .am k' x' => by
    show ((k == k') && ((x == x') && true)) = _
    by_cases h : k = k'
    · subst h
      by_cases h2 : x = x'
      · subst h2
        simp
      · simp [h2]
    · simp [h]
  | .am k x, .un s a => by
    have e : PyData.eqv (.str x) (dat a) = false := by cases a <;> rfl
    show ((k == s) && (PyData.eqv (.str x) (dat a) && true)) = _
    rw [e]
    simp
  | .am k x, .bi s a b => by
    show ((k == s) && (PyData.eqv (.str x) (dat a) && false)) = _
    simp
  | .un s a, .am k x => by
    have e : PyData.eqv (dat a) (.str x) = false := by cases a <;> rfl
    show ((s == k) && (PyData.eqv (dat a) (.str x) && true)) = _
    rw [e]
    simp
  | .un s a, .un s' a' => by
    show ((s == s') && (PyData.eqv (dat a) (dat a') && true)) = _
    rw [eqv_dat a a']
    by_cases h : s = s'
    · subst h
      by_cases h2 : a = a'
      · subst h2
        simp
      · simp [h2]
    · simp [h]
  | .un s a, .bi s' a' b' => by
    show ((s == s') && (PyData.eqv (dat a) (dat a') && false)) = _
    simp
  | .bi s a b, .am k x => by
    show ((s == k) && (PyData.eqv (dat a) (.str x) && false)) = _
    simp
  | .bi s a b, .un s' a' => by
    show ((s == s') && (PyData.eqv (dat a) (dat a') && false)) = _
    simp
  | .bi s a b, .bi s' a' b' => by
    show ((s == s') && (PyData.eqv (dat a) (dat a') && (PyData.eqv (dat b) (dat b') && true))) = _
    rw [eqv_dat a a', eqv_dat b b']
    by_cases h : s = s'
    · subst h
      by_cases h2 : a = a'
      · subst h2
        by_cases h3 : b = b'
        · subst h3
          simp
        · simp [h3]
      · simp [h2]
    · simp [h]
theorem eqvAll_dat : ∀ ts us : List Tr, PyData.eqvAll (ts.map dat) (us.map dat) = decide (ts = us)
  | [], [] => rfl
  | [], u :: us => rfl
  | t :: ts, [] => rfl
  | t :: ts, u :: us => by
    show (PyData.eqv (dat t) (dat u) && PyData.eqvAll (ts.map dat) (us.map dat)) = _
    rw [eqv_dat, eqvAll_dat ts us]
    by_cases h : t = u
    · subst h
      by_cases h2 : ts = us
      · subst h2
        simp
      · simp [h2]
    · simp [h]
theorem eqvAll_str : ∀ xs ys : List Str, PyData.eqvAll (xs.map PyData.str) (ys.map PyData.str) = decide (xs = ys)
  | [], [] => rfl
  | [], u :: us => rfl
  | t :: ts, [] => rfl
  | t :: ts, u :: us => by
    show ((t == u) && PyData.eqvAll (ts.map PyData.str) (us.map PyData.str)) = _
    rw [eqvAll_str ts us]
    by_cases h : t = u
    · subst h
      by_cases h2 : ts = us
      · subst h2
        simp
      · simp [h2]
    · simp [h]
theorem dpAll_ts {K : PySem.W.Frag} {H : Hp} : ∀ {ts : List Tr} {vs : List V}, TsAt H ts vs → DpAll K H vs (ts.map dat)
  | [], [], _ => .nil
  | [], _ :: _, h => by cases h.len
  | _ :: _, [], h => by cases h.len
  | t :: ts, v :: vs, h => .cons (h.get 0 t v rfl rfl).dp (dpAll_ts (ts := ts) ⟨Nat.succ.inj h.len, fun i t' v' h1 h2 => h.get (i + 1) t' v' h1 h2⟩)
theorem dpAll_str {K : PySem.W.Frag} {H : Hp} : ∀ (xs : List Str), DpAll K H (xs.map V.str) (xs.map PyData.str)
  | [] => .nil
  | x :: xs => .cons (.str x) (dpAll_str xs)
theorem layAll_ts : ∀ {ts : List Tr}, (∀ t ∈ ts, t.fine) → PyData.canLayAll0 (ts.map dat) = true
  | [], _ => rfl
  | t :: ts, h => by
    show ((dat t).canLay0 && PyData.canLayAll0 (ts.map dat)) = true
    rw [dat_lay (h t List.mem_cons_self), layAll_ts fun u hu => h u (List.mem_cons_of_mem _ hu)]
    rfl
theorem depAll_ts {n : Nat} : ∀ {ts : List Tr}, (∀ t ∈ ts, t.dep ≤ n) → PyData.depthAll (ts.map dat) ≤ n + 1
  | [], _ => Nat.zero_le _
  | t :: ts, h => by
    show max (dat t).depth (PyData.depthAll (ts.map dat)) ≤ n + 1
    have h1 := dat_dep (t := t)
    have h2 := h t List.mem_cons_self
    have h3 := depAll_ts (n := n) fun u hu => h u (List.mem_cons_of_mem _ hu)
    omega
theorem ts_shaped {ts : List Tr} (h : ∀ t ∈ ts, t.fine ∧ t.dep ≤ 60) : SeqAt.shaped (.list (ts.map dat)) = true := by
  have h1 := layAll_ts fun t ht => (h t ht).1
  have h2 := depAll_ts fun t ht => (h t ht).2
  show (PyData.canLayAll0 (ts.map dat) && decide (PyData.depthAll (ts.map dat) + 1 ≤ 64)) = true
  rw [h1, decide_eq_true (by omega)]
  rfl
theorem str_shaped : ∀ {xs : List Str}, (∀ x ∈ xs, okS x) → SeqAt.shaped (.list (xs.map PyData.str)) = true := by
  intro xs h
  have h1 : ∀ {l : List Str}, (∀ x ∈ l, okS x) → PyData.canLayAll0 (l.map PyData.str) = true ∧ PyData.depthAll (l.map PyData.str) = 0 := by
    intro l
    induction l with
    | nil => exact fun _ => ⟨rfl, rfl⟩
    | cons x r ih =>
      intro h
      obtain ⟨a, b⟩ := ih fun y hy => h y (List.mem_cons_of_mem _ hy)
      refine ⟨?_, ?_⟩
      · show (PyData.strOk x && PyData.canLayAll0 (r.map PyData.str)) = true
        rw [strOk_of (h x List.mem_cons_self), a]
        rfl
      · show max 0 (PyData.depthAll (r.map PyData.str)) = 0
        rw [b]
        rfl
  obtain ⟨a, b⟩ := h1 h
  show (PyData.canLayAll0 (xs.map PyData.str) && decide (PyData.depthAll (xs.map PyData.str) + 1 ≤ 64)) = true
  rw [a, b]
  rfl
end Rd
namespace Rd
open PySem L2
/-! ### forms with unknowns replaced -/
def fill (m : Str → Option Tr) : Tr → Tr
  | .am k x => if k = "unknown" then (m x).getD (.am k x) else .am k x
  | .un s a => .un s (fill m a)
  | .bi s a b => .bi s (fill m a) (fill m b)
/-- the dict at a holds the forms m -/
def DTr (H : Hp) (a : Addr) (m : Str → Option Tr) : Prop := ∃ kvs, L2.Rd H a (.dK kvs) ∧ (∀ x t, m x = some t → ∃ v, valV kvs (.inr x) = some v ∧ IsT H t v) ∧ ∀ x, m x = none → valV kvs (.inr x) = none
theorem DTr.same {H H' : Hp} {a : Addr} {m : Str → Option Tr} (s : Same H H') (h : DTr H a m) : DTr H' a m := by
  obtain ⟨kvs, h1, h2, h3⟩ := h
  refine ⟨kvs, ?_, fun x t e => ?_, h3⟩
  · rcases h1 with h | ⟨o, h⟩
    · exact .inl (s _ _ h)
    · exact .inr ⟨o, s _ _ h⟩
  · obtain ⟨v, e1, e2⟩ := h2 x t e
    exact ⟨v, e1, e2.same s⟩
theorem DTr.get {H : Hp} {a : Addr} {m : Str → Option Tr} {x : Str} (h : DTr H a m) : ∃ o, DGet H a (.str x) o ∧ (∀ t, m x = some t → ∃ v, o = some v ∧ IsT H t v) ∧ (m x = none → o = none) := by
  obtain ⟨kvs, h1, h2, h3⟩ := h
  exact ⟨valV kvs (.inr x), .inl ⟨kvs, .inr x, h1, rfl, rfl⟩, fun t e => h2 x t e, h3 x⟩
theorem DTr.isD {H : Hp} {a : Addr} {m : Str → Option Tr} (h : DTr H a m) : IsD H a := by
  obtain ⟨kvs, h1, _⟩ := h
  exact .inl ⟨kvs, h1⟩
theorem fill_tup {H : Hp} {m : Str → Option Tr} {t : Tr} {q : Addr} {vs : List V} (hpt : t.parts ≠ []) (hq : H q = some (.tup (.str t.head :: vs))) (hl : vs.length = t.parts.length) (hv : ∀ (i : Nat) v, vs[i]? = some v → ∃ r, t.parts[i]? = some r ∧ IsT H (fill m r) v) : IsT H (fill m t) (.ref q) := by
  cases t with
  | am => exact absurd rfl hpt
  | un s a =>
    match vs, hl with
    | [v1], _ =>
      obtain ⟨r, e, h⟩ := hv 0 v1 rfl
      cases (show some a = some r from e)
      exact ⟨q, v1, rfl, hq, h⟩
  | bi s a b =>
    match vs, hl with
    | [v1, v2], _ =>
      obtain ⟨r, e, h⟩ := hv 0 v1 rfl
      cases (show some a = some r from e)
      obtain ⟨r2, e2, h2⟩ := hv 1 v2 rfl
      cases (show some b = some r2 from e2)
      exact ⟨q, v1, v2, rfl, hq, h, h2⟩
def sp_fill (d : Nat) : Sp := fun vs H Q _ => ∃ (v : V) (a : Addr) (t : Tr) (m : Str → Option Tr), vs = [v, .ref a] ∧ IsT H t v ∧ Wf t ∧ t.dep ≤ d ∧ DTr H a m ∧ ∀ u H', Same H H' → IsT H' (fill m t) u → Q u H'
def spFR : Nat → Sp
  | 0 => fun _ _ _ _ => False
  | d + 1 => sp_fill d
/-! ### dicts from unknowns to forms or letters, in their order -/
def Al (R : Hp → Tr → V → Prop) (H : Hp) : List (Str × Tr) → List (Key × V) → Prop
  | [], [] => True
  | (x, t) :: l, (k, v) :: kvs => k = .inr x ∧ R H t v ∧ Al R H l kvs
  | _, _ => False
def look (l : List (Str × Tr)) (x : Str) : Option Tr := (l.find? fun p => decide (p.1 = x)).map (·.2)
theorem Al.len {R : Hp → Tr → V → Prop} {H : Hp} : ∀ {l : List (Str × Tr)} {kvs : List (Key × V)}, Al R H l kvs → kvs.length = l.length
  | [], [], _ => rfl
  | (x, t) :: l, (k, v) :: kvs, h => congrArg (· + 1) (Al.len h.2.2)
theorem Al.mono {R S : Hp → Tr → V → Prop} {H H' : Hp} (m : ∀ t v, R H t v → S H' t v) : ∀ {l : List (Str × Tr)} {kvs : List (Key × V)}, Al R H l kvs → Al S H' l kvs
  | [], [], _ => trivial
  | (x, t) :: l, (k, v) :: kvs, h => ⟨h.1, m _ _ h.2.1, Al.mono m h.2.2⟩
theorem Al.get {R : Hp → Tr → V → Prop} {H : Hp} : ∀ {l : List (Str × Tr)} {kvs : List (Key × V)} {i : Nat} {k : Key} {v : V}, Al R H l kvs → kvs[i]? = some (k, v) → ∃ x t, l[i]? = some (x, t) ∧ k = .inr x ∧ R H t v
  | (x, t) :: l, (k, v) :: kvs, 0, _, _, h, e => by
    cases e
    exact ⟨x, t, rfl, h.1, h.2.1⟩
  | (x, t) :: l, (k, v) :: kvs, i + 1, _, _, h, e => by
    obtain ⟨y, u, e1, e2, e3⟩ := Al.get (l := l) (kvs := kvs) (i := i) h.2.2 (by simpa using e)
    exact ⟨y, u, by simpa using e1, e2, e3⟩
  | [], [], _, _, _, _, e => by simp at e
theorem Al.snoc {R : Hp → Tr → V → Prop} {H : Hp} {x : Str} {t : Tr} {v : V} (r : R H t v) : ∀ {l : List (Str × Tr)} {kvs : List (Key × V)}, Al R H l kvs → Al R H (l ++ [(x, t)]) (kvs ++ [(.inr x, v)])
  | [], [], _ => ⟨rfl, r, trivial⟩
  | (y, u) :: l, (k, z) :: kvs, h => ⟨h.1, h.2.1, Al.snoc r h.2.2⟩
theorem Al.look {R : Hp → Tr → V → Prop} {H : Hp} {x : Str} : ∀ {l : List (Str × Tr)} {kvs : List (Key × V)}, Al R H l kvs → (∀ t, look l x = some t → ∃ v, valV kvs (.inr x) = some v ∧ R H t v) ∧ (look l x = none → valV kvs (.inr x) = none)
  | [], [], _ => ⟨fun t e => (by cases e), fun _ => rfl⟩
  | (y, u) :: l, (k, z) :: kvs, h => by
    obtain ⟨rfl, h2, h3⟩ := h
    by_cases e : y = x
    · subst e
      refine ⟨fun t e => ?_, fun e => ?_⟩
      · rw [show Rd.look ((y, u) :: l) y = some u by simp [Rd.look]] at e
        cases e
        exact ⟨z, valV_pos rfl, h2⟩
      · rw [show Rd.look ((y, u) :: l) y = some u by simp [Rd.look]] at e
        cases e
    · have e1 : Rd.look ((y, u) :: l) x = Rd.look l x := by simp [Rd.look, e]
      rw [e1, valV_neg (fun q => e (by cases q; rfl))]
      exact Al.look h3
theorem look_none {l : List (Str × Tr)} {x : Str} (h : x ∉ l.map (·.1)) : look l x = none := by
  unfold look
  rw [List.find?_eq_none.mpr fun p hp => by
    intro e
    exact h (List.mem_map.mpr ⟨p, hp, of_decide_eq_true e⟩)]
  rfl
theorem Kp.upd_dK {C D : Addr} {H : Hp} {xs ys : List (Key × V)} (h : H D = some (.dK xs)) : Kp C H (L2.upd H D (.dK ys)) := fun b o hi e => by
  have hb : b ≠ D := fun z => by
    rw [z, h] at e
    cases e
    cases hi
  rw [upd_ne hb]
  exact e
/-- {x: f(v) for x, v in d.items()} -/
theorem dci {K : PySem.W.Frag} {C d D : Addr} {o : Obj} {kvs : List (Key × V)} {l : List (Str × Tr)} {R1 R2 : Hp → Tr → V → Prop} (f : Tr → Tr) {tv : TE} {i0 i1 : Nat} {σ : St} {H1 : Hp} {Qd : Hp → Prop}
    (m1 : ∀ H H' t v, Kp C H H' → R1 H t v → R1 H' t v) (m2 : ∀ H H' t v, Kp C H H' → R2 H t v → R2 H' t v) (hd : H1 d = some (.frz o (.dK kvs))) (al : Al R1 H1 l kvs) (nd : (l.map (·.1)).Nodup) (hl : l.length ≤ 1000) (hD : H1 D = none)
    (hsl : ∀ p q : V, (((wipe σ [i0, i1]).set i0 (some p)).set i1 (some q))[i0]? = some (some p)) (hw : ∀ p q : V, wipe (((wipe σ [i0, i1]).set i0 (some p)).set i1 (some q)) [i0, i1] = wipe σ [i0, i1])
    (hte : ∀ (i : Nat) (x : Str) (t : Tr) (v : V) (σ2 : St) (H : Hp) (Q : VK), l[i]? = some (x, t) → Same H1 H → R1 H t v → σ2 = (((wipe σ [i0, i1]).set i0 (some (.str x))).set i1 (some v)) → (∀ z H', Same H H' → R2 H' (f t) z → Q z H') → tv σ2 H Q)
    (hq : ∀ kvs' H', Same H1 H' → H' D = some (.dK kvs') → Al R2 H' (l.map fun p => (p.1, f p.2)) kvs' → Qd H') :
    ∃ W : Nat → Nat → Hp → Prop, (∃ m, W 0 m (L2.upd H1 D (.dK []))) ∧ ∀ i m H, W i m H →
      ((Iti d o kvs).stop i H ∧ Qd H) ∨ ((Iti d o kvs).go i H ∧ ∃ Nx : Hp → Prop, (∀ H', Nx H' → ∃ m', m' < m ∧ W (i + 1) m' H') ∧ ∀ x H', (Iti d o kvs).yld i H x H' → gTup K 2 (gCons (gName i0) (gCons (gName i1) gNil)) x (wipe σ [i0, i1]) H' fun σ2 H2 => wipe σ2 [i0, i1] = wipe σ [i0, i1] ∧ tYes σ2 H2 fun b H3 =>
        if b = true then tVar i0 σ2 H3 fun y H4 => tv σ2 H4 fun z H5 => ∃ kvs' k, y = kV k ∧ H5 D = some (.dK kvs') ∧ kvs'.length < sizeLine ∧ Nx (L2.upd H5 D (.dK (putK kvs' k z))) else Nx H3) := by
  have hlen := al.len
  have big : 100000 ≤ sizeLine := by decide
  refine ⟨fun i m H => m = kvs.length - i ∧ i ≤ kvs.length ∧ ∃ acc, Same H1 H ∧ H D = some (.dK acc) ∧ Al R2 H ((l.take i).map fun p => (p.1, f p.2)) acc, ⟨_, rfl, Nat.zero_le _, [], Rd.Same.upd hD, upd_same, trivial⟩, ?_⟩
  rintro i m H ⟨rfl, hi, acc, s, hDa, ala⟩
  by_cases hlt : i < kvs.length
  · refine .inr ⟨⟨s _ _ hd, hlt⟩, fun H' => ∃ acc, Same H1 H' ∧ H' D = some (.dK acc) ∧ Al R2 H' ((l.take (i + 1)).map fun p => (p.1, f p.2)) acc, fun H' h => ⟨kvs.length - (i + 1), by omega, rfl, hlt, h⟩, ?_⟩
    rintro _ _ ⟨Tq, k, v, hk, rfl, hT, rfl⟩
    obtain ⟨x, t, hx, rfl, r1⟩ := al.get hk
    have sT := Rd.Same.upd (o := .tup [kV (.inr x), v]) hT
    refine ⟨Tq, [kV (.inr x), v], rfl, SqT.of upd_same, rfl, _, _, rfl, _, _, rfl, rfl, hw _ _, ?_⟩
    unfold tYes
    refine iteT ⟨_, hsl _ _, hte i x t v _ _ _ hx (s.trans sT) (m1 _ _ _ _ (Kp.of_same (s.trans sT)) r1) rfl fun z H' s' hz => ?_⟩
    have hD' := s' _ _ (sT _ _ hDa)
    have hal := ala.len
    rw [List.length_map, List.length_take] at hal
    have etk : l.take (i + 1) = l.take i ++ [(x, t)] := by rw [List.take_succ, hx]; rfl
    have hno : look ((l.take i).map fun p => (p.1, f p.2)) x = none := by
      refine look_none ?_
      rw [List.map_map]
      have n2 : ((l.take (i + 1)).map (·.1)).Nodup := ((List.take_sublist _ _).map _).nodup nd
      rw [etk, List.map_append] at n2
      have := (List.nodup_append.mp n2).2.2
      intro hm
      exact this x hm x (List.mem_singleton.mpr rfl) rfl
    have hv0 := (ala.look (x := x)).2 hno
    refine ⟨acc, .inr x, rfl, hD', by omega, acc ++ [(.inr x, z)], fun c o e => ?_, ?_, ?_⟩
    · rw [upd_ne (ne_of_none e hD)]
      exact s' _ _ (sT _ _ (s _ _ e))
    · rw [upd_same, putK_new z hv0]
    · rw [putK_new z hv0, etk, List.map_append]
      have kp := Kp.upd_dK (C := C) (ys := acc ++ [(.inr x, z)]) hD'
      exact Al.snoc (m2 _ _ _ _ kp hz) (ala.mono fun t v h => m2 _ _ _ _ kp (m2 _ _ _ _ (Kp.of_same (sT.trans s')) h))
  · refine .inl ⟨⟨s _ _ hd, by omega⟩, hq acc H s hDa ?_⟩
    rw [List.take_of_length_le (by omega)] at ala
    exact ala
theorem mergeK_app : ∀ (more acc : List (Key × V)), ((acc ++ more).map (·.1)).Nodup → mergeK acc more = acc ++ more
  | [], acc, _ => (List.append_nil acc).symm
  | p :: r, acc, h => by
    show mergeK (putK acc p.1 p.2) r = _
    have e : valV acc p.1 = none := by
      have h2 := h
      rw [List.map_append, List.map_cons] at h2
      have h3 := (List.nodup_append.mp h2).2.2
      unfold valV
      rw [List.find?_eq_none.mpr fun q hq => by
        intro z
        exact h3 p.1 (List.mem_map.mpr ⟨q, hq, of_decide_eq_true z⟩) p.1 List.mem_cons_self rfl]
      rfl
    rw [putK_new p.2 e, mergeK_app r (acc ++ [(p.1, p.2)]) (by rw [List.append_assoc]; exact h), List.append_assoc]
    rfl
theorem Al.keys {R : Hp → Tr → V → Prop} {H : Hp} : ∀ {l : List (Str × Tr)} {kvs : List (Key × V)}, Al R H l kvs → kvs.map (·.1) = l.map fun p => Sum.inr p.1
  | [], [], _ => rfl
  | (x, t) :: l, (k, v) :: kvs, h => by
    rw [List.map_cons, List.map_cons, Al.keys h.2.2, h.1]
theorem Al.merge {R : Hp → Tr → V → Prop} {H : Hp} {l : List (Str × Tr)} {kvs : List (Key × V)} (al : Al R H l kvs) (nd : (l.map (·.1)).Nodup) : mergeK [] kvs = kvs := by
  refine mergeK_app kvs [] ?_
  rw [List.nil_append, al.keys]
  have : (l.map fun p => (Sum.inr p.1 : Key)) = (l.map (·.1)).map Sum.inr := by rw [List.map_map]; rfl
  rw [this]
  exact List.Pairwise.map _ (fun a b h e => h (by cases e; rfl)) nd
def Pq (H : Hp) : List Addr → List (Key × V) → Prop
  | [], [] => True
  | p :: ps, kv :: kq => H p = some (.tup [kV kv.1, kv.2]) ∧ Pq H ps kq
  | _, _ => False
theorem Pq.mono {C : Addr} {H H' : Hp} (k : Kp C H H') : ∀ {ps : List Addr} {kq : List (Key × V)}, Pq H ps kq → Pq H' ps kq
  | [], [], _ => trivial
  | _ :: _, _ :: _, h => ⟨k _ _ rfl h.1, Pq.mono k h.2⟩
theorem Pq.snoc {H : Hp} {p : Addr} {kv : Key × V} (e : H p = some (.tup [kV kv.1, kv.2])) : ∀ {ps : List Addr} {kq : List (Key × V)}, Pq H ps kq → Pq H (ps ++ [p]) (kq ++ [kv])
  | [], [], _ => ⟨e, trivial⟩
  | _ :: _, _ :: _, h => ⟨h.1, Pq.snoc e h.2⟩
theorem Pq.paired {K : PySem.W.Frag} {H : Hp} : ∀ {ps : List Addr} {kq : List (Key × V)}, Pq H ps kq → Paired (fun p kv => SqT K H p [kV kv.1, kv.2]) ps kq
  | [], [], _ => .nil
  | _ :: _, _ :: _, h => .cons (SqT.of h.1) (Pq.paired h.2)
theorem Pq.len {H : Hp} : ∀ {ps : List Addr} {kq : List (Key × V)}, Pq H ps kq → ps.length = kq.length
  | [], [], _ => rfl
  | _ :: _, _ :: _, h => congrArg (· + 1) (Pq.len h.2)
theorem look_get {x : Str} {t : Tr} : ∀ {l : List (Str × Tr)} {i : Nat}, (l.map (·.1)).Nodup → l[i]? = some (x, t) → look l x = some t
  | (y, u) :: l, 0, _, e => by
    cases e
    simp [look]
  | (y, u) :: l, i + 1, h, e => by
    have e : l[i]? = some (x, t) := by simpa using e
    have h : (y :: l.map (·.1)).Nodup := h
    have hne : ¬ y = x := fun z => (List.nodup_cons.mp h).1 (List.mem_map.mpr ⟨_, List.mem_of_getElem? e, z.symm⟩)
    have := look_get (List.nodup_cons.mp h).2 e
    simp only [look, List.find?_cons, hne, decide_false]
    exact this
/-- [(x, f(d[x])) for x in d] -/
theorem lck {C d D : Addr} {o : Obj} {kvs : List (Key × V)} {l : List (Str × Tr)} {R1 R2 : Hp → Tr → V → Prop} (f : Tr → Tr) {tv : TE} {i0 : Nat} {σ : St} {H1 : Hp} {Qd : Hp → Prop}
    (m1 : ∀ H H' t v, Kp C H H' → R1 H t v → R1 H' t v) (m2 : ∀ H H' t v, Kp C H H' → R2 H t v → R2 H' t v) (hd : H1 d = some (.frz o (.dK kvs))) (al : Al R1 H1 l kvs) (nd : (l.map (·.1)).Nodup) (hl : l.length ≤ 1000) (hD : H1 D = none)
    (hsl : ∀ p : V, ((wipe σ [i0]).set i0 (some p))[i0]? = some (some p)) (hw : ∀ p : V, wipe ((wipe σ [i0]).set i0 (some p)) [i0] = wipe σ [i0])
    (hte : ∀ (i : Nat) (x : Str) (t : Tr) (v : V) (σ2 : St) (H : Hp) (Q : VK), l[i]? = some (x, t) → Same H1 H → R1 H t v → DGet H d (.str x) (some v) → σ2 = (wipe σ [i0]).set i0 (some (.str x)) → (∀ z H', Same H H' → R2 H' (f t) z → Q z H') → tv σ2 H Q)
    (hq : ∀ ps kq H', Same H1 H' → H' D = some (.lst (ps.map V.ref)) → Pq H' ps kq → Al R2 H' (l.map fun p => (p.1, f p.2)) kq → Qd H') :
    ∃ W : Nat → Nat → Hp → Prop, (∃ m, W 0 m (L2.upd H1 D (.lst []))) ∧ ∀ i m H, W i m H →
      ((Itk d o kvs).stop i H ∧ Qd H) ∨ ((Itk d o kvs).go i H ∧ ∃ Nx : Hp → Prop, (∀ H', Nx H' → ∃ m', m' < m ∧ W (i + 1) m' H') ∧ ∀ x H', (Itk d o kvs).yld i H x H' → gName i0 x (wipe σ [i0]) H' fun σ2 H2 => wipe σ2 [i0] = wipe σ [i0] ∧ tYes σ2 H2 fun b H3 =>
        if b = true then tTup (tCons (tVar i0) (tCons tv tNil)) σ2 H3 fun y H4 => ∃ acc, H4 D = some (.lst acc) ∧ acc.length < sizeLine ∧ Nx (L2.upd H4 D (.lst (acc ++ [y]))) else Nx H3) := by
  have hlen := al.len
  have big : 100000 ≤ sizeLine := by decide
  refine ⟨fun i m H => m = kvs.length - i ∧ i ≤ kvs.length ∧ ∃ ps kq, Same H1 H ∧ H D = some (.lst (ps.map V.ref)) ∧ Pq H ps kq ∧ Al R2 H ((l.take i).map fun p => (p.1, f p.2)) kq, ⟨_, rfl, Nat.zero_le _, [], [], Rd.Same.upd hD, upd_same, trivial, trivial⟩, ?_⟩
  rintro i m H ⟨rfl, hi, ps, kq, s, hDa, pq, ala⟩
  by_cases hlt : i < kvs.length
  · refine .inr ⟨⟨s _ _ hd, hlt⟩, fun H' => ∃ ps kq, Same H1 H' ∧ H' D = some (.lst (ps.map V.ref)) ∧ Pq H' ps kq ∧ Al R2 H' ((l.take (i + 1)).map fun p => (p.1, f p.2)) kq, fun H' h => ⟨kvs.length - (i + 1), by omega, rfl, hlt, h⟩, ?_⟩
    rintro _ _ ⟨rfl, k, v0, hk, rfl⟩
    obtain ⟨x, t, hx, rfl, _⟩ := al.get hk
    obtain ⟨v, ev, r1⟩ := (al.look (x := x)).1 t (look_get nd hx)
    have etk : l.take (i + 1) = l.take i ++ [(x, t)] := by rw [List.take_succ, hx]; rfl
    refine ⟨hw _, ?_⟩
    unfold tYes
    have hal := ala.len
    have hpl := pq.len
    rw [List.length_map, List.length_take] at hal
    refine iteT ⟨_, hsl _, hte i x t v _ _ _ hx s (m1 _ _ _ _ (Kp.of_same s) r1) (.inl ⟨kvs, .inr x, .inr ⟨o, s _ _ hd⟩, rfl, ev.symm⟩) rfl fun z H' s' hz => ⟨(by show 2 ≤ sizeLine; decide), fun q hq' => ?_⟩⟩
    have sq := Rd.Same.upd (o := .tup [kV (.inr x), z]) hq'
    have hD' := sq _ _ (s' _ _ hDa)
    refine ⟨_, hD', by rw [List.length_map]; omega, ps ++ [q], kq ++ [(.inr x, z)], fun c o e => ?_, ?_, ?_, ?_⟩
    · rw [upd_ne (ne_of_none e hD)]
      exact sq _ _ (s' _ _ (s _ _ e))
    · rw [upd_same, List.map_append]
      rfl
    · have kp := Kp.upd_lst (C := C) (ys := ps.map V.ref ++ [V.ref q]) hD'
      exact Pq.snoc (kp _ _ rfl upd_same) ((pq.mono (C := C) (Kp.of_same (s'.trans sq))).mono kp)
    · have kp := Kp.upd_lst (C := C) (ys := ps.map V.ref ++ [V.ref q]) hD'
      rw [etk, List.map_append]
      exact Al.snoc (m2 _ _ _ _ kp (m2 _ _ _ _ (Kp.of_same sq) hz)) (ala.mono fun t v h => m2 _ _ _ _ kp (m2 _ _ _ _ (Kp.of_same (s'.trans sq)) h))
  · refine .inl ⟨⟨s _ _ hd, by omega⟩, hq ps kq H s hDa pq ?_⟩
    rw [List.take_of_length_le (by omega)] at ala
    exact ala
section
variable {X : Cx} {CX : CXT} {k : Nat} {c m : Str} {ps : List Str} {sp : Sp} {o : Expr} {ta : TE} {E : XK} {apos pos : Pos} {K : PySem.W.Frag}
theorem pe_fm0k {pl : Sem Bool} (hK : X.K = K) (he : PE X o ta) (cl : Cls X.K (He.ga X.K c)) (F : Fm X.prog X.w X.K X.mg X.base CX k c m ps sp) (hr : Room k X.A) (hx : Passes CX X E)
    (ht : eval (.Call (.Attribute o m apos) [] [] pos) X.env = (do
      let ov ← eval o X.env
      standAt apos.atName
      let (f, first) ← holding [ov] (getMethod ov m pl)
      callWith pos f first (backTo pos (starEach [] X.env)) (backToKw pos (keywordEach [] X.env))) := by rfl) :
    PE X (.Call (.Attribute o m apos) [] [] pos) (tMeth (He.ga K c) m sp [] E ta tNil) := by subst hK; exact pe_fm0 he cl F hr hx ht
end
end Rd
namespace Rd
open PySem L2
/-! ### texts ascending, each once -/
def ltS (a b : Str) : Bool := PySem.Spec.ltCps a.cps.toList b.cps.toList
theorem ltC_irr : ∀ a : List Nat, PySem.Spec.ltCps a a = false
  | [] => rfl
  | a :: r => by
    show (decide (a < a) || (a == a && PySem.Spec.ltCps r r)) = false
    rw [ltC_irr r]
    simp
theorem ltC_trans : ∀ {a b c : List Nat}, PySem.Spec.ltCps a b = true → PySem.Spec.ltCps b c = true → PySem.Spec.ltCps a c = true
  | [], [], _, h, _ => by cases h
  | [], _ :: _, [], _, h => by cases h
  | [], _ :: _, _ :: _, _, _ => rfl
  | _ :: _, [], _, h, _ => by cases h
  | _ :: _, _ :: _, [], _, h => by cases h
  | a :: r, b :: s, c :: t, h1, h2 => by
    have g1 : (decide (a < b) || (a == b && PySem.Spec.ltCps r s)) = true := h1
    have g2 : (decide (b < c) || (b == c && PySem.Spec.ltCps s t)) = true := h2
    show (decide (a < c) || (a == c && PySem.Spec.ltCps r t)) = true
    rw [Bool.or_eq_true, Bool.and_eq_true, decide_eq_true_eq, beq_iff_eq] at g1 g2 ⊢
    rcases g1 with g1 | ⟨e1, g1⟩
    · rcases g2 with g2 | ⟨e2, g2⟩
      · exact .inl (Nat.lt_trans g1 g2)
      · exact .inl (by omega)
    · rcases g2 with g2 | ⟨e2, g2⟩
      · exact .inl (by omega)
      · exact .inr ⟨by omega, ltC_trans g1 g2⟩
theorem ltC_tot : ∀ {a b : List Nat}, PySem.Spec.ltCps a b = false → PySem.Spec.ltCps b a = false → a = b
  | [], [], _, _ => rfl
  | [], _ :: _, h, _ => by cases h
  | _ :: _, [], _, h => by cases h
  | a :: r, b :: s, h1, h2 => by
    have h1 : (decide (a < b) || (a == b && PySem.Spec.ltCps r s)) = false := h1
    have h2 : (decide (b < a) || (b == a && PySem.Spec.ltCps s r)) = false := h2
    rw [Bool.or_eq_false_iff, decide_eq_false_iff_not] at h1 h2
    have e : a = b := by omega
    subst e
    rw [beq_self_eq_true, Bool.true_and] at h1 h2
    rw [ltC_tot h1.2 h2.2]
theorem ltS_irr (a : Str) : ltS a a = false := ltC_irr _
theorem ltS_trans {a b c : Str} (h1 : ltS a b = true) (h2 : ltS b c = true) : ltS a c = true := ltC_trans h1 h2
theorem ltS_tot {a b : Str} (h1 : ltS a b = false) (h2 : ltS b a = false) : a = b := by
  have e := ltC_tot h1 h2
  cases a; cases b
  exact congrArg Str.mk (Array.toList_inj.mp e)
def asc (l : List Str) : Prop := l.Pairwise fun a b => ltS a b = true
theorem asc_of : ∀ {l : List Str}, PyProof.Rows.sortedS l = true → l.Nodup → asc l
  | [], _, _ => List.Pairwise.nil
  | [x], _, _ => List.pairwise_singleton _ _
  | x :: y :: r, h, n => by
    have h : (!ltS y x && PyProof.Rows.risingS y r) = true := h
    rw [Bool.and_eq_true, Bool.not_eq_true'] at h
    have ih : asc (y :: r) := asc_of (l := y :: r) h.2 (List.nodup_cons.mp n).2
    have ne : x ≠ y := fun e => (List.nodup_cons.mp n).1 (by rw [e]; exact List.mem_cons_self)
    have xy : ltS x y = true := by
      cases e : ltS x y with
      | true => rfl
      | false => exact absurd (ltS_tot e h.1) ne
    refine List.pairwise_cons.mpr ⟨fun z hz => ?_, ih⟩
    rcases List.mem_cons.mp hz with rfl | hz
    · exact xy
    · exact ltS_trans xy ((List.pairwise_cons.mp ih).1 z hz)
theorem asc_uniq : ∀ {l m : List Str}, asc l → asc m → (∀ x, x ∈ l ↔ x ∈ m) → l = m
  | [], [], _, _, _ => rfl
  | [], y :: m, _, _, h => by cases (h y).2 List.mem_cons_self
  | x :: l, [], _, _, h => by cases (h x).1 List.mem_cons_self
  | x :: l, y :: m, hl, hm, h => by
    obtain ⟨l1, l2⟩ := List.pairwise_cons.mp hl
    obtain ⟨m1, m2⟩ := List.pairwise_cons.mp hm
    have e : x = y := by
      rcases List.mem_cons.mp ((h x).1 List.mem_cons_self) with e | e
      · exact e
      · rcases List.mem_cons.mp ((h y).2 List.mem_cons_self) with e' | e'
        · exact e'.symm
        · have a := ltS_trans (m1 x e) (l1 y e')
          rw [ltS_irr] at a
          cases a
    subst e
    rw [asc_uniq l2 m2 fun z => ?_]
    constructor
    · intro hz
      rcases List.mem_cons.mp ((h z).1 (List.mem_cons_of_mem _ hz)) with e | e
      · have a := l1 z hz
        rw [e, ltS_irr] at a
        cases a
      · exact e
    · intro hz
      rcases List.mem_cons.mp ((h z).2 (List.mem_cons_of_mem _ hz)) with e | e
      · have a := m1 z hz
        rw [e, ltS_irr] at a
        cases a
      · exact e
def insS (x : Str) : List Str → List Str
  | [] => [x]
  | y :: r => if x = y then y :: r else if ltS x y = true then x :: y :: r else y :: insS x r
def uniS : List Str → List Str
  | [] => []
  | x :: r => insS x (uniS r)
theorem insS_mem {x z : Str} : ∀ {l : List Str}, z ∈ insS x l ↔ z = x ∨ z ∈ l
  | [] => by simp [insS]
  | y :: r => by
    unfold insS
    split
    · rename_i e
      subst e
      exact ⟨.inr, fun h => h.elim (fun e => by rw [e]; exact List.mem_cons_self) id⟩
    · split
      · exact List.mem_cons
      · rw [List.mem_cons, insS_mem, List.mem_cons]
        constructor
        · rintro (a | a | a)
          · exact .inr (.inl a)
          · exact .inl a
          · exact .inr (.inr a)
        · rintro (a | a | a)
          · exact .inr (.inl a)
          · exact .inl a
          · exact .inr (.inr a)
theorem insS_asc {x : Str} : ∀ {l : List Str}, asc l → asc (insS x l)
  | [], _ => List.pairwise_singleton _ _
  | y :: r, h => by
    obtain ⟨h1, h2⟩ := List.pairwise_cons.mp h
    unfold insS
    split
    · exact h
    · rename_i ne
      split
      · rename_i lt
        refine List.pairwise_cons.mpr ⟨fun z hz => ?_, h⟩
        rcases List.mem_cons.mp hz with rfl | hz
        · exact lt
        · exact ltS_trans lt (h1 z hz)
      · rename_i lt
        have yx : ltS y x = true := by
          cases e : ltS y x with
          | true => rfl
          | false => exact absurd (ltS_tot (by simpa using lt) e) ne
        refine List.pairwise_cons.mpr ⟨fun z hz => ?_, insS_asc h2⟩
        rcases insS_mem.mp hz with rfl | hz
        · exact yx
        · exact h1 z hz
theorem uniS_mem {z : Str} : ∀ {l : List Str}, z ∈ uniS l ↔ z ∈ l
  | [] => Iff.rfl
  | x :: r => by rw [uniS, insS_mem, uniS_mem, List.mem_cons]
theorem uniS_asc : ∀ {l : List Str}, asc (uniS l)
  | [] => List.Pairwise.nil
  | x :: r => insS_asc uniS_asc
theorem uniS_of {l ys : List Str} (h1 : ys.Nodup) (h2 : PyProof.Rows.sortedS ys = true) (h : ∀ x, x ∈ ys ↔ x ∈ l) : ys = uniS l :=
  asc_uniq (asc_of h2 h1) uniS_asc fun x => (h x).trans uniS_mem.symm
theorem insS_len {x : Str} : ∀ {l : List Str}, (insS x l).length ≤ l.length + 1
  | [] => Nat.le_refl _
  | y :: r => by
    unfold insS
    split
    · exact Nat.le_succ _
    · split
      · exact Nat.le_refl _
      · have := insS_len (x := x) (l := r)
        rw [List.length_cons, List.length_cons]
        omega
theorem uniS_len : ∀ {l : List Str}, (uniS l).length ≤ l.length
  | [] => Nat.le_refl _
  | x :: r => by
    have h1 := insS_len (x := x) (l := uniS r)
    have h2 := uniS_len (l := r)
    rw [uniS, List.length_cons]
    omega
/-- the texts of a form's atoms of one kind, as often as they stand -/
def Tr.txt (k : Str) : Tr → List Str
  | .am k' x => if k' = k then [x] else []
  | .un _ a => a.txt k
  | .bi _ a b => a.txt k ++ b.txt k
def txt1 (k : Str) : Tr → List Str
  | .am k' x => if k' = k then [x] else []
  | _ => []
theorem txt_all (k : Str) : ∀ t : Tr, t.all.flatMap (txt1 k) = t.txt k
  | .am k' x => by
    show txt1 k (.am k' x) ++ [] = _
    rw [List.append_nil]
    rfl
  | .un s a => by
    show txt1 k (.un s a) ++ a.all.flatMap (txt1 k) = a.txt k
    rw [txt_all k a]
    rfl
  | .bi s a b => by
    show txt1 k (.bi s a b) ++ (a.all ++ b.all).flatMap (txt1 k) = a.txt k ++ b.txt k
    rw [List.flatMap_append, txt_all k a, txt_all k b]
    rfl
theorem txts_len (k : Str) : ∀ t : Tr, (t.txt k).length ≤ t.all.length
  | .am k' x => by
    show (if k' = k then [x] else []).length ≤ 1
    split
    · exact Nat.le_refl _
    · exact Nat.zero_le _
  | .un s a => Nat.le_succ_of_le (txts_len k a)
  | .bi s a b => by
    show (a.txt k ++ b.txt k).length ≤ (a.all ++ b.all).length + 1
    rw [List.length_append, List.length_append]
    have := txts_len k a
    have := txts_len k b
    omega
end Rd
namespace Rd
open PySem L2
/-! ### the text of a form -/
def txt : Tr → List Nat
  | .am k x => if k = "unknown" then 63 :: x.cps.toList else x.cps.toList
  | .un s a => s.cps.toList ++ 40 :: (txt a ++ [41])
  | .bi s a b => s.cps.toList ++ 40 :: (txt a ++ 44 :: 32 :: (txt b ++ [41]))
def textOf (t : Tr) : Str := ofC (txt t)
theorem sign_len {s : Str} (h : s ∈ (["mark", "open", "own", "pair", "seal", "lock"] : List Str)) : s.cps.toList.length ≤ 4 := by
  have : ∀ z ∈ (["mark", "open", "own", "pair", "seal", "lock"] : List Str), z.cps.toList.length ≤ 4 := by decide +kernel
  exact this s h
theorem txt_len {t : Tr} (h : Wf t) : (txt t).length ≤ 16 * t.all.length := by
  induction t with
  | am k x =>
    cases h with
    | am ko =>
      have hx : x.length ≤ 8 := by
        rcases ko with ⟨rfl, h⟩ | ⟨rfl, h⟩ | ⟨rfl, h⟩
        · exact (word_len h).2.1
        · exact (name_len h).1
        · have := (unk_len h).1; omega
      have e := len_list x
      show (if k = "unknown" then 63 :: x.cps.toList else x.cps.toList).length ≤ 16 * 1
      split
      · rw [List.length_cons]; omega
      · omega
  | un s a ih =>
    have hs := sign_len (h.sign (fun e => by cases e)).1
    have hs : s.cps.toList.length ≤ 4 := hs
    have := ih (h.parts_wf a List.mem_cons_self)
    show (s.cps.toList ++ 40 :: (txt a ++ [41])).length ≤ 16 * (a.all.length + 1)
    rw [List.length_append, List.length_cons, List.length_append, List.length_singleton]
    omega
  | bi s a b iha ihb =>
    have hs := sign_len (h.sign (fun e => by cases e)).1
    have hs : s.cps.toList.length ≤ 4 := hs
    have h1 := iha (h.parts_wf a List.mem_cons_self)
    have h2 := ihb (h.parts_wf b (List.mem_cons_of_mem _ List.mem_cons_self))
    show (s.cps.toList ++ 40 :: (txt a ++ 44 :: 32 :: (txt b ++ [41]))).length ≤ 16 * ((a.all ++ b.all).length + 1)
    rw [List.length_append, List.length_cons, List.length_append, List.length_cons, List.length_cons, List.length_append, List.length_singleton, List.length_append]
    omega
theorem txt_small {t : Tr} (h : Wf t) (hd : t.dep ≤ 12) : (txt t).length ≤ 131072 := by
  have h1 := txt_len h
  have h2 := all_len t
  have h3 : 2 ^ (t.dep + 1) ≤ 2 ^ 13 := Nat.pow_le_pow_right (by decide) (by omega)
  have h4 : 2 ^ 13 = 8192 := by decide
  omega
theorem text_len {t : Tr} : (textOf t).length = (txt t).length := by rw [len_list, textOf, ofC_list]
def sp_text (d : Nat) : Sp := fun vs H Q _ => ∃ (v : V) (t : Tr), vs = [v] ∧ IsT H t v ∧ Wf t ∧ t.dep ≤ d ∧ d ≤ 12 ∧ ∀ H', Same H H' → Q (.str (textOf t)) H'
def spTR : Nat → Sp
  | 0 => fun _ _ _ _ => False
  | d + 1 => sp_text d
theorem join1 (a : Str) : Txt.join ", " [a] = a := by
  show Builtin.Str.glued ", " [a] = a
  rw [PySem.StrLaws.glued_eq_join]
  rfl
theorem join2 (a b : Str) : Txt.join ", " [a, b] = a ++ ", " ++ b := by
  show Builtin.Str.glued ", " [a, b] = a ++ ", " ++ b
  rw [PySem.StrLaws.glued_eq_join]
  rfl
end Rd
namespace Rd
open PySem L2
theorem texts_eq {ts : List Tr} {vs : List V} (hl : vs.length = ts.length) (h : ∀ (i : Nat) v, vs[i]? = some v → ∃ r, ts[i]? = some r ∧ v = .str (textOf r)) : vs = (ts.map textOf).map V.str := by
  refine List.ext_getElem? fun i => ?_
  rw [List.getElem?_map, List.getElem?_map]
  cases e : vs[i]? with
  | none =>
    have := List.getElem?_eq_none_iff.mp e
    rw [List.getElem?_eq_none (by omega)]
    rfl
  | some v =>
    obtain ⟨r, h1, h2⟩ := h i v e
    rw [h1, h2]
    rfl
theorem parts_text {t : Tr} (hp : t.parts ≠ []) : (txt t) = t.head.cps.toList ++ 40 :: ((Txt.join ", " (t.parts.map textOf)).cps.toList ++ [41]) := by
  cases t with
  | am k x => exact absurd rfl hp
  | un s a =>
    show s.cps.toList ++ 40 :: (txt a ++ [41]) = s.cps.toList ++ 40 :: ((Txt.join ", " [textOf a]).cps.toList ++ [41])
    rw [join1, textOf, ofC_list]
  | bi s a b =>
    show s.cps.toList ++ 40 :: (txt a ++ 44 :: 32 :: (txt b ++ [41])) = s.cps.toList ++ 40 :: ((Txt.join ", " [textOf a, textOf b]).cps.toList ++ [41])
    have e : (", " : Str).cps.toList = [44, 32] := by decide +kernel
    rw [join2, app_list, app_list, textOf, textOf, ofC_list, ofC_list, e]
    simp
theorem join_sum {t : Tr} (wf : Wf t) (hd : t.dep ≤ 12) : ((t.parts.map textOf).map (·.length)).sum + (t.parts.map textOf).length * (", " : Str).length ≤ 16777216 := by
  have e : (", " : Str).length = 2 := by decide +kernel
  rw [e]
  cases t with
  | am k x => show 0 + 0 * 2 ≤ 16777216; decide
  | un s a =>
    have h1 := txt_small (wf.parts_wf a List.mem_cons_self) (by have : a.dep + 1 ≤ 12 := hd; omega)
    show (textOf a).length + 0 + 1 * 2 ≤ 16777216
    rw [text_len]
    omega
  | bi s a b =>
    have hd : max a.dep b.dep + 1 ≤ 12 := hd
    have h1 := txt_small (wf.parts_wf a List.mem_cons_self) (by omega)
    have h2 := txt_small (wf.parts_wf b (List.mem_cons_of_mem _ List.mem_cons_self)) (by omega)
    show (textOf a).length + ((textOf b).length + 0) + 2 * 2 ≤ 16777216
    rw [text_len, text_len]
    omega
theorem join_len {t : Tr} (hp : t.parts ≠ []) : (Txt.join ", " (t.parts.map textOf)).length + 2 + t.head.length = (txt t).length := by
  rw [parts_text hp, List.length_append, List.length_cons, List.length_append, List.length_singleton, len_list, len_list]
  omega
theorem text_parts {t : Tr} (hp : t.parts ≠ []) {a : Str} (h : a.cps.toList = t.head.cps.toList ++ 40 :: ((Txt.join ", " (t.parts.map textOf)).cps.toList ++ [41])) : a = textOf t := str_ext (by rw [h, ← parts_text hp, textOf, ofC_list])
theorem text_am {k x : Str} (h : k ≠ "unknown") : textOf (.am k x) = x := str_ext (by rw [textOf, ofC_list]; show (if k = "unknown" then _ else _) = _; rw [if_neg h])
theorem text_unk {x : Str} : textOf (.am "unknown" x) = "?" ++ x := by
  refine str_ext ?_
  have e : ("?" : Str).cps.toList = [63] := by decide +kernel
  rw [textOf, ofC_list, app_list, e]
  show (if ("unknown" : Str) = "unknown" then _ else _) = _
  rw [if_pos rfl]
  rfl
def SIGNL : List Str := ["pair", "seal", "lock", "mark", "open", "own"]
section
variable {P : Program} {w : World} {K : PySem.W.Frag} {mg : Str → Option Value} {base : Heap}
abbrev s_tree_text : Stmt := top 23
theorem sc_tree_text : FnScope ["tree", "inner", "part"] ["tree"] (defScope s_tree_text) := ⟨rfl, rfl, rfl, by decide +kernel, rfl, by decide +kernel, by decide +kernel⟩
theorem tt_step (T : Tx w K mg) (d : Nat) (ih : Fk P w K mg base CX0 (d + 1) "tree_text" ["tree"] (spTR d)) : Fk P w K mg base CX0 (d + 2) "tree_text" ["tree"] (sp_text d) := by
  refine T.F_tree_text.ok0 sc_tree_text (fun _ _ _ _ _ _ us hl => match us, hl with | [_], _ => rfl)
    (fun vs H Q E h => ?_) (fun cdv A outer s H vs Q E hr h => ?_)
  · obtain ⟨v, t, rfl, _⟩ := h
    rfl
  · obtain ⟨v, t, rfl, it, wf, dp, d12, k⟩ := h
    refine ⟨_, (pss_cons (ps_if (pt_cmpR op_eq (pe_ix ix_tup (pv 0) pe_int (fun _ _ => rfl)) pe_str (nomark _))
  (pss_one (ps_ret (pe_op op_add_str pe_str (pe_ix ix_tup (pv 0) pe_int (fun _ _ => rfl)))))
  pss_nil)
  (pss_cons (ps_if (pt_cmpR (op_inK T.D_SIGNS) (pe_ix ix_tup (pv 0) pe_int (fun _ _ => rfl)) (pe_kd T.D_SIGNS) (by rfl))
  (pss_cons (ps_set (i := 1) sc_tree_text.nd rfl (Or.inl rfl) (pe_join pe_str (pe_lc (own := [("part", 2)]) (g := gName 2) (tt := tYes) (by rfl) sc_tree_text.nd (pi_tup (pe_slice sl_tup (pv 0) (po_some pe_int) po_none)) (blkOk_by (own := [("part", 2)]) (N := ["tree", "inner", "part"]) (sc := defScope s_tree_text) (by decide +kernel)) (fun _ _ _ _ _ => (pg_name (i := 2) sc_tree_text.nd rfl (Or.inl rfl))) (fun _ _ _ _ _ => pts_nil) (fun _ _ _ _ _ => (pe_fk ih (hr.mono (by omega)) rfl pass0 (pa_cons (pv 2) pa_nil))))))
  (pss_one (ps_ret (pe_joined (.cons (pe_fmt (pe_ix ix_tup (pv 0) pe_int (fun _ _ => rfl))) (.cons pe_str (.cons (pe_fmt (pv 1)) (.cons pe_str .nil))))))))
  pss_nil)
  (pss_one (ps_ret (pe_ix ix_tup (pv 0) pe_int (fun _ _ => rfl)))))), ?_⟩
    have big : 16777216 ≤ sizeLine := by decide
    by_cases hpt : t.parts ≠ []
    · obtain ⟨hsg, hws⟩ := wf.sign hpt
      obtain ⟨pf, us, rfl, hp, hlu, hl2, hne, hus⟩ := it.parts hpt
      have h4 : ¬ decide (V.str t.head = V.str "unknown") = true := by
        have : ∀ z ∈ (["mark", "open", "own", "pair", "seal", "lock"] : List Str), ¬ decide (V.str z = V.str "unknown") = true := by decide +kernel
        exact this _ hsg
      refine ⟨_, rfl, pf, _, _, _, rfl, rfl, SqT.of hp, at_of (j := 0) rfl rfl, rfl, _, rfl, iteN h4 ?_⟩
      refine ⟨_, rfl, pf, _, _, _, rfl, rfl, SqT.of hp, at_of (j := 0) rfl rfl, _, rfl, rfl, _, rfl, iteP (decide_eq_true (mem_to (by decide +kernel) hsg)) ?_⟩
      refine ⟨⟨_, rfl⟩, _, rfl, _, rfl, pf, _, rfl, SqT.of hp, ?_, fun p2 hp2 => ?_⟩
      · rintro ⟨z, _⟩
        rw [show (1 : Int) = ((1 : Nat) : Int) from rfl, HT.sIx_nat, List.length_cons] at z
        omega
      rw [cut1]
      have s2 := Rd.Same.upd (o := .tup us) hp2
      refine ⟨p2, rfl, ⟨_, SqT.of upd_same⟩, fun D hD => ?_⟩
      refine lct (C := 0) (fun i H v => ∃ r, t.parts[i]? = some r ∧ v = .str (textOf r)) (fun i H H' v _ h => h) (SqT.of upd_same) (by omega) hD (fun i x H1 Q1 hx s1 k1 => ?_) fun vs H1 s1 hD1 hlv hvs => ?_
      · obtain ⟨r, hr1, hr2⟩ := hus i x hx
        obtain ⟨w1, w2⟩ := hws r (List.mem_of_getElem? hr1)
        cases d with
        | zero => exact absurd dp (by omega)
        | succ d => exact ⟨_, rfl, x, r, rfl, hr2.same (s2.trans s1), w1, (by omega), (by omega), fun H' s' => k1 _ H' s' ⟨r, hr1, rfl⟩⟩
      have ev := texts_eq (hlv.trans hlu) hvs
      have hj := join_len hpt
      have hts := txt_small wf (by omega)
      refine ⟨_, D, t.parts.map textOf, rfl, rfl, .inl (SqL.of (by rw [← ev]; exact hD1)), join_sum wf (by omega), ?_⟩
      refine gName_k ?_
      try dsimp only
      have hp1 := s1 _ _ (s2 _ _ hp)
      have e0 : Str.empty.cps.toList = [] := by decide +kernel
      have e1 : ("(" : Str).cps.toList = [40] := by decide +kernel
      have e2 : (")" : Str).cps.toList = [41] := by decide +kernel
      have l0 : ∀ z : Str, Str.empty ++ z = z := fun z => str_ext (by rw [app_list, e0]; rfl)
      have la : ∀ a b : Str, (a ++ b).length = a.length + b.length := fun a b => by rw [len_list, app_list, List.length_append, ← len_list, ← len_list]
      have l1 : ("(" : Str).length = 1 := by decide +kernel
      have l2 : (")" : Str).length = 1 := by decide +kernel
      refine ⟨_, rfl, pf, _, _, _, rfl, rfl, SqT.of hp1, at_of (j := 0) rfl rfl, .inl ⟨t.head, rfl, (by omega), _, rfl, ?_, ?_⟩⟩
      · rw [l0]; omega
      rw [l0]
      refine ⟨"(", rfl, (by rw [la, l1]; omega), ?_⟩
      refine ⟨_, rfl, .inl ⟨_, rfl, (by omega), _, rfl, (by rw [la, la, l1]; omega), ?_⟩⟩
      refine ⟨")", rfl, (by rw [la, la, la, l1, l2]; omega), ?_⟩
      have ez : t.head ++ "(" ++ Txt.join ", " (t.parts.map textOf) ++ ")" = textOf t := text_parts hpt (by rw [app_list, app_list, app_list, e1, e2]; simp)
      show Q (.str (t.head ++ "(" ++ Txt.join ", " (t.parts.map textOf) ++ ")")) H1
      rw [ez]
      exact k _ (s2.trans s1)
    · cases wf with
      | @am k0 x0 ko =>
        obtain ⟨pf, rfl, hp⟩ := it
        refine ⟨_, rfl, pf, _, _, _, rfl, rfl, SqT.of hp, at_of (j := 0) rfl rfl, rfl, _, rfl, ?_⟩
        rcases ko with ⟨rfl, hx⟩ | ⟨rfl, hx⟩ | ⟨rfl, hx⟩
        · refine iteN (by decide +kernel) ?_
          refine ⟨_, rfl, pf, _, _, _, rfl, rfl, SqT.of hp, at_of (j := 0) rfl rfl, _, rfl, rfl, _, rfl, iteN (by decide +kernel) ?_⟩
          refine ⟨_, rfl, pf, _, _, _, rfl, rfl, SqT.of hp, at_of (j := 1) rfl rfl, ?_⟩
          have := k H (Same.refl _)
          rw [text_am (by decide +kernel)] at this
          exact this
        · refine iteN (by decide +kernel) ?_
          refine ⟨_, rfl, pf, _, _, _, rfl, rfl, SqT.of hp, at_of (j := 0) rfl rfl, _, rfl, rfl, _, rfl, iteN (by decide +kernel) ?_⟩
          refine ⟨_, rfl, pf, _, _, _, rfl, rfl, SqT.of hp, at_of (j := 1) rfl rfl, ?_⟩
          have := k H (Same.refl _)
          rw [text_am (by decide +kernel)] at this
          exact this
        · refine iteP (by decide +kernel) ?_
          have hl := unk_len hx
          have hq : ("?" : Str).length = 1 := by decide +kernel
          refine ⟨_, rfl, pf, _, _, _, rfl, rfl, SqT.of hp, at_of (j := 1) rfl rfl, _, _, rfl, rfl, (by omega), ?_⟩
          have := k H (Same.refl _)
          rw [text_unk] at this
          exact this
      | _ => exact absurd (fun e => by cases e) hpt
theorem tt_none (T : Tx w K mg) : Fk P w K mg base CX0 1 "tree_text" ["tree"] (spTR 0) := by
  refine T.F_tree_text.ok0 sc_tree_text (fun _ _ _ _ _ _ us hl => match us, hl with | [_], _ => rfl) (fun vs H Q E h => h.elim) (fun cdv A outer s H vs Q E hr h => h.elim)
theorem ok_tree_text (T : Tx w K mg) : ∀ d : Nat, Fk P w K mg base CX0 (d + 2) "tree_text" ["tree"] (sp_text d)
  | 0 => tt_step T 0 (tt_none T)
  | d + 1 => tt_step T (d + 1) (ok_tree_text T d)
end
end Rd
namespace Rd
open PySem L2
/-! ### words and brackets of a text (of D4, D5, E1) -/
def nb (c : Nat) : Bool := !decide (c ∈ (("(), " : Str).cps.toList))
def wd (cs : List Nat) : List Nat := cs.takeWhile nb
/-- the rest begins by a sign that ends a word -/
def Brk (rs : List Nat) : Prop := rs = [] ∨ ∃ c r, rs = c :: r ∧ nb c = false ∧ c ≠ 40
theorem wd_app {w rs : List Nat} (hw : w.all nb = true) (hr : rs = [] ∨ ∃ c r, rs = c :: r ∧ nb c = false) : wd (w ++ rs) = w := by
  unfold wd
  induction w with
  | nil =>
    rcases hr with rfl | ⟨c, r, rfl, hc⟩
    · rfl
    · show (c :: r).takeWhile nb = []
      simp [List.takeWhile, hc]
  | cons a w ih =>
    rw [List.all_cons, Bool.and_eq_true] at hw
    show (a :: (w ++ rs)).takeWhile nb = a :: w
    rw [List.takeWhile_cons, hw.1, if_pos rfl, ih hw.2]
theorem word_nb {z : Str} (h : isWord z = true) : z.cps.toList.all nb = true := by
  obtain ⟨h1, h2⟩ := He.ba h
  obtain ⟨h3, h4⟩ := He.ba h2
  have dj : SMALL.cps.toList.all nb = true := by decide +kernel
  exact List.all_eq_true.mpr fun c hc => List.all_eq_true.mp dj c (of_decide_eq_true (List.all_eq_true.mp h4 c hc))
theorem name_nb {z : Str} (h : isName z = true) : z.cps.toList.all nb = true := by
  obtain ⟨h1, h2⟩ := He.ba h
  obtain ⟨h3, h4⟩ := He.ba h2
  have h1' := of_decide_eq_true h1
  rw [len_list, rstrip_list] at h1'
  rw [rstrip_list] at h4
  obtain ⟨⟨a1, a2⟩, a3⟩ := (name_iff z.cps.toList).mp ⟨h1', h4⟩
  have dj : GREAT.cps.toList.all nb = true := by decide +kernel
  have dk : DIGITS.cps.toList.all nb = true := by decide +kernel
  refine List.all_eq_true.mpr fun c hc => ?_
  rw [← List.take_append_drop (z.cps.toList.filter (inS GREAT)).length z.cps.toList] at hc
  rcases List.mem_append.mp hc with q | q
  · exact List.all_eq_true.mp dj c (of_decide_eq_true (List.all_eq_true.mp a2 c q))
  · exact List.all_eq_true.mp dk c (of_decide_eq_true (List.all_eq_true.mp a3 c q))
theorem am_text {k x : Str} (h : kindOk k x) : (txt (.am k x)).all nb = true ∧ atomOf (ofC (txt (.am k x))) = some (k, x) := by
  have e : ofC (txt (.am k x)) = textOf (.am k x) := rfl
  rcases h with ⟨rfl, h⟩ | ⟨rfl, h⟩ | ⟨rfl, h⟩
  · rw [e, text_am (by decide +kernel), atomOf_word h]
    refine ⟨?_, rfl⟩
    have e2 : txt (.am "word" x) = x.cps.toList := if_neg (by decide +kernel)
    rw [e2]
    exact word_nb h
  · rw [e, text_am (by decide +kernel), atomOf_name h]
    refine ⟨?_, rfl⟩
    have e2 : txt (.am "name" x) = x.cps.toList := if_neg (by decide +kernel)
    rw [e2]
    exact name_nb h
  · rw [e, text_unk, atomOf_unk h]
    refine ⟨?_, rfl⟩
    have e2 : txt (.am "unknown" x) = 63 :: x.cps.toList := if_pos rfl
    rw [e2, List.all_cons, word_nb (He.ba h).1]
    decide +kernel
end Rd
namespace Rd
open PySem L2
/-! ### the text of a form tells the form -/
theorem Wf.shp {t : Tr} (h : Wf t) : (∃ k x, t = .am k x ∧ kindOk k x) ∨ (∃ s a, t = .un s a ∧ s ∈ (["mark", "open", "own"] : List Str) ∧ Wf a) ∨ ∃ s a b, t = .bi s a b ∧ s ∈ (["pair", "seal", "lock"] : List Str) ∧ Wf a ∧ Wf b := by
  cases h with
  | am ko => exact .inl ⟨_, _, rfl, ko⟩
  | un hs w => exact .inr (.inl ⟨_, _, rfl, hs, w⟩)
  | bi hs w1 w2 => exact .inr (.inr ⟨_, _, _, rfl, mem_to (by decide +kernel) hs, w1, w2⟩)
  | lk hs w1 w2 => exact .inr (.inr ⟨_, _, _, rfl, by decide +kernel, w1, .un (mem_to (by decide +kernel) hs) w2⟩)
theorem sg_nb {s : Str} (h : s ∈ (["mark", "open", "own", "pair", "seal", "lock"] : List Str)) : s.cps.toList.all nb = true := by
  have : ∀ z ∈ (["mark", "open", "own", "pair", "seal", "lock"] : List Str), z.cps.toList.all nb = true := by decide +kernel
  exact this _ h
theorem wd_sg {s : Str} {r : List Nat} (h : s ∈ (["mark", "open", "own", "pair", "seal", "lock"] : List Str)) : wd (s.cps.toList ++ 40 :: r) = s.cps.toList := wd_app (sg_nb h) (.inr ⟨40, r, rfl, by decide +kernel⟩)
theorem Brk.or {r : List Nat} (h : Brk r) : r = [] ∨ ∃ c q, r = c :: q ∧ nb c = false := by
  rcases h with h | ⟨c, q, h1, h2, _⟩
  · exact .inl h
  · exact .inr ⟨c, q, h1, h2⟩
theorem Brk.no40 {r q : List Nat} (h : Brk (40 :: q)) : False := by
  rcases h with h | ⟨c, q, h1, _, h3⟩
  · cases h
  · injection h1 with h1 _
    exact h3 h1.symm
theorem Brk.c {c : Nat} {r : List Nat} (h : nb c = false) (h2 : c ≠ 40) : Brk (c :: r) := .inr ⟨c, r, rfl, h, h2⟩
theorem sgUB {s s' : Str} (h1 : s ∈ (["mark", "open", "own"] : List Str)) (h2 : s' ∈ (["pair", "seal", "lock"] : List Str)) : s ≠ s' := by
  have : ∀ a ∈ (["mark", "open", "own"] : List Str), ∀ b ∈ (["pair", "seal", "lock"] : List Str), a ≠ b := by decide +kernel
  exact this _ h1 _ h2
theorem uT {s : Str} (h : s ∈ (["mark", "open", "own"] : List Str)) : s ∈ (["mark", "open", "own", "pair", "seal", "lock"] : List Str) := mem_to (by decide +kernel) h
theorem bT {s : Str} (h : s ∈ (["pair", "seal", "lock"] : List Str)) : s ∈ (["mark", "open", "own", "pair", "seal", "lock"] : List Str) := mem_to (by decide +kernel) h
theorem txt_un (s : Str) (a : Tr) (r : List Nat) : txt (.un s a) ++ r = s.cps.toList ++ 40 :: (txt a ++ 41 :: r) := by
  show (s.cps.toList ++ 40 :: (txt a ++ [41])) ++ r = _
  simp
theorem txt_bi (s : Str) (a b : Tr) (r : List Nat) : txt (.bi s a b) ++ r = s.cps.toList ++ 40 :: (txt a ++ 44 :: 32 :: (txt b ++ 41 :: r)) := by
  show (s.cps.toList ++ 40 :: (txt a ++ 44 :: 32 :: (txt b ++ [41]))) ++ r = _
  simp
theorem am_no {k x s : Str} {r q : List Nat} (ko : kindOk k x) (hr : Brk r) (hs : s ∈ (["mark", "open", "own", "pair", "seal", "lock"] : List Str)) (e : txt (.am k x) ++ r = s.cps.toList ++ 40 :: q) : False := by
  have h1 : wd (txt (.am k x) ++ r) = txt (.am k x) := wd_app (am_text ko).1 hr.or
  rw [e, wd_sg hs] at h1
  rw [← h1] at e
  have := List.append_cancel_left e
  rw [this] at hr
  exact Brk.no40 (r := []) hr
theorem txt_inj : ∀ (t u : Tr), Wf t → Wf u → ∀ r r' : List Nat, Brk r → Brk r' → txt t ++ r = txt u ++ r' → t = u ∧ r = r' := by
  intro t
  induction t with
  | am k x =>
    intro u wt wu r r' hr hr' e
    rcases wt.shp with ⟨_, _, e0, ko⟩ | ⟨_, _, e0, _⟩ | ⟨_, _, _, e0, _⟩
    · cases e0
      rcases wu.shp with ⟨k', x', rfl, ko'⟩ | ⟨s, a, rfl, hs, _⟩ | ⟨s, a, b, rfl, hs, _⟩
      · have h1 : wd (txt (.am k x) ++ r) = txt (.am k x) := wd_app (am_text ko).1 hr.or
        rw [e, wd_app (am_text ko').1 hr'.or] at h1
        have h2 := (am_text ko).2
        rw [← h1, (am_text ko').2] at h2
        injection h2 with h2
        injection h2 with h3 h4
        subst h3 h4
        exact ⟨rfl, List.append_cancel_left e⟩
      · rw [txt_un] at e
        exact (am_no ko hr (uT hs) e).elim
      · rw [txt_bi] at e
        exact (am_no ko hr (bT hs) e).elim
    · cases e0
    · cases e0
  | un s a ih =>
    intro u wt wu r r' hr hr' e
    rcases wt.shp with ⟨_, _, e0, _⟩ | ⟨_, _, e0, hs, wa⟩ | ⟨_, _, _, e0, _⟩
    · cases e0
    · cases e0
      rw [txt_un] at e
      rcases wu.shp with ⟨k', x', rfl, ko'⟩ | ⟨s', b, rfl, hs', wb⟩ | ⟨s', a', b, rfl, hs', _⟩
      · exact (am_no ko' hr' (uT hs) e.symm).elim
      · rw [txt_un] at e
        have h1 := wd_sg (r := txt a ++ 41 :: r) (uT hs)
        rw [e, wd_sg (uT hs')] at h1
        have h2 : s' = s := str_ext h1
        subst h2
        have h3 := List.append_cancel_left e
        injection h3 with _ h3
        obtain ⟨h4, h5⟩ := ih b wa wb _ _ (Brk.c (by decide +kernel) (by decide)) (Brk.c (by decide +kernel) (by decide)) h3
        injection h5 with _ h5
        exact ⟨by rw [h4], h5⟩
      · rw [txt_bi] at e
        have h1 := wd_sg (r := txt a ++ 41 :: r) (uT hs)
        rw [e, wd_sg (bT hs')] at h1
        exact absurd (str_ext h1).symm (sgUB hs hs')
    · cases e0
  | bi s a b iha ihb =>
    intro u wt wu r r' hr hr' e
    rcases wt.shp with ⟨_, _, e0, _⟩ | ⟨_, _, e0, _⟩ | ⟨_, _, _, e0, hs, wa, wb⟩
    · cases e0
    · cases e0
    · cases e0
      rw [txt_bi] at e
      rcases wu.shp with ⟨k', x', rfl, ko'⟩ | ⟨s', c, rfl, hs', _⟩ | ⟨s', c, d, rfl, hs', wc, wd'⟩
      · exact (am_no ko' hr' (bT hs) e.symm).elim
      · rw [txt_un] at e
        have h1 := wd_sg (r := txt a ++ 44 :: 32 :: (txt b ++ 41 :: r)) (bT hs)
        rw [e, wd_sg (uT hs')] at h1
        exact absurd (str_ext h1) (sgUB hs' hs)
      · rw [txt_bi] at e
        have h1 := wd_sg (r := txt a ++ 44 :: 32 :: (txt b ++ 41 :: r)) (bT hs)
        rw [e, wd_sg (bT hs')] at h1
        have h2 : s' = s := str_ext h1
        subst h2
        have h3 := List.append_cancel_left e
        injection h3 with _ h3
        obtain ⟨h4, h5⟩ := iha c wa wc _ _ (Brk.c (by decide +kernel) (by decide)) (Brk.c (by decide +kernel) (by decide)) h3
        injection h5 with _ h5
        injection h5 with _ h5
        obtain ⟨h6, h7⟩ := ihb d wb wd' _ _ (Brk.c (by decide +kernel) (by decide)) (Brk.c (by decide +kernel) (by decide)) h5
        injection h7 with _ h7
        exact ⟨by rw [h4, h6], h7⟩
theorem text_inj {t u : Tr} (wt : Wf t) (wu : Wf u) (e : textOf t = textOf u) : t = u := by
  have e1 : txt t = txt u := by
    have := congrArg (fun z : Str => z.cps.toList) e
    simpa [textOf, ofC_list] using this
  refine (txt_inj t u wt wu [] [] (.inl rfl) (.inl rfl) (by rw [e1])).1
/-! ### what can be made, and opened parts -/
def mka (O : List Tr) : Tr → Bool
  | .am k x => decide (k = "word") || decide (Tr.am k x ∈ O)
  | .un s a => decide (Tr.un s a ∈ O) || (decide (s ∈ (["mark", "open"] : List Str)) && mka O a)
  | .bi s a b => decide (Tr.bi s a b ∈ O) || (mka O a && mka O b)
theorem mka_of {O : List Tr} {t : Tr} (h : t ∈ O) : mka O t = true := by
  cases t <;> simp [mka, h]
theorem mka_mono {O O' : List Tr} (h : ∀ t ∈ O, t ∈ O') : ∀ {t : Tr}, mka O t = true → mka O' t = true
  | .am k x, e => by
    simp only [mka, Bool.or_eq_true, decide_eq_true_eq] at e ⊢
    rcases e with e | e
    · exact .inl e
    · exact .inr (h _ e)
  | .un s a, e => by
    simp only [mka, Bool.or_eq_true, Bool.and_eq_true, decide_eq_true_eq] at e ⊢
    rcases e with e | ⟨e1, e2⟩
    · exact .inl (h _ e)
    · exact .inr ⟨e1, mka_mono h e2⟩
  | .bi s a b, e => by
    simp only [mka, Bool.or_eq_true, Bool.and_eq_true, decide_eq_true_eq] at e ⊢
    rcases e with e | ⟨e1, e2⟩
    · exact .inl (h _ e)
    · exact .inr ⟨mka_mono h e1, mka_mono h e2⟩
theorem mka_congr {O O' : List Tr} (h : ∀ t, t ∈ O ↔ t ∈ O') (t : Tr) : mka O t = mka O' t := by
  cases e : mka O' t with
  | true => exact mka_mono (fun t => (h t).mpr) e
  | false =>
    cases e2 : mka O t with
    | false => rfl
    | true =>
      rw [mka_mono (fun t => (h t).mp) e2] at e
      cases e
def prt (s : Str) : Str := if s = "open" then "own" else "open"
def lkey : Tr → Option Tr
  | .un s k => some (.un (prt s) k)
  | _ => none
def ukey : Tr → Option Tr
  | .bi s _ k => if s = "seal" then some k else if s = "lock" then lkey k else none
  | _ => none
def PCl (O : List Tr) : Prop := ∀ a b, Tr.bi "pair" a b ∈ O → a ∈ O ∧ b ∈ O
def SCl (O O' : List Tr) : Prop := ∀ s c k key, Tr.bi s c k ∈ O → ukey (.bi s c k) = some key → mka O key = true → c ∈ O'
structure IsOpen (ts os : List Tr) : Prop where
  base : ∀ t ∈ ts, t ∈ os
  pcl : PCl os
  scl : SCl os os
  least : ∀ O' : List Tr, (∀ t ∈ ts, t ∈ O') → PCl O' → SCl O' O' → ∀ t ∈ os, t ∈ O'
theorem all_self (t : Tr) : t ∈ t.all := by rw [all_parts]; exact List.mem_cons_self
theorem all_trans : ∀ {t u v : Tr}, u ∈ t.all → v ∈ u.all → v ∈ t.all := by
  intro t
  induction t with
  | am k x =>
    intro u v hu hv
    rw [show (Tr.am k x).all = [.am k x] from rfl, List.mem_singleton] at hu
    subst hu
    exact hv
  | un s a ih =>
    intro u v hu hv
    rw [show (Tr.un s a).all = .un s a :: a.all from rfl] at hu ⊢
    rcases List.mem_cons.mp hu with rfl | hu
    · exact hv
    · exact List.mem_cons_of_mem _ (ih hu hv)
  | bi s a b iha ihb =>
    intro u v hu hv
    rw [show (Tr.bi s a b).all = .bi s a b :: (a.all ++ b.all) from rfl] at hu ⊢
    rcases List.mem_cons.mp hu with rfl | hu
    · exact hv
    · refine List.mem_cons_of_mem _ (List.mem_append.mpr ?_)
      rcases List.mem_append.mp hu with h | h
      · exact .inl (iha h hv)
      · exact .inr (ihb h hv)
theorem all_l {s : Str} {a b : Tr} : a ∈ (Tr.bi s a b).all := List.mem_cons_of_mem _ (List.mem_append_left _ (all_self a))
theorem all_r {s : Str} {a b : Tr} : b ∈ (Tr.bi s a b).all := List.mem_cons_of_mem _ (List.mem_append_right _ (all_self b))
def allOf (ts : List Tr) : List Tr := ts.flatMap Tr.all
theorem allOf_pcl (ts : List Tr) : PCl (allOf ts) := fun a b h => by
  obtain ⟨t, ht, h⟩ := List.mem_flatMap.mp h
  exact ⟨List.mem_flatMap.mpr ⟨t, ht, all_trans h all_l⟩, List.mem_flatMap.mpr ⟨t, ht, all_trans h all_r⟩⟩
theorem allOf_scl (ts : List Tr) : SCl (allOf ts) (allOf ts) := fun s c k key h _ _ => by
  obtain ⟨t, ht, h⟩ := List.mem_flatMap.mp h
  exact List.mem_flatMap.mpr ⟨t, ht, all_trans h all_l⟩
theorem allOf_base (ts : List Tr) : ∀ t ∈ ts, t ∈ allOf ts := fun t h => List.mem_flatMap.mpr ⟨t, h, all_self t⟩
theorem IsOpen.inAll {ts os : List Tr} (h : IsOpen ts os) : ∀ t ∈ os, t ∈ allOf ts := h.least _ (allOf_base ts) (allOf_pcl ts) (allOf_scl ts)
theorem IsOpen.mono {ts us os ps : List Tr} (h : IsOpen ts os) (g : IsOpen us ps) (s : ∀ t ∈ ts, t ∈ us) : ∀ t ∈ os, t ∈ ps := h.least _ (fun t ht => g.base t (s t ht)) g.pcl g.scl
end Rd
namespace Rd
open PySem L2
/-- form in a list of forms -/
theorem rd_inTs {K : PySem.W.Frag} {H : Hp} {u : Tr} {ts : List Tr} {v : V} {p : Addr} {vs : List V} {Q : VK} (iu : IsT H u v) (fu : u.fine ∧ u.dep ≤ 60) (hp : H p = some (.lst vs)) (hts : TsAt H ts vs) (ft : ∀ t ∈ ts, t.fine ∧ t.dep ≤ 60) (q : Q (.bl (decide (u ∈ ts))) H) : rInD K v (.ref p) H Q := by
  refine ⟨dat u, ts.map dat, iu.dp, .lst (SqL.of hp) (dpAll_ts hts), dat_shaped fu.1 fu.2, ts_shaped ft, ?_⟩
  have e : (ts.map dat).any (fun z => PyData.eqv z (dat u)) = decide (u ∈ ts) := by
    clear q ft hts hp
    induction ts with
    | nil => simp
    | cons t ts ih =>
      rw [List.map_cons, List.any_cons, ih, eqv_dat]
      by_cases h : t = u
      · subst h
        simp
      · have h' : u ≠ t := fun z => h z.symm
        simp [h, h']
  rw [e]
  exact q
def sp_partner : Sp := fun vs H Q _ => ∃ (v : V) (s : Str) (a : Tr), vs = [v] ∧ IsT H (.un s a) v ∧ s ∈ (["open", "own"] : List Str) ∧ ∀ u H', Same H H' → IsT H' (.un (prt s) a) u → Q u H'
def sp_ukey : Sp := fun vs H Q _ => ∃ (v : V) (t key : Tr), vs = [v] ∧ IsT H t v ∧ Wf t ∧ ukey t = some key ∧ ∀ u H', Same H H' → IsT H' key u → Q u H'
def sp_isMade (d : Nat) : Sp := fun vs H Q _ => ∃ (v : V) (t : Tr) (a : Addr) (ws : List V) (ts : List Tr), vs = [v, .ref a] ∧ IsT H t v ∧ Wf t ∧ t.dep ≤ d ∧ d ≤ 60 ∧ H a = some (.lst ws) ∧ TsAt H ts ws ∧ (∀ t ∈ ts, t.fine ∧ t.dep ≤ 60) ∧ ∀ H', Same H H' → Q (.bl (mka ts t)) H'
def spIR : Nat → Sp
  | 0 => fun _ _ _ _ => False
  | d + 1 => sp_isMade d
theorem ukey_seal {c k key : Tr} (h : ukey (.bi "seal" c k) = some key) : key = k := by
  rw [ukey, if_pos rfl] at h
  cases h
  rfl
theorem ukey_inv {t key : Tr} (wf : Wf t) (h : ukey t = some key) : (∃ c, t = .bi "seal" c key) ∨ ∃ c s k, t = .bi "lock" c (.un s k) ∧ s ∈ (["open", "own"] : List Str) ∧ key = .un (prt s) k := by
  cases t with
  | am k x => cases h
  | un s a => cases h
  | bi s c k =>
    by_cases e : s = "seal"
    · subst e
      exact .inl ⟨c, by rw [ukey_seal h]⟩
    · rw [ukey, if_neg e] at h
      by_cases e2 : s = "lock"
      · subst e2
        rw [if_pos rfl] at h
        cases wf with
        | bi hs _ _ => exact absurd hs (by decide +kernel)
        | @lk s' _ k' hs _ _ =>
          cases h
          exact .inr ⟨c, s', k', rfl, hs, rfl⟩
      · rw [if_neg e2] at h
        cases h
theorem vals_eq {f : Tr → V} : ∀ {ts : List Tr} {vs : List V}, vs.length = ts.length → (∀ (i : Nat) v, vs[i]? = some v → ∃ r, ts[i]? = some r ∧ v = f r) → vs = ts.map f
  | [], [], _, _ => rfl
  | t :: ts, v :: vs, hl, h => by
    obtain ⟨r, e1, e2⟩ := h 0 v rfl
    cases e1
    rw [List.map_cons, e2, vals_eq (ts := ts) (vs := vs) (by simpa using hl) fun i v hv => h (i + 1) v hv]
def MKL : List Str := ["pair", "seal", "lock", "mark", "open"]
theorem mka_step {ts : List Tr} {t : Tr} (wf : Wf t) : mka ts t = ((decide (t.head = "word") || decide (t ∈ ts)) || (decide (t.head ∈ MKL) && t.parts.all (mka ts))) := by
  rcases wf.shp with ⟨k, x, rfl, ko⟩ | ⟨s, a, rfl, hs, _⟩ | ⟨s, a, b, rfl, hs, _⟩
  · have h : decide ((Tr.am k x).head ∈ MKL) = false := by
      rcases ko with ⟨rfl, _⟩ | ⟨rfl, _⟩ | ⟨rfl, _⟩
      · show decide (("word" : Str) ∈ MKL) = false
        decide +kernel
      · show decide (("name" : Str) ∈ MKL) = false
        decide +kernel
      · show decide (("unknown" : Str) ∈ MKL) = false
        decide +kernel
    rw [h, mka, Bool.false_and, Bool.or_false]
    rfl
  · have h1 : decide ((Tr.un s a).head = "word") = false := by
      have : ∀ z ∈ (["mark", "open", "own"] : List Str), decide (z = "word") = false := by decide +kernel
      exact this s hs
    have h2 : decide ((Tr.un s a).head ∈ MKL) = decide (s ∈ (["mark", "open"] : List Str)) := by
      have : ∀ z ∈ (["mark", "open", "own"] : List Str), decide (z ∈ MKL) = decide (z ∈ (["mark", "open"] : List Str)) := by decide +kernel
      exact this s hs
    rw [h1, h2, mka, Bool.false_or]
    show _ = (decide (Tr.un s a ∈ ts) || (_ && (mka ts a && true)))
    rw [Bool.and_true]
  · have h1 : decide ((Tr.bi s a b).head = "word") = false := by
      have : ∀ z ∈ (["pair", "seal", "lock"] : List Str), decide (z = "word") = false := by decide +kernel
      exact this s hs
    have h2 : decide ((Tr.bi s a b).head ∈ MKL) = true := by
      have : ∀ z ∈ (["pair", "seal", "lock"] : List Str), decide (z ∈ MKL) = true := by decide +kernel
      exact this s hs
    rw [h1, h2, mka, Bool.false_or, Bool.true_and]
    show _ = (decide (Tr.bi s a b ∈ ts) || (mka ts a && (mka ts b && true)))
    rw [Bool.and_true]
theorem decS (a b : Str) : decide (V.str a = V.str b) = decide (a = b) := decide_eq_decide.mpr ⟨V.str.inj, fun e => by rw [e]⟩
theorem mkl_parts {t : Tr} (wf : Wf t) (h : t.head ∈ MKL) : t.parts ≠ [] := by
  rcases wf.shp with ⟨k, x, rfl, ko⟩ | ⟨s, a, rfl, hs, _⟩ | ⟨s, a, b, rfl, hs, _⟩
  · rcases ko with ⟨rfl, _⟩ | ⟨rfl, _⟩ | ⟨rfl, _⟩
    · exact absurd (show ("word" : Str) ∈ MKL from h) (by decide +kernel)
    · exact absurd (show ("name" : Str) ∈ MKL from h) (by decide +kernel)
    · exact absurd (show ("unknown" : Str) ∈ MKL from h) (by decide +kernel)
  · exact fun e => by cases e
  · exact fun e => by cases e
section
variable {P : Program} {w : World} {K : PySem.W.Frag} {mg : Str → Option Value} {base : Heap}
abbrev s_partner : Stmt := top 32
theorem sc_partner : FnScope ["key"] ["key"] (defScope s_partner) := ⟨rfl, rfl, rfl, by decide +kernel, rfl, by decide +kernel, by decide +kernel⟩
theorem ok_partner (T : Tx w K mg) : Fk P w K mg base CX0 1 "partner" ["key"] sp_partner := by
  refine T.F_partner.ok0 sc_partner (fun _ _ _ _ _ _ us hl => match us, hl with | [_], _ => rfl)
    (fun vs H Q E h => ?_) (fun cdv A outer s H vs Q E hr h => ?_)
  · obtain ⟨v, s, a, rfl, _⟩ := h
    rfl
  · obtain ⟨v, s, a, rfl, it, hs, k⟩ := h
    refine ⟨_, (pss_cons (ps_if (pt_cmpR op_eq (pe_ix ix_tup (pv 0) pe_int (fun _ _ => rfl)) pe_str (nomark _))
  (pss_one (ps_ret (pe_tup (pa_cons pe_str (pa_cons (pe_ix ix_tup (pv 0) pe_int (fun _ _ => rfl)) pa_nil)))))
  pss_nil)
  (pss_one (ps_ret (pe_tup (pa_cons pe_str (pa_cons (pe_ix ix_tup (pv 0) pe_int (fun _ _ => rfl)) pa_nil)))))), ?_⟩
    obtain ⟨p, u, rfl, hp, iu⟩ := it
    refine ⟨_, rfl, p, _, _, _, rfl, rfl, SqT.of hp, at_of (j := 0) rfl rfl, rfl, _, rfl, ?_⟩
    by_cases e : s = "open"
    · subst e
      refine iteP (by decide +kernel) ⟨_, rfl, p, _, _, _, rfl, rfl, SqT.of hp, at_of (j := 1) rfl rfl, (by show 2 ≤ sizeLine; decide), fun q hq => ?_⟩
      exact k _ _ (Rd.Same.upd hq) ⟨q, u, rfl, upd_same, iu.same (Rd.Same.upd hq)⟩
    · refine iteN (by intro z; exact e (V.str.inj (of_decide_eq_true z))) (nxt ?_)
      try dsimp only
      refine ⟨_, rfl, p, _, _, _, rfl, rfl, SqT.of hp, at_of (j := 1) rfl rfl, (by show 2 ≤ sizeLine; decide), fun q hq => ?_⟩
      refine k _ _ (Rd.Same.upd hq) ⟨q, u, rfl, ?_, iu.same (Rd.Same.upd hq)⟩
      rw [upd_same, prt, if_neg e]
abbrev s_undoing_key : Stmt := top 33
theorem sc_undoing_key : FnScope ["tree"] ["tree"] (defScope s_undoing_key) := ⟨rfl, rfl, rfl, by decide +kernel, rfl, by decide +kernel, by decide +kernel⟩
theorem ok_undoing_key (T : Tx w K mg) : Fk P w K mg base CX0 2 "undoing_key" ["tree"] sp_ukey := by
  refine T.F_undoing_key.ok0 sc_undoing_key (fun _ _ _ _ _ _ us hl => match us, hl with | [_], _ => rfl)
    (fun vs H Q E h => ?_) (fun cdv A outer s H vs Q E hr h => ?_)
  · obtain ⟨v, t, key, rfl, _⟩ := h
    rfl
  · obtain ⟨v, t, key, rfl, it, wf, hk, k⟩ := h
    refine ⟨_, (pss_cons (ps_if (pt_cmpR op_eq (pe_ix ix_tup (pv 0) pe_int (fun _ _ => rfl)) pe_str (nomark _))
  (pss_one (ps_ret (pe_ix ix_tup (pv 0) pe_int (fun _ _ => rfl))))
  pss_nil)
  (pss_one (ps_ret (pe_fk (ok_partner T) (hr.mono (by omega)) rfl pass0 (pa_cons (pe_ix ix_tup (pv 0) pe_int (fun _ _ => rfl)) pa_nil))))), ?_⟩
    rcases ukey_inv wf hk with ⟨c, rfl⟩ | ⟨c, s, k0, rfl, hs, rfl⟩
    · obtain ⟨p, u1, u2, rfl, hp, i1, i2⟩ := it
      refine ⟨_, rfl, p, _, _, _, rfl, rfl, SqT.of hp, at_of (j := 0) rfl rfl, rfl, _, rfl, iteP (by decide +kernel) ?_⟩
      exact ⟨_, rfl, p, _, _, _, rfl, rfl, SqT.of hp, at_of (j := 2) rfl rfl, k _ _ (Same.refl _) i2⟩
    · obtain ⟨p, u1, u2, rfl, hp, i1, i2⟩ := it
      refine ⟨_, rfl, p, _, _, _, rfl, rfl, SqT.of hp, at_of (j := 0) rfl rfl, rfl, _, rfl, iteN (by decide +kernel) (nxt ?_)⟩
      try dsimp only
      exact ⟨_, rfl, p, _, _, _, rfl, rfl, SqT.of hp, at_of (j := 2) rfl rfl, u2, s, k0, rfl, i2, hs, fun u H' s' iu => k _ _ s' iu⟩
abbrev s_is_made : Stmt := top 34
theorem sc_is_made : FnScope ["tree", "opened", "part"] ["tree", "opened"] (defScope s_is_made) := ⟨rfl, rfl, rfl, by decide +kernel, rfl, by decide +kernel, by decide +kernel⟩
theorem im_step (T : Tx w K mg) (d : Nat) (ih : Fk P w K mg base CX0 (d + 1) "is_made" ["tree", "opened"] (spIR d)) : Fk P w K mg base CX0 (d + 2) "is_made" ["tree", "opened"] (sp_isMade d) := by
  refine T.F_is_made.ok0 sc_is_made (fun _ _ _ _ _ _ us hl => match us, hl with | [_, _], _ => rfl)
    (fun vs H Q E h => ?_) (fun cdv A outer s H vs Q E hr h => ?_)
  · obtain ⟨v, t, a, ws, ts, rfl, _⟩ := h
    rfl
  · obtain ⟨v, t, a, ws, ts, rfl, it, wf, dp, d60, ha, hts, ft, k⟩ := h
    refine ⟨_, (pss_cons (ps_if (PW.pt (pw_or (pt_cmpR op_eq (pe_ix ix_tup (pv 0) pe_int (fun _ _ => rfl)) pe_str (nomark _)) (pw_or1 (pt_cmpR (op_inD hr.units65) (pv 0) (pv 1) (by rfl)))))
  (pss_one (ps_ret pe_bl))
  pss_nil)
  (pss_cons (ps_if (pt_cmpR op_notInT (pe_ix ix_tup (pv 0) pe_int (fun _ _ => rfl)) (pe_ktk (K := K) rfl T.U_MAKEABLE) (by rfl))
  (pss_one (ps_ret pe_bl))
  pss_nil)
  (pss_one (ps_ret (pe_callB (cr_all rfl) (by rfl) T.z_all (by decide +kernel) (pa_cons (pe_lc (own := [("part", 2)]) (g := gName 2) (tt := tYes) (by rfl) sc_is_made.nd (pi_tup (pe_slice sl_tup (pv 0) (po_some pe_int) po_none)) (blkOk_by (own := [("part", 2)]) (N := ["tree", "opened", "part"]) (sc := defScope s_is_made) (by decide +kernel)) (fun _ _ _ _ _ => (pg_name (i := 2) sc_is_made.nd rfl (Or.inl rfl))) (fun _ _ _ _ _ => pts_nil) (fun _ _ _ _ _ => (pe_fk ih (hr.mono (by omega)) rfl pass0 (pa_cons (pv 2) (pa_cons (pv 1) pa_nil))))) pa_nil)))))), ?_⟩
    have big : 16777216 ≤ sizeLine := by decide
    obtain ⟨pf, us, rfl, hp⟩ := it.hd
    have fu : t.fine ∧ t.dep ≤ 60 := ⟨wf.fine, by omega⟩
    refine seqIf (tb_or (b := decide (t.head = "word")) (c := decide (t ∈ ts)) (fun Q2 kq => ⟨_, rfl, pf, _, _, _, rfl, rfl, SqT.of hp, at_of (j := 0) rfl rfl, rfl, _, rfl, ?_⟩) (fun H1 s1 _ Q2 kq => ⟨_, rfl, _, rfl, rd_inTs (it.same s1) fu (s1 _ _ ha) (hts.same s1) ft ⟨_, rfl, kq _ (Same.refl _)⟩⟩)) fun H1 s1 => ?_
    · rw [decS]
      exact kq _ (Same.refl _)
    have em := mka_step (ts := ts) wf
    refine ite2 (fun h1 => ?_) (fun h1 => ?_)
    · rw [h1, Bool.true_or] at em
      rw [em] at k
      exact k _ s1
    · have h1 : (decide (t.head = "word") || decide (t ∈ ts)) = false := by simpa using h1
      rw [h1, Bool.false_or] at em
      refine nxt ?_
      try dsimp only
      refine ⟨_, rfl, pf, _, _, _, rfl, rfl, SqT.of (s1 _ _ hp), at_of (j := 0) rfl rfl, _, He.ga K "MAKEABLE", MKL, rfl, rfl, T.U_MAKEABLE.tp _, _, rfl, ?_⟩
      by_cases hm : t.head ∈ MKL
      · rw [decide_eq_true hm, Bool.true_and] at em
        refine iteN (by rw [decide_eq_true hm]; decide) (nxt ?_)
        try dsimp only
        have hpt := mkl_parts wf hm
        obtain ⟨hsg, hws⟩ := wf.sign hpt
        obtain ⟨pf', us', e', hp', hlu, hl2, hne, hus⟩ := it.parts hpt
        cases e'
        rw [hp] at hp'
        cases hp'
        refine ⟨_, rfl, _, rfl, pf, _, rfl, SqT.of (s1 _ _ hp), ?_, fun p2 hp2 => ?_⟩
        · rintro ⟨z, _⟩
          rw [show (1 : Int) = ((1 : Nat) : Int) from rfl, HT.sIx_nat, List.length_cons] at z
          omega
        rw [cut1]
        have s2 := Rd.Same.upd (o := .tup us) hp2
        refine ⟨p2, rfl, ⟨_, SqT.of upd_same⟩, fun D hD => ?_⟩
        refine lct (C := 0) (fun i H v => ∃ r, t.parts[i]? = some r ∧ v = .bl (mka ts r)) (fun i H H' v kp h => h) (SqT.of upd_same) (by omega) hD (fun i x H1 Q1 hx s3 k1 => ?_) fun vs H3 s3 hD3 hlv hvs => ?_
        · obtain ⟨r, hr1, hr2⟩ := hus i x hx
          obtain ⟨w1, w2⟩ := hws r (List.mem_of_getElem? hr1)
          have s01 := (s1.trans s2).trans s3
          cases d with
          | zero => exact absurd dp (by omega)
          | succ d => exact ⟨_, rfl, _, rfl, x, r, a, ws, ts, rfl, hr2.same s01, w1, (by omega), (by omega), s01 _ _ ha, hts.same s01, ft, fun H' s' => k1 _ H' s' ⟨r, hr1, rfl⟩⟩
        have ev := vals_eq (hlv.trans hlu) hvs
        refine ⟨D, t.parts.map (mka ts), rfl, SqL.of (by rw [hD3, ev, List.map_map]; rfl), ?_⟩
        have e3 : (t.parts.map (mka ts)).all id = t.parts.all (mka ts) := by rw [List.all_map]; rfl
        rw [e3, ← em]
        exact k _ ((s1.trans s2).trans s3)
      · rw [decide_eq_false hm, Bool.false_and] at em
        refine iteP (by rw [decide_eq_false hm]; decide) ?_
        rw [em] at k
        exact k _ s1
theorem im_none (T : Tx w K mg) : Fk P w K mg base CX0 1 "is_made" ["tree", "opened"] (spIR 0) := by
  refine T.F_is_made.ok0 sc_is_made (fun _ _ _ _ _ _ us hl => match us, hl with | [_, _], _ => rfl) (fun vs H Q E h => h.elim) (fun cdv A outer s H vs Q E hr h => h.elim)
theorem ok_is_made (T : Tx w K mg) : ∀ d : Nat, Fk P w K mg base CX0 (d + 2) "is_made" ["tree", "opened"] (sp_isMade d)
  | 0 => im_step T 0 (im_none T)
  | d + 1 => im_step T (d + 1) (ok_is_made T d)
end
end Rd
namespace Rd
open PySem L2
theorem nodup_sub {α : Type} : ∀ {l m : List α}, l.Nodup → (∀ x ∈ l, x ∈ m) → l.length ≤ m.length
  | [], _, _, _ => Nat.zero_le _
  | a :: l, m, h, s => by
    obtain ⟨h1, h2⟩ := List.nodup_cons.mp h
    obtain ⟨p, q, rfl⟩ := List.append_of_mem (s a List.mem_cons_self)
    have := nodup_sub (l := l) (m := p ++ q) h2 fun x hx => by
      rcases List.mem_append.mp (s x (List.mem_cons_of_mem _ hx)) with h | h
      · exact List.mem_append_left _ h
      · rcases List.mem_cons.mp h with rfl | h
        · exact absurd hx h1
        · exact List.mem_append_right _ h
    rw [List.length_append] at this ⊢
    simp only [List.length_cons]
    omega
theorem TsAt.unsnoc {H : Hp} {ts : List Tr} {vs : List V} {v : V} (h : TsAt H ts (vs ++ [v])) : ∃ ts' t, ts = ts' ++ [t] ∧ TsAt H ts' vs ∧ IsT H t v := by
  have hl := h.len
  rw [List.length_append] at hl
  rcases List.eq_nil_or_concat ts with rfl | ⟨ts', t, e⟩
  · cases hl
  · rw [List.concat_eq_append] at e
    subst e
    have hl2 : vs.length = ts'.length := by rw [List.length_append] at hl; exact Nat.succ.inj hl
    refine ⟨ts', t, rfl, ⟨hl2, fun i t' v' h1 h2 => h.get i t' v' ?_ ?_⟩, h.get vs.length t v ?_ ?_⟩
    · rw [List.getElem?_append_left (List.getElem?_eq_some_iff.mp h1).1]; exact h1
    · rw [List.getElem?_append_left (List.getElem?_eq_some_iff.mp h2).1]; exact h2
    · rw [hl2, List.getElem?_append_right (Nat.le_refl _), Nat.sub_self]; rfl
    · rw [List.getElem?_append_right (Nat.le_refl _), Nat.sub_self]; rfl
/-- [d[x] for x in d] -/
theorem lcv {d D : Addr} {o : Obj} {kvs : List (Key × V)} {l : List (Str × Tr)} {te : TE} {i0 : Nat} {σ : St} {H1 : Hp} {Qd : Hp → Prop}
    (hd : H1 d = some (.frz o (.dK kvs))) (al : Al IsT H1 l kvs) (nd : (l.map (·.1)).Nodup) (hl : l.length ≤ 100000) (hD : H1 D = none)
    (hw : ∀ p : V, wipe ((wipe σ [i0]).set i0 (some p)) [i0] = wipe σ [i0])
    (hte : ∀ (x : Str) (v : V) (σ2 : St) (H : Hp) (Q : VK), Same H1 H → DGet H d (.str x) (some v) → σ2 = (wipe σ [i0]).set i0 (some (.str x)) → Q v H → te σ2 H Q)
    (hq : ∀ vs H', Same H1 H' → H' D = some (.lst vs) → TsAt H' (l.map (·.2)) vs → Qd H') :
    ∃ W : Nat → Nat → Hp → Prop, (∃ m, W 0 m (L2.upd H1 D (.lst []))) ∧ ∀ i m H, W i m H →
      ((Itk d o kvs).stop i H ∧ Qd H) ∨ ((Itk d o kvs).go i H ∧ ∃ Nx : Hp → Prop, (∀ H', Nx H' → ∃ m', m' < m ∧ W (i + 1) m' H') ∧ ∀ x H', (Itk d o kvs).yld i H x H' → gName i0 x (wipe σ [i0]) H' fun σ2 H2 => wipe σ2 [i0] = wipe σ [i0] ∧ tYes σ2 H2 fun b H3 =>
        if b = true then te σ2 H3 fun y H4 => ∃ acc, H4 D = some (.lst acc) ∧ acc.length < sizeLine ∧ Nx (L2.upd H4 D (.lst (acc ++ [y]))) else Nx H3) := by
  have hlen := al.len
  have big : 200000 ≤ sizeLine := by decide
  refine ⟨fun i m H => m = kvs.length - i ∧ i ≤ kvs.length ∧ ∃ vs, Same H1 H ∧ H D = some (.lst vs) ∧ TsAt H ((l.take i).map (·.2)) vs, ⟨_, rfl, Nat.zero_le _, [], Rd.Same.upd hD, upd_same, ⟨rfl, fun i t v h => by simp at h⟩⟩, ?_⟩
  rintro i m H ⟨rfl, hi, vs, s, hDa, hts⟩
  by_cases hlt : i < kvs.length
  · refine .inr ⟨⟨s _ _ hd, hlt⟩, fun H' => ∃ vs, Same H1 H' ∧ H' D = some (.lst vs) ∧ TsAt H' ((l.take (i + 1)).map (·.2)) vs, fun H' h => ⟨kvs.length - (i + 1), by omega, rfl, hlt, h⟩, ?_⟩
    rintro _ H ⟨rfl, k, v0, hk, rfl⟩
    obtain ⟨x, t, hx, rfl, _⟩ := al.get hk
    obtain ⟨v, ev, r1⟩ := (al.look (x := x)).1 t (look_get nd hx)
    have etk : l.take (i + 1) = l.take i ++ [(x, t)] := by rw [List.take_succ, hx]; rfl
    refine ⟨hw _, ?_⟩
    unfold tYes
    have hvl := hts.len
    rw [List.length_map, List.length_take] at hvl
    refine iteT (hte x v _ _ _ s (.inl ⟨kvs, .inr x, .inr ⟨o, s _ _ hd⟩, rfl, ev.symm⟩) rfl ⟨vs, hDa, by omega, vs ++ [v], fun c o e => ?_, upd_same, ?_⟩)
    · rw [upd_ne (ne_of_none e hD)]
      exact s _ _ e
    · have kp := Kp.upd_lst (C := 0) (ys := vs ++ [v]) hDa
      rw [etk, List.map_append]
      exact ((hts.mono kp).app (TsAt.one ((r1.same s).mono kp)))
  · refine .inl ⟨⟨s _ _ hd, by omega⟩, hq vs H s hDa ?_⟩
    rw [List.take_of_length_le (by omega)] at hts
    exact hts
theorem lookT_mem {l : List (Str × Tr)} {x : Str} {t : Tr} (h : look l x = some t) : (x, t) ∈ l := by
  unfold look at h
  cases e : l.find? (fun p => decide (p.1 = x)) with
  | none => rw [e] at h; cases h
  | some p =>
    rw [e] at h
    have h1 := List.mem_of_find?_eq_some e
    have h2 := List.find?_some e
    have h3 : p.1 = x := of_decide_eq_true h2
    cases h
    rw [← h3]
    exact h1
structure Halves (ts hs : List Tr) : Prop where
  nd : hs.Nodup
  base : ∀ t ∈ ts, t ∈ hs
  pcl : PCl hs
  least : ∀ O' : List Tr, (∀ t ∈ ts, t ∈ O') → PCl O' → ∀ t ∈ hs, t ∈ O'
/-- the state of halves_of: found (l), waiting (wt) -/
structure HI (d : Nat) (ts : List Tr) (l : List (Str × Tr)) (wt : List Tr) : Prop where
  key : ∀ p ∈ l, p.1 = textOf p.2
  wl : ∀ p ∈ l, Wf p.2 ∧ p.2.dep ≤ d
  ww : ∀ t ∈ wt, Wf t ∧ t.dep ≤ d
  nd : (l.map (·.1)).Nodup
  base : ∀ t ∈ ts, t ∈ l.map (·.2) ∨ t ∈ wt
  pcl : ∀ a b, Tr.bi "pair" a b ∈ l.map (·.2) → (a ∈ l.map (·.2) ∨ a ∈ wt) ∧ (b ∈ l.map (·.2) ∨ b ∈ wt)
  least : ∀ O' : List Tr, (∀ t ∈ ts, t ∈ O') → PCl O' → (∀ t ∈ l.map (·.2), t ∈ O') ∧ ∀ t ∈ wt, t ∈ O'
def szs (ts : List Tr) : Nat := (ts.map fun t => t.all.length).sum
theorem szs_app (a b : List Tr) : szs (a ++ b) = szs a + szs b := by simp [szs]
theorem szs_one (t : Tr) : szs [t] = t.all.length := by simp [szs]
theorem allOf_len : ∀ ts : List Tr, (allOf ts).length = szs ts
  | [] => rfl
  | t :: ts => by
    show (t.all ++ allOf ts).length = szs ([t] ++ ts)
    rw [List.length_append, allOf_len ts, szs_app, szs_one]
theorem all_pos (t : Tr) : 1 ≤ t.all.length := by cases t <;> simp [Tr.all]
theorem szs_len : ∀ ts : List Tr, ts.length ≤ szs ts
  | [] => Nat.le_refl _
  | t :: ts => by
    have := szs_len ts
    have := all_pos t
    show ts.length + 1 ≤ szs ([t] ++ ts)
    rw [szs_app, szs_one]
    omega
theorem snd_nodup : ∀ {l : List (Str × Tr)}, (∀ p ∈ l, p.1 = textOf p.2) → (l.map (·.1)).Nodup → (l.map (·.2)).Nodup
  | [], _, _ => List.nodup_nil
  | p :: l, hk, h => by
    obtain ⟨h1, h2⟩ := List.nodup_cons.mp h
    refine List.nodup_cons.mpr ⟨fun hm => ?_, snd_nodup (fun q hq => hk q (List.mem_cons_of_mem _ hq)) h2⟩
    obtain ⟨q, hq, e⟩ := List.mem_map.mp hm
    refine h1 (List.mem_map.mpr ⟨q, hq, ?_⟩)
    show q.1 = p.1
    have e : q.2 = p.2 := e
    rw [hk q (List.mem_cons_of_mem _ hq), hk p List.mem_cons_self, e]
theorem HI.len {d : Nat} {ts wt : List Tr} {l : List (Str × Tr)} (h : HI d ts l wt) : l.length ≤ (allOf ts).length := by
  have := nodup_sub (snd_nodup h.key h.nd) (h.least _ (allOf_base ts) (allOf_pcl ts)).1
  rwa [List.length_map] at this
theorem HI.init {d : Nat} {ts : List Tr} (h : ∀ t ∈ ts, Wf t ∧ t.dep ≤ d) : HI d ts [] ts := ⟨(fun p hp => by cases hp), (fun p hp => by cases hp), h, List.nodup_nil, fun t ht => .inr ht, (fun a b hp => by cases hp), fun O' h1 _ => ⟨fun t ht => (by cases ht), h1⟩⟩
theorem HI.fin {d : Nat} {ts : List Tr} {l : List (Str × Tr)} (h : HI d ts l []) : Halves ts (l.map (·.2)) :=
  ⟨snd_nodup h.key h.nd, fun t ht => (h.base t ht).elim id (fun z => by cases z), fun a b hp => ⟨(h.pcl a b hp).1.elim id (fun z => by cases z), (h.pcl a b hp).2.elim id (fun z => by cases z)⟩, fun O' h1 h2 => (h.least O' h1 h2).1⟩
theorem HI.known {d : Nat} {ts wt : List Tr} {t u : Tr} {l : List (Str × Tr)} (h : HI d ts l (wt ++ [t])) (hl : look l (textOf t) = some u) : HI d ts l wt := by
  have hm := lookT_mem hl
  have hu : u = t := (text_inj (h.ww t (by simp)).1 (h.wl _ hm).1 (h.key _ hm)).symm
  subst hu
  have ht : u ∈ l.map (·.2) := List.mem_map.mpr ⟨_, hm, rfl⟩
  have f : ∀ {v : Tr}, v ∈ l.map (·.2) ∨ v ∈ wt ++ [u] → v ∈ l.map (·.2) ∨ v ∈ wt := fun {v} q => by
    rcases q with q | q
    · exact .inl q
    · rcases List.mem_append.mp q with q | q
      · exact .inr q
      · rw [List.mem_singleton.mp q]; exact .inl ht
  exact ⟨h.key, h.wl, fun t ht => h.ww t (List.mem_append_left _ ht), h.nd, fun t ht => f (h.base t ht), fun a b hp => ⟨f (h.pcl a b hp).1, f (h.pcl a b hp).2⟩, fun O' h1 h2 => ⟨(h.least O' h1 h2).1, fun t ht => (h.least O' h1 h2).2 t (List.mem_append_left _ ht)⟩⟩
theorem HI.new {d : Nat} {ts wt ps : List Tr} {t : Tr} {l : List (Str × Tr)} (h : HI d ts l (wt ++ [t])) (hl : look l (textOf t) = none) (hps : ∀ a b, t = .bi "pair" a b → a ∈ ps ∧ b ∈ ps) (hp : ∀ r ∈ ps, (∃ a b, t = .bi "pair" a b ∧ (r = a ∨ r = b)) ∧ Wf r ∧ r.dep ≤ d) : HI d ts (l ++ [(textOf t, t)]) (wt ++ ps) := by
  have f : ∀ {v : Tr}, v ∈ l.map (·.2) ∨ v ∈ wt ++ [t] → v ∈ (l ++ [(textOf t, t)]).map (·.2) ∨ v ∈ wt ++ ps := fun {v} q => by
    rw [List.map_append]
    rcases q with q | q
    · exact .inl (List.mem_append_left _ q)
    · rcases List.mem_append.mp q with q | q
      · exact .inr (List.mem_append_left _ q)
      · rw [List.mem_singleton.mp q]; exact .inl (List.mem_append_right _ List.mem_cons_self)
  have ht := h.ww t (by simp)
  refine ⟨fun p hp => ?_, fun p hp => ?_, fun r hr => ?_, ?_, fun t ht => f (h.base t ht), fun a b hp => ?_, fun O' h1 h2 => ?_⟩
  · rcases List.mem_append.mp hp with q | q
    · exact h.key p q
    · rw [List.mem_singleton.mp q]
  · rcases List.mem_append.mp hp with q | q
    · exact h.wl p q
    · rw [List.mem_singleton.mp q]; exact ht
  · rcases List.mem_append.mp hr with q | q
    · exact h.ww r (List.mem_append_left _ q)
    · exact (hp r q).2
  · rw [List.map_append]
    refine List.nodup_append.mpr ⟨h.nd, by simp, fun a ha b hb e => ?_⟩
    have hb : b = textOf t := by simpa using hb
    obtain ⟨⟨y, u⟩, hq, ey⟩ := List.mem_map.mp ha
    obtain ⟨i, hi⟩ := List.getElem?_of_mem hq
    have : y = textOf t := by rw [← hb, ← e]; exact ey
    subst this
    rw [look_get h.nd hi] at hl
    cases hl
  · rw [List.map_append] at hp
    rcases List.mem_append.mp hp with q | q
    · exact ⟨f (h.pcl a b q).1, f (h.pcl a b q).2⟩
    · have e : t = .bi "pair" a b := (List.mem_singleton.mp q).symm
      obtain ⟨h1, h2⟩ := hps a b e
      exact ⟨.inr (List.mem_append_right _ h1), .inr (List.mem_append_right _ h2)⟩
  · obtain ⟨h3, h4⟩ := h.least O' h1 h2
    have h5 := h4 t (by simp)
    refine ⟨fun r hr => ?_, fun r hr => ?_⟩
    · rw [List.map_append] at hr
      rcases List.mem_append.mp hr with q | q
      · exact h3 r q
      · rw [List.mem_singleton.mp q]; exact h5
    · rcases List.mem_append.mp hr with q | q
      · exact h4 r (List.mem_append_left _ q)
      · obtain ⟨⟨a, b, rfl, e⟩, _⟩ := hp r q
        obtain ⟨h6, h7⟩ := h2 a b h5
        rcases e with rfl | rfl
        · exact h6
        · exact h7
def sp_halves (d : Nat) : Sp := fun vs H Q _ => ∃ (a : Addr) (ws : List V) (ts : List Tr), vs = [.ref a] ∧ H a = some (.lst ws) ∧ TsAt H ts ws ∧ (∀ t ∈ ts, Wf t ∧ t.dep ≤ d) ∧ d ≤ 12 ∧ (allOf ts).length ≤ 100000 ∧
  ∀ q us hs H', Same H H' → H q = none → H' q = some (.lst us) → TsAt H' hs us → Halves ts hs → Q (.ref q) H'
section
variable {P : Program} {w : World} {K : PySem.W.Frag} {mg : Str → Option Value} {base : Heap}
abbrev s_halves_of : Stmt := top 35
theorem sc_halves_of : FnScope ["trees", "found", "waiting", "tree", "text"] ["trees"] (defScope s_halves_of) := ⟨rfl, rfl, rfl, by decide +kernel, rfl, by decide +kernel, by decide +kernel⟩
theorem ok_halves_of (T : Tx w K mg) (d : Nat) : Fk P w K mg base CX0 (d + 4) "halves_of" ["trees"] (sp_halves d) := by
  refine T.F_halves_of.ok0 sc_halves_of (fun _ _ _ _ _ _ us hl => match us, hl with | [_], _ => rfl)
    (fun vs H Q E h => ?_) (fun cdv A outer s H vs Q E hr h => ?_)
  · obtain ⟨a, ws, ts, rfl, _⟩ := h
    rfl
  · obtain ⟨a, ws, ts, rfl, ha, hts, wf, d12, hbig, k⟩ := h
    refine ⟨_, (pss_cons (ps_set (i := 1) sc_halves_of.nd rfl (Or.inr rfl) pe_dnewK)
  (pss_cons (ps_set (i := 2) sc_halves_of.nd rfl (Or.inl rfl) (pe_callTy call_list_of (by rfl) T.z_list (by decide +kernel) (pa_cons (pv 0) pa_nil)))
  (pss_cons (ps_while PassesOwn.never (pt_truth (pv 2) (by intro _; rfl))
  (pss_cons (ps_set (i := 3) sc_halves_of.nd rfl (Or.inl rfl) (pe_bm0 PySem.F.plainAttrs_list PySem.F.slot_list_pop PySem.F.type_list_pop mt_pop (pv 2)))
  (pss_cons (ps_set (i := 4) sc_halves_of.nd rfl (Or.inl rfl) (pe_fk (ok_tree_text T d) (hr.mono (by omega)) rfl pass0 (pa_cons (pv 3) pa_nil)))
  (pss_one (ps_if (pt_cmp (pc_dnotin (hu_of hr) (pv 4) (pv 1)))
  (pss_cons (ps_dput (hu_of hr) (pv 1) (pv 4) (pv 3) (by rfl))
  (pss_one (ps_if (pt_cmpR op_eq (pe_ix ix_tup (pv 3) pe_int (fun _ _ => rfl)) pe_str (nomark _))
  (pss_one (ps_expr (pe_bm PySem.F.plainAttrs_list PySem.F.slot_list_extend PySem.F.type_list_extend mt_extT (pv 2) (pa_cons (pe_slice sl_tup (pv 3) (po_some pe_int) po_none) pa_nil))))
  pss_nil)))
  pss_nil)))))
  (pss_one (ps_ret (pe_lock (pe_lc (own := [("text", 4)]) (g := gName 4) (tt := tYes) (by rfl) sc_halves_of.nd (pi_keys (pv 1)) (blkOk_by (own := [("text", 4)]) (N := ["trees", "found", "waiting", "tree", "text"]) (sc := defScope s_halves_of) (by decide +kernel)) (fun _ _ _ _ _ => (pg_name (i := 4) sc_halves_of.nd rfl (Or.inl rfl))) (fun _ _ _ _ _ => pts_nil) (fun _ _ _ _ _ => (pe_dget (hu_of hr) (pv 1) (pv 4) (fun _ _ => rfl)))))))))), ?_⟩
    have big : 16777216 ≤ sizeLine := by decide
    refine fun F hF => ?_
    refine gName_k ?_
    try dsimp only
    have sF := Rd.Same.upd (o := .dK []) hF
    have hF1 : upd H F (.dK []) F = some (.dK []) := upd_same
    generalize upd H F (.dK []) = H1 at sF hF1 ⊢
    refine seqAsg ⟨_, rfl, a, ws, rfl, .inl (SqL.of (sF _ _ ha)), fun Wq hW => ?_⟩
    refine gName_k ?_
    try dsimp only
    have sW := Rd.Same.upd (o := .lst ws) hW
    have s2 := sF.trans sW
    have hF2 := sW _ _ hF1
    have hW2 : upd H1 Wq (.lst ws) Wq = some (.lst ws) := upd_same
    generalize upd H1 Wq (.lst ws) = H2 at s2 hF2 hW2 ⊢
    have nFW : F ≠ Wq := fun z => by rw [← z, hF1] at hW; cases hW
    have nWH : H Wq = none := sF.free hW
    have hsz := allOf_len ts
    refine ⟨fun m σ Hc => ∃ (t3 t4 : Option V) (kc : List (Key × V)) (l : List (Str × Tr)) (wv : List V) (wt : List Tr), σ = [some (.ref a), some (.ref F), some (.ref Wq), t3, t4] ∧ (∀ c o, c ≠ F → c ≠ Wq → H2 c = some o → Hc c = some o) ∧ Hc F = some (.dK kc) ∧ Al IsT Hc l kc ∧ Hc Wq = some (.lst wv) ∧ TsAt Hc wt wv ∧ m = szs wt ∧ m ≤ szs ts ∧ HI d ts l wt, ⟨_, _, _, [], [], ws, ts, rfl, fun _ _ _ _ e => e, hF2, trivial, hW2, hts.same s2, rfl, Nat.le_refl _, HI.init wf⟩, ?_⟩
    rintro m σ Hc ⟨t3, t4, kc, l, wv, wt, rfl, fr, hFc, alc, hWc, tsc, hm, hms, hi⟩
    have hll := hi.len
    have hkl := alc.len
    have hwl := tsc.len
    have hws := szs_len wt
    refine ⟨_, rfl, !wv.isEmpty, .inl ⟨_, SqL.of hWc, rfl⟩, ?_⟩
    rcases List.eq_nil_or_concat wv with rfl | ⟨wv', y, e⟩
    · refine iteN (by decide) ?_
      try dsimp only
      have ewt : wt = [] := List.length_eq_zero_iff.mp (by rw [← hwl]; rfl)
      subst ewt
      refine ⟨F, _, hFc, trivial, fun od => ?_⟩
      have kl : Kp 0 Hc (upd Hc F (.frz od (.dK kc))) := fun c o hi e => by
        rw [upd_ne (fun z => by rw [z, hFc] at e; cases e; cases hi)]
        exact e
      refine ⟨_, rfl, F, od, rfl, .inl ⟨kc, upd_same, fun D hD => ?_⟩⟩
      refine lcv upd_same (alc.mono fun t v h => h.mono kl) hi.nd (by omega) hD (fun _ => rfl) (fun x v σ2 H3 Q3 s3 dg e kk => by subst e; exact ⟨_, rfl, _, rfl, F, v, rfl, dg, kk⟩) fun vs H3 s3 hD3 hv3 => ?_
      have hF3 := s3 _ _ (upd_same (H := Hc) (a := F))
      refine ⟨hF3, ?_⟩
      have kx : Kp 0 H3 (upd H3 F (.dK kc)) := fun c o hi e => by
        rw [upd_ne (fun z => by rw [z, hF3] at e; cases e; cases hi)]
        exact e
      have neDF : D ≠ F := fun z => by rw [z, upd_same] at hD; cases hD
      refine k D vs _ _ (fun c o e => ?_) ?_ (by rw [upd_ne neDF]; exact hD3) (hv3.mono kx) hi.fin
      · have ncF := ne_of_none e hF
        rw [upd_ne ncF]
        exact s3 _ _ (by rw [upd_ne ncF]; exact fr c o ncF (ne_of_none e nWH) (s2 _ _ e))
      · cases e : H D with
        | none => rfl
        | some o =>
          have : upd Hc F (.frz od (.dK kc)) D = some o := by rw [upd_ne neDF]; exact fr D o neDF (ne_of_none e nWH) (s2 _ _ e)
          rw [this] at hD
          cases hD
    · rw [List.concat_eq_append] at e
      subst e
      obtain ⟨wt', t, rfl, tsc', it⟩ := tsc.unsnoc
      refine iteP (by simp) ⟨fun σ' H' => ∃ (t3 t4 : Option V) (kc : List (Key × V)) (l : List (Str × Tr)) (wv : List V) (wt : List Tr), σ' = [some (.ref a), some (.ref F), some (.ref Wq), t3, t4] ∧ (∀ c o, c ≠ F → c ≠ Wq → H2 c = some o → H' c = some o) ∧ H' F = some (.dK kc) ∧ Al IsT H' l kc ∧ H' Wq = some (.lst wv) ∧ TsAt H' wt wv ∧ szs wt < m ∧ HI d ts l wt, fun σ' H' ⟨t3, t4, kc, l, wv, wt, e1, e2, e3, e4, e5, e6, e7, e8⟩ => ⟨szs wt, e7, t3, t4, kc, l, wv, wt, e1, e2, e3, e4, e5, e6, rfl, by omega, e8⟩, ?_⟩
      have hm' : m = szs wt' + t.all.length := by rw [hm, szs_app, szs_one]
      have tp := all_pos t
      obtain ⟨wft, dpt⟩ := hi.ww t (by simp)
      refine seqAsg ⟨_, rfl, .inl ⟨rfl, _, SqL.of hWc⟩, Wq, _, y, rfl, rfl, hWc, (by rw [List.length_append]; simp), ?_⟩
      rw [List.dropLast_concat]
      refine gName_k ?_
      try dsimp only
      have kp := Kp.upd_lst (C := 0) (ys := wv') hWc
      have it4 := it.mono kp
      have ts4 := tsc'.mono kp
      have al4 : Al IsT (upd Hc Wq (.lst wv')) l kc := alc.mono fun t v h => h.mono kp
      have hF4 : upd Hc Wq (.lst wv') F = some (.dK kc) := by rw [upd_ne nFW]; exact hFc
      have hW4 : upd Hc Wq (.lst wv') Wq = some (.lst wv') := upd_same
      have fr4 : ∀ c o, c ≠ F → c ≠ Wq → H2 c = some o → upd Hc Wq (.lst wv') c = some o := fun c o h1 h2 e => by rw [upd_ne h2]; exact fr c o h1 h2 e
      generalize upd Hc Wq (.lst wv') = H4 at kp it4 ts4 al4 hF4 hW4 fr4 ⊢
      refine seqAsg ⟨_, rfl, y, t, rfl, it4, wft, dpt, d12, fun H5 s5 => ?_⟩
      refine gName_k ?_
      try dsimp only
      refine ⟨_, rfl, _, rfl, F, _, rfl, DGet.k (k := .inr (textOf t)) (s5 _ _ hF4), _, rfl, ?_⟩
      cases el : look l (textOf t) with
      | some u =>
        obtain ⟨v0, e0, _⟩ := (al4.look (x := textOf t)).1 u el
        rw [e0]
        refine iteN (by simp) ?_
        exact ⟨_, _, kc, l, wv', wt', rfl, fun c o h1 h2 e => s5 _ _ (fr4 c o h1 h2 e), s5 _ _ hF4, al4.mono (fun t v h => h.same s5), s5 _ _ hW4, ts4.same s5, by omega, hi.known el⟩
      | none =>
        have hv0 := (al4.look (x := textOf t)).2 el
        rw [hv0]
        refine iteP (by simp) ?_
        refine ⟨_, rfl, _, rfl, _, rfl, F, _, rfl, DPut.k (k := .inr (textOf t)) (s5 _ _ hF4) (by omega), ?_⟩
        rw [putK_new y hv0]
        have kp6 := Kp.upd_dK (C := 0) (ys := kc ++ [(.inr (textOf t), y)]) (s5 _ _ hF4)
        have al6 : Al IsT (upd H5 F (.dK (kc ++ [(.inr (textOf t), y)]))) (l ++ [(textOf t, t)]) (kc ++ [(.inr (textOf t), y)]) := Al.snoc ((it4.same s5).mono kp6) (al4.mono fun t v h => (h.same s5).mono kp6)
        have it6 := (it4.same s5).mono kp6
        have ts6 := (ts4.same s5).mono kp6
        have hF6 : upd H5 F (.dK (kc ++ [(.inr (textOf t), y)])) F = some (.dK (kc ++ [(.inr (textOf t), y)])) := upd_same
        have hW6 : upd H5 F (.dK (kc ++ [(.inr (textOf t), y)])) Wq = some (.lst wv') := by rw [upd_ne (Ne.symm nFW)]; exact s5 _ _ hW4
        have fr6 : ∀ c o, c ≠ F → c ≠ Wq → H2 c = some o → upd H5 F (.dK (kc ++ [(.inr (textOf t), y)])) c = some o := fun c o h1 h2 e => by rw [upd_ne h1]; exact s5 _ _ (fr4 c o h1 h2 e)
        generalize upd H5 F (.dK (kc ++ [(.inr (textOf t), y)])) = H6 at al6 it6 ts6 hF6 hW6 fr6 ⊢
        try dsimp only
        obtain ⟨pf, us, rfl, hpf⟩ := it6.hd
        refine ⟨_, rfl, pf, _, _, _, rfl, rfl, SqT.of hpf, at_of (j := 0) rfl rfl, rfl, _, rfl, ?_⟩
        rw [decS]
        by_cases hp : t.head = "pair"
        · obtain ⟨ta, tb, rfl, wa, wb, da, db⟩ : ∃ ta tb, t = .bi "pair" ta tb ∧ Wf ta ∧ Wf tb ∧ ta.dep ≤ d ∧ tb.dep ≤ d := by
            rcases wft.shp with ⟨k0, x0, rfl, ko⟩ | ⟨s0, a0, rfl, hs, _⟩ | ⟨s0, a0, b0, rfl, hs, wa, wb⟩
            · rcases ko with ⟨rfl, _⟩ | ⟨rfl, _⟩ | ⟨rfl, _⟩
              · exact absurd (show ("word" : Str) = "pair" from hp) (by decide +kernel)
              · exact absurd (show ("name" : Str) = "pair" from hp) (by decide +kernel)
              · exact absurd (show ("unknown" : Str) = "pair" from hp) (by decide +kernel)
            · have : ∀ z ∈ (["mark", "open", "own"] : List Str), z ≠ "pair" := by decide +kernel
              exact absurd hp (this s0 hs)
            · have hp : s0 = "pair" := hp
              subst hp
              have ed : (Tr.bi "pair" a0 b0).dep = max a0.dep b0.dep + 1 := rfl
              exact ⟨a0, b0, rfl, wa, wb, by omega, by omega⟩
          refine iteP (decide_eq_true hp) ?_
          obtain ⟨pf', u1, u2, e', hpf', i1, i2⟩ := it6
          cases e'
          refine ⟨_, rfl, .inl ⟨rfl, _, SqL.of hW6⟩, _, rfl, _, rfl, pf, _, rfl, SqT.of hpf', ?_, fun p2 hp2 => ?_⟩
          · rintro ⟨z, _⟩
            rw [show (1 : Int) = ((1 : Nat) : Int) from rfl, HT.sIx_nat, List.length_cons] at z
            simp at z
          rw [cut1]
          have sp2 := Rd.Same.upd (o := .tup [u1, u2]) hp2
          have h22 : upd H6 p2 (.tup [u1, u2]) p2 = some (.tup [u1, u2]) := upd_same
          generalize upd H6 p2 (.tup [u1, u2]) = H7 at sp2 h22 ⊢
          have ea : (Tr.bi "pair" ta tb).all.length = ta.all.length + tb.all.length + 1 := by simp [Tr.all]
          refine ⟨Wq, p2, wv', [u1, u2], rfl, rfl, sp2 _ _ hW6, SqT.of h22, ?_, ?_⟩
          · rw [List.length_append, List.length_cons] at hwl
            have e3 := ts6.len
            have := szs_len wt'
            simp only [List.length_cons, List.length_nil]
            omega
          have kp8 := Kp.upd_lst (C := 0) (ys := wv' ++ [u1, u2]) (sp2 _ _ hW6)
          refine ⟨_, _, _, _, _, wt' ++ [ta, tb], rfl, fun c o h1 h2 e => by rw [upd_ne h2]; exact sp2 _ _ (fr6 c o h1 h2 e), by rw [upd_ne nFW]; exact sp2 _ _ hF6, al6.mono (fun t v h => (h.same sp2).mono kp8), upd_same, ?_, ?_, hi.new el (fun a b e => by cases e; simp) fun r hr => ?_⟩
          · exact ((ts6.same sp2).mono kp8).app (TsAt.app (ts := [ta]) (vs := [u1]) (TsAt.one ((i1.same sp2).mono kp8)) (TsAt.one ((i2.same sp2).mono kp8)))
          · rw [szs_app, show [ta, tb] = [ta] ++ [tb] from rfl, szs_app, szs_one, szs_one]
            omega
          · have hr : r = ta ∨ r = tb := by simpa using hr
            rcases hr with rfl | rfl
            · exact ⟨⟨r, tb, rfl, .inl rfl⟩, wa, da⟩
            · exact ⟨⟨ta, r, rfl, .inr rfl⟩, wb, db⟩
        · refine iteN (by rw [decide_eq_false hp]; decide) ?_
          have hn := hi.new (ps := []) el (fun a b e => absurd (by rw [e]; rfl) hp) (fun r hr => by cases hr)
          rw [List.append_nil] at hn
          exact ⟨_, _, _, _, wv', wt', rfl, fr6, hF6, al6, hW6, ts6, by omega, hn⟩
end
end Rd
namespace Rd
open PySem L2
open Ob (RcOp lexAt lexAt_succ lexAt_zero)
/-! ### order of forms -/
structure OrdOp (op : CmpOp) (cs : Str → Str → Bool) (cn : Nat → Nat → Bool) : Prop where
  str : ∀ (A : Around) (s : Shared) (a b : Str) (t u : Tok), RcOp op A s (.str a t) (.str b u) (cs a b)
  tup : ∀ {A : Around} {s : Shared} {l b : Addr} {xs ys : Array Value} {e r : Nat → Bool} (_ : s.heap.IsTuple l xs) (_ : s.heap.IsTuple b ys) (_ : A.units < cLine)
    (_ : ∀ j (h1 : j < xs.size) (h2 : j < ys.size), SeqAt.EqAt A.in1 s xs[j] ys[j] (e j))
    (_ : ∀ j (h1 : j < xs.size) (h2 : j < ys.size), Ahead e j → e j = false → RcOp op A.in1 s xs[j] ys[j] (r j)),
    RcOp op A s (.ref l) (.ref b) (lexAt e r (cn xs.size ys.size) 0 (min xs.size ys.size))
def cLt (a b : Str) : Bool := decide (a.cps.toList < b.cps.toList)
theorem ord_lt : OrdOp .Lt cLt (fun n m => decide (n < m)) := ⟨fun _ _ _ _ _ _ _ _ _ _ h => PyProof.Rows.lt_str h, fun h1 h2 h3 h4 h5 => tup_lt h1 h2 h3 h4 h5⟩
theorem ord_le : OrdOp .LtE (fun a b => !cLt b a) (fun n m => decide (n ≤ m)) := ⟨fun _ _ _ _ _ _ _ _ _ _ h => PySem.P.le_str h, fun h1 h2 h3 h4 h5 => tup_le h1 h2 h3 h4 h5⟩
theorem ord_gt : OrdOp .Gt (fun a b => cLt b a) (fun n m => decide (n > m)) := ⟨fun _ _ _ _ _ _ _ _ _ _ h => PySem.P.gt_str h, fun h1 h2 h3 h4 h5 => tup_gt h1 h2 h3 h4 h5⟩
theorem ord_ge : OrdOp .GtE (fun a b => !cLt a b) (fun n m => decide (n ≥ m)) := ⟨fun _ _ _ _ _ _ _ _ _ _ h => PySem.P.ge_str h, fun h1 h2 h3 h4 h5 => tup_ge h1 h2 h3 h4 h5⟩
def Tr.its : Tr → List PyData
  | .am k x => [.str k, .str x]
  | .un s a => [.str s, dat a]
  | .bi s a b => [.str s, dat a, dat b]
def lexT (cn : Nat → Nat → Bool) (t u : Tr) (r : Nat → Bool) : Bool := lexAt (SeqAt.pairEq t.its u.its) r (cn t.its.length u.its.length) 0 (min t.its.length u.its.length)
def cmpT (cs : Str → Str → Bool) (cn : Nat → Nat → Bool) : Tr → Tr → Bool
  | .am k x, .am k' x' => lexT cn (.am k x) (.am k' x') (fun j => match j with | 0 => cs k k' | _ => cs x x')
  | .un s a, .un s' a' => lexT cn (.un s a) (.un s' a') (fun j => match j with | 0 => cs s s' | _ => cmpT cs cn a a')
  | .bi s a b, .bi s' a' b' => lexT cn (.bi s a b) (.bi s' a' b') (fun j => match j with | 0 => cs s s' | 1 => cmpT cs cn a a' | _ => cmpT cs cn b b')
  | t, u => lexT cn t u (fun _ => cs t.head u.head)
def Tr.sort : Tr → Nat
  | .am _ _ => 0
  | .un _ _ => 1
  | .bi _ _ _ => 2
def sortOf (z : Str) : Nat := if z ∈ (["word", "name", "unknown"] : List Str) then 0 else if z ∈ (["mark", "open", "own"] : List Str) then 1 else 2
theorem Wf.sort {t : Tr} (h : Wf t) : t.sort = sortOf t.head := by
  cases h with
  | am h =>
    rcases h with ⟨rfl, h⟩ | ⟨rfl, h⟩ | ⟨rfl, h⟩
    · show 0 = sortOf "word"; decide +kernel
    · show 0 = sortOf "name"; decide +kernel
    · show 0 = sortOf "unknown"; decide +kernel
  | @un s a hs _ =>
    have : ∀ z ∈ (["mark", "open", "own"] : List Str), 1 = sortOf z := by decide +kernel
    exact this s hs
  | @bi s a b hs _ _ =>
    have : ∀ z ∈ (["pair", "seal"] : List Str), 2 = sortOf z := by decide +kernel
    exact this s hs
  | lk hs _ _ => show 2 = sortOf "lock"; decide +kernel
theorem IsT.all {K : PySem.W.Frag} {H : Hp} {t : Tr} {v : V} (h : IsT H t v) : ∃ p us, v = .ref p ∧ H p = some (.tup (.str t.head :: us)) ∧ DpAll K H (.str t.head :: us) t.its := by
  cases t with
  | am k x => obtain ⟨p, e, h⟩ := h; exact ⟨p, _, e, h, .cons (.str _) (.cons (.str _) .nil)⟩
  | un s a => obtain ⟨p, u, e, h, h1⟩ := h; exact ⟨p, _, e, h, .cons (.str _) (.cons h1.dp .nil)⟩
  | bi s a b => obtain ⟨p, u, u2, e, h, h1, h2⟩ := h; exact ⟨p, _, e, h, .cons (.str _) (.cons h1.dp (.cons h2.dp .nil))⟩
theorem its_lay {t : Tr} (h : t.fine) : PySem.PyData.canLayAll0 t.its = true := by
  have := dat_lay h
  cases t <;> exact this
theorem its_dep {t : Tr} : PySem.PyData.depthAll t.its ≤ t.dep := by
  have := dat_dep (t := t)
  cases t with
  | am k x => show max 0 (max 0 0) ≤ 0; decide
  | un s a => exact Nat.le_of_succ_le_succ this
  | bi s a b => exact Nat.le_of_succ_le_succ this
theorem head0 {t u : Tr} (h : SeqAt.pairEq t.its u.its 0 = true) : t.head = u.head := by
  have e : PyData.eqv (.str t.head) (.str u.head) = true := by
    cases t <;> cases u <;> exact h
  simpa [PyData.eqv] using e
theorem dpAll_len {K : PySem.W.Frag} {H : Hp} : ∀ {vs : List V} {ds : List PyData}, DpAll K H vs ds → vs.length = ds.length
  | [], _, h => by cases h; rfl
  | v :: r, _, h => by
    cases h with
    | cons _ h2 => rw [List.length_cons, List.length_cons, dpAll_len h2]
section
variable {X : Cx} {pins : List (Addr × Obj)} {σ : St} {H : Hp} {s : Shared} {op : CmpOp} {cs : Str → Str → Bool} {cn : Nat → Nat → Bool}
/-- two forms, the first pair of parts that differ being ruled by r -/
theorem rc_pair (O : OrdOp op cs cn) (I : Inv X pins σ H s) {t u : Tr} {v w : V} {A : Around} (ht : IsT H t v) (hu : IsT H u w) (ft : t.fine) (fu : u.fine) (hA : A.units + t.dep + 5 < cLine) {r : Nat → Bool} {a b : Value} (ra : RelV v a) (rb : RelV w b)
    (h0 : r 0 = cs t.head u.head)
    (hr : t.head = u.head → ∀ (us ws : List V) (vs ys : List Value), IsT H t v → IsT H u w → (∃ p q, v = .ref p ∧ w = .ref q ∧ H p = some (.tup (.str t.head :: us)) ∧ H q = some (.tup (.str u.head :: ws))) → Vals us vs → Vals ws ys → ∀ j (h1 : j < vs.length) (h2 : j < ys.length), RcOp op A.in1 s vs[j] ys[j] (r (j + 1))) :
    RcOp op A s a b (lexT cn t u r) := by
  obtain ⟨p, us, rfl, hp, dp⟩ := ht.all (K := X.K)
  obtain ⟨q, ws, rfl, hq, dq⟩ := hu.all (K := X.K)
  cases ra
  cases rb
  obtain ⟨its, r1, p1, _⟩ := I.tuple (SqT.of hp)
  obtain ⟨its2, r2, p2, _⟩ := I.tuple (SqT.of hq)
  obtain ⟨as, q1⟩ := Dp.readsAll I _ _ _ dp r1
  obtain ⟨bs, q2⟩ := Dp.readsAll I _ _ _ dq r2
  have l1 : its.length = t.its.length := r1.length.symm.trans (dpAll_len dp)
  have l2 : its2.length = u.its.length := r2.length.symm.trans (dpAll_len dq)
  have hd := its_dep (t := t)
  have hA1 : A.in1.units = A.units + 1 := rfl
  have R := O.tup (A := A) (s := s) (e := SeqAt.pairEq t.its u.its) (r := r) p1 p2 (by omega) (fun j h1 h2 => by
    have h1' : j < its.length := by simpa using h1
    have h2' : j < its2.length := by simpa using h2
    have := SeqAt.eqAt_readsAll t.its u.its A.in1 s its its2 as bs q1 q2 (its_lay ft) (its_lay fu) (by omega) j h1' h2'
    simpa using this) (fun j h1 h2 ah ne => by
    cases r1 with
    | @cons _ u1 _ vs ra1 rv1 =>
      cases r2 with
      | @cons _ u2 _ ys ra2 rv2 =>
        obtain ⟨k1, rfl⟩ := ra1
        obtain ⟨k2, rfl⟩ := ra2
        cases j with
        | zero =>
          rw [h0]
          exact O.str _ _ _ _ _ _
        | succ j =>
          have h1' : j < vs.length := by simpa using h1
          have h2' : j < ys.length := by simpa using h2
          have := hr (head0 (ah 0 (Nat.succ_pos _))) us ws vs ys ht hu ⟨p, q, rfl, rfl, hp, hq⟩ rv1 rv2 j h1' h2'
          simpa using this)
  have e1 : its.toArray.size = t.its.length := by rw [List.size_toArray]; exact l1
  have e2 : its2.toArray.size = u.its.length := by rw [List.size_toArray]; exact l2
  rw [e1, e2] at R
  exact R
theorem rc_T (O : OrdOp op cs cn) (I : Inv X pins σ H s) : ∀ (t u : Tr) {v w : V} {A : Around} {a b : Value}, IsT H t v → IsT H u w → Wf t → Wf u → A.units + t.dep + 5 < cLine → RelV v a → RelV w b → RcOp op A s a b (cmpT cs cn t u) := by
  intro t
  induction t with
  | am k x =>
    intro u v w A a b ht hu wt wu hA ra rb
    cases u with
    | am k' x' =>
      refine rc_pair O I ht hu wt.fine wu.fine hA ra rb rfl fun he us ws vs ys h1 h2 ⟨p, q, e1, e2, hp, hq⟩ r1 r2 j j1 j2 => ?_
      obtain ⟨p', e1', hp'⟩ := h1
      obtain ⟨q', e2', hq'⟩ := h2
      subst e1 e2
      cases e1'
      cases e2'
      rw [hp] at hp'
      rw [hq] at hq'
      cases hp'
      cases hq'
      cases r1 with
      | cons ra1 rn1 =>
        cases rn1
        cases r2 with
        | cons ra2 rn2 =>
          cases rn2
          obtain ⟨k1, rfl⟩ := ra1
          obtain ⟨k2, rfl⟩ := ra2
          cases j with
          | zero => exact O.str _ _ _ _ _ _
          | succ j => exact absurd j1 (by simp)
    | un s' a' => exact rc_pair O I ht hu wt.fine wu.fine hA ra rb rfl fun he => absurd (wt.sort.trans ((congrArg sortOf he).trans wu.sort.symm)) (by show ¬ 0 = 1; decide)
    | bi s' a' b' => exact rc_pair O I ht hu wt.fine wu.fine hA ra rb rfl fun he => absurd (wt.sort.trans ((congrArg sortOf he).trans wu.sort.symm)) (by show ¬ 0 = 2; decide)
  | un s0 a0 ih =>
    intro u v w A a b ht hu wt wu hA ra rb
    cases u with
    | am k' x' => exact rc_pair O I ht hu wt.fine wu.fine hA ra rb rfl fun he => absurd (wt.sort.trans ((congrArg sortOf he).trans wu.sort.symm)) (by show ¬ 1 = 0; decide)
    | bi s' a' b' => exact rc_pair O I ht hu wt.fine wu.fine hA ra rb rfl fun he => absurd (wt.sort.trans ((congrArg sortOf he).trans wu.sort.symm)) (by show ¬ 1 = 2; decide)
    | un s' a' =>
      refine rc_pair O I ht hu wt.fine wu.fine hA ra rb rfl fun he us ws vs ys h1 h2 ⟨p, q, e1, e2, hp, hq⟩ r1 r2 j j1 j2 => ?_
      obtain ⟨p', u1, e1', hp', i1⟩ := h1
      obtain ⟨q', u2, e2', hq', i2⟩ := h2
      subst e1 e2
      cases e1'
      cases e2'
      rw [hp] at hp'
      rw [hq] at hq'
      cases hp'
      cases hq'
      have d1 : (Tr.un s0 a0).dep = a0.dep + 1 := rfl
      have hA1 : A.in1.units = A.units + 1 := rfl
      cases r1 with
      | cons ra1 rn1 =>
        cases rn1
        cases r2 with
        | cons ra2 rn2 =>
          cases rn2
          cases j with
          | zero => exact ih a' i1 i2 (wt.parts_wf _ List.mem_cons_self) (wu.parts_wf _ List.mem_cons_self) (by omega) ra1 ra2
          | succ j => exact absurd j1 (by simp)
  | bi s0 a0 b0 iha ihb =>
    intro u v w A a b ht hu wt wu hA ra rb
    cases u with
    | am k' x' => exact rc_pair O I ht hu wt.fine wu.fine hA ra rb rfl fun he => absurd (wt.sort.trans ((congrArg sortOf he).trans wu.sort.symm)) (by show ¬ 2 = 0; decide)
    | un s' a' => exact rc_pair O I ht hu wt.fine wu.fine hA ra rb rfl fun he => absurd (wt.sort.trans ((congrArg sortOf he).trans wu.sort.symm)) (by show ¬ 2 = 1; decide)
    | bi s' a' b' =>
      refine rc_pair O I ht hu wt.fine wu.fine hA ra rb rfl fun he us ws vs ys h1 h2 ⟨p, q, e1, e2, hp, hq⟩ r1 r2 j j1 j2 => ?_
      obtain ⟨p', u1, v1, e1', hp', i1, i1'⟩ := h1
      obtain ⟨q', u2, v2, e2', hq', i2, i2'⟩ := h2
      subst e1 e2
      cases e1'
      cases e2'
      rw [hp] at hp'
      rw [hq] at hq'
      cases hp'
      cases hq'
      have d1 : (Tr.bi s0 a0 b0).dep = max a0.dep b0.dep + 1 := rfl
      have hA1 : A.in1.units = A.units + 1 := rfl
      cases r1 with
      | cons ra1 rn1 =>
        cases rn1 with
        | cons ra1' rn1 =>
        cases rn1
        cases r2 with
        | cons ra2 rn2 =>
          cases rn2 with
          | cons ra2' rn2 =>
          cases rn2
          match j, j1 with
          | 0, _ => exact iha a' i1 i2 (wt.parts_wf _ List.mem_cons_self) (wu.parts_wf _ List.mem_cons_self) (by omega) ra1 ra2
          | 1, _ => exact ihb b' i1' i2' (wt.parts_wf _ (List.mem_cons_of_mem _ List.mem_cons_self)) (wu.parts_wf _ (List.mem_cons_of_mem _ List.mem_cons_self)) (by omega) ra1' ra2'
          | j + 2, j1 => exact absurd j1 (by simp)
/-- t op u of two forms -/
def rOrd (cs : Str → Str → Bool) (cn : Nat → Nat → Bool) : R2 := fun x y H Q => ∃ t u, IsT H t x ∧ IsT H u y ∧ Wf t ∧ Wf u ∧ t.dep ≤ 40 ∧ Q (.bl (cmpT cs cn t u)) H
theorem op_ord (O : OrdOp op cs cn) (hu : X.A.units + 64 < cLine) (ho : ∀ (M : Model) (A : Around) (E : Value → Shared → Prop) (s : Shared) (a b : Value) (Q : Value → Shared → Prop), wpAny M A (richCompare op a b) Q E s → wpAny M A (compareOp op a b) Q E s) : OpR X (compareOp op) (rOrd cs cn) := by
  intro pins s σ H x y v u Q I rx ry h
  obtain ⟨t, u', h1, h2, w1, w2, hd, q⟩ := h
  exact ho _ _ _ _ _ _ _ (rc_T O I t u' h1 h2 w1 w2 (by omega) rx ry X.prog X.w X.xe (EP X pins σ Q) ⟨.bl _, H, I, rfl, q⟩)
end
end Rd
namespace Rd
open PySem PySem.Spec PyProof.Rows L2
open Ob (RcOp)
/-! ### sorted(forms): the same forms in some order -/
theorem kat_tail {prog : Program} {w : World} {A : Around} {fin : Bool} {s : Shared} : ∀ (l : List (Value × Value)) (i : Nat), 0 < i → (∀ p ∈ l, ∃ e c, SeqAt.EqAt A s p.1 p.2 e ∧ RcOp .Lt A s p.1 p.2 c) → ∃ b, PySem.W.KatLex prog w A true fin (fun r s' => s' = s ∧ r = b) l i s
  | [], i, _, _ => ⟨fin, PySem.W.kat_nil ⟨rfl, rfl⟩⟩
  | (p, q) :: r, i, hi, h => by
    obtain ⟨e, c, he, hc⟩ := h (p, q) List.mem_cons_self
    cases e with
    | true =>
      obtain ⟨b, hb⟩ := kat_tail (prog := prog) (w := w) (fin := fin) r (i + 1) (Nat.succ_pos _) fun p hp => h p (List.mem_cons_of_mem _ hp)
      exact ⟨b, PySem.W.kat_cons (he prog w _ _ (PySem.W.kat_yes hb))⟩
    | false =>
      refine ⟨c, PySem.W.kat_cons (he prog w _ _ (PySem.W.kat_no ?_))⟩
      have e0 : (true && i == 0) = false := by
        cases i with
        | zero => exact absurd hi (by decide)
        | succ i => rfl
      rw [e0]
      exact PySem.W.kat_one _ _ (hc prog w _ _ ⟨rfl, rfl⟩)
section
variable {X : Cx} {pins : List (Addr × Obj)} {σ : L2.St} {H : Hp} {s : Shared}
theorem form_tot (I : Inv X pins σ H s) {t u : Tr} {v w : V} {a b : Value} {A : Around} (ht : IsT H t v) (hu : IsT H u w) (wt : Wf t) (wu : Wf u) (hA : A.units + t.dep + 6 < cLine) (ra : RelV v a) (rb : RelV w b) :
    ∃ c : Bool, wpAny (model X.prog X.w) A (keyLt' (tuples' true) a b) (fun r s' => s' = s ∧ r = c) (fun _ _ => False) s := by
  obtain ⟨p, us, rfl, hp, dp⟩ := ht.all (K := X.K)
  obtain ⟨q, ws, rfl, hq, dq⟩ := hu.all (K := X.K)
  cases ra
  cases rb
  obtain ⟨its, r1, ⟨o1, e1, _, n1, d1⟩, _⟩ := I.tuple (SqT.of hp)
  obtain ⟨its2, r2, ⟨o2, e2, _, n2, d2⟩, _⟩ := I.tuple (SqT.of hq)
  obtain ⟨as, q1⟩ := Dp.readsAll I _ _ _ dp r1
  obtain ⟨bs, q2⟩ := Dp.readsAll I _ _ _ dq r2
  have hd := its_dep (t := t)
  have hE : ∀ j (h1 : j < its.length) (h2 : j < its2.length), SeqAt.EqAt A s its[j] its2[j] (SeqAt.pairEq t.its u.its j) := fun j h1 h2 => SeqAt.eqAt_readsAll t.its u.its A s its its2 as bs q1 q2 (its_lay wt.fine) (its_lay wu.fine) (by omega) j h1 h2
  cases r1 with
  | @cons _ u1 _ vs ra1 rv1 =>
    cases r2 with
    | @cons _ u2 _ ys ra2 rv2 =>
      obtain ⟨k1, rfl⟩ := ra1
      obtain ⟨k2, rfl⟩ := ra2
      have hE0 := hE 0 (Nat.succ_pos _) (Nat.succ_pos _)
      have hEs : ∀ j (h1 : j < vs.length) (h2 : j < ys.length), ∃ e, SeqAt.EqAt A s vs[j] ys[j] e := fun j h1 h2 => ⟨_, by simpa using hE (j + 1) (Nat.succ_lt_succ h1) (Nat.succ_lt_succ h2)⟩
      suffices hs : ∃ c : Bool, PySem.W.KatLex X.prog X.w A true (decide ((Value.str t.head k1 :: vs).toArray.size < (Value.str u.head k2 :: ys).toArray.size)) (fun r s' => s' = s ∧ r = c) ((Value.str t.head k1, Value.str u.head k2) :: vs.zip ys) 0 s by
        obtain ⟨c, hc⟩ := hs
        exact ⟨c, PySem.W.kat_lt e1 d1 e2 d2 hc⟩
      cases h0 : SeqAt.pairEq t.its u.its 0 with
      | false =>
        rw [h0] at hE0
        exact ⟨_, PySem.W.kat_cons (hE0 X.prog X.w _ _ (PySem.W.kat_no (PyProof.Rows.oneLt_any_str ⟨rfl, rfl⟩)))⟩
      | true =>
        rw [h0] at hE0
        have hh := head0 h0
        have key : ∀ pr ∈ vs.zip ys, ∃ e c, SeqAt.EqAt A s pr.1 pr.2 e ∧ RcOp .Lt A s pr.1 pr.2 c := by
          have hsh : t.sort = u.sort := wt.sort.trans ((congrArg sortOf hh).trans wu.sort.symm)
          cases t with
          | am k x =>
            cases u with
            | am k' x' =>
              obtain ⟨p', e', hp'⟩ := ht
              cases e'
              rw [hp] at hp'
              cases hp'
              obtain ⟨q', e', hq'⟩ := hu
              cases e'
              rw [hq] at hq'
              cases hq'
              cases rv1 with
              | cons a1 rn1 =>
                cases rn1
                cases rv2 with
                | cons a2 rn2 =>
                  cases rn2
                  obtain ⟨k3, rfl⟩ := a1
                  obtain ⟨k4, rfl⟩ := a2
                  intro pr hpr
                  rw [List.mem_singleton.mp hpr]
                  obtain ⟨e, he⟩ := hEs 0 (Nat.succ_pos _) (Nat.succ_pos _)
                  exact ⟨e, _, he, ord_lt.str A s x x' k3 k4⟩
            | _ => cases hsh
          | un s0 a0 =>
            cases u with
            | un s1 a1 =>
              obtain ⟨p', w1, e', hp', i1⟩ := ht
              cases e'
              rw [hp] at hp'
              cases hp'
              obtain ⟨q', w2, e', hq', i2⟩ := hu
              cases e'
              rw [hq] at hq'
              cases hq'
              cases rv1 with
              | cons b1 rn1 =>
                cases rn1
                cases rv2 with
                | cons b2 rn2 =>
                  cases rn2
                  intro pr hpr
                  rw [List.mem_singleton.mp hpr]
                  obtain ⟨e, he⟩ := hEs 0 (Nat.succ_pos _) (Nat.succ_pos _)
                  have d3 : (Tr.un s0 a0).dep = a0.dep + 1 := rfl
                  exact ⟨e, _, he, rc_T ord_lt I a0 a1 i1 i2 (wt.parts_wf _ List.mem_cons_self) (wu.parts_wf _ List.mem_cons_self) (by omega) b1 b2⟩
            | _ => cases hsh
          | bi s0 a0 b0 =>
            cases u with
            | bi s1 a1 c1 =>
              obtain ⟨p', w1, w2, e', hp', i1, i1'⟩ := ht
              cases e'
              rw [hp] at hp'
              cases hp'
              obtain ⟨q', w3, w4, e', hq', i2, i2'⟩ := hu
              cases e'
              rw [hq] at hq'
              cases hq'
              cases rv1 with
              | cons b1 rn1 =>
                cases rn1 with
                | cons b1' rn1 =>
                cases rn1
                cases rv2 with
                | cons b2 rn2 =>
                  cases rn2 with
                  | cons b2' rn2 =>
                  cases rn2
                  have d3 : (Tr.bi s0 a0 b0).dep = max a0.dep b0.dep + 1 := rfl
                  intro pr hpr
                  rcases List.mem_cons.mp hpr with rfl | hpr
                  · obtain ⟨e, he⟩ := hEs 0 (Nat.succ_pos _) (Nat.succ_pos _)
                    exact ⟨e, _, he, rc_T ord_lt I a0 a1 i1 i2 (wt.parts_wf _ List.mem_cons_self) (wu.parts_wf _ List.mem_cons_self) (by omega) b1 b2⟩
                  · rw [List.mem_singleton.mp hpr]
                    obtain ⟨e, he⟩ := hEs 1 (by simp) (by simp)
                    exact ⟨e, _, he, rc_T ord_lt I b0 c1 i1' i2' (wt.parts_wf _ (List.mem_cons_of_mem _ List.mem_cons_self)) (wu.parts_wf _ (List.mem_cons_of_mem _ List.mem_cons_self)) (by omega) b1' b2'⟩
            | _ => cases hsh
        obtain ⟨c, hc⟩ := kat_tail (prog := X.prog) (w := X.w) (fin := decide ((Value.str t.head k1 :: vs).toArray.size < (Value.str u.head k2 :: ys).toArray.size)) (vs.zip ys) 1 Nat.one_pos key
        exact ⟨c, PySem.W.kat_cons (hE0 X.prog X.w _ _ (PySem.W.kat_yes hc))⟩
/-- the first items of forms -/
theorem form_firsts (I : Inv X pins σ H s) : ∀ {ts : List Tr} {ws : List V} {us : List Value}, TsAt H ts ws → Vals ws us → ∃ fs : List Value, PySem.W.KatTups s.heap us fs ∧ fs.length = us.length ∧ ∀ f ∈ fs, ∃ x t, f = Value.str x t
  | _, [], _, _, .nil => ⟨[], PySem.W.KatTups.nil, rfl, fun _ h => by cases h⟩
  | ts, v :: ws, u :: us, h, .cons r rr => by
    obtain ⟨t, ts', rfl⟩ : ∃ t ts', ts = t :: ts' := by
      cases ts with
      | nil => exact absurd h.len (by simp)
      | cons t ts' => exact ⟨t, ts', rfl⟩
    obtain ⟨fs, h1, h2, h3⟩ := form_firsts I (ts := ts') (ws := ws) (us := us) ⟨by simpa using h.len, fun i t v a b => h.get (i + 1) t v a b⟩ rr
    obtain ⟨p, zs, rfl, hp⟩ := (h.get 0 t v rfl rfl).hd
    cases r
    obtain ⟨its, r1, ⟨o1, e1, c1, n1, d1⟩, _⟩ := I.tuple (SqT.of hp)
    cases r1 with
    | cons ra1 rv1 =>
      obtain ⟨k1, rfl⟩ := ra1
      refine ⟨_, PySem.W.KatTups.cons e1 c1 d1 rfl h1, by rw [List.length_cons, List.length_cons, h2], fun f hf => ?_⟩
      rcases List.mem_cons.mp hf with rfl | hf
      · exact ⟨_, _, rfl⟩
      · exact h3 f hf
def rSortedF (K : PySem.W.Frag) : List V → Hp → VK → Prop := fun vs H Q => ∃ (a : Addr) (ws : List V) (ts : List Tr), vs = [V.ref a] ∧ SqL K H a ws ∧ TsAt H ts ws ∧ (∀ t ∈ ts, Wf t ∧ t.dep ≤ 40) ∧ ∀ ys p, ys.Perm ws → H p = none → Q (.ref p) (L2.upd H p (.lst ys))
theorem cr_sortedF (hu : X.A.units + 65 < cLine) : CallR X (.builtin "sorted") (rSortedF X.K) := by
  intro pins s σ H vs us Q I r h
  obtain ⟨a, xs, ts, rfl, hs, hts, wf, q⟩ := h
  obtain ⟨its, rv, hl, hz⟩ := I.list hs
  obtain ⟨u, rfl, ru⟩ := vals1 r
  obtain rfl : u = Value.ref a := ru
  obtain ⟨e1, e2⟩ := refs_back rv fun x m => by
    obtain ⟨t, _, it⟩ := hts.mem m
    obtain ⟨p, e⟩ := it.ref
    exact ⟨p, e⟩
  refine Srt.sorted_any hl.isList (by rw [← rv.length]; exact hz) (fun h2 h₁ a' ha' k => ?_) fun out ho => ?_
  · intro h' keep
    have I' : Inv X pins σ H { s with heap := h' } := I.kept (t' := s.toks) fun b o e => keep b o (k b o e).1 (k b o e).2
    obtain ⟨fs, f1, f2, f3⟩ := form_firsts I' hts rv
    refine ⟨tuples' true, fun Q E hq => ?_, fun p q hp hq => ?_⟩
    · refine PySem.W.kat_kind (T := .type "str") f1 (by omega) (fun f hm => ?_) (by rfl) ?_
      · obtain ⟨x, t, rfl⟩ := f3 f hm
        exact PySem.W.Looks.now
      · have e : (Value.type "str" != Value.type "tuple") = true := by first | decide +kernel | rfl | decide
        rw [e]
        exact hq
    · have at_ : ∀ z ∈ its, ∃ t v, IsT H t v ∧ Wf t ∧ t.dep ≤ 40 ∧ RelV v z := fun z hz => by
        obtain ⟨y, rfl⟩ := e2 z hz
        have hm : V.ref y ∈ xs := by rw [e1]; exact List.mem_map.mpr ⟨_, hz, rfl⟩
        obtain ⟨t, ht, it⟩ := hts.mem hm
        exact ⟨t, _, it, (wf t ht).1, (wf t ht).2, rfl⟩
      obtain ⟨t1, v1, i1, w1, d1, r1⟩ := at_ _ hp
      obtain ⟨t2, v2, i2, w2, d2, r2⟩ := at_ _ hq
      have hA : X.A.in1.in1.units = X.A.units + 2 := rfl
      exact form_tot I' i1 i2 w1 w2 (by omega) r1 r2
  · have h3 : ∀ u ∈ out, ∃ a, u = Value.ref a := fun u hu => e2 u (ho.mem_iff.mp hu)
    obtain ⟨n, hn⟩ := PyProof.Rows.sortedAll_at s.heap its out.toArray
    refine ⟨.ref (s.heap.objs.size + 1), L2.upd H (s.heap.objs.size + 1) (.lst (out.map backV)), I.laid (t' := s.toks) (fun b o e => PyProof.Rows.sortedAll_old e) (Nat.le_succ _) ⟨?_, out, n, vals_back h3, hn⟩, rfl, q _ _ ?_ (I.hok.fresh (Nat.le_succ _))⟩
    · rw [List.length_map, ho.length_eq, ← rv.length]; exact hz
    · rw [e1]; exact ho.map backV
end
end Rd
namespace Rd
open PySem L2
/-- [g(x) for x in a list of forms if p(x)], the test may lay new things -/
theorem lcft {K : PySem.W.Frag} {a D : Addr} {xs : List V} {ts : List Tr} {tt : TT} {te : TE} {i0 : Nat} {σ : St} {H1 : Hp} {Qd : Hp → Prop} (p : Tr → Bool) (g : Tr → Tr) (hS : SqL K H1 a xs) (hts : TsAt H1 ts xs) (hl : xs.length ≤ 100000) (hD : H1 D = none)
    (htt : ∀ (i : Nat) (x : V) (t : Tr) (H : Hp) (Q : Bool → Hp → Prop), xs[i]? = some x → ts[i]? = some t → Same H1 H → (∀ H', Same H H' → Q (p t) H') → tt ((wipe σ [i0]).set i0 (some x)) H Q)
    (hte : ∀ (i : Nat) (x : V) (t : Tr) (H : Hp) (Q : VK), xs[i]? = some x → ts[i]? = some t → p t = true → Same H1 H → (∀ v H', Same H H' → IsT H' (g t) v → Q v H') → te ((wipe σ [i0]).set i0 (some x)) H Q)
    (hq : ∀ vs H', Same H1 H' → H' D = some (.lst vs) → TsAt H' ((ts.filter p).map g) vs → Qd H') :
    ∃ W : Nat → Nat → Hp → Prop, (∃ m, W 0 m (L2.upd H1 D (.lst []))) ∧ ∀ i m H, W i m H →
      ((Itl K a).stop i H ∧ Qd H) ∨ ((Itl K a).go i H ∧ ∃ Nx : Hp → Prop, (∀ H', Nx H' → ∃ m', m' < m ∧ W (i + 1) m' H') ∧ ∀ x H', (Itl K a).yld i H x H' → gName i0 x (wipe σ [i0]) H' fun σ2 H2 => wipe σ2 [i0] = wipe σ [i0] ∧ tt σ2 H2 fun b H3 =>
        if b = true then te σ2 H3 fun y H4 => ∃ acc, H4 D = some (.lst acc) ∧ acc.length < sizeLine ∧ Nx (L2.upd H4 D (.lst (acc ++ [y]))) else Nx H3) := by
  have he := hts.len
  refine lc_list (K := K) (a := a) (xs := xs) (fun i H => ∃ vs, Same H1 H ∧ H D = some (.lst vs) ∧ TsAt H (((ts.take i).filter p).map g) vs) ⟨[], Rd.Same.upd hD, upd_same, ⟨rfl, fun i t v h => by simp at h⟩⟩ (fun i H _ ⟨_, s, _⟩ => SqL.kept hS s) ?_ ?_
  · rintro i x H hx ⟨vs, sm, hd, hv⟩
    have hlt := (List.getElem?_eq_some_iff.mp hx).1
    have ht : ts[i]? = some ts[i] := List.getElem?_eq_getElem (by omega)
    have etk : ts.take (i + 1) = ts.take i ++ [ts[i]] := by rw [List.take_succ, ht]; rfl
    refine gName_k ⟨by simp [wipe], ?_⟩
    refine htt i x _ H _ hx ht sm fun H2 s2 => ?_
    cases hp : p ts[i] with
    | false =>
      refine iteF ⟨vs, sm.trans s2, s2 _ _ hd, ?_⟩
      rw [etk, List.filter_append, show [ts[i]].filter p = [] by simp [hp], List.append_nil]
      exact hv.same s2
    | true =>
      refine iteT (hte i x _ H2 _ hx ht hp (sm.trans s2) fun v H3 s3 iv => ?_)
      have hD3 := s3 _ _ (s2 _ _ hd)
      have kp := Kp.upd_lst (C := 0) (ys := vs ++ [v]) hD3
      have h2 := hv.len
      have h3 := List.length_filter_le p (ts.take i)
      rw [List.length_map] at h2
      rw [List.length_take] at h3
      have : 100000 < sizeLine := by decide
      refine ⟨vs, hD3, by omega, vs ++ [v], fun b o e => ?_, upd_same, ?_⟩
      · rw [upd_ne (ne_of_none e hD)]
        exact s3 _ _ (s2 _ _ (sm _ _ e))
      · rw [etk, List.filter_append, show [ts[i]].filter p = [ts[i]] by simp [hp], List.map_append]
        exact (((hv.same s2).same s3).mono kp).app (TsAt.one (iv.mono kp))
  · rintro H ⟨vs, sm, hd, hv⟩
    rw [he, List.take_length] at hv
    exact hq vs H sm hd hv
theorem TsAt.cons_inv {H : Hp} {ts : List Tr} {v : V} {vs : List V} (h : TsAt H ts (v :: vs)) : ∃ t ts', ts = t :: ts' ∧ IsT H t v ∧ TsAt H ts' vs := by
  cases ts with
  | nil => exact absurd h.len (by simp)
  | cons t ts' => exact ⟨t, ts', rfl, h.get 0 t v rfl rfl, ⟨by simpa using h.len, fun i t v a b => h.get (i + 1) t v a b⟩⟩
theorem TsAt.cons {H : Hp} {ts : List Tr} {t : Tr} {v : V} {vs : List V} (h : IsT H t v) (g : TsAt H ts vs) : TsAt H (t :: ts) (v :: vs) := TsAt.app (ts := [t]) (vs := [v]) (TsAt.one h) g
theorem TsAt.perm {H : Hp} {ws ys : List V} (hp : ys.Perm ws) : ∀ {ts : List Tr}, TsAt H ts ws → ∃ ts', ts'.Perm ts ∧ TsAt H ts' ys := by
  induction hp with
  | nil => intro ts h; exact ⟨ts, .refl _, h⟩
  | cons x _ ih =>
    intro ts h
    obtain ⟨t, ts1, rfl, i, h1⟩ := h.cons_inv
    obtain ⟨ts2, p2, h2⟩ := ih h1
    exact ⟨t :: ts2, p2.cons t, TsAt.cons i h2⟩
  | swap x y l =>
    intro ts h
    obtain ⟨t, ts1, rfl, i, h1⟩ := h.cons_inv
    obtain ⟨u, ts2, rfl, j, h2⟩ := h1.cons_inv
    exact ⟨u :: t :: ts2, .swap t u ts2, TsAt.cons j (TsAt.cons i h2)⟩
  | trans _ _ ih1 ih2 =>
    intro ts h
    obtain ⟨ts1, p1, h1⟩ := ih2 h
    obtain ⟨ts2, p2, h2⟩ := ih1 h1
    exact ⟨ts2, p2.trans p1, h2⟩
def opn (O : List Tr) (t : Tr) : Bool := match ukey t with
  | some key => mka O key
  | none => false
def cnt1 : Tr → Tr
  | .bi _ c _ => c
  | t => t
def inn (O : List Tr) : List Tr := (O.filter (opn O)).map cnt1
structure OI (ts o : List Tr) : Prop where
  nd : o.Nodup
  base : ∀ t ∈ ts, t ∈ o
  pcl : PCl o
  least : ∀ O' : List Tr, (∀ t ∈ ts, t ∈ O') → PCl O' → SCl O' O' → ∀ t ∈ o, t ∈ O'
theorem OI.inAll {ts os : List Tr} (h : OI ts os) : ∀ t ∈ os, t ∈ allOf ts := h.least _ (allOf_base ts) (allOf_pcl ts) (allOf_scl ts)
theorem OI.len {ts os : List Tr} (h : OI ts os) : os.length ≤ (allOf ts).length := nodup_sub h.nd h.inAll
theorem OI.first {ts o : List Tr} (h : Halves ts o) : OI ts o := ⟨h.nd, h.base, h.pcl, fun O' a b _ => h.least O' a b⟩
theorem inn_sub {O O' : List Tr} (h : ∀ t ∈ O, t ∈ O') (sc : SCl O' O') : ∀ t ∈ inn O, t ∈ O' := fun t ht => by
  obtain ⟨r, hr, rfl⟩ := List.mem_map.mp ht
  obtain ⟨hr1, hr2⟩ := List.mem_filter.mp hr
  unfold opn at hr2
  cases e : ukey r with
  | none => rw [e] at hr2; cases hr2
  | some key =>
    rw [e] at hr2
    cases r with
    | am k x => cases e
    | un s a => cases e
    | bi s c k => exact sc s c k key (h _ hr1) e (mka_mono h hr2)
theorem OI.next {ts o o' : List Tr} (h : OI ts o) (g : Halves (o ++ inn o) o') : OI ts o' ∧ ∀ t ∈ o, t ∈ o' :=
  ⟨⟨g.nd, fun t ht => g.base t (List.mem_append_left _ (h.base t ht)), g.pcl, fun O' a b c => g.least O' (fun t ht => by
    rcases List.mem_append.mp ht with q | q
    · exact h.least O' a b c t q
    · exact inn_sub (h.least O' a b c) c t q) b⟩, fun t ht => g.base t (List.mem_append_left _ ht)⟩
theorem nodup_full {α : Type} [DecidableEq α] : ∀ {l m : List α}, l.Nodup → (∀ x ∈ l, x ∈ m) → m.length ≤ l.length → ∀ x ∈ m, x ∈ l
  | [], m, _, _, h3, x, hx => by
    rw [List.length_eq_zero_iff.mp (Nat.le_zero.mp h3)] at hx
    exact hx
  | a :: l, m, h1, h2, h3, x, hx => by
    obtain ⟨n1, n2⟩ := List.nodup_cons.mp h1
    obtain ⟨p, q, rfl⟩ := List.append_of_mem (h2 a List.mem_cons_self)
    by_cases e : x = a
    · rw [e]; exact List.mem_cons_self
    · refine List.mem_cons_of_mem _ (nodup_full (l := l) (m := p ++ q) n2 (fun y hy => ?_) ?_ x ?_)
      · rcases List.mem_append.mp (h2 y (List.mem_cons_of_mem _ hy)) with z | z
        · exact List.mem_append_left _ z
        · rcases List.mem_cons.mp z with rfl | z
          · exact absurd hy n1
          · exact List.mem_append_right _ z
      · rw [List.length_append, List.length_cons] at h3
        rw [List.length_append]
        simp only [List.length_cons] at h3
        omega
      · rcases List.mem_append.mp hx with z | z
        · exact List.mem_append_left _ z
        · rcases List.mem_cons.mp z with rfl | z
          · exact absurd rfl e
          · exact List.mem_append_right _ z
theorem OI.done {ts o o' : List Tr} (h : OI ts o) (g : Halves (o ++ inn o) o') (e : o'.length ≤ o.length) : IsOpen ts o' := by
  obtain ⟨h1, h2⟩ := h.next g
  have h3 := nodup_full h.nd h2 e
  refine ⟨h1.base, h1.pcl, fun s c k key a b c' => ?_, h1.least⟩
  have a' := h3 _ a
  have m' : mka o key = true := by rw [mka_congr (fun t => ⟨h2 t, h3 t⟩)]; exact c'
  refine g.base _ (List.mem_append_right _ (List.mem_map.mpr ⟨_, List.mem_filter.mpr ⟨a', ?_⟩, rfl⟩))
  unfold opn
  rw [b]
  exact m'
theorem szs_le {S : Nat} : ∀ {l : List Tr}, (∀ t ∈ l, t.all.length ≤ S) → szs l ≤ l.length * S
  | [], _ => Nat.zero_le _
  | t :: l, h => by
    have h1 := szs_le (l := l) fun t ht => h t (List.mem_cons_of_mem _ ht)
    have h2 := h t List.mem_cons_self
    show szs ([t] ++ l) ≤ (l.length + 1) * S
    rw [szs_app, szs_one, Nat.add_mul, Nat.one_mul]
    omega
theorem all_le : ∀ {t u : Tr}, u ∈ t.all → u.all.length ≤ t.all.length := by
  intro t
  induction t with
  | am k x =>
    intro u hu
    rw [show (Tr.am k x).all = [.am k x] from rfl, List.mem_singleton] at hu
    rw [hu]
    exact Nat.le_refl _
  | un s a ih =>
    intro u hu
    have e : (Tr.un s a).all = .un s a :: a.all := rfl
    rw [e] at hu
    rcases List.mem_cons.mp hu with rfl | hu
    · exact Nat.le_refl _
    · have := ih hu
      rw [e, List.length_cons]
      omega
  | bi s a b iha ihb =>
    intro u hu
    have e : (Tr.bi s a b).all = .bi s a b :: (a.all ++ b.all) := rfl
    rw [e] at hu
    rcases List.mem_cons.mp hu with rfl | hu
    · exact Nat.le_refl _
    · rw [e, List.length_cons, List.length_append]
      rcases List.mem_append.mp hu with z | z
      · have := iha z; omega
      · have := ihb z; omega
theorem inAll_ok {ts : List Tr} {d S : Nat} (h : ∀ t ∈ ts, Wf t ∧ t.dep ≤ d ∧ t.all.length ≤ S) {u : Tr} (hu : u ∈ allOf ts) : Wf u ∧ u.dep ≤ d ∧ u.all.length ≤ S := by
  obtain ⟨t, ht, h1⟩ := List.mem_flatMap.mp hu
  obtain ⟨a, b, c⟩ := h t ht
  obtain ⟨a1, a2⟩ := all_wf a u h1
  exact ⟨a1, by omega, Nat.le_trans (all_le h1) c⟩
theorem shut_iff {t : Tr} (wf : Wf t) : decide (t.head ∈ (["seal", "lock"] : List Str)) = (ukey t).isSome := by
  rcases wf.shp with ⟨k, x, rfl, ko⟩ | ⟨s, a, rfl, hs, _⟩ | ⟨s, a, b, rfl, hs, _⟩
  · rcases ko with ⟨rfl, _⟩ | ⟨rfl, _⟩ | ⟨rfl, _⟩
    · show decide (("word" : Str) ∈ (["seal", "lock"] : List Str)) = false
      decide +kernel
    · show decide (("name" : Str) ∈ (["seal", "lock"] : List Str)) = false
      decide +kernel
    · show decide (("unknown" : Str) ∈ (["seal", "lock"] : List Str)) = false
      decide +kernel
  · have : ∀ z ∈ (["mark", "open", "own"] : List Str), decide (z ∈ (["seal", "lock"] : List Str)) = false := by decide +kernel
    exact this s hs
  · cases wf with
    | bi hs' _ _ =>
      have : ∀ z ∈ (["pair", "seal"] : List Str), decide (z ∈ (["seal", "lock"] : List Str)) = decide (z = "seal") ∧ z ≠ "lock" := by decide +kernel
      obtain ⟨h1, h2⟩ := this s hs'
      show decide (s ∈ (["seal", "lock"] : List Str)) = _
      rw [h1]
      show _ = (if s = "seal" then some b else if s = "lock" then lkey b else none).isSome
      by_cases e : s = "seal"
      · rw [if_pos e, decide_eq_true e]; rfl
      · rw [if_neg e, if_neg h2, decide_eq_false e]; rfl
    | lk hs' _ _ =>
      show decide (("lock" : Str) ∈ (["seal", "lock"] : List Str)) = true
      decide +kernel
theorem ukey_wf {t key : Tr} (wf : Wf t) (h : ukey t = some key) : Wf key ∧ key.dep ≤ t.dep := by
  rcases ukey_inv wf h with ⟨c, rfl⟩ | ⟨c, s, k, rfl, hs, rfl⟩
  · rcases wf.shp with ⟨_, _, e, _⟩ | ⟨_, _, e, _⟩ | ⟨_, _, _, e, _, _, w⟩
    · cases e
    · cases e
    · cases e
      exact ⟨w, by show key.dep ≤ max c.dep key.dep + 1; omega⟩
  · have hp : prt s ∈ (["open", "own"] : List Str) := by
      have : ∀ z ∈ (["open", "own"] : List Str), prt z ∈ (["open", "own"] : List Str) := by decide +kernel
      exact this s hs
    cases wf with
    | bi hs' _ _ => exact absurd hs' (by decide +kernel)
    | lk hs' _ w => exact ⟨.un (mem_to (by decide +kernel) hp) w, by show k.dep + 1 ≤ max c.dep (k.dep + 1) + 1; omega⟩
def sp_opened (d : Nat) : Sp := fun vs H Q _ => ∃ (a : Addr) (ws : List V) (ts : List Tr) (S : Nat), vs = [.ref a] ∧ H a = some (.lst ws) ∧ TsAt H ts ws ∧ (∀ t ∈ ts, Wf t ∧ t.dep ≤ d ∧ t.all.length ≤ S) ∧ d ≤ 12 ∧ 2 * ((allOf ts).length * S) ≤ 100000 ∧ (allOf ts).length ≤ 50000 ∧
  ∀ q us os H', Same H H' → H q = none → H' q = some (.lst us) → TsAt H' os us → IsOpen ts os → os.Nodup → Q (.ref q) H'
section
variable {P : Program} {w : World} {K : PySem.W.Frag} {mg : Str → Option Value} {base : Heap}
abbrev s_opened_parts : Stmt := top 36
theorem sc_opened_parts : FnScope ["trees", "opened", "many", "inner", "tree"] ["trees"] (defScope s_opened_parts) := ⟨rfl, rfl, rfl, by decide +kernel, rfl, by decide +kernel, by decide +kernel⟩
theorem ok_opened_parts (T : Tx w K mg) (d : Nat) : Fk P w K mg base CX0 (d + 5) "opened_parts" ["trees"] (sp_opened d) := by
  refine T.F_opened_parts.ok0 sc_opened_parts (fun _ _ _ _ _ _ us hl => match us, hl with | [_], _ => rfl)
    (fun vs H Q E h => ?_) (fun cdv A outer s H vs Q E hr h => ?_)
  · obtain ⟨a, ws, ts, S, rfl, _⟩ := h
    rfl
  · obtain ⟨a, ws, ts, S, rfl, ha, hts, wf, d12, hbig, hM, k⟩ := h
    refine ⟨_, (pss_cons (ps_set (i := 1) sc_opened_parts.nd rfl (Or.inr rfl) (pe_fk (ok_halves_of T d) (hr.mono (by omega)) rfl pass0 (pa_cons (pv 0) pa_nil)))
  (pss_cons (ps_set (i := 2) sc_opened_parts.nd rfl (Or.inl rfl) (pe_un un_neg pe_int))
  (pss_cons (ps_while PassesOwn.never (pt_cmpR op_ne (pv 2) (pe_callB call_len_seq (by rfl) T.z_len (by decide +kernel) (pa_cons (pv 1) pa_nil)) (nomark _))
  (pss_cons (ps_set (i := 2) sc_opened_parts.nd rfl (Or.inl rfl) (pe_callB call_len_seq (by rfl) T.z_len (by decide +kernel) (pa_cons (pv 1) pa_nil)))
  (pss_cons (ps_setLc (i := 3) (own := [("tree", 4)]) (g := gName 4)  (by rfl) sc_opened_parts.nd rfl rfl (sw_true rfl rfl rfl (by decide +kernel)) (pi_list (pv 1)) (blkOk_by (own := [("tree", 4)]) (N := ["trees", "opened", "many", "inner", "tree"]) (sc := defScope s_opened_parts) (by decide +kernel)) (fun _ _ _ _ _ => (pg_name (i := 4) sc_opened_parts.nd rfl (Or.inl rfl))) (fun _ _ _ _ _ => (pts_one (PW.pt (pw_and (pt_cmpR (kOp (r := rInT) (K := K) rfl op_inT) (pe_ix (kIx (r := rIxT) (K := K) rfl ix_tup) (pv 4) pe_int (fun _ _ => rfl)) (pe_ktk (K := K) rfl T.U_SHUT) (by rfl)) (pw_and1 (pt_val (pe_fk (ok_is_made T d) (hr.mono (by omega)) rfl pass0 (pa_cons (pe_fk (ok_undoing_key T) (hr.mono (by omega)) rfl pass0 (pa_cons (pv 4) pa_nil)) (pa_cons (pv 1) pa_nil))))))))) (fun _ _ _ _ _ => (pe_ix (kIx (r := rIxT) (K := K) rfl ix_tup) (pv 4) pe_int (fun _ _ => rfl))))
  (pss_one (ps_set (i := 1) sc_opened_parts.nd rfl (Or.inr rfl) (pe_fk (ok_halves_of T d) (hr.mono (by omega)) rfl pass0 (pa_cons (pe_op op_cat (pv 1) (pv 3)) pa_nil)))))))
  (pss_one (ps_ret (pe_callB (cr_sortedF hr.units65) (by rfl) T.z_sorted (by decide +kernel) (pa_cons (pv 1) pa_nil))))))), ?_⟩
    have big : 16777216 ≤ sizeLine := by decide
    refine seqAsg ⟨_, rfl, a, ws, ts, rfl, ha, hts, (fun t ht => ⟨(wf t ht).1, (wf t ht).2.1⟩), d12, (by omega), fun q1 us1 o1 H1 s1 nq1 hq1 ht1 hv1 => ?_⟩
    refine gName_k ?_
    try dsimp only
    refine seqAsg ⟨_, rfl, ?_⟩
    refine gName_k ?_
    try dsimp only
    refine ⟨fun m σ Hc => ∃ (n : Nat) (qo : Addr) (us : List V) (o : List Tr) (t3 t4 : Option V), σ = [some (.ref a), some (.ref qo), some (.int ((n : Int) - 1)), t3, t4] ∧ Same H Hc ∧ Hc qo = some (.lst us) ∧ TsAt Hc o us ∧ OI ts o ∧ (n ≤ o.length ∨ (n = o.length + 1 ∧ IsOpen ts o)) ∧ m = (allOf ts).length + 1 - n, ⟨_, 0, q1, us1, o1, _, _, rfl, s1, hq1, ht1, OI.first hv1, .inl (Nat.zero_le _), rfl⟩, ?_⟩
    rintro m σ Hc ⟨n, qo, us, o, t3, t4, rfl, sc, hqo, hto, oi, hn, rfl⟩
    have hol := oi.len
    have hul := hto.len
    have wfo : ∀ t ∈ o, Wf t ∧ t.dep ≤ d ∧ t.all.length ≤ S := fun t ht => inAll_ok wf (oi.inAll t ht)
    refine ⟨_, rfl, _, rfl, qo, us, rfl, .inl (SqL.of hqo), rfl, _, rfl, ?_⟩
    refine ite2 (fun hne => ?_) (fun hne => ?_)
    · have hne : ¬ (V.int ((n : Int) - 1) = V.int us.length) := by
        intro e
        rw [decide_eq_true e] at hne
        cases hne
      have hn1 : n ≤ o.length := by
        rcases hn with h | ⟨h, _⟩
        · exact h
        · exact absurd (by rw [h, hul]; congr 1; omega) hne
      refine ⟨fun σ' H' => ∃ (qo' : Addr) (us' : List V) (o' : List Tr) (t3 t4 : Option V), σ' = [some (.ref a), some (.ref qo'), some (.int (((o.length + 1 : Nat) : Int) - 1)), t3, t4] ∧ Same H H' ∧ H' qo' = some (.lst us') ∧ TsAt H' o' us' ∧ OI ts o' ∧ (o.length + 1 ≤ o'.length ∨ (o.length + 1 = o'.length + 1 ∧ IsOpen ts o')), fun σ' H' ⟨qo', us', o', t3, t4, e1, e2, e3, e4, e5, e6⟩ => ⟨(allOf ts).length + 1 - (o.length + 1), by omega, o.length + 1, qo', us', o', t3, t4, e1, e2, e3, e4, e5, e6, rfl⟩, ?_⟩
      refine seqAsg ⟨_, rfl, qo, us, rfl, .inl (SqL.of hqo), ?_⟩
      refine gName_k ?_
      try dsimp only
      refine ⟨_, rfl, qo, rfl, ⟨_, SqL.of hqo⟩, fun D hD => ?_⟩
      refine lcft (opn o) cnt1 (SqL.of hqo) hto (by omega) hD (fun i x t H2 Q2 hx ht s2 kq => ?_) (fun i x t H2 Q2 hx ht hp s2 kq => ?_) fun vs H2 s2 hD2 hv2 => ?_
      · obtain ⟨w1, w2, _⟩ := wfo t (List.mem_of_getElem? ht)
        have it := (hto.get i t x ht hx).same s2
        obtain ⟨pf, zs, rfl, hpf⟩ := it.hd
        refine ⟨_, rfl, pf, _, _, _, rfl, rfl, SqT.of hpf, at_of (j := 0) rfl rfl, _, He.ga K "SHUT", ["seal", "lock"], rfl, rfl, T.U_SHUT.tp _, _, rfl, ?_⟩
        rw [shut_iff w1]
        unfold opn at kq
        cases e : ukey t with
        | none =>
          rw [e] at kq
          exact iteN (by simp) (kq _ (Same.refl _))
        | some key =>
          rw [e] at kq
          obtain ⟨w3, w4⟩ := ukey_wf w1 e
          refine iteP rfl ⟨_, rfl, _, t, key, rfl, it, w1, e, fun u H3 s3 ik => ⟨_, rfl, u, key, qo, us, o, rfl, ik, w3, (by omega), (by omega), s3 _ _ (s2 _ _ hqo), (hto.same s2).same s3, (fun t ht => ⟨(wfo t ht).1.fine, by have := (wfo t ht).2.1; omega⟩), fun H4 s4 => ⟨_, rfl, kq _ (s3.trans s4)⟩⟩⟩
      · obtain ⟨w1, w2, _⟩ := wfo t (List.mem_of_getElem? ht)
        have it := (hto.get i t x ht hx).same s2
        unfold opn at hp
        cases e : ukey t with
        | none => rw [e] at hp; cases hp
        | some key =>
          rcases ukey_inv w1 e with ⟨c, rfl⟩ | ⟨c, s0, k0, rfl, _, rfl⟩
          · obtain ⟨pf, u1, u2, rfl, hpf, i1, i2⟩ := it
            exact ⟨_, rfl, pf, _, _, _, rfl, rfl, SqT.of hpf, at_of (j := 1) rfl rfl, kq _ _ (Same.refl _) i1⟩
          · obtain ⟨pf, u1, u2, rfl, hpf, i1, i2⟩ := it
            exact ⟨_, rfl, pf, _, _, _, rfl, rfl, SqT.of hpf, at_of (j := 1) rfl rfl, kq _ _ (Same.refl _) i1⟩
      refine gName_k ?_
      try dsimp only
      have hv2l := hv2.len
      have hil : (inn o).length ≤ o.length := by
        rw [inn, List.length_map]
        exact List.length_filter_le _ _
      have hv2l : vs.length = (inn o).length := hv2l
      refine ⟨_, rfl, _, rfl, qo, D, us, vs, rfl, rfl, s2 _ _ hqo, hD2, (by omega), fun q3 hq3 => ?_⟩
      have s3 := Rd.Same.upd (o := .lst (us ++ vs)) hq3
      have h33 : upd H2 q3 (.lst (us ++ vs)) q3 = some (.lst (us ++ vs)) := upd_same
      generalize upd H2 q3 (.lst (us ++ vs)) = H3 at s3 h33 ⊢
      have wfi : ∀ t ∈ o ++ inn o, Wf t ∧ t.dep ≤ d ∧ t.all.length ≤ S := fun t ht => by
        rcases List.mem_append.mp ht with q | q
        · exact wfo t q
        · exact inAll_ok wf (inn_sub oi.inAll (allOf_scl ts) t q)
      have hsz : (allOf (o ++ inn o)).length ≤ 100000 := by
        rw [allOf_len]
        have h1 := szs_le fun t ht => (wfi t ht).2.2
        rw [List.length_append] at h1
        have h2 : (o.length + (inn o).length) * S ≤ (2 * (allOf ts).length) * S := Nat.mul_le_mul_right _ (by omega)
        rw [Nat.mul_assoc] at h2
        omega
      refine ⟨q3, us ++ vs, o ++ inn o, rfl, h33, (((hto.same s2).app hv2).same s3), (fun t ht => ⟨(wfi t ht).1, (wfi t ht).2.1⟩), d12, hsz, fun q4 us4 o4 H4 s4 nq4 hq4 ht4 hv4 => ?_⟩
      refine gName_k ?_
      obtain ⟨oi4, sub4⟩ := oi.next hv4
      have hlen4 := nodup_sub oi.nd sub4
      have e9 : (V.int us.length) = V.int (((o.length + 1 : Nat) : Int) - 1) := by rw [hul]; congr 1; omega
      refine ⟨q4, us4, o4, _, _, by rw [← e9]; rfl, ((sc.trans s2).trans s3).trans s4, hq4, ht4, oi4, ?_⟩
      by_cases hlt : o.length + 1 ≤ o4.length
      · exact .inl hlt
      · have h8 : o4.length = o.length := by omega
        exact .inr ⟨by rw [h8], oi.done hv4 (by omega)⟩
    · have he : V.int ((n : Int) - 1) = V.int us.length := by
        cases hd : decide (V.int ((n : Int) - 1) = V.int us.length) with
        | true => exact of_decide_eq_true hd
        | false => rw [hd] at hne; exact absurd rfl hne
      have he := V.int.inj he
      have hopen : IsOpen ts o := by
        rcases hn with h | ⟨_, h⟩
        · omega
        · exact h
      try dsimp only
      refine ⟨_, rfl, qo, us, o, rfl, SqL.of hqo, hto, (fun t ht => ⟨(wfo t ht).1, by have := (wfo t ht).2.1; omega⟩), fun ys q hpm hq => ?_⟩
      obtain ⟨o', hpo, hto'⟩ := hto.perm hpm
      have sq := Rd.Same.upd (o := .lst ys) hq
      refine k q ys o' _ (sc.trans sq) (sc.free hq) upd_same (hto'.same sq) ?_ (hpo.nodup_iff.mpr oi.nd)
      have hm : ∀ t, t ∈ o' ↔ t ∈ o := fun t => hpo.mem_iff
      exact ⟨fun t ht => (hm t).mpr (hopen.base t ht), fun a b h => ⟨(hm _).mpr (hopen.pcl a b ((hm _).mp h)).1, (hm _).mpr (hopen.pcl a b ((hm _).mp h)).2⟩, fun s c k key h1 h2 h3 => (hm _).mpr (hopen.scl s c k key ((hm _).mp h1) h2 (by rw [← mka_congr hm]; exact h3)), fun O' a b c t ht => hopen.least O' a b c t ((hm t).mp ht)⟩
end
end Rd
namespace Rd
open PySem L2
theorem take_flat1 {τ α : Type} {f : τ → List α} {l : List τ} {i : Nat} {r : τ} (h : l[i]? = some r) : (l.take (i + 1)).flatMap f = (l.take i).flatMap f ++ f r := by
  rw [List.take_add_one, h, List.flatMap_append]
  simp
theorem flat1_le {τ α : Type} {f : τ → List α} (hf : ∀ t, (f t).length ≤ 1) : ∀ l : List τ, (l.flatMap f).length ≤ l.length
  | [] => Nat.le_refl _
  | t :: l => by
    rw [List.flatMap_cons, List.length_append, List.length_cons]
    have := hf t
    have := flat1_le hf l
    omega
/-- {text for x in a list if ..}: f tells of each item no text or one -/
theorem scl {w : World} {K : PySem.W.Frag} {a D : Addr} {xs : List V} {τ : Type} {ts : List τ} {tt : TT} {te : TE} {i0 : Nat} {σ : St} {H1 : Hp} {Qd : Hp → Prop} (f : τ → List Str) (hf : ∀ t, (f t).length ≤ 1) (hS : SqL K H1 a xs) (he : xs.length = ts.length) (hl : xs.length + 1 < scanBound) (hD : H1 D = none)
    (hte : ∀ (i : Nat) (x : V) (t : τ) (H : Hp) (Q : VK), xs[i]? = some x → ts[i]? = some t → Same H1 H → (f t = [] → tt ((wipe σ [i0]).set i0 (some x)) H fun b H' => b = false ∧ H' = H) ∧ ∀ c, f t = [c] → (tt ((wipe σ [i0]).set i0 (some x)) H fun b H' => b = true ∧ H' = H) ∧ (Q (.str c) H → te ((wipe σ [i0]).set i0 (some x)) H Q))
    (tm : ∀ (σ : St) (H : Hp) (P Q : Bool → Hp → Prop), (∀ b H', P b H' → Q b H') → tt σ H P → tt σ H Q)
    (hq : ∀ H', Same H1 H' → H' D = some (SetSO w D (putS [] (ts.flatMap f))) → Qd H') :
    ∃ W : Nat → Nat → Hp → Prop, (∃ m, W 0 m (L2.upd H1 D (SetSO w D []))) ∧ ∀ i m H, W i m H →
      ((Itl K a).stop i H ∧ Qd H) ∨ ((Itl K a).go i H ∧ ∃ Nx : Hp → Prop, (∀ H', Nx H' → ∃ m', m' < m ∧ W (i + 1) m' H') ∧ ∀ x H', (Itl K a).yld i H x H' → gName i0 x (wipe σ [i0]) H' fun σ2 H2 => wipe σ2 [i0] = wipe σ [i0] ∧ tt σ2 H2 fun b H3 =>
        if b = true then te σ2 H3 fun y H4 => ∃ (c : Str) (l : List Str), y = .str c ∧ H4 D = some (SetSO w D l) ∧ l.length + 1 < scanBound ∧ Nx (L2.upd H4 D (SetSO w D (addS l c))) else Nx H3) := by
  refine ⟨fun i m H => m = xs.length - i ∧ i ≤ xs.length ∧ Same H1 H ∧ H D = some (SetSO w D (putS [] ((ts.take i).flatMap f))), ⟨xs.length, by simp, Nat.zero_le _, Rd.Same.upd hD, upd_same⟩, ?_⟩
  rintro i m H ⟨rfl, hi, sm, hd⟩
  have q := SqL.kept hS sm
  by_cases hlt : i < xs.length
  · refine .inr ⟨⟨xs, xs[i], q, by simp [hlt]⟩, fun H' => Same H1 H' ∧ H' D = some (SetSO w D (putS [] ((ts.take (i + 1)).flatMap f))), fun H' p' => ⟨xs.length - (i + 1), by omega, rfl, hlt, p'⟩, fun x H' y => ?_⟩
    obtain ⟨e, y⟩ := y
    subst e
    have hx := y xs q
    have ht : ts[i]? = some ts[i] := List.getElem?_eq_getElem (by omega)
    refine gName_k ⟨by simp [wipe], ?_⟩
    cases hft : f ts[i] with
    | nil =>
      refine tm _ _ _ _ (fun b H2 z => ?_) ((hte i x ts[i] H' (fun _ _ => True) hx ht sm).1 hft)
      obtain ⟨rfl, rfl⟩ := z
      refine iteF ⟨sm, ?_⟩
      rw [take_flat1 ht, hft, List.append_nil]
      exact hd
    | cons c r =>
      have hr : r = [] := by
        have := hf ts[i]
        rw [hft, List.length_cons] at this
        exact List.eq_nil_of_length_eq_zero (by omega)
      subst hr
      refine tm _ _ _ _ (fun b H2 z => ?_) ((hte i x ts[i] H' (fun _ _ => True) hx ht sm).2 c hft).1
      obtain ⟨rfl, rfl⟩ := z
      refine iteT (((hte i x ts[i] _ _ hx ht sm).2 c hft).2 ⟨c, _, rfl, hd, ?_, fun b o e => ?_, ?_⟩)
      · have h1 := putS_len (l := []) (r := (ts.take i).flatMap f)
        have h2 := flat1_le hf (ts.take i)
        rw [List.length_take] at h2
        rw [List.length_nil] at h1
        omega
      · rw [upd_ne (ne_of_none e hD)]
        exact sm _ _ e
      · rw [upd_same, take_flat1 ht, hft, putS_app]
        rfl
  · have e : i = xs.length := by omega
    subst e
    refine .inl ⟨⟨xs, q, Nat.le_refl _⟩, hq H sm ?_⟩
    rw [he, List.take_length] at hd
    exact hd
/-- [text for x in a list if ..] -/
theorem lclF {K : PySem.W.Frag} {a D : Addr} {xs : List V} {τ : Type} {ts : List τ} {tt : TT} {te : TE} {i0 : Nat} {σ : St} {H1 : Hp} {Qd : Hp → Prop} (f : τ → List V) (hf : ∀ t, (f t).length ≤ 1) (hS : SqL K H1 a xs) (he : xs.length = ts.length) (hl : xs.length ≤ 100000) (hD : H1 D = none)
    (hte : ∀ (i : Nat) (x : V) (t : τ) (H : Hp) (Q : VK), xs[i]? = some x → ts[i]? = some t → Same H1 H → (f t = [] → tt ((wipe σ [i0]).set i0 (some x)) H fun b H' => b = false ∧ H' = H) ∧ ∀ c, f t = [c] → (tt ((wipe σ [i0]).set i0 (some x)) H fun b H' => b = true ∧ H' = H) ∧ (Q c H → te ((wipe σ [i0]).set i0 (some x)) H Q))
    (tm : ∀ (σ : St) (H : Hp) (P Q : Bool → Hp → Prop), (∀ b H', P b H' → Q b H') → tt σ H P → tt σ H Q)
    (hq : ∀ H', Same H1 H' → H' D = some (.lst (ts.flatMap f)) → Qd H') :
    ∃ W : Nat → Nat → Hp → Prop, (∃ m, W 0 m (L2.upd H1 D (.lst []))) ∧ ∀ i m H, W i m H →
      ((Itl K a).stop i H ∧ Qd H) ∨ ((Itl K a).go i H ∧ ∃ Nx : Hp → Prop, (∀ H', Nx H' → ∃ m', m' < m ∧ W (i + 1) m' H') ∧ ∀ x H', (Itl K a).yld i H x H' → gName i0 x (wipe σ [i0]) H' fun σ2 H2 => wipe σ2 [i0] = wipe σ [i0] ∧ tt σ2 H2 fun b H3 =>
        if b = true then te σ2 H3 fun y H4 => ∃ acc, H4 D = some (.lst acc) ∧ acc.length < sizeLine ∧ Nx (L2.upd H4 D (.lst (acc ++ [y]))) else Nx H3) := by
  refine lc_list (K := K) (a := a) (xs := xs) (fun i H => Same H1 H ∧ H D = some (.lst ((ts.take i).flatMap f))) ⟨Rd.Same.upd hD, upd_same⟩ (fun i H _ p => SqL.kept hS p.1) ?_ ?_
  · rintro i x H hx ⟨sm, hd⟩
    have hlt := (List.getElem?_eq_some_iff.mp hx).1
    have ht : ts[i]? = some ts[i] := List.getElem?_eq_getElem (by omega)
    refine gName_k ⟨by simp [wipe], ?_⟩
    cases hft : f ts[i] with
    | nil =>
      refine tm _ _ _ _ (fun b H2 z => ?_) ((hte i x ts[i] H (fun _ _ => True) hx ht sm).1 hft)
      obtain ⟨rfl, rfl⟩ := z
      refine iteF ⟨sm, ?_⟩
      rw [take_flat1 ht, hft, List.append_nil]
      exact hd
    | cons c r =>
      have hr : r = [] := by
        have := hf ts[i]
        rw [hft, List.length_cons] at this
        exact List.eq_nil_of_length_eq_zero (by omega)
      subst hr
      refine tm _ _ _ _ (fun b H2 z => ?_) ((hte i x ts[i] H (fun _ _ => True) hx ht sm).2 c hft).1
      obtain ⟨rfl, rfl⟩ := z
      refine iteT (((hte i x ts[i] _ _ hx ht sm).2 c hft).2 ⟨_, hd, ?_, fun b o e => ?_, ?_⟩)
      · have h2 := flat1_le hf (ts.take i)
        rw [List.length_take] at h2
        have : 100000 < sizeLine := by decide
        omega
      · rw [upd_ne (ne_of_none e hD)]
        exact sm _ _ e
      · rw [upd_same, take_flat1 ht, hft]
  · rintro H ⟨sm, hd⟩
    rw [he, List.take_length] at hd
    exact hq H sm hd
theorem txt1_le (k : Str) : ∀ t : Tr, (txt1 k t).length ≤ 1
  | .am k' x => by
    show (if k' = k then [x] else []).length ≤ 1
    split
    · exact Nat.le_refl _
    · exact Nat.zero_le _
  | .un _ _ => Nat.zero_le _
  | .bi _ _ _ => Nat.zero_le _
end Rd
namespace Rd
open PySem L2
def sgns : List Str := ([("pair", 2), ("seal", 2), ("lock", 2), ("mark", 1), ("open", 1), ("own", 1)] : List (Str × Int)).map (·.1)
theorem sgn_yes {t : Tr} (wf : Wf t) (h : t.parts ≠ []) : decide (t.head ∈ sgns) = true := by
  have : ∀ z ∈ (["mark", "open", "own", "pair", "seal", "lock"] : List Str), decide (z ∈ sgns) = true := by decide +kernel
  exact this _ (wf.sign h).1
theorem sgn_no {k x : Str} (ko : kindOk k x) : decide ((Tr.am k x).head ∈ sgns) = false := by
  rcases ko with ⟨rfl, _⟩ | ⟨rfl, _⟩ | ⟨rfl, _⟩
  · show decide (("word" : Str) ∈ sgns) = false; decide +kernel
  · show decide (("name" : Str) ∈ sgns) = false; decide +kernel
  · show decide (("unknown" : Str) ∈ sgns) = false; decide +kernel
section
variable {P : Program} {w : World} {K : PySem.W.Frag} {mg : Str → Option Value} {base : Heap}
abbrev s_parts_of : Stmt := top 21
theorem sc_parts_of : FnScope ["tree", "found", "part"] ["tree"] (defScope s_parts_of) := ⟨rfl, rfl, rfl, by decide +kernel, rfl, by decide +kernel, by decide +kernel⟩
theorem partsOf_step (T : Tx w K mg) (d : Nat) (ih : Fk P w K mg base CX0 (d + 1) "parts_of" ["tree"] (spPR d)) : Fk P w K mg base CX0 (d + 2) "parts_of" ["tree"] (sp_parts d) := by
  refine T.F_parts_of.ok0 sc_parts_of (fun _ _ _ _ _ _ us hl => match us, hl with | [_], _ => rfl)
    (fun vs H Q E h => ?_) (fun cdv A outer s H vs Q E hr h => ?_)
  · obtain ⟨v, t, rfl, _⟩ := h
    rfl
  · obtain ⟨v, t, rfl, it, wf, dp, d12, k⟩ := h
    obtain ⟨pf, vs0, rfl, hpv⟩ := it.hd
    refine ⟨_, (pss_cons (ps_set (i := 1) sc_parts_of.nd rfl (Or.inl rfl) (pe_lst (pa_cons (pv 0) pa_nil)))
  (pss_cons (ps_if (pt_cmpR (op_inK T.D_SIGNS) (pe_ix ix_tup (pv 0) pe_int (fun _ _ => rfl)) (pe_kd T.D_SIGNS) (by rfl))
  (pss_one (ps_for PassesOwn.never rfl (pi_tup (pe_slice sl_tup (pv 0) (po_some pe_int) po_none)) (pg_name (i := 2) sc_parts_of.nd rfl (Or.inl rfl))
  (pss_one (ps_expr (pe_bm PySem.F.plainAttrs_list PySem.F.slot_list_extend PySem.F.type_list_extend mt_extend (pv 1) (pa_cons (pe_fk ih (hr.mono (by omega)) rfl pass0 (pa_cons (pv 2) pa_nil)) pa_nil))))))
  pss_nil)
  (pss_one (ps_ret (pv 1))))), ?_⟩
    refine ⟨_, rfl, (by show 1 ≤ sizeLine; decide), fun p np => ?_⟩
    refine gName_k ?_
    try dsimp only
    have s1 := Rd.Same.upd (o := .lst [.ref pf]) np
    refine ⟨_, rfl, pf, _, _, _, rfl, rfl, SqT.of (s1 _ _ hpv), at_of (j := 0) rfl rfl, _, rfl, rfl, _, rfl, ?_⟩
    show if decide (t.head ∈ sgns) = true then _ else _
    by_cases hpt : t.parts ≠ []
    · obtain ⟨hsg, hws⟩ := wf.sign hpt
      obtain ⟨p', us, e, hpu, hlu, hl2, hne, hus⟩ := it.parts hpt
      cases e
      refine iteP (sgn_yes wf hpt) ?_
      refine ⟨_, rfl, _, rfl, pf, _, rfl, SqT.of (s1 _ _ hpu), ?_, fun p2 hp2 => ?_⟩
      · rintro ⟨z, _⟩
        rw [show (1 : Int) = ((1 : Nat) : Int) from rfl, HT.sIx_nat, List.length_cons] at z
        omega
      rw [cut1]
      have s2 := Rd.Same.upd (o := .tup us) hp2
      refine ⟨p2, rfl, ⟨_, SqT.of upd_same⟩, ?_⟩
      refine for_tup (xs := us) (fun i σ H' => PInv H p p2 us t i H' ∧ ∃ t2, σ = [some (.ref pf), some (.ref p), t2]) ⟨⟨s1.trans s2, np, upd_same, [.ref pf], s2 _ _ upd_same, TsAt.one (it.same (s1.trans s2))⟩, _, rfl⟩ ?_ ?_ ?_
      · rintro i σ H' hi ⟨hI, _⟩
        exact SqT.of hI.tup
      · rintro i x σ H1 hx ⟨⟨sm, _, htu, ws, hws1, hts⟩, t2, rfl⟩
        refine gName_k ?_
        try dsimp only
        obtain ⟨r, hr1, hr2⟩ := hus i x hx
        obtain ⟨w1, w2⟩ := hws r (List.mem_of_getElem? hr1)
        cases d with
        | zero => exact absurd dp (by omega)
        | succ d =>
          refine ⟨_, rfl, .inl ⟨rfl, _, SqL.of hws1⟩, _, rfl, x, r, rfl, hr2.same sm, w1, (by omega), (by omega), fun b zs H2 sm2 nb hb htz => ?_⟩
          have hl1 := all_len t
          have hf := flat_le (t := t) (i + 1)
          rw [take_flat hr1, List.length_append] at hf
          have hpw : 2 ^ (t.dep + 1) ≤ 2 ^ 13 := Nat.pow_le_pow_right (by decide) (by omega)
          have h13 : 2 ^ 13 ≤ sizeLine := by decide
          have e1 := hts.len
          have e2 := htz.len
          rw [List.length_cons] at e1
          refine ⟨p, b, ws, zs, rfl, rfl, sm2 _ _ hws1, hb, (by omega), ?_⟩
          have kp := Kp.upd_lst (C := 0) (ys := ws ++ zs) (sm2 _ _ hws1)
          have nbp : b ≠ p := fun z => by rw [z, hws1] at nb; cases nb
          refine ⟨⟨fun c o e => ?_, np, ?_, ws ++ zs, upd_same, ?_⟩, _, rfl⟩
          · rw [upd_ne (ne_of_none e np)]
            exact sm2 _ _ (sm _ _ e)
          · rw [upd_ne (fun z => by rw [z, hws1] at htu; cases htu)]
            exact sm2 _ _ htu
          · rw [take_flat hr1, ← List.cons_append]
            exact ((hts.same sm2).mono kp).app (htz.mono kp)
      · rintro σ H1 ⟨⟨sm, _, htu, ws, hws1, hts⟩, t2, rfl⟩
        refine ⟨_, rfl, k p ws H1 sm np hws1 ?_⟩
        rw [all_parts]
        rw [hlu, List.take_length] at hts
        exact hts
    · cases wf with
      | @am k0 x0 ko =>
        rw [sgn_no ko]
        exact iteF ⟨_, rfl, k p _ _ s1 np upd_same (TsAt.one (it.same s1))⟩
      | _ => exact absurd (fun e => by cases e) hpt
theorem partsOf_none (T : Tx w K mg) : Fk P w K mg base CX0 1 "parts_of" ["tree"] (spPR 0) := by
  refine T.F_parts_of.ok0 sc_parts_of (fun _ _ _ _ _ _ us hl => match us, hl with | [_], _ => rfl) (fun vs H Q E h => h.elim) (fun cdv A outer s H vs Q E hr h => h.elim)
theorem ok_parts_of (T : Tx w K mg) : ∀ d : Nat, Fk P w K mg base CX0 (d + 2) "parts_of" ["tree"] (sp_parts d)
  | 0 => partsOf_step T 0 (partsOf_none T)
  | d + 1 => partsOf_step T (d + 1) (ok_parts_of T d)
/-- the texts of the atoms of one kind, ascending, each once, in a new list -/
def sp_atoms (d : Nat) : Sp := fun vs H Q _ => ∃ (v : V) (t : Tr) (kd : Str), vs = [v, .str kd] ∧ IsT H t v ∧ Wf t ∧ t.dep ≤ d ∧ d ≤ 10 ∧ ∀ p H', Same H H' → H p = none → H' p = some (.lst ((uniS (t.txt kd)).map V.str)) → Q (.ref p) H'
/-- part[0] == kind, part[1] of a form's part -/
theorem txt_at {H : Hp} {t : Tr} {v : V} {kd : Str} (it : IsT H t v) (wf : Wf t) : ∃ p us, v = .ref p ∧ H p = some (.tup (.str t.head :: us)) ∧ (txt1 kd t = [] → t.head ≠ kd ∨ ∃ u, us[0]? = some u ∧ ¬ ∃ z, u = .str z) ∧ ∀ c, txt1 kd t = [c] → t.head = kd ∧ us = [.str c] := by
  cases t with
  | am k x =>
    obtain ⟨p, rfl, h⟩ := it
    refine ⟨p, [.str x], rfl, h, fun e => .inl fun z => ?_, fun c e => ?_⟩
    · have e : (if k = kd then [x] else []) = [] := e
      rw [if_pos (show k = kd from z)] at e
      cases e
    · have e : (if k = kd then [x] else []) = [c] := e
      by_cases z : k = kd
      · rw [if_pos z] at e
        cases e
        exact ⟨z, rfl⟩
      · rw [if_neg z] at e
        cases e
  | un s a =>
    obtain ⟨p, u, rfl, h, i1⟩ := it
    refine ⟨p, [u], rfl, h, fun _ => .inr ⟨u, rfl, fun ⟨z, e⟩ => ?_⟩, fun c e => by cases e⟩
    obtain ⟨q, e'⟩ := i1.ref
    rw [e'] at e
    cases e
  | bi s a b =>
    obtain ⟨p, u, u2, rfl, h, i1, i2⟩ := it
    refine ⟨p, [u, u2], rfl, h, fun _ => .inr ⟨u, rfl, fun ⟨z, e⟩ => ?_⟩, fun c e => by cases e⟩
    obtain ⟨q, e'⟩ := i1.ref
    rw [e'] at e
    cases e
def kinds : List Str := ["word", "name", "unknown"]
theorem head_kd {t : Tr} {kd : Str} (wf : Wf t) (hk : kd ∈ kinds) (h : txt1 kd t = []) : t.head ≠ kd := fun e => by
  by_cases hp : t.parts ≠ []
  · have a := (wf.sign hp).1
    have : ∀ z ∈ (["mark", "open", "own", "pair", "seal", "lock"] : List Str), z ∉ kinds := by decide +kernel
    exact this _ a (by rw [e]; exact hk)
  · cases t with
    | am k x =>
      have h : (if k = kd then [x] else []) = [] := h
      rw [if_pos (show k = kd from e)] at h
      cases h
    | un s a => exact hp (fun e => by cases e)
    | bi s a b => exact hp (fun e => by cases e)
abbrev s_atoms_of : Stmt := top 22
theorem sc_atoms_of : FnScope ["tree", "kind", "part"] ["tree", "kind"] (defScope s_atoms_of) := ⟨rfl, rfl, rfl, by decide +kernel, rfl, by decide +kernel, by decide +kernel⟩
theorem ok_atoms_of (T : Tx w K mg) (d : Nat) : Fk P w K mg base CX0 (d + 3) "atoms_of" ["tree", "kind"] (fun vs H Q E => sp_atoms d vs H Q E ∧ ∃ kd ∈ kinds, vs[1]? = some (.str kd)) := by
  refine T.F_atoms_of.ok0 sc_atoms_of (fun _ _ _ _ _ _ us hl => match us, hl with | [_, _], _ => rfl)
    (fun vs H Q E h => ?_) (fun cdv A outer s H vs Q E hr h => ?_)
  · obtain ⟨⟨v, t, kd, rfl, _⟩, _⟩ := h
    rfl
  · obtain ⟨⟨v, t, kd, rfl, it, wf, dp, d10, k⟩, kd', hk, e⟩ := h
    obtain rfl : kd = kd' := by cases e; rfl
    refine ⟨_, (pss_one (ps_ret (pe_callB (cr_sortedSS rfl) (by rfl) T.z_sorted (by decide +kernel) (pa_cons (pe_scS (own := [("part", 2)]) (g := gName 2)  (by rfl) sc_atoms_of.nd (pi_list (pe_fk (ok_parts_of T d) (hr.mono (by omega)) rfl pass0 (pa_cons (pv 0) pa_nil))) (blkOk_by (own := [("part", 2)]) (N := ["tree", "kind", "part"]) (sc := defScope s_atoms_of) (by decide +kernel)) (fun _ _ _ _ _ => (pg_name (i := 2) sc_atoms_of.nd rfl (Or.inl rfl))) (fun _ _ _ _ _ => (pts_one (pt_cmpR op_eq (pe_ix (kIx (r := rIxT) (K := K) rfl ix_tup) (pv 2) pe_int (fun _ _ => rfl)) (pv 1) (nomark _)))) (fun _ _ _ _ _ => (pe_ix (kIx (r := rIxT) (K := K) rfl ix_tup) (pv 2) pe_int (fun _ _ => rfl)))) pa_nil)))), ?_⟩
    refine ⟨_, rfl, v, t, rfl, it, wf, dp, (by omega), fun p ws H1 s1 np hp htz => ?_⟩
    refine ⟨p, rfl, ⟨_, SqL.of hp⟩, fun D hD => ?_⟩
    have hl1 := all_len t
    have hpw : 2 ^ (t.dep + 1) ≤ 2 ^ 11 := Nat.pow_le_pow_right (by decide) (by omega)
    have h13 : 2 ^ 11 + 1 < scanBound := by decide
    refine scl (txt1 kd) (txt1_le kd) (SqL.of hp) htz.len (by rw [htz.len]; omega) hD (fun i x t1 H2 Q2 hx ht s2 => ?_) (fun σ H P Q h z => ?_) fun H2 s2 hD2 => ?_
    · have i1 := (htz.get i t1 x ht hx).same s2
      have w1 := (all_wf wf t1 (List.mem_of_getElem? ht)).1
      obtain ⟨q, us, rfl, hq, _, h1⟩ := txt_at (kd := kd) i1 w1
      refine ⟨fun e => ?_, fun c e => ⟨?_, fun z => ?_⟩⟩
      · exact ⟨_, rfl, q, _, _, _, rfl, rfl, SqT.of hq, at_of (j := 0) rfl rfl, _, rfl, rfl, _, rfl, decide_eq_false (fun z => head_kd w1 hk e (by cases z; rfl)), rfl⟩
      · exact ⟨_, rfl, q, _, _, _, rfl, rfl, SqT.of hq, at_of (j := 0) rfl rfl, _, rfl, rfl, _, rfl, decide_eq_true (by rw [(h1 c e).1]), rfl⟩
      · rw [(h1 c e).2] at hq
        exact ⟨_, rfl, q, _, _, _, rfl, rfl, SqT.of hq, at_of (j := 1) rfl rfl, z⟩
    · obtain ⟨_, h1, q, a, b, c, h2, h3, h4, h5, d, h6, h7, e, h8, h9⟩ := z
      exact ⟨_, h1, q, a, b, c, h2, h3, h4, h5, d, h6, h7, e, h8, h _ _ h9⟩
    · refine ⟨D, _, rfl, hD2, fun ys q pm nd so hq => ?_⟩
      have e : ys = uniS (t.txt kd) := uniS_of nd so fun z => by rw [pm.mem_iff, putS_mem, txt_all]; simp
      rw [e]
      exact k q _ ((s1.trans s2).trans (Rd.Same.upd hq)) ((s1.trans s2).free hq) upd_same
def sp_txts (K : PySem.W.Frag) (d : Nat) (kd : Str) : Sp := fun vs H Q _ => ∃ (a : Addr) (v : V) (t : Tr), vs = [.ref a] ∧ IsL K H a v ∧ IsT H t v ∧ Wf t ∧ t.dep ≤ d ∧ d ≤ 10 ∧ ∀ p H', Same H H' → H p = none → H' p = some (.lst ((uniS (t.txt kd)).map V.str)) → Q (.ref p) H'
abbrev s_Letter_unknowns : Stmt := inClass (top 26) 5
theorem sc_Letter_unknowns : FnScope ["self"] ["self"] (defScope s_Letter_unknowns) := ⟨rfl, rfl, rfl, by decide +kernel, rfl, by decide +kernel, by decide +kernel⟩
theorem ok_unknowns (T : Tx w K mg) (d : Nat) : Fm P w K mg base CX0 (d + 4) "Letter" "unknowns" ["self"] (sp_txts K d "unknown") := by
  refine T.M_Letter_unknowns.ok0 sc_Letter_unknowns (fun _ _ _ _ _ _ us hl => match us, hl with | [_], _ => rfl)
    (fun vs H Q E h => ?_) (fun cdv A outer s H vs Q E hr h => ?_)
  · obtain ⟨a, v, t, rfl, _⟩ := h
    rfl
  · obtain ⟨a, v, t, rfl, ⟨dx, ha⟩, it, wf, dp, d10, k⟩ := h
    refine ⟨_, (pss_one (ps_ret (pe_fk (ok_atoms_of T d) (hr.mono (by omega)) rfl pass0 (pa_cons (pe_fld (pv 0) rfl) (pa_cons pe_str pa_nil))))), ?_⟩
    exact ⟨_, rfl, a, _, dx, _, v, rfl, ha, T.k_Letter, T.n_Letter_tree, look1 _, ⟨v, t, "unknown", rfl, it, wf, dp, d10, k⟩, "unknown", (by decide +kernel), rfl⟩
abbrev s_Letter_names : Stmt := inClass (top 26) 6
theorem sc_Letter_names : FnScope ["self"] ["self"] (defScope s_Letter_names) := ⟨rfl, rfl, rfl, by decide +kernel, rfl, by decide +kernel, by decide +kernel⟩
theorem ok_names (T : Tx w K mg) (d : Nat) : Fm P w K mg base CX0 (d + 4) "Letter" "names" ["self"] (sp_txts K d "name") := by
  refine T.M_Letter_names.ok0 sc_Letter_names (fun _ _ _ _ _ _ us hl => match us, hl with | [_], _ => rfl)
    (fun vs H Q E h => ?_) (fun cdv A outer s H vs Q E hr h => ?_)
  · obtain ⟨a, v, t, rfl, _⟩ := h
    rfl
  · obtain ⟨a, v, t, rfl, ⟨dx, ha⟩, it, wf, dp, d10, k⟩ := h
    refine ⟨_, (pss_one (ps_ret (pe_fk (ok_atoms_of T d) (hr.mono (by omega)) rfl pass0 (pa_cons (pe_fld (pv 0) rfl) (pa_cons pe_str pa_nil))))), ?_⟩
    exact ⟨_, rfl, a, _, dx, _, v, rfl, ha, T.k_Letter, T.n_Letter_tree, look1 _, ⟨v, t, "name", rfl, it, wf, dp, d10, k⟩, "name", (by decide +kernel), rfl⟩
end
end Rd
namespace Rd
open PySem L2
section
variable {P : Program} {w : World} {K : PySem.W.Frag} {mg : Str → Option Value} {base : Heap}
abbrev s__law_parts : Stmt := top 50
theorem sc__law_parts : FnScope ["_law_form", "_law_found", "_law_part"] ["_law_form"] (defScope s__law_parts) := ⟨rfl, rfl, rfl, by decide +kernel, rfl, by decide +kernel, by decide +kernel⟩
theorem parts_step (T : Tx w K mg) (d : Nat) (ih : Fk P w K mg base CX0 (d + 1) "_law_parts" ["_law_form"] (spPR d)) : Fk P w K mg base CX0 (d + 2) "_law_parts" ["_law_form"] (sp_parts d) := by
  refine T.F__law_parts.ok0 sc__law_parts (fun _ _ _ _ _ _ us hl => match us, hl with | [_], _ => rfl)
    (fun vs H Q E h => ?_) (fun cdv A outer s H vs Q E hr h => ?_)
  · obtain ⟨v, t, rfl, _⟩ := h
    rfl
  · obtain ⟨v, t, rfl, it, wf, dp, d12, k⟩ := h
    obtain ⟨pf, vs0, rfl, hpv⟩ := it.hd
    refine ⟨_, (pss_cons (ps_set (i := 1) sc__law_parts.nd rfl (Or.inl rfl) (pe_lst (pa_cons (pv 0) pa_nil)))
  (pss_cons (ps_if (pt_cmpR op_notInT (pe_ix ix_tup (pv 0) pe_int (fun _ _ => rfl)) (pe_tup (pa_cons pe_str (pa_cons pe_str (pa_cons pe_str pa_nil)))) (by rfl))
  (pss_one (ps_for PassesOwn.never rfl (pi_tup (pe_slice sl_tup (pv 0) (po_some pe_int) po_none)) (pg_name (i := 2) sc__law_parts.nd rfl (Or.inl rfl))
  (pss_one (ps_expr (pe_bm PySem.F.plainAttrs_list PySem.F.slot_list_extend PySem.F.type_list_extend mt_extend (pv 1) (pa_cons (pe_fk ih (hr.mono (by omega)) rfl pass0 (pa_cons (pv 2) pa_nil)) pa_nil))))))
  pss_nil)
  (pss_one (ps_ret (pv 1))))), ?_⟩
    refine ⟨_, rfl, (by show 1 ≤ sizeLine; decide), fun p np => ?_⟩
    refine gName_k ?_
    try dsimp only
    have sp := Rd.Same.upd (o := .lst [.ref pf]) np
    refine ⟨_, rfl, pf, _, _, _, rfl, rfl, SqT.of (sp _ _ hpv), at_of (j := 0) rfl rfl, (by show 3 ≤ sizeLine; decide), fun q hq => ?_⟩
    have sq := Rd.Same.upd (o := .tup [.str "word", .str "name", .str "unknown"]) hq
    refine ⟨_, q, ["word", "name", "unknown"], rfl, rfl, SqT.of upd_same, _, rfl, ?_⟩
    have s1 := sp.trans sq
    have hp1 : upd (upd H p (.lst [.ref pf])) q (.tup [.str "word", .str "name", .str "unknown"]) p = some (.lst [.ref pf]) := sq _ _ upd_same
    by_cases hpt : t.parts ≠ []
    · obtain ⟨hsg, hws⟩ := wf.sign hpt
      obtain ⟨p', us, e, hpu, hlu, hl2, hne, hus⟩ := it.parts hpt
      cases e
      have h3 : (!decide (t.head ∈ (["word", "name", "unknown"] : List Str))) = true := by
        have : ∀ z ∈ (["mark", "open", "own", "pair", "seal", "lock"] : List Str), (!decide (z ∈ (["word", "name", "unknown"] : List Str))) = true := by decide +kernel
        exact this _ hsg
      refine iteP h3 ?_
      refine ⟨_, rfl, _, rfl, pf, _, rfl, SqT.of (s1 _ _ hpu), ?_, fun p2 hp2 => ?_⟩
      · rintro ⟨z, _⟩
        rw [show (1 : Int) = ((1 : Nat) : Int) from rfl, HT.sIx_nat, List.length_cons] at z
        omega
      rw [cut1]
      have s2 := Rd.Same.upd (o := .tup us) hp2
      refine ⟨p2, rfl, ⟨_, SqT.of upd_same⟩, ?_⟩
      refine for_tup (xs := us) (fun i σ H' => PInv H p p2 us t i H' ∧ ∃ t2, σ = [some (.ref pf), some (.ref p), t2]) ⟨⟨s1.trans s2, np, upd_same, [.ref pf], s2 _ _ hp1, TsAt.one (it.same (s1.trans s2))⟩, _, rfl⟩ ?_ ?_ ?_
      · rintro i σ H' hi ⟨hI, _⟩
        exact SqT.of hI.tup
      · rintro i x σ H1 hx ⟨⟨sm, _, htu, ws, hws1, hts⟩, t2, rfl⟩
        refine gName_k ?_
        try dsimp only
        obtain ⟨r, hr1, hr2⟩ := hus i x hx
        obtain ⟨w1, w2⟩ := hws r (List.mem_of_getElem? hr1)
        cases d with
        | zero => exact absurd dp (by omega)
        | succ d =>
          refine ⟨_, rfl, .inl ⟨rfl, _, SqL.of hws1⟩, _, rfl, x, r, rfl, hr2.same sm, w1, (by omega), (by omega), fun b zs H2 sm2 nb hb htz => ?_⟩
          have hl1 := all_len t
          have hf := flat_le (t := t) (i + 1)
          rw [take_flat hr1, List.length_append] at hf
          have hpw : 2 ^ (t.dep + 1) ≤ 2 ^ 13 := Nat.pow_le_pow_right (by decide) (by omega)
          have h13 : 2 ^ 13 ≤ sizeLine := by decide
          have e1 := hts.len
          have e2 := htz.len
          rw [List.length_cons] at e1
          refine ⟨p, b, ws, zs, rfl, rfl, sm2 _ _ hws1, hb, (by omega), ?_⟩
          have kp := Kp.upd_lst (C := 0) (ys := ws ++ zs) (sm2 _ _ hws1)
          have nbp : b ≠ p := fun z => by rw [z, hws1] at nb; cases nb
          refine ⟨⟨fun c o e => ?_, np, ?_, ws ++ zs, upd_same, ?_⟩, _, rfl⟩
          · rw [upd_ne (ne_of_none e np)]
            exact sm2 _ _ (sm _ _ e)
          · rw [upd_ne (fun z => by rw [z, hws1] at htu; cases htu)]
            exact sm2 _ _ htu
          · rw [take_flat hr1, ← List.cons_append]
            exact ((hts.same sm2).mono kp).app (htz.mono kp)
      · rintro σ H1 ⟨⟨sm, _, htu, ws, hws1, hts⟩, t2, rfl⟩
        refine ⟨_, rfl, k p ws H1 sm np hws1 ?_⟩
        rw [all_parts]
        rw [hlu, List.take_length] at hts
        exact hts
    · cases wf with
      | @am k0 x0 ko =>
        have h3 : ¬ (!decide ((Tr.am k0 x0).head ∈ (["word", "name", "unknown"] : List Str))) = true := by
          rcases ko with ⟨rfl, _⟩ | ⟨rfl, _⟩ | ⟨rfl, _⟩
          · show ¬ (!decide (("word" : Str) ∈ (["word", "name", "unknown"] : List Str))) = true; decide +kernel
          · show ¬ (!decide (("name" : Str) ∈ (["word", "name", "unknown"] : List Str))) = true; decide +kernel
          · show ¬ (!decide (("unknown" : Str) ∈ (["word", "name", "unknown"] : List Str))) = true; decide +kernel
        exact iteN h3 ⟨_, rfl, k p _ _ s1 np hp1 (TsAt.one (it.same s1))⟩
      | _ => exact absurd (fun e => by cases e) hpt
theorem parts_none (T : Tx w K mg) : Fk P w K mg base CX0 1 "_law_parts" ["_law_form"] (spPR 0) := by
  refine T.F__law_parts.ok0 sc__law_parts (fun _ _ _ _ _ _ us hl => match us, hl with | [_], _ => rfl) (fun vs H Q E h => h.elim) (fun cdv A outer s H vs Q E hr h => h.elim)
theorem ok__law_parts (T : Tx w K mg) : ∀ d : Nat, Fk P w K mg base CX0 (d + 2) "_law_parts" ["_law_form"] (sp_parts d)
  | 0 => parts_step T 0 (parts_none T)
  | d + 1 => parts_step T (d + 1) (ok__law_parts T d)
end
end Rd
namespace Rd
open PySem L2
/-- the last sign of a text is a digit -/
def endDig (x : Str) : Bool := match x.cps.toList.getLast? with
  | some c => inS DIGITS c
  | none => false
def hasDig (t : Tr) : Bool := (t.txt "name").any endDig
theorem atI_lastQ {xs : List Nat} {c : Nat} (h : xs.getLast? = some c) : atI xs (-1) = some c := by
  cases xs with
  | nil => cases h
  | cons a xs =>
    rw [List.getLast?_eq_some_iff] at h
    obtain ⟨ys, e⟩ := h
    rw [e]
    exact atI_last ys c
theorem txt_isNameX {t : Tr} (wf : Wf t) : ∀ x ∈ t.txt "name", isName x = true := by
  induction t with
  | am k y =>
    intro x hx
    rcases wf.shp with ⟨_, _, e, ko⟩ | ⟨_, _, e, _⟩ | ⟨_, _, _, e, _⟩
    · cases e
      have hx : x ∈ (if k = "name" then [y] else []) := hx
      by_cases e : k = "name"
      · rw [if_pos e] at hx
        subst e
        rw [List.mem_singleton.mp hx]
        rcases ko with ⟨e, _⟩ | ⟨_, h⟩ | ⟨e, _⟩
        · exact absurd e (by decide +kernel)
        · exact h
        · exact absurd e (by decide +kernel)
      · rw [if_neg e] at hx
        cases hx
    · cases e
    · cases e
  | un s a ih =>
    intro x hx
    rcases wf.shp with ⟨_, _, e, _⟩ | ⟨_, _, e, _, wa⟩ | ⟨_, _, _, e, _⟩
    · cases e
    · cases e
      exact ih wa x hx
    · cases e
  | bi s a b iha ihb =>
    intro x hx
    rcases wf.shp with ⟨_, _, e, _⟩ | ⟨_, _, e, _⟩ | ⟨_, _, _, e, _, wa, wb⟩
    · cases e
    · cases e
    · cases e
      rcases List.mem_append.mp (show x ∈ a.txt "name" ++ b.txt "name" from hx) with h | h
      · exact iha wa x h
      · exact ihb wb x h
def sp_dig (K : PySem.W.Frag) (d : Nat) : Sp := fun vs H Q _ => ∃ (a : Addr) (v : V) (t : Tr), vs = [.ref a] ∧ IsL K H a v ∧ IsT H t v ∧ Wf t ∧ t.dep ≤ d ∧ d ≤ 10 ∧ ∀ H', Same H H' → Q (.bl (hasDig t)) H'
def sp_unlike (K : PySem.W.Frag) : Sp := fun vs H Q _ => ∃ (a : Addr) (xs : List Str), vs = [.ref a] ∧ SqL K H a (xs.map V.str) ∧ xs.length ≤ 1000 ∧ ∀ H', Same H H' → Q (.bl (decide xs.Nodup)) H'
def isFresh (z : Str) : Bool := isName z && (decide (z.length < 8) && !endDig z)
theorem putS_le : ∀ {r l : List Str}, l.length ≤ (putS l r).length
  | [], l => Nat.le_refl _
  | x :: r, l => Nat.le_trans (by unfold addS; split <;> simp) (putS_le (r := r) (l := addS l x))
theorem putS_eq : ∀ {r l : List Str}, (putS l r).length = l.length + r.length ↔ r.Nodup ∧ ∀ x ∈ r, x ∉ l
  | [], l => by simp [putS]
  | x :: r, l => by
    show (putS (addS l x) r).length = _ ↔ _
    have hle := putS_len (r := r) (l := addS l x)
    by_cases h : x ∈ l
    · have e : addS l x = l := if_pos h
      rw [e] at hle ⊢
      constructor
      · intro z
        rw [List.length_cons] at z
        omega
      · rintro ⟨_, z⟩
        exact absurd h (z x List.mem_cons_self)
    · have e : addS l x = x :: l := if_neg h
      rw [e, List.length_cons, show l.length + (r.length + 1) = (x :: l).length + r.length by rw [List.length_cons]; omega, putS_eq (r := r) (l := x :: l), List.nodup_cons]
      constructor
      · rintro ⟨h1, h2⟩
        refine ⟨⟨fun z => h2 x z List.mem_cons_self, h1⟩, fun y hy => ?_⟩
        rcases List.mem_cons.mp hy with rfl | hy
        · exact h
        · exact fun z => h2 y hy (List.mem_cons_of_mem _ z)
      · rintro ⟨⟨h1, h2⟩, h3⟩
        refine ⟨h2, fun y hy z => ?_⟩
        rcases List.mem_cons.mp z with rfl | z
        · exact h1 hy
        · exact h3 y (List.mem_cons_of_mem _ hy) z
section
variable {P : Program} {w : World} {K : PySem.W.Frag} {mg : Str → Option Value} {base : Heap}
abbrev s_has_digits : Stmt := top 28
theorem sc_has_digits : FnScope ["letter", "name"] ["letter"] (defScope s_has_digits) := ⟨rfl, rfl, rfl, by decide +kernel, rfl, by decide +kernel, by decide +kernel⟩
theorem ok_has_digits (T : Tx w K mg) (d : Nat) : Fk P w K mg base CX0 (d + 5) "has_digits" ["letter"] (sp_dig K d) := by
  refine T.F_has_digits.ok0 sc_has_digits (fun _ _ _ _ _ _ us hl => match us, hl with | [_], _ => rfl)
    (fun vs H Q E h => ?_) (fun cdv A outer s H vs Q E hr h => ?_)
  · obtain ⟨a, v, t, rfl, _⟩ := h
    rfl
  · obtain ⟨a, v, t, rfl, ⟨dx, ha⟩, it, wf, dp, d10, k⟩ := h
    refine ⟨_, (pss_one (ps_ret (pe_callB (cr_any rfl) (by rfl) T.z_any (by decide +kernel) (pa_cons (pe_lc (own := [("name", 1)]) (g := gName 1) (tt := tYes) (by rfl) sc_has_digits.nd (pi_list (pe_fm0 (pv 0) T.k_Letter (ok_names T d) (hr.mono (by omega)) pass0)) (blkOk_by (own := [("name", 1)]) (N := ["letter", "name"]) (sc := defScope s_has_digits) (by decide +kernel)) (fun _ _ _ _ _ => (pg_name (i := 1) sc_has_digits.nd rfl (Or.inl rfl))) (fun _ _ _ _ _ => pts_nil) (fun _ _ _ _ _ => (pe_cmpR op_in_sign (pe_ix ix_str (pv 1) (pe_un un_neg pe_int) (fun _ _ => rfl)) (pe_gstr T.c_DIGITS) (by rfl)))) pa_nil)))), ?_⟩
    have big : 16777216 ≤ sizeLine := by decide
    refine ⟨_, rfl, a, dx, _, rfl, ha, lookT (by decide +kernel), a, v, t, rfl, ⟨dx, ha⟩, it, wf, dp, d10, fun p H1 s1 np hp => ⟨p, rfl, ⟨_, SqL.of hp⟩, fun D hD => ?_⟩⟩
    have hul : (uniS (t.txt "name")).length ≤ 100000 := by
      have h1 := uniS_len (l := t.txt "name")
      have h2 := txts_len "name" t
      have hl1 := all_len t
      have hpw : 2 ^ (t.dep + 1) ≤ 2 ^ 11 := Nat.pow_le_pow_right (by decide) (by omega)
      omega
    refine lcl (C := 0) (fun i H v => ∃ x, (uniS (t.txt "name"))[i]? = some x ∧ v = .bl (endDig x)) (fun i H H' v kp h => h) (SqL.of hp) (by rw [List.length_map]; exact hul) hD (fun j y H2 Q2 hy s2 k2 => ?_) fun vs H2 s2 hD2 hv2 hvs => ?_
    · rw [List.getElem?_map] at hy
      obtain ⟨x, hx, rfl⟩ := Option.map_eq_some_iff.mp hy
      have hn := txt_isNameX wf x (uniS_mem.mp (List.mem_of_getElem? hx))
      have hl8 := (name_len hn).1
      have hne : x.cps.toList ≠ [] := fun e => by
        have : 1 ≤ (Txt.rstripChars x DIGITS).length := of_decide_eq_true (He.ba hn).1
        have h3 := PyProof.Rows.len_rstripChars x DIGITS
        rw [len_list x, e] at h3
        simp at h3
        omega
      have hc : x.cps.toList.getLast? = some (x.cps.toList.getLast hne) := List.getLast?_eq_some_getLast hne
      refine ⟨_, rfl, _, rfl, x, -1, _, rfl, rfl, by omega, atI_lastQ hc, _, _, rfl, rfl, k2 _ _ (Same.refl _) ⟨x, hx, ?_⟩⟩
      unfold endDig
      rw [hc]
      rfl
    · have ev : vs = ((uniS (t.txt "name")).map endDig).map V.bl := by
        refine List.ext_getElem? fun i => ?_
        rw [List.map_map, List.getElem?_map]
        cases e : vs[i]? with
        | none =>
          rw [List.getElem?_eq_none (by have := List.getElem?_eq_none_iff.mp e; rw [List.length_map] at hv2; omega)]
          rfl
        | some v =>
          obtain ⟨x, h1, h2⟩ := hvs i v e
          rw [h1, h2]
          rfl
      refine ⟨D, (uniS (t.txt "name")).map endDig, rfl, SqL.of (by rw [hD2, ev]), ?_⟩
      have e : ((uniS (t.txt "name")).map endDig).any id = hasDig t := by
        rw [List.any_map]
        unfold hasDig
        rw [Bool.eq_iff_iff, List.any_eq_true, List.any_eq_true]
        constructor
        · rintro ⟨x, hx, e⟩
          exact ⟨x, uniS_mem.mp hx, e⟩
        · rintro ⟨x, hx, e⟩
          exact ⟨x, uniS_mem.mpr hx, e⟩
      rw [e]
      exact k _ (s1.trans s2)
abbrev s_are_unlike : Stmt := top 38
theorem sc_are_unlike : FnScope ["things"] ["things"] (defScope s_are_unlike) := ⟨rfl, rfl, rfl, by decide +kernel, rfl, by decide +kernel, by decide +kernel⟩
theorem ok_are_unlike (T : Tx w K mg) : Fk P w K mg base CX0 1 "are_unlike" ["things"] (sp_unlike K) := by
  refine T.F_are_unlike.ok0 sc_are_unlike (fun _ _ _ _ _ _ us hl => match us, hl with | [_], _ => rfl)
    (fun vs H Q E h => ?_) (fun cdv A outer s H vs Q E hr h => ?_)
  · obtain ⟨a, xs, rfl, _⟩ := h
    rfl
  · obtain ⟨a, xs, rfl, ha, hl, k⟩ := h
    refine ⟨_, (pss_one (ps_ret (pe_cmpR op_eq (pe_callB (cr_lenSS rfl) (by rfl) T.z_len (by decide +kernel) (pa_cons (pe_callTy (cr_setOfS rfl) (by rfl) T.z_set (by decide +kernel) (pa_cons (pv 0) pa_nil)) pa_nil)) (pe_callB call_len_seq (by rfl) T.z_len (by decide +kernel) (pa_cons (pv 0) pa_nil)) (nomark _)))), ?_⟩
    have hb : 2000 < scanBound := by decide
    refine ⟨_, rfl, a, xs, rfl, ha, by omega, fun q hq => ⟨q, putS [] xs, rfl, upd_same, _, rfl, a, _, rfl, .inl (SqL.kept ha (Rd.Same.upd hq)), rfl, ?_⟩⟩
    have e : decide (V.int ((putS [] xs).length : Int) = V.int ((xs.map V.str).length : Int)) = decide xs.Nodup := by
      rw [List.length_map]
      refine decide_eq_decide.mpr ⟨fun z => ?_, fun z => ?_⟩
      · have z := V.int.inj z
        have z2 := (putS_eq (r := xs) (l := [])).mp (by rw [List.length_nil]; omega)
        exact z2.1
      · have z2 := (putS_eq (r := xs) (l := [])).mpr ⟨z, fun x _ => by simp⟩
        rw [List.length_nil] at z2
        rw [show (putS [] xs).length = xs.length by omega]
    rw [e]
    exact k _ (Rd.Same.upd hq)
end
end Rd
namespace Rd
open PySem L2
/-- whoever has these opened parts can look through a form -/
def seen (O : List Tr) : Tr → Bool
  | .am k x => mka O (.am k x)
  | .un s a => mka O (.un s a)
  | .bi s a b => mka O (.bi s a b) || (if s = "pair" then seen O a && seen O b else match ukey (.bi s a b) with
    | some key => mka O key && seen O a
    | none => false)
theorem seen_mka {O : List Tr} {t : Tr} (h : mka O t = true) : seen O t = true := by
  cases t with
  | am k x => exact h
  | un s a => exact h
  | bi s a b => rw [seen, h]; rfl
theorem seen_congr {O O' : List Tr} (h : ∀ t, t ∈ O ↔ t ∈ O') : ∀ t : Tr, seen O t = seen O' t
  | .am k x => mka_congr h _
  | .un s a => mka_congr h _
  | .bi s a b => by
    rw [seen, seen, mka_congr h, seen_congr h a, seen_congr h b]
    cases ukey (.bi s a b) with
    | none => rfl
    | some key =>
      show _ = _
      simp only [mka_congr h key]
def sp_seen (d : Nat) : Sp := fun vs H Q _ => ∃ (v : V) (t : Tr) (a : Addr) (ws : List V) (ts : List Tr), vs = [v, .ref a] ∧ IsT H t v ∧ Wf t ∧ t.dep ≤ d ∧ d ≤ 60 ∧ H a = some (.lst ws) ∧ TsAt H ts ws ∧ (∀ t ∈ ts, t.fine ∧ t.dep ≤ 60) ∧ ∀ H', Same H H' → Q (.bl (seen ts t)) H'
def spSR : Nat → Sp
  | 0 => fun _ _ _ _ => False
  | d + 1 => sp_seen d
section
variable {P : Program} {w : World} {K : PySem.W.Frag} {mg : Str → Option Value} {base : Heap}
abbrev s_is_seen_through : Stmt := top 41
theorem sc_is_seen_through : FnScope ["tree", "opened"] ["tree", "opened"] (defScope s_is_seen_through) := ⟨rfl, rfl, rfl, by decide +kernel, rfl, by decide +kernel, by decide +kernel⟩
theorem ist_step (T : Tx w K mg) (d : Nat) (ih : Fk P w K mg base CX0 (d + 2) "is_seen_through" ["tree", "opened"] (spSR d)) : Fk P w K mg base CX0 (d + 3) "is_seen_through" ["tree", "opened"] (sp_seen d) := by
  refine T.F_is_seen_through.ok0 sc_is_seen_through (fun _ _ _ _ _ _ us hl => match us, hl with | [_, _], _ => rfl)
    (fun vs H Q E h => ?_) (fun cdv A outer s H vs Q E hr h => ?_)
  · obtain ⟨v, t, a, ws, ts, rfl, _⟩ := h
    rfl
  · obtain ⟨v, t, a, ws, ts, rfl, it, wf, dp, d60, ha, hts, ft, k⟩ := h
    refine ⟨_, (pss_cons (ps_if (pt_val (pe_fk (ok_is_made T d) (hr.mono (by omega)) rfl pass0 (pa_cons (pv 0) (pa_cons (pv 1) pa_nil))))
  (pss_one (ps_ret pe_bl))
  pss_nil)
  (pss_cons (ps_if (pt_cmpR op_eq (pe_ix ix_tup (pv 0) pe_int (fun _ _ => rfl)) pe_str (nomark _))
  (pss_one (ps_ret (pe_and (pe_fk ih (hr.mono (by omega)) rfl pass0 (pa_cons (pe_ix ix_tup (pv 0) pe_int (fun _ _ => rfl)) (pa_cons (pv 1) pa_nil))) (pe_one (pe_fk ih (hr.mono (by omega)) rfl pass0 (pa_cons (pe_ix ix_tup (pv 0) pe_int (fun _ _ => rfl)) (pa_cons (pv 1) pa_nil)))))))
  pss_nil)
  (pss_one (ps_ret (pe_and (pe_cmpR op_inT (pe_ix ix_tup (pv 0) pe_int (fun _ _ => rfl)) (pe_ktk (K := K) rfl T.U_SHUT) (by rfl)) (pe_and (pe_fk (ok_is_made T d) (hr.mono (by omega)) rfl pass0 (pa_cons (pe_fk (ok_undoing_key T) (hr.mono (by omega)) rfl pass0 (pa_cons (pv 0) pa_nil)) (pa_cons (pv 1) pa_nil))) (pe_one (pe_fk ih (hr.mono (by omega)) rfl pass0 (pa_cons (pe_ix ix_tup (pv 0) pe_int (fun _ _ => rfl)) (pa_cons (pv 1) pa_nil)))))))))), ?_⟩
    refine ⟨_, rfl, _, rfl, v, t, a, ws, ts, rfl, it, wf, dp, d60, ha, hts, ft, fun H1 s1 => ⟨_, rfl, ?_⟩⟩
    cases em : mka ts t with
    | true =>
      refine iteT ?_
      rw [seen_mka em] at k
      exact k _ s1
    | false =>
      refine iteF (nxt ?_)
      try dsimp only
      have it1 := it.same s1
      obtain ⟨pf, us, rfl, hp⟩ := it1.hd
      have low : ∀ {s : Str} {a b : Tr}, t = .bi s a b → ∃ e, d = e + 1 ∧ a.dep ≤ e ∧ b.dep ≤ e := fun {s a b} e => by
        subst e
        have : max a.dep b.dep + 1 ≤ d := dp
        exact ⟨d - 1, by omega, by omega, by omega⟩
      refine ⟨_, rfl, pf, _, _, _, rfl, rfl, SqT.of hp, at_of (j := 0) rfl rfl, rfl, _, rfl, ?_⟩
      rw [decS]
      by_cases hpr : t.head = "pair"
      · rw [decide_eq_true hpr]
        refine iteT ?_
        rcases wf.shp with ⟨k0, x0, rfl, ko⟩ | ⟨s0, a0, rfl, hs, wa⟩ | ⟨s0, a0, b0, rfl, hs, wa, wb⟩
        · refine absurd hpr ?_
          rcases ko with ⟨rfl, _⟩ | ⟨rfl, _⟩ | ⟨rfl, _⟩
          · show ("word" : Str) ≠ "pair"; decide +kernel
          · show ("name" : Str) ≠ "pair"; decide +kernel
          · show ("unknown" : Str) ≠ "pair"; decide +kernel
        · exact absurd hpr ((by decide +kernel : ∀ z ∈ (["mark", "open", "own"] : List Str), z ≠ "pair") s0 hs)
        · have hpr : s0 = "pair" := hpr
          subst hpr
          obtain ⟨p', u1, u2, e, hp', i1, i2⟩ := it1
          cases e
          obtain ⟨e, rfl, da, db⟩ := low rfl
          rw [seen, em, Bool.false_or, if_pos rfl] at k
          refine ⟨_, rfl, pf, _, _, _, rfl, rfl, SqT.of hp', at_of (j := 1) rfl rfl, _, rfl, u1, a0, a, ws, ts, rfl, i1, wa, da, by omega, s1 _ _ ha, hts.same s1, ft, fun H2 s2 => ⟨_, rfl, ?_⟩⟩
          cases e1 : seen ts a0 with
          | true =>
            rw [e1, Bool.true_and] at k
            refine iteT ?_
            exact ⟨_, rfl, pf, _, _, _, rfl, rfl, SqT.of (s2 _ _ hp'), at_of (j := 2) rfl rfl, _, rfl, u2, b0, a, ws, ts, rfl, i2.same s2, wb, db, by omega, (s1.trans s2) _ _ ha, hts.same (s1.trans s2), ft, fun H3 s3 => k _ ((s1.trans s2).trans s3)⟩
          | false =>
            rw [e1, Bool.false_and] at k
            exact iteF (k _ (s1.trans s2))
      · rw [decide_eq_false hpr]
        refine iteF (nxt ?_)
        try dsimp only
        refine ⟨_, rfl, pf, _, _, _, rfl, rfl, SqT.of hp, at_of (j := 0) rfl rfl, _, He.ga K "SHUT", ["seal", "lock"], rfl, rfl, T.U_SHUT.tp _, ?_⟩
        rw [shut_iff wf]
        cases eu : ukey t with
        | none =>
          refine ⟨_, rfl, iteF ?_⟩
          have es : seen ts t = false := by
            cases t with
            | am k x => exact em
            | un s a => exact em
            | bi s a b =>
              have hp2 : ¬ s = "pair" := hpr
              rw [seen, em, Bool.false_or, if_neg hp2, eu]
          rw [es] at k
          exact k _ s1
        | some key =>
          refine ⟨_, rfl, iteT ?_⟩
          obtain ⟨wk, dk⟩ := ukey_wf wf eu
          obtain ⟨s0, a0, b0, rfl⟩ : ∃ s0 a0 b0, t = .bi s0 a0 b0 := by
            rcases ukey_inv wf eu with ⟨c, e⟩ | ⟨c, s, k', e, _⟩
            · exact ⟨_, _, _, e⟩
            · exact ⟨_, _, _, e⟩
          obtain ⟨p', u1, u2, e, hp', i1, i2⟩ := id it1
          cases e
          obtain ⟨e, rfl, da, db⟩ := low rfl
          have wa : Wf a0 := by
            rcases wf.shp with ⟨_, _, e, _⟩ | ⟨_, _, e, _⟩ | ⟨_, _, _, e, _, wa, _⟩
            · cases e
            · cases e
            · cases e; exact wa
          have hp2 : ¬ s0 = "pair" := hpr
          rw [seen, em, Bool.false_or, if_neg hp2, eu] at k
          refine ⟨_, rfl, _, _, key, rfl, it1, wf, eu, fun u H2 s2 iu => ⟨_, rfl, u, key, a, ws, ts, rfl, iu, wk, by omega, by omega, (s1.trans s2) _ _ ha, hts.same (s1.trans s2), ft, fun H3 s3 => ⟨_, rfl, ?_⟩⟩⟩
          have S3 := (s1.trans s2).trans s3
          have k : ∀ H', Same H H' → Q (.bl (mka ts key && seen ts a0)) H' := k
          cases e1 : mka ts key with
          | true =>
            rw [e1, Bool.true_and] at k
            refine iteT ?_
            exact ⟨_, rfl, pf, _, _, _, rfl, rfl, SqT.of (s3 _ _ (s2 _ _ hp')), at_of (j := 1) rfl rfl, _, rfl, u1, a0, a, ws, ts, rfl, (i1.same s2).same s3, wa, da, by omega, S3 _ _ ha, hts.same S3, ft, fun H4 s4 => k _ (S3.trans s4)⟩
          | false =>
            rw [e1, Bool.false_and] at k
            exact iteF (k _ S3)
theorem ist_none (T : Tx w K mg) : Fk P w K mg base CX0 1 "is_seen_through" ["tree", "opened"] (spSR 0) := by
  refine T.F_is_seen_through.ok0 sc_is_seen_through (fun _ _ _ _ _ _ us hl => match us, hl with | [_, _], _ => rfl) (fun vs H Q E h => h.elim) (fun cdv A outer s H vs Q E hr h => h.elim)
theorem ok_is_seen_through (T : Tx w K mg) : ∀ d : Nat, Fk P w K mg base CX0 (d + 3) "is_seen_through" ["tree", "opened"] (sp_seen d)
  | 0 => ist_step T 0 ((ist_none T).mono (by decide))
  | d + 1 => ist_step T (d + 1) (ok_is_seen_through T d)
end
end Rd
namespace Rd
open PySem L2
theorem pe_new {X : Cx} {CX : CXT} {k : Nat} {c : Str} {ps : List Str} {sp : Sp} {e : Expr} {es : List Expr} {t : TA} {p pos : Pos} {E : XK} (M : Mk X.K (He.ga X.K c) (He.ma X.K (He.ga X.K c) "__init__")) (g : X.mg c = some (.ref (He.ga X.K c))) (F : Fm X.prog X.w X.K X.mg X.base CX k c "__init__" ps sp) (hr : Room (k + 1) X.A) (hg : Gl X c) (hx : Passes CX X E) (ha : PA X (e :: es) t)
    (hdb : (c == ("__debug__" : Str)) = false := by decide) (he : starEach (e :: es) X.env = (false, eval e X.env) :: starEach es X.env := by rfl) (hpl : (backTo pos (starEach es X.env)).any (·.1) = false := by rfl) :
    PE X (.Call (.Name c p) (e :: es) [] pos) (tMake (He.ga X.K c) sp [] E t) := by
  obtain ⟨⟨fd, a, b⟩, me⟩ := F
  exact pe_make M a hr hg g b .nil hx ha hdb he hpl
section
variable {X : Cx} {CX : CXT} {k : Nat} {ps : List Str} {sp : Sp} {E : XK} {c : Str} {p pos : Pos} {e : Expr} {es : List Expr} {t : TA} {v : V} {K : PySem.W.Frag}
theorem pe_mk2k (hK : X.K = K) (F : Fi X.prog X.w X.K X.mg X.base CX k c ps sp v) (hr : Room (k + 1) X.A) (hg : Gl X c) (hx : Passes CX X E)
    (ha : PA X (e :: es) t) (hdb : (c == ("__debug__" : Str)) = false := by decide) (he : starEach (e :: es) X.env = (false, eval e X.env) :: starEach es X.env := by rfl) (hpl : (backTo pos (starEach es X.env)).any (·.1) = false := by rfl) :
    PE X (.Call (.Name c p) (e :: es) [] pos) (tMake (He.ga K c) sp [] E t) := by subst hK; exact pe_mk2 F hr hg hx ha hdb he hpl
end
/-- a list of letters -/
structure LsAt (K : PySem.W.Frag) (H : Hp) (ts : List Tr) (vs : List V) : Prop where
  len : vs.length = ts.length
  get : ∀ (i : Nat) t v, ts[i]? = some t → vs[i]? = some v → IsLet K H t v
theorem LsAt.mono {K : PySem.W.Frag} {H H' : Hp} {ts : List Tr} {vs : List V} (k : Kp (He.ga K "Letter") H H') (h : LsAt K H ts vs) : LsAt K H' ts vs := ⟨h.len, fun i t v h1 h2 => (h.get i t v h1 h2).mono k⟩
theorem LsAt.same {K : PySem.W.Frag} {H H' : Hp} {ts : List Tr} {vs : List V} (s : Same H H') (h : LsAt K H ts vs) : LsAt K H' ts vs := h.mono (Kp.of_same s)
theorem LsAt.one {K : PySem.W.Frag} {H : Hp} {t : Tr} {v : V} (h : IsLet K H t v) : LsAt K H [t] [v] := ⟨rfl, fun i t' v' h1 h2 => by
  cases i with
  | zero => cases h1; cases h2; exact h
  | succ i => cases i <;> cases h1⟩
theorem LsAt.app {K : PySem.W.Frag} {H : Hp} {ts us : List Tr} {vs ws : List V} (h : LsAt K H ts vs) (g : LsAt K H us ws) : LsAt K H (ts ++ us) (vs ++ ws) := ⟨by rw [List.length_append, List.length_append, h.len, g.len], fun i t v h1 h2 => by
  by_cases hi : i < ts.length
  · rw [List.getElem?_append_left hi] at h1
    rw [List.getElem?_append_left (by rw [h.len]; exact hi)] at h2
    exact h.get i t v h1 h2
  · rw [List.getElem?_append_right (by omega)] at h1
    rw [List.getElem?_append_right (by rw [h.len]; omega), h.len] at h2
    exact g.get _ t v h1 h2⟩
theorem LsAt.of {K : PySem.W.Frag} {H : Hp} {ts : List Tr} {vs : List V} (hl : vs.length = ts.length) (h : ∀ (i : Nat) v, vs[i]? = some v → ∃ t, ts[i]? = some t ∧ IsLet K H t v) : LsAt K H ts vs := ⟨hl, fun i t v h1 h2 => by
  obtain ⟨t', e, q⟩ := h i v h2
  rw [h1] at e
  cases e
  exact q⟩
theorem TsAt.of {H : Hp} {ts : List Tr} {vs : List V} (hl : vs.length = ts.length) (h : ∀ (i : Nat) v, vs[i]? = some v → ∃ t, ts[i]? = some t ∧ IsT H t v) : TsAt H ts vs := ⟨hl, fun i t v h1 h2 => by
  obtain ⟨t', e, q⟩ := h i v h2
  rw [h1] at e
  cases e
  exact q⟩
end Rd
namespace Rd
open PySem L2
theorem lclB {α : Type} {K : PySem.W.Frag} {a D : Addr} {xs : List V} {ds : List α} {te : TE} {i0 : Nat} {σ : St} {H1 : Hp} {Qd : Hp → Prop} (g : α → Bool) (hS : SqL K H1 a xs) (he : xs.length = ds.length) (hl : xs.length ≤ 100000) (hD : H1 D = none)
    (hte : ∀ (i : Nat) (x : V) (d : α) (H : Hp) (Q : VK), xs[i]? = some x → ds[i]? = some d → Same H1 H → (∀ H', Same H H' → Q (.bl (g d)) H') → te ((wipe σ [i0]).set i0 (some x)) H Q)
    (hq : ∀ H', Same H1 H' → H' D = some (.lst ((ds.map g).map V.bl)) → Qd H') :
    ∃ W : Nat → Nat → Hp → Prop, (∃ m, W 0 m (L2.upd H1 D (.lst []))) ∧ ∀ i m H, W i m H →
      ((Itl K a).stop i H ∧ Qd H) ∨ ((Itl K a).go i H ∧ ∃ Nx : Hp → Prop, (∀ H', Nx H' → ∃ m', m' < m ∧ W (i + 1) m' H') ∧ ∀ x H', (Itl K a).yld i H x H' → gName i0 x (wipe σ [i0]) H' fun σ2 H2 => wipe σ2 [i0] = wipe σ [i0] ∧ tYes σ2 H2 fun b H3 =>
        if b = true then te σ2 H3 fun y H4 => ∃ acc, H4 D = some (.lst acc) ∧ acc.length < sizeLine ∧ Nx (L2.upd H4 D (.lst (acc ++ [y]))) else Nx H3) := by
  refine lcl (C := 0) (fun i H v => ∃ d, ds[i]? = some d ∧ v = .bl (g d)) (fun i H H' v kp h => h) hS hl hD (fun i x H Q hx s k => ?_) fun vs H2 s2 hD2 hv2 hvs => hq H2 s2 ?_
  · have hlt := (List.getElem?_eq_some_iff.mp hx).1
    have hd : ds[i]? = some ds[i] := List.getElem?_eq_getElem (by omega)
    exact hte i x _ H Q hx hd s fun H' s' => k _ H' s' ⟨_, hd, rfl⟩
  · have ev : vs = (ds.map g).map V.bl := by
      refine List.ext_getElem? fun i => ?_
      rw [List.map_map, List.getElem?_map]
      cases e : vs[i]? with
      | none =>
        rw [List.getElem?_eq_none (by have := List.getElem?_eq_none_iff.mp e; omega)]
        rfl
      | some v =>
        obtain ⟨x, h1, h2⟩ := hvs i v e
        rw [h1, h2]
        rfl
    rw [hD2, ev]
/-- any walk over a list -/
theorem walkL {K : PySem.W.Frag} {a : Addr} {xs : List V} {GG : V → Hp → (Hp → Prop) → Prop} {H0 : Hp} {Qd : Hp → Prop} (Pv : Nat → Hp → Prop) (h0 : Pv 0 H0) (hl : ∀ i H, i ≤ xs.length → Pv i H → SqL K H a xs) (hs : ∀ i x H, xs[i]? = some x → Pv i H → GG x H (Pv (i + 1))) (hd : ∀ H, Pv xs.length H → Qd H) :
    ∃ W : Nat → Nat → Hp → Prop, (∃ m, W 0 m H0) ∧ ∀ i m H, W i m H →
      ((Itl K a).stop i H ∧ Qd H) ∨ ((Itl K a).go i H ∧ ∃ Nx : Hp → Prop, (∀ H', Nx H' → ∃ m', m' < m ∧ W (i + 1) m' H') ∧ ∀ x H', (Itl K a).yld i H x H' → GG x H' Nx) := by
  refine ⟨fun i m H => m = xs.length - i ∧ i ≤ xs.length ∧ Pv i H, ⟨xs.length, by simp, Nat.zero_le _, h0⟩, ?_⟩
  rintro i m H ⟨rfl, hi, p⟩
  have q := hl i H hi p
  by_cases hlt : i < xs.length
  · refine .inr ⟨⟨xs, xs[i], q, by simp [hlt]⟩, Pv (i + 1), fun H' p' => ⟨xs.length - (i + 1), by omega, rfl, hlt, p'⟩, fun x H' y => ?_⟩
    obtain ⟨e, y⟩ := y
    subst e
    exact hs i x _ (y xs q) p
  · have e : i = xs.length := by omega
    subst e
    exact .inl ⟨⟨xs, q, Nat.le_refl _⟩, hd H p⟩
theorem inV_strsX (t : Str) : ∀ nm : List Str, inV (V.str t) (nm.map V.str) = decide (t ∈ nm)
  | [] => by simp [inV]
  | z :: r => by
    have ih := inV_strsX t r
    unfold inV at ih ⊢
    rw [List.map_cons, List.any_cons, ih]
    show ((z == t) || _) = _
    by_cases e : z = t
    · subst e; simp
    · have e' : t ≠ z := fun q => e q.symm
      simp [e, e']
theorem anyMap {α : Type} (g : α → Bool) (l : List α) : (l.map g).any id = l.any g := by simp [List.any_map]
theorem allMap {α : Type} (g : α → Bool) (l : List α) : (l.map g).all id = l.all g := by simp [List.all_map]
/-! ### rows of a role: words ahead, a letter behind -/
abbrev Row := List Str × Tr
def IsRow (K : PySem.W.Frag) (H : Hp) (r : Row) (v : V) : Prop := ∃ (a : Addr) (u : V), v = .ref a ∧ H a = some (.tup (r.1.map V.str ++ [u])) ∧ IsLet K H r.2 u
def IsRowF (H : Hp) (r : Row) (v : V) : Prop := ∃ (a : Addr) (u : V), v = .ref a ∧ H a = some (.tup (r.1.map V.str ++ [u])) ∧ IsT H r.2 u
theorem IsRow.mono {K : PySem.W.Frag} {H H' : Hp} {r : Row} {v : V} (k : Kp (He.ga K "Letter") H H') (h : IsRow K H r v) : IsRow K H' r v := by
  obtain ⟨a, u, e, h1, h2⟩ := h
  exact ⟨a, u, e, k _ _ rfl h1, h2.mono k⟩
theorem IsRow.same {K : PySem.W.Frag} {H H' : Hp} {r : Row} {v : V} (s : Same H H') (h : IsRow K H r v) : IsRow K H' r v := h.mono (Kp.of_same s)
theorem IsRowF.mono {C : Addr} {H H' : Hp} {r : Row} {v : V} (k : Kp C H H') (h : IsRowF H r v) : IsRowF H' r v := by
  obtain ⟨a, u, e, h1, h2⟩ := h
  exact ⟨a, u, e, k _ _ rfl h1, h2.mono k⟩
theorem IsRowF.same {H H' : Hp} {r : Row} {v : V} (s : Same H H') (h : IsRowF H r v) : IsRowF H' r v := h.mono (C := 0) (Kp.of_same s)
structure RsAt (R : Hp → Row → V → Prop) (H : Hp) (rs : List Row) (vs : List V) : Prop where
  len : vs.length = rs.length
  get : ∀ (i : Nat) r v, rs[i]? = some r → vs[i]? = some v → R H r v
theorem RsAt.mp {R R' : Hp → Row → V → Prop} {H H' : Hp} {rs : List Row} {vs : List V} (h : RsAt R H rs vs) (f : ∀ r v, R H r v → R' H' r v) : RsAt R' H' rs vs := ⟨h.len, fun i r v a b => f r v (h.get i r v a b)⟩
theorem RsAt.at_ {R : Hp → Row → V → Prop} {H : Hp} {rs : List Row} {vs : List V} (h : RsAt R H rs vs) {i : Nat} {v : V} (hv : vs[i]? = some v) : ∃ r, rs[i]? = some r ∧ R H r v := by
  have hlt := (List.getElem?_eq_some_iff.mp hv).1
  have hl := h.len
  have hw : rs[i]? = some rs[i] := List.getElem?_eq_getElem (by omega)
  exact ⟨_, hw, h.get i _ _ hw hv⟩
theorem RsAt.nil {R : Hp → Row → V → Prop} {H : Hp} : RsAt R H [] [] := ⟨rfl, fun i r v h => by simp at h⟩
theorem RsAt.snoc {R : Hp → Row → V → Prop} {H : Hp} {rs : List Row} {vs : List V} {r : Row} {v : V} (h : RsAt R H rs vs) (g : R H r v) : RsAt R H (rs ++ [r]) (vs ++ [v]) := by
  have hl := h.len
  refine ⟨by rw [List.length_append, List.length_append, hl]; rfl, fun i p u a b => ?_⟩
  by_cases hi : i < rs.length
  · rw [List.getElem?_append_left hi] at a
    rw [List.getElem?_append_left (by omega)] at b
    exact h.get i p u a b
  · rw [List.getElem?_append_right (by omega)] at a
    rw [List.getElem?_append_right (by omega)] at b
    rw [hl] at b
    cases e : i - rs.length with
    | zero =>
      rw [e] at a b
      cases a
      cases b
      exact g
    | succ j =>
      rw [e] at a
      simp at a
/-- a row's shape: await, send, or claim with a text -/
def rowOk (r : Row) : Prop := (r.1 = (["await"] : List Str) ∨ r.1 = (["send"] : List Str) ∨ ∃ x : Str, r.1 = ([("claim" : Str), x] : List Str) ∧ x.length ≤ 200000) ∧ Wf r.2
def claimBad : List Str → Bool
  | [c, x] => decide (c = "claim") && !isWord x
  | _ => false
def badRow (r : Row) : Bool := hasDig r.2 || claimBad r.1
def badKnow (ps : List Str) (t : Tr) : Bool := hasDig t || (t.txt "unknown").any fun x => !decide (x ∈ ps)
def badFresh (known : List Tr) (x : Str) : Bool := !isFresh x || decide (Tr.am "name" x ∈ known)
/-- the first wrong field of a role -/
def badRole (z : Str) (ps : List Str) (ks : List Tr) (fr : List Str) (rs : List Row) : Option Str :=
  if isWord z = false then some "title" else if (!decide ps.Nodup || !ps.all isUnk) = true then some "params" else if ks.any (badKnow ps) = true then some "knows"
  else if (!decide fr.Nodup || fr.any (badFresh (allOf ks))) = true then some "fresh" else if rs.any badRow = true then some "rows" else none
def sp_chkRole (K : PySem.W.Frag) (d : Nat) : Sp := fun vs H Q E => ∃ (z : Str) (ap ak af ar : Addr) (ps fr : List Str) (ks : List Tr) (rs : List Row) (uk ur : List V), vs = [.str z, .ref ap, .ref ak, .ref af, .ref ar] ∧ z.length ≤ 200000 ∧
  H ap = some (.lst (ps.map V.str)) ∧ ps.length ≤ 100 ∧ (∀ x ∈ ps, x.length ≤ 200000) ∧ H ak = some (.lst uk) ∧ LsAt K H ks uk ∧ ks.length ≤ 100 ∧ (∀ t ∈ ks, Wf t ∧ t.dep ≤ d) ∧ d ≤ 10 ∧ H af = some (.lst (fr.map V.str)) ∧ fr.length ≤ 100 ∧ (∀ x ∈ fr, x.length ≤ 200000) ∧
  H ar = some (.lst ur) ∧ RsAt (IsRow K) H rs ur ∧ rs.length ≤ 100 ∧ (∀ r ∈ rs, rowOk r ∧ r.2.dep ≤ d) ∧
  (badRole z ps ks fr rs = none → ∀ H', Same H H' → Q .non H') ∧ ∀ f, badRole z ps ks fr rs = some f → ∀ dd H', Same H H' → H' dd = some (.xd [("field", .str f)]) → E (.ref (He.ga K "BadRole")) (some dd) H'
section
variable {P : Program} {w : World} {K : PySem.W.Frag} {mg : Str → Option Value} {base : Heap}
abbrev s_is_fresh : Stmt := top 39
theorem sc_is_fresh : FnScope ["name"] ["name"] (defScope s_is_fresh) := ⟨rfl, rfl, rfl, by decide +kernel, rfl, by decide +kernel, by decide +kernel⟩
theorem ok_is_fresh (T : Tx w K mg) : Fk P w K mg base CX0 2 "is_fresh" ["name"] (spTB isFresh) := by
  refine T.F_is_fresh.ok0 sc_is_fresh (fun _ _ _ _ _ _ us hl => match us, hl with | [_], _ => rfl)
    (fun vs H Q E h => ?_) (fun cdv A outer s H vs Q E hr h => ?_)
  · obtain ⟨z, rfl, _⟩ := h
    rfl
  · obtain ⟨z, rfl, hz, k⟩ := h
    have hl : z.length ≤ sizeLine := Nat.le_trans hz lineBig
    refine ⟨_, (pss_one (ps_ret (pe_and (pe_fk (ok_is_name T) (hr.mono (by omega)) rfl pass0 (pa_cons (pv 0) pa_nil)) (pe_and (pe_cmpR op_lt (pe_callB call_len_str (by rfl) T.z_len (by decide +kernel) (pa_cons (pv 0) pa_nil)) pe_int (nomark _)) (pe_one (pe_cmpR op_notIn_sign (pe_ix ix_str (pv 0) (pe_un un_neg pe_int) (fun _ _ => rfl)) (pe_gstr T.c_DIGITS) (by rfl))))))), ?_⟩
    refine ⟨_, rfl, z, rfl, hz, fun H1 s1 => ⟨_, rfl, ?_⟩⟩
    unfold isFresh at k
    cases hn : isName z with
    | false =>
      rw [hn, Bool.false_and] at k
      exact iteF (k _ s1)
    | true =>
      rw [hn, Bool.true_and] at k
      refine iteT ?_
      refine ⟨_, rfl, z, rfl, hl, _, _, rfl, rfl, _, rfl, ?_⟩
      have e8 : decide ((z.length : Int) < 8) = decide (z.length < 8) := decide_eq_decide.mpr ⟨fun h => by omega, fun h => by omega⟩
      show if (decide ((z.length : Int) < 8)) = true then _ else _
      rw [e8]
      cases h8 : decide (z.length < 8) with
      | false =>
        rw [h8, Bool.false_and] at k
        exact iteF (k _ s1)
      | true =>
        rw [h8, Bool.true_and] at k
        refine iteT ?_
        have hne : z.cps.toList ≠ [] := fun e => by
          have : 1 ≤ (Txt.rstripChars z DIGITS).length := of_decide_eq_true (He.ba hn).1
          have h3 := PyProof.Rows.len_rstripChars z DIGITS
          rw [len_list z, e] at h3
          simp at h3
          omega
        have hc : z.cps.toList.getLast? = some (z.cps.toList.getLast hne) := List.getLast?_eq_some_getLast hne
        refine ⟨_, rfl, _, rfl, z, -1, _, rfl, rfl, hl, atI_lastQ hc, _, _, rfl, rfl, ?_⟩
        have ee : endDig z = decide (z.cps.toList.getLast hne ∈ DIGITS.cps.toList) := by
          unfold endDig
          rw [hc]
          rfl
        rw [ee] at k
        exact k _ s1
abbrev s_BadRole_init : Stmt := inClass (top 7) 0
theorem sc_BadRole_init : FnScope ["self", "field"] ["self", "field"] (defScope s_BadRole_init) := ⟨rfl, rfl, rfl, by decide +kernel, rfl, by decide +kernel, by decide +kernel⟩
theorem ok_BadRole (T : Tx w K mg) : Fm P w K mg base CX0 1 "BadRole" "__init__" ["self", "field"] (spX1 K "field") := by
  refine T.X_BadRole.init.ok0 sc_BadRole_init (fun _ _ _ _ _ _ us hl => match us, hl with | [_, _], _ => rfl)
    (fun vs H Q E h => ?_) (fun cdv A outer s H vs Q E hr h => ?_)
  · obtain ⟨a, C, v, rfl, _⟩ := h
    rfl
  · obtain ⟨a, C, v, rfl, TC, no, ha, k⟩ := h
    refine ⟨_, (pss_cons (ps_expr (pe_reinit rfl T.g_RoadError T.r_RoadError (pa_cons (pv 0) (pa_cons pe_str pa_nil))))
  (pss_one (ps_ost (pv 0) (pv 1)))), ?_⟩
    refine ⟨_, rfl, a, C, [.str "role not allowed"], rfl, (by show 1 ≤ 1000; decide), TC, ha, _, rfl, _, rfl, a, C, rfl, TC, no, .inl ⟨ha, fun dx hdx ne => k dx hdx ne⟩⟩
abbrev s_check_role : Stmt := top 40
theorem sc_check_role : FnScope ["title", "params", "knows", "fresh", "rows", "text", "letter", "unknown", "known", "part", "name", "row"] ["title", "params", "knows", "fresh", "rows"] (defScope s_check_role) := ⟨rfl, rfl, rfl, by decide +kernel, rfl, by decide +kernel, by decide +kernel⟩
theorem ok_check_role (T : Tx w K mg) (d : Nat) : Fk P w K mg base (L2N.CX P w) (d + 6) "check_role" ["title", "params", "knows", "fresh", "rows"] (sp_chkRole K d) := by
  refine T.F_check_role.ok sc_check_role (fun _ _ _ _ _ _ us hl => match us, hl with | [_, _, _, _, _], _ => rfl)
    (fun vs H Q E h => ?_) (fun cdv A outer s H vs Q E hr h => ?_)
  · obtain ⟨z, ap, ak, af, ar, ps, fr, ks, rs, uk, ur, rfl, _⟩ := h
    rfl
  · obtain ⟨z, ap, ak, af, ar, ps, fr, ks, rs, uk, ur, rfl, hz, hap, hps, hpl, hak, hks, hkl, hkw, d10, haf, hfl, hfw, har, hrs, hrl, hrw, k1, k0⟩ := h
    refine ⟨_, (pss_cons (ps_if (pt_not (pt_val (pe_fk (ok_is_word T) (hr.mono (by omega)) rfl pass0 (pa_cons (pv 0) pa_nil))))
  (pss_one (L2N.ps_raise rfl (L2N.takes_of rfl rfl rfl rfl) (pmk_xN T.X_BadRole (ok_BadRole T) (hr.mono (by omega)) rfl (pa_cons pe_str pa_nil))))
  pss_nil)
  (pss_cons (ps_if (PW.pt (pw_or (pt_not (pt_val (pe_fk (ok_are_unlike T) (hr.mono (by omega)) rfl pass0 (pa_cons (pv 1) pa_nil)))) (pw_or1 (pt_not (pt_val (pe_callB (cr_all rfl) (by rfl) T.z_all (by decide +kernel) (pa_cons (pe_lc (own := [("text", 5)]) (g := gName 5) (tt := tYes) (by rfl) sc_check_role.nd (pi_list (pv 1)) (blkOk_by (own := [("text", 5)]) (N := ["title", "params", "knows", "fresh", "rows", "text", "letter", "unknown", "known", "part", "name", "row"]) (sc := defScope s_check_role) (by decide +kernel)) (fun _ _ _ _ _ => (pg_name (i := 5) sc_check_role.nd rfl (Or.inl rfl))) (fun _ _ _ _ _ => pts_nil) (fun _ _ _ _ _ => (pe_fk (ok_is_unknown T) (hr.mono (by omega)) rfl pass0 (pa_cons (pv 5) pa_nil)))) pa_nil)))))))
  (pss_one (L2N.ps_raise rfl (L2N.takes_of rfl rfl rfl rfl) (pmk_xN T.X_BadRole (ok_BadRole T) (hr.mono (by omega)) rfl (pa_cons pe_str pa_nil))))
  pss_nil)
  (pss_cons (ps_for (passes_of rfl) rfl (pi_list (pv 2)) (pg_name (i := 6) sc_check_role.nd rfl (Or.inl rfl))
  (pss_one (ps_if (PW.pt (pw_or (pt_val (pe_fk (ok_has_digits T d) (hr.mono (by omega)) rfl pass0 (pa_cons (pv 6) pa_nil))) (pw_or1 (pt_val (pe_callB (cr_any rfl) (by rfl) T.z_any (by decide +kernel) (pa_cons (pe_lc (own := [("unknown", 7)]) (g := gName 7) (tt := tYes) (by rfl) sc_check_role.nd (pi_list (pe_fm0 (pv 6) T.k_Letter (ok_unknowns T d) (hr.mono (by omega)) pass0)) (blkOk_by (own := [("unknown", 7)]) (N := ["title", "params", "knows", "fresh", "rows", "text", "letter", "unknown", "known", "part", "name", "row"]) (sc := defScope s_check_role) (by decide +kernel)) (fun _ _ _ _ _ => (pg_name (i := 7) sc_check_role.nd rfl (Or.inl rfl))) (fun _ _ _ _ _ => pts_nil) (fun _ _ _ _ _ => (pe_cmpR (kOp (r := fun K => rIn K true) (K := K) rfl op_notIn_seq) (pv 7) (pv 1) (by rfl)))) pa_nil))))))
  (pss_one (L2N.ps_raise rfl (L2N.takes_of rfl rfl rfl rfl) (pmk_xN T.X_BadRole (ok_BadRole T) (hr.mono (by omega)) rfl (pa_cons pe_str pa_nil))))
  pss_nil)))
  (pss_cons (ps_set (i := 8) sc_check_role.nd rfl (Or.inr rfl) (pe_lc2 (own := [("letter", 6), ("part", 9)]) (vs1 := [9]) (g := gName 6) (tt := tYes) (g1 := gName 9) (tt1 := tYes) (by rfl) sc_check_role.nd (pi_list (pv 2)) (blkOk_by (own := [("letter", 6), ("part", 9)]) (N := ["title", "params", "knows", "fresh", "rows", "text", "letter", "unknown", "known", "part", "name", "row"]) (sc := defScope s_check_role) (by decide +kernel)) (by decide) (fun _ _ _ _ _ => (pg_name (i := 6) sc_check_role.nd rfl (Or.inl rfl))) (fun _ _ _ _ _ => pts_nil) (fun _ _ _ _ _ => (pi_listk (K := K) rfl (pe_fk (ok_parts_of T d) (hr.mono (by omega)) rfl pass0 (pa_cons (pe_fldk (K := K) rfl (pv 6) rfl) pa_nil)))) (fun _ _ _ _ _ => (pg_name (i := 9) sc_check_role.nd rfl (Or.inl rfl))) (fun _ _ _ _ _ => pts_nil) (fun _ _ _ _ _ => (pv 9))))
  (pss_cons (ps_if (PW.pt (pw_or (pt_not (pt_val (pe_fk (ok_are_unlike T) (hr.mono (by omega)) rfl pass0 (pa_cons (pv 3) pa_nil)))) (pw_or1 (pt_val (pe_callB (cr_any rfl) (by rfl) T.z_any (by decide +kernel) (pa_cons (pe_lc (own := [("name", 10)]) (g := gName 10) (tt := tYes) (by rfl) sc_check_role.nd (pi_list (pv 3)) (blkOk_by (own := [("name", 10)]) (N := ["title", "params", "knows", "fresh", "rows", "text", "letter", "unknown", "known", "part", "name", "row"]) (sc := defScope s_check_role) (by decide +kernel)) (fun _ _ _ _ _ => (pg_name (i := 10) sc_check_role.nd rfl (Or.inl rfl))) (fun _ _ _ _ _ => pts_nil) (fun _ _ _ _ _ => (pe_or (pe_not (pe_fk (ok_is_fresh T) (hr.mono (by omega)) rfl pass0 (pa_cons (pv 10) pa_nil))) (pe_one (pe_cmpR (kOp (r := rInD) (K := K) rfl (op_inD hr.units65)) (pe_tup (pa_cons pe_str (pa_cons (pv 10) pa_nil))) (pv 8) (by rfl)))))) pa_nil))))))
  (pss_one (L2N.ps_raise rfl (L2N.takes_of rfl rfl rfl rfl) (pmk_xN T.X_BadRole (ok_BadRole T) (hr.mono (by omega)) rfl (pa_cons pe_str pa_nil))))
  pss_nil)
  (pss_one (ps_for (passes_of rfl) rfl (pi_list (pv 4)) (pg_name (i := 11) sc_check_role.nd rfl (Or.inl rfl))
  (pss_one (ps_if (PW.pt (pw_or (pt_val (pe_fk (ok_has_digits T d) (hr.mono (by omega)) rfl pass0 (pa_cons (pe_ix ix_tup (pv 11) (pe_un un_neg pe_int) (fun _ _ => rfl)) pa_nil))) (pw_or1 (PW.pt (pw_and (pt_cmpR op_eq (pe_ix ix_tup (pv 11) pe_int (fun _ _ => rfl)) pe_str (nomark _)) (pw_and1 (pt_not (pt_val (pe_fk (ok_is_word T) (hr.mono (by omega)) rfl pass0 (pa_cons (pe_ix ix_tup (pv 11) pe_int (fun _ _ => rfl)) pa_nil))))))))))
  (pss_one (L2N.ps_raise rfl (L2N.takes_of rfl rfl rfl rfl) (pmk_xN T.X_BadRole (ok_BadRole T) (hr.mono (by omega)) rfl (pa_cons pe_str pa_nil))))
  pss_nil))))))))), ?_⟩
    have big : 16777216 ≤ sizeLine := by decide
    have rz : ∀ {H1 : Hp} {σ : St} {f : Str}, Same H H1 → badRole z ps ks fr rs = some f → tMkO (He.ga K "BadRole") (spX1 K "field") [] (tCons (tC (.str f)) tNil) σ H1 (fun cls d H' => E cls d H') := fun {H1 σ f} s1 e =>
      rd_raise1 T.X_BadRole.oex T.X_BadRole.no fun dd H' s' nd hd => k0 f e dd H' (s1.trans s') hd
    refine seqIf (tb_not (b := isWord z) fun Q2 kq => ⟨_, rfl, z, rfl, hz, fun H1 s1 => ⟨_, rfl, kq _ s1⟩⟩) fun H1 s1 => ?_
    cases ez : isWord z with
    | false => exact iteT (rz s1 (by rw [badRole, if_pos ez]))
    | true =>
      refine iteF (nxt ?_)
      try dsimp only
      have e0 : badRole z ps ks fr rs = (if (!decide ps.Nodup || !ps.all isUnk) = true then some "params" else if ks.any (badKnow ps) = true then some "knows" else if (!decide fr.Nodup || fr.any (badFresh (allOf ks))) = true then some "fresh" else if rs.any badRow = true then some "rows" else none : Option Str) := by
        have nz : ¬ isWord z = false := by rw [ez]; decide
        unfold badRole
        exact if_neg nz
      refine seqIf (tb_or (b := !decide ps.Nodup) (c := !ps.all isUnk) (tb_not (b := decide ps.Nodup) fun Q2 kq => ⟨_, rfl, ap, ps, rfl, SqL.of (s1 _ _ hap), by omega, fun H2 s2 => ⟨_, rfl, kq _ s2⟩⟩) (fun H2 s2 _ => tb_not (b := ps.all isUnk) fun Q2 kq => ⟨_, rfl, ap, rfl, ⟨_, SqL.of (s2 _ _ (s1 _ _ hap))⟩, fun D hD => ?_⟩)) fun H2 s2 => ?_
      · refine lclB (ds := ps) isUnk (SqL.of (s2 _ _ (s1 _ _ hap))) (by rw [List.length_map]) (by rw [List.length_map]; omega) hD (fun i x y H3 Q3 hx hy s3 k3 => ?_) fun H3 s3 hD3 => ?_
        · rw [List.getElem?_map, hy] at hx
          cases hx
          exact ⟨_, rfl, y, rfl, hpl y (List.mem_of_getElem? hy), fun H4 s4 => k3 _ s4⟩
        · refine ⟨D, _, rfl, SqL.of hD3, _, rfl, ?_⟩
          rw [allMap]
          exact kq _ s3
      have S2 := s1.trans s2
      cases ep : (!decide ps.Nodup || !ps.all isUnk) with
      | true => exact iteT (rz S2 (by rw [e0, if_pos ep]))
      | false =>
        refine iteF (nxt ?_)
        try dsimp only
        rw [ep, if_neg (by decide)] at e0
        refine seqJoin (fun σ' H' => ks.any (badKnow ps) = false ∧ Same H H' ∧ ∃ t5 t6 t7 : Option V, σ' = [some (.str z), some (.ref ap), some (.ref ak), some (.ref af), some (.ref ar), t5, t6, t7, none, none, none, none]) (fun KK hK => ?_) ?_
        · refine ⟨_, rfl, ak, rfl, ⟨_, SqL.of (S2 _ _ hak)⟩, ?_⟩
          refine for_list (xs := uk) (fun i σ' H' => (ks.take i).any (badKnow ps) = false ∧ Same H H' ∧ ∃ t5 t6 t7 : Option V, σ' = [some (.str z), some (.ref ap), some (.ref ak), some (.ref af), some (.ref ar), t5, t6, t7, none, none, none, none]) ⟨rfl, S2, _, _, _, rfl⟩ ?_ ?_ ?_
          · rintro i σ' H' hi ⟨_, s', _⟩
            exact SqL.of (s' _ _ hak)
          · rintro i x σ' H' hx ⟨hno, s', t5, t6, t7, rfl⟩
            refine gName_k ?_
            try dsimp only
            have hlt := (List.getElem?_eq_some_iff.mp hx).1
            have hkl2 := hks.len
            have ht : ks[i]? = some ks[i] := List.getElem?_eq_getElem (by omega)
            obtain ⟨b, u, rfl, ⟨db, hb⟩, iu⟩ := (hks.get i _ x ht hx).same s'
            obtain ⟨wt, dt⟩ := hkw _ (List.mem_of_getElem? ht)
            have etk : ks.take (i + 1) = ks.take i ++ [ks[i]] := by rw [List.take_succ, ht]; rfl
            have emem : badKnow ps ks[i] = true → ks.any (badKnow ps) = true := fun e => List.any_eq_true.mpr ⟨_, List.mem_of_getElem? ht, e⟩
            generalize ks[i] = t at ht iu wt dt etk emem
            refine oneIf (b := badKnow ps t) (tb_or (b := hasDig t) (c := (t.txt "unknown").any fun x => !decide (x ∈ ps)) (fun Q2 kq => ⟨_, rfl, b, u, t, rfl, ⟨db, hb⟩, iu, wt, dt, d10, fun H3 s3 => ⟨_, rfl, kq _ s3⟩⟩) (fun H3 s3 _ Q2 kq => ⟨_, rfl, b, db, _, rfl, s3 _ _ hb, lookT (by decide +kernel), b, u, t, rfl, ⟨db, s3 _ _ hb⟩, iu.same s3, wt, dt, d10, fun p4 H4 s4 np4 hp4 => ⟨p4, rfl, ⟨_, SqL.of hp4⟩, fun D hD => ?_⟩⟩)) fun H3 s3 => ?_
            · have hul : (uniS (t.txt "unknown")).length ≤ 100000 := by
                have h1 := uniS_len (l := t.txt "unknown")
                have h2 := txts_len "unknown" t
                have hl1 := all_len t
                have hpw : 2 ^ (t.dep + 1) ≤ 2 ^ 11 := Nat.pow_le_pow_right (by decide) (by omega)
                omega
              refine lclB (ds := uniS (t.txt "unknown")) (fun x => !decide (x ∈ ps)) (SqL.of hp4) (by rw [List.length_map]) (by rw [List.length_map]; omega) hD (fun i x y H5 Q5 hx hy s5 k5 => ?_) fun H5 s5 hD5 => ?_
              · rw [List.getElem?_map, hy] at hx
                cases hx
                have fl : (ps.map V.str).all flatV = true := by rw [List.all_map]; exact List.all_eq_true.mpr fun _ _ => rfl
                refine ⟨_, rfl, _, rfl, ap, _, rfl, .inl (SqL.of ((((s'.trans s3).trans s4).trans s5) _ _ hap)), rfl, fl, ?_⟩
                rw [if_pos rfl, inV_strsX]
                exact k5 _ (Same.refl _)
              · refine ⟨D, _, rfl, SqL.of hD5, _, rfl, ?_⟩
                rw [anyMap]
                have e : (uniS (t.txt "unknown")).any (fun x => !decide (x ∈ ps)) = (t.txt "unknown").any (fun x => !decide (x ∈ ps)) := by
                  rw [Bool.eq_iff_iff, List.any_eq_true, List.any_eq_true]
                  exact ⟨fun ⟨x, hx, e⟩ => ⟨x, uniS_mem.mp hx, e⟩, fun ⟨x, hx, e⟩ => ⟨x, uniS_mem.mpr hx, e⟩⟩
                rw [e]
                exact kq _ (s4.trans s5)
            · cases eb : badKnow ps t with
              | true => exact iteT (rz (s'.trans s3) (by rw [e0, if_pos (emem eb)]))
              | false => exact iteF ⟨by rw [etk, List.any_append, hno, List.any_cons, eb]; rfl, s'.trans s3, _, _, _, rfl⟩
          · rintro σ' H' ⟨hno, s', t5, t6, t7, rfl⟩
            rw [hks.len, List.take_length] at hno
            exact hK _ _ ⟨hno, s', t5, t6, t7, rfl⟩
        rintro σ' H3 ⟨hno, S3, t5, t6, t7, rfl⟩
        rw [hno, if_neg (by decide)] at e0
        try dsimp only
        refine seqAsg ⟨_, rfl, ak, rfl, ⟨_, SqL.of (S3 _ _ hak)⟩, fun D hD => ?_⟩
        refine walkL (K := K) (a := ak) (xs := uk) (fun i Hc => ∃ vs, Same H3 Hc ∧ Hc D = some (.lst vs) ∧ TsAt Hc (allOf (ks.take i)) vs) ⟨[], Rd.Same.upd hD, upd_same, ⟨rfl, fun i t v h => by simp [allOf] at h⟩⟩ (fun i Hc _ ⟨_, sc, _⟩ => SqL.of (sc _ _ (S3 _ _ hak))) ?_ ?_
        · rintro i x Hc hx ⟨vs, sc, hDc, hvc⟩
          have hlt := (List.getElem?_eq_some_iff.mp hx).1
          have hkl2 := hks.len
          have ht : ks[i]? = some ks[i] := List.getElem?_eq_getElem (by omega)
          have Sc := S3.trans sc
          obtain ⟨b, u, rfl, ⟨db, hb⟩, iu⟩ := (hks.get i _ x ht hx).same Sc
          obtain ⟨wt, dt⟩ := hkw _ (List.mem_of_getElem? ht)
          have etk0 : ks.take (i + 1) = ks.take i ++ [ks[i]] := by rw [List.take_succ, ht]; rfl
          have etk : allOf (ks.take (i + 1)) = allOf (ks.take i) ++ ks[i].all := by
            unfold allOf
            rw [etk0, List.flatMap_append, List.flatMap_cons, List.flatMap_nil, List.append_nil]
          refine gName_k ⟨rfl, ?_⟩
          unfold tYes
          refine iteT ⟨_, rfl, b, _, db, _, u, rfl, hb, T.k_Letter, T.n_Letter_tree, look1 _, u, ks[i], rfl, iu, wt, dt, by omega, fun p4 w4 H4 s4 np4 hp4 ht4 => ⟨p4, rfl, ⟨_, SqL.of hp4⟩, ?_⟩⟩
          have nDp : p4 ≠ D := fun z => by rw [z, hDc] at np4; cases np4
          have hsz : vs.length + w4.length ≤ 1000000 := by
            have h1 := hvc.len
            have h2 := ht4.len
            have h3 : ∀ t ∈ ks, t.all.length ≤ 2048 := fun t ht => by
              have hl1 := all_len t
              have hpw : 2 ^ (t.dep + 1) ≤ 2 ^ 11 := Nat.pow_le_pow_right (by decide) (by have := (hkw t ht).2; omega)
              omega
            have h4 := h3 _ (List.mem_of_getElem? ht)
            have h5 := szs_le (l := ks.take i) (S := 2048) fun t ht => h3 t (List.mem_of_mem_take ht)
            rw [← allOf_len, List.length_take] at h5
            have h6 : min i ks.length * 2048 ≤ 100 * 2048 := Nat.mul_le_mul_right _ (by omega)
            omega
          refine walkL (K := K) (a := p4) (xs := w4) (fun j Hd => Hd D = some (.lst (vs ++ w4.take j)) ∧ (∀ c o, c ≠ D → H4 c = some o → Hd c = some o)) ⟨by rw [List.take_zero, List.append_nil]; exact s4 _ _ hDc, fun c o _ e => e⟩ (fun j Hd _ ⟨_, sd⟩ => SqL.of (sd _ _ nDp hp4)) ?_ ?_
          · rintro j y Hd hy ⟨hDd, sd⟩
            refine gName_k ⟨rfl, ?_⟩
            have etk2 : w4.take (j + 1) = w4.take j ++ [y] := by rw [List.take_succ, hy]; rfl
            have hjl := (List.getElem?_eq_some_iff.mp hy).1
            refine iteT ⟨_, rfl, _, hDd, by rw [List.length_append, List.length_take]; omega, by rw [upd_same, etk2, List.append_assoc], fun c o hc e => by rw [upd_ne hc]; exact sd c o hc e⟩
          · rintro Hd ⟨hDd, sd⟩
            rw [List.take_length] at hDd
            have nD3 : H3 D = none := hD
            have kp : Kp 0 H4 Hd := fun c o hi e => sd c o (fun z => by rw [z, s4 _ _ hDc] at e; cases e; cases hi) e
            refine ⟨_, fun c o e => sd c o (ne_of_none e nD3) (s4 _ _ (sc _ _ e)), hDd, ?_⟩
            rw [etk]
            exact ((hvc.same s4).mono kp).app (ht4.mono kp)
        · rintro H4 ⟨vs, s4, hD4, hv4⟩
          rw [hks.len, List.take_length] at hv4
          refine gName_k ?_
          try dsimp only
          have S4 := S3.trans s4
          have fkn : ∀ t ∈ allOf ks, t.fine ∧ t.dep ≤ 60 := fun t ht => by
            obtain ⟨u, hu, ht⟩ := List.mem_flatMap.mp ht
            obtain ⟨w1, w2⟩ := all_wf (hkw u hu).1 t ht
            exact ⟨w1.fine, by have := (hkw u hu).2; omega⟩
          refine seqIf (tb_or (b := !decide fr.Nodup) (c := fr.any (badFresh (allOf ks))) (tb_not (b := decide fr.Nodup) fun Q2 kq => ⟨_, rfl, af, fr, rfl, SqL.of (S4 _ _ haf), by omega, fun H5 s5 => ⟨_, rfl, kq _ s5⟩⟩) (fun H5 s5 _ Q2 kq => ⟨_, rfl, af, rfl, ⟨_, SqL.of (s5 _ _ (S4 _ _ haf))⟩, fun D2 hD2 => ?_⟩)) fun H5 s5 => ?_
          · refine lclB (ds := fr) (badFresh (allOf ks)) (SqL.of (s5 _ _ (S4 _ _ haf))) (by rw [List.length_map]) (by rw [List.length_map]; omega) hD2 (fun i x y H6 Q6 hx hy s6 k6 => ?_) fun H6 s6 hD6 => ?_
            · rw [List.getElem?_map, hy] at hx
              cases hx
              refine ⟨_, rfl, y, rfl, hfw y (List.mem_of_getElem? hy), fun H7 s7 => ⟨_, rfl, _, rfl, ?_⟩⟩
              unfold badFresh at k6
              cases ef : isFresh y with
              | false =>
                rw [ef] at k6
                exact iteT (k6 _ s7)
              | true =>
                rw [ef] at k6
                refine iteF ?_
                refine ⟨_, rfl, (by show 2 ≤ sizeLine; decide), fun q8 hq8 => ⟨_, rfl, ?_⟩⟩
                have s8 := Rd.Same.upd (o := .tup [.str "name", .str y]) hq8
                have S8 := ((s5.trans s6).trans s7).trans s8
                have fy : (Tr.am "name" y).fine ∧ (Tr.am "name" y).dep ≤ 60 := ⟨(kindOk.fine (.inr (.inl ⟨rfl, (He.ba ef).1⟩))), Nat.zero_le _⟩
                exact rd_inTs (u := .am "name" y) ⟨q8, rfl, upd_same⟩ fy (S8 _ _ hD4) (hv4.same S8) fkn (k6 _ (s7.trans s8))
            · refine ⟨D2, _, rfl, SqL.of hD6, _, rfl, ?_⟩
              rw [anyMap]
              exact kq _ s6
          have S5 := S4.trans s5
          cases ef : (!decide fr.Nodup || fr.any (badFresh (allOf ks))) with
          | true => exact iteT (rz S5 (by rw [e0, if_pos ef]))
          | false =>
            rw [ef, if_neg (by decide)] at e0
            refine iteF (nxt ?_)
            try dsimp only
            refine ⟨_, rfl, ar, rfl, ⟨_, SqL.of (S5 _ _ har)⟩, ?_⟩
            refine for_list (xs := ur) (fun i σ' H' => (rs.take i).any badRow = false ∧ Same H H' ∧ ∃ t6 t7 t8 t9 t10 t11 : Option V, σ' = [some (.str z), some (.ref ap), some (.ref ak), some (.ref af), some (.ref ar), t5, t6, t7, t8, t9, t10, t11]) ⟨rfl, S5, _, _, _, _, _, _, rfl⟩ ?_ ?_ ?_
            · rintro i σ' H' hi ⟨_, s', _⟩
              exact SqL.of (s' _ _ har)
            · rintro i x σ' H' hx ⟨hno, s', t6, t7, t8, t9, t10, t11, rfl⟩
              refine gName_k ?_
              try dsimp only
              obtain ⟨r, hr1, a0, u0, rfl, ha0, b, u, rfl, ⟨db, hb⟩, iu⟩ := (hrs.mp (R' := IsRow K) (H' := H') fun r v h => h.same s').at_ hx
              obtain ⟨⟨hk, wt⟩, dt⟩ := hrw _ (List.mem_of_getElem? hr1)
              have etk : rs.take (i + 1) = rs.take i ++ [r] := by rw [List.take_succ, hr1]; rfl
              have emem : badRow r = true → rs.any badRow = true := fun e => List.any_eq_true.mpr ⟨_, List.mem_of_getElem? hr1, e⟩
              obtain ⟨kk, t⟩ := r
              refine oneIf (b := badRow (kk, t)) (tb_or (b := hasDig t) (c := claimBad kk) (fun Q2 kq => ⟨_, rfl, _, rfl, a0, _, _, _, rfl, rfl, SqT.of ha0, atI_last _ _, b, u, t, rfl, ⟨db, hb⟩, iu, wt, dt, d10, fun H3 s3 => ⟨_, rfl, kq _ s3⟩⟩) (fun H3 s3 _ => ?_)) fun H3 s3 => ?_
              · have ha3 := s3 _ _ ha0
                rcases hk with hk | hk | ⟨y, hk, hy⟩
                · have hk : kk = (["await"] : List Str) := hk
                  subst hk
                  refine tb_and (b := false) (c := false) (fun Q2 kq => ⟨_, rfl, a0, _, _, _, rfl, rfl, SqT.of ha3, at_of (j := 0) rfl rfl, rfl, _, rfl, ?_⟩) (fun _ _ e => by cases e)
                  rw [decS]
                  exact kq _ (Same.refl _)
                · have hk : kk = (["send"] : List Str) := hk
                  subst hk
                  refine tb_and (b := false) (c := false) (fun Q2 kq => ⟨_, rfl, a0, _, _, _, rfl, rfl, SqT.of ha3, at_of (j := 0) rfl rfl, rfl, _, rfl, ?_⟩) (fun _ _ e => by cases e)
                  rw [decS]
                  exact kq _ (Same.refl _)
                · have hk : kk = (["claim", y] : List Str) := hk
                  subst hk
                  refine tb_and (b := true) (c := !isWord y) (fun Q2 kq => ⟨_, rfl, a0, _, _, _, rfl, rfl, SqT.of ha3, at_of (j := 0) rfl rfl, rfl, _, rfl, ?_⟩) (fun H4' s4' _ => tb_not (b := isWord y) fun Q2 kq => ⟨_, rfl, a0, _, _, _, rfl, rfl, SqT.of (s4' _ _ ha3), at_of (j := 1) rfl rfl, y, rfl, hy, fun H5' s5' => ⟨_, rfl, kq _ s5'⟩⟩)
                  rw [decS]
                  exact kq _ (Same.refl _)
              · cases eb : badRow (kk, t) with
                | true => exact iteT (rz (s'.trans s3) (by rw [e0, if_pos (emem eb)]))
                | false => exact iteF ⟨by rw [etk, List.any_append, hno, List.any_cons, eb]; rfl, s'.trans s3, _, _, _, _, _, _, rfl⟩
            · rintro σ' H' ⟨hno, s', t6, t7, t8, t9, t10, t11, rfl⟩
              rw [hrs.len, List.take_length] at hno
              rw [hno, if_neg (by decide)] at e0
              exact k1 e0 _ s'
end
end Rd
namespace Rd
open PySem L2
/-! ### lists of things, by any reading -/
structure AtL {β : Type} (R : Hp → β → V → Prop) (H : Hp) (bs : List β) (vs : List V) : Prop where
  len : vs.length = bs.length
  get : ∀ (i : Nat) b v, bs[i]? = some b → vs[i]? = some v → R H b v
theorem AtL.ts {H : Hp} {bs : List Tr} {vs : List V} (h : AtL IsT H bs vs) : TsAt H bs vs := ⟨h.len, h.get⟩
theorem AtL.nil {β : Type} {R : Hp → β → V → Prop} {H : Hp} : AtL R H [] [] := ⟨rfl, fun i r v h => by simp at h⟩
theorem AtL.snoc {β : Type} {R : Hp → β → V → Prop} {H : Hp} {rs : List β} {vs : List V} {r : β} {v : V} (h : AtL R H rs vs) (g : R H r v) : AtL R H (rs ++ [r]) (vs ++ [v]) := by
  have hl := h.len
  refine ⟨by rw [List.length_append, List.length_append, hl]; rfl, fun i p u a b => ?_⟩
  by_cases hi : i < rs.length
  · rw [List.getElem?_append_left hi] at a
    rw [List.getElem?_append_left (by omega)] at b
    exact h.get i p u a b
  · rw [List.getElem?_append_right (by omega)] at a
    rw [List.getElem?_append_right (by omega)] at b
    rw [hl] at b
    cases e : i - rs.length with
    | zero =>
      rw [e] at a b
      cases a
      cases b
      exact g
    | succ j =>
      rw [e] at a
      simp at a
theorem AtL.mp {β : Type} {R R' : Hp → β → V → Prop} {H H' : Hp} {rs : List β} {vs : List V} (h : AtL R H rs vs) (f : ∀ r v, R H r v → R' H' r v) : AtL R' H' rs vs := ⟨h.len, fun i r v a b => f r v (h.get i r v a b)⟩
/-- [te for x in xs if tt] -/
theorem lcg {α β : Type} {K : PySem.W.Frag} {C a D : Addr} {xs : List V} {ds : List α} {R : Hp → β → V → Prop} {tt : TT} {te : TE} {i0 : Nat} {σ : St} {H1 : Hp} {Qd : Hp → Prop} (p : α → Bool) (g : α → β) (rm : ∀ H H' b v, Kp C H H' → R H b v → R H' b v) (hS : SqL K H1 a xs) (he : xs.length = ds.length) (hl : xs.length ≤ 100000) (hD : H1 D = none)
    (htt : ∀ (i : Nat) (x : V) (d : α) (H : Hp) (Q : Bool → Hp → Prop), xs[i]? = some x → ds[i]? = some d → Same H1 H → (∀ H', Same H H' → Q (p d) H') → tt ((wipe σ [i0]).set i0 (some x)) H Q)
    (hte : ∀ (i : Nat) (x : V) (d : α) (H : Hp) (Q : VK), xs[i]? = some x → ds[i]? = some d → p d = true → Same H1 H → (∀ v H', Same H H' → R H' (g d) v → Q v H') → te ((wipe σ [i0]).set i0 (some x)) H Q)
    (hq : ∀ vs H', Same H1 H' → H' D = some (.lst vs) → AtL R H' ((ds.filter p).map g) vs → Qd H') :
    ∃ W : Nat → Nat → Hp → Prop, (∃ m, W 0 m (L2.upd H1 D (.lst []))) ∧ ∀ i m H, W i m H →
      ((Itl K a).stop i H ∧ Qd H) ∨ ((Itl K a).go i H ∧ ∃ Nx : Hp → Prop, (∀ H', Nx H' → ∃ m', m' < m ∧ W (i + 1) m' H') ∧ ∀ x H', (Itl K a).yld i H x H' → gName i0 x (wipe σ [i0]) H' fun σ2 H2 => wipe σ2 [i0] = wipe σ [i0] ∧ tt σ2 H2 fun b H3 =>
        if b = true then te σ2 H3 fun y H4 => ∃ acc, H4 D = some (.lst acc) ∧ acc.length < sizeLine ∧ Nx (L2.upd H4 D (.lst (acc ++ [y]))) else Nx H3) := by
  refine walkL (K := K) (a := a) (xs := xs) (fun i H => ∃ vs, Same H1 H ∧ H D = some (.lst vs) ∧ AtL R H (((ds.take i).filter p).map g) vs) ⟨[], Rd.Same.upd hD, upd_same, AtL.nil⟩ (fun i H _ ⟨_, s, _⟩ => SqL.kept hS s) ?_ ?_
  · rintro i x H hx ⟨vs, sm, hd, hv⟩
    have hlt := (List.getElem?_eq_some_iff.mp hx).1
    have ht : ds[i]? = some ds[i] := List.getElem?_eq_getElem (by omega)
    have etk : ds.take (i + 1) = ds.take i ++ [ds[i]] := by rw [List.take_succ, ht]; rfl
    refine gName_k ⟨by simp [wipe], ?_⟩
    refine htt i x _ H _ hx ht sm fun H2 s2 => ?_
    cases ep : p ds[i] with
    | false =>
      refine iteF ⟨vs, sm.trans s2, s2 _ _ hd, ?_⟩
      rw [etk, List.filter_append, List.filter_cons_of_neg (by rw [ep]; decide), List.filter_nil, List.append_nil]
      exact hv.mp fun r v h => rm _ _ _ _ (Kp.of_same s2) h
    | true =>
      refine iteT (hte i x _ H2 _ hx ht ep (sm.trans s2) fun v H3 s3 h3 => ?_)
      have hD3 := s3 _ _ (s2 _ _ hd)
      have kp := Kp.upd_lst (C := C) (ys := vs ++ [v]) hD3
      have hvl := hv.len
      have hfl : (((ds.take i).filter p).map g).length ≤ i := by
        rw [List.length_map]
        refine Nat.le_trans (List.length_filter_le _ _) ?_
        rw [List.length_take]
        omega
      have big : 16777216 ≤ sizeLine := by decide
      refine ⟨vs, hD3, by omega, vs ++ [v], fun c o e => ?_, upd_same, ?_⟩
      · rw [upd_ne (ne_of_none e hD)]
        exact s3 _ _ (s2 _ _ (sm _ _ e))
      · rw [etk, List.filter_append, List.filter_cons_of_pos ep, List.filter_nil, List.map_append]
        exact (hv.mp fun r v h => rm _ _ _ _ ((Kp.of_same (s2.trans s3)).trans kp) h).snoc (rm _ _ _ _ kp h3)
  · rintro H ⟨vs, sm, hd, hv⟩
    rw [he, List.take_length] at hv
    exact hq vs H sm hd hv
/-! ### opened parts, once and for all -/
theorem IsOpen.same {ts o1 o2 : List Tr} (h : IsOpen ts o1) (g : IsOpen ts o2) (t : Tr) : t ∈ o1 ↔ t ∈ o2 := ⟨h.least _ g.base g.pcl g.scl t, g.least _ h.base h.pcl h.scl t⟩
def AW : List Str := ["await"]
def unkT (x : Str) : Tr := .am "unknown" x
/-- the names and unknowns that a row brings: those of its unknowns that were not met -/
def news (met : List Str) (t : Tr) : List Str := (uniS (t.txt "unknown")).filter fun x => !decide (x ∈ met)
/-- a row that can be carried out, what is met and held behind it -/
inductive Fits (met : List Str) (held : List Tr) : Row → List Str → List Tr → Prop where
  | aw {kk : List Str} {t : Tr} {os ps : List Tr} (hk : kk = AW) (h1 : IsOpen (held ++ [t]) os) (h2 : ∀ x ∈ news met t, unkT x ∈ os) (h3 : IsOpen (held ++ (news met t).map unkT) ps) (h4 : seen ps t = true) : Fits met held (kk, t) (met ++ uniS (t.txt "unknown")) (held ++ (news met t).map unkT)
  | ot {kk : List Str} {t : Tr} {os : List Tr} (hk : kk ≠ AW) (h1 : news met t = []) (h2 : IsOpen held os) (h3 : mka os t = true) : Fits met held (kk, t) met held
/-- rows from index i on: the first that cannot be carried out -/
inductive Fit : Nat → List Str → List Tr → List Row → Option Nat → Prop where
  | nil {i : Nat} {met : List Str} {held : List Tr} : Fit i met held [] none
  | ok {i : Nat} {met met' : List Str} {held held' : List Tr} {r : Row} {rs : List Row} {o : Option Nat} (h : Fits met held r met' held') (g : Fit (i + 1) met' held' rs o) : Fit i met held (r :: rs) o
  | no {i : Nat} {met : List Str} {held : List Tr} {r : Row} {rs : List Row} (h : ∀ m h', ¬ Fits met held r m h') : Fit i met held (r :: rs) (some i)
def fitH (ps fr : List Str) (ks : List Tr) : List Tr := ks ++ (ps.map unkT ++ fr.map fun x => Tr.am "name" x)
def sp_chkFit (K : PySem.W.Frag) (d : Nat) : Sp := fun vs H Q E => ∃ (ap ak af ar : Addr) (ps fr : List Str) (ks : List Tr) (rs : List Row) (uk ur : List V) (S : Nat), vs = [.ref ap, .ref ak, .ref af, .ref ar] ∧
  H ap = some (.lst (ps.map V.str)) ∧ (∀ x ∈ ps, isUnk x = true) ∧ H ak = some (.lst uk) ∧ LsAt K H ks uk ∧ (∀ t ∈ ks, Wf t ∧ t.dep ≤ d ∧ t.all.length ≤ S) ∧ d ≤ 10 ∧ H af = some (.lst (fr.map V.str)) ∧ (∀ x ∈ fr, isName x = true) ∧
  H ar = some (.lst ur) ∧ RsAt (IsRow K) H rs ur ∧ (∀ r ∈ rs, rowOk r ∧ r.2.dep ≤ d ∧ r.2.all.length ≤ S) ∧ 1 ≤ S ∧ 2 * ((szs (fitH ps fr ks) + szs (rs.map (·.2))) * S) ≤ 100000 ∧
  (Fit 0 ps (fitH ps fr ks) rs none → ∀ H', Same H H' → Q .non H') ∧ ∀ i : Nat, Fit 0 ps (fitH ps fr ks) rs (some i) → ∀ dd H', Same H H' → H' dd = some (.xd [("index", .int (i : Int))]) → E (.ref (He.ga K "NotFit")) (some dd) H'
/-- a row fits or not, decided by the opened parts -/
theorem fits_aw {met : List Str} {held os ps : List Tr} {t : Tr} (h1 : IsOpen (held ++ [t]) os) (h3 : IsOpen (held ++ (news met t).map unkT) ps) : ((∀ x ∈ news met t, unkT x ∈ os) ∧ seen ps t = true → Fits met held (AW, t) (met ++ uniS (t.txt "unknown")) (held ++ (news met t).map unkT)) ∧
    (¬ ((∀ x ∈ news met t, unkT x ∈ os) ∧ seen ps t = true) → ∀ m h', ¬ Fits met held (AW, t) m h') := by
  refine ⟨fun ⟨a, b⟩ => .aw rfl h1 a h3 b, fun h m h' f => ?_⟩
  cases f with
  | aw _ g1 g2 g3 g4 =>
    refine h ⟨fun x hx => (g1.same h1 _).mp (g2 x hx), ?_⟩
    rw [← seen_congr (g3.same h3) t]
    exact g4
  | ot hk => exact hk rfl
theorem fits_ot {met : List Str} {held os : List Tr} {kk : List Str} {t : Tr} (hk : kk ≠ AW) (h2 : IsOpen held os) : (news met t = [] ∧ mka os t = true → Fits met held (kk, t) met held) ∧ (¬ (news met t = [] ∧ mka os t = true) → ∀ m h', ¬ Fits met held (kk, t) m h') := by
  refine ⟨fun ⟨a, b⟩ => .ot hk a h2 b, fun h m h' f => ?_⟩
  cases f with
  | aw e => exact hk e
  | ot _ g1 g2 g3 =>
    refine h ⟨g1, ?_⟩
    rw [← mka_congr (g2.same h2) t]
    exact g3
theorem news_len (met : List Str) (t : Tr) : (news met t).length ≤ t.all.length := by
  have h1 := uniS_len (l := t.txt "unknown")
  have h2 := txts_len "unknown" t
  have h3 := List.length_filter_le (fun x => !decide (x ∈ met)) (uniS (t.txt "unknown"))
  unfold news
  omega
theorem szs_am {α : Type} (f : α → Tr) (h : ∀ x, (f x).all.length = 1) : ∀ l : List α, szs (l.map f) = l.length
  | [] => rfl
  | x :: l => by
    have := szs_am f h l
    unfold szs at this ⊢
    rw [List.map_cons, List.map_cons, List.sum_cons, this, h, List.length_cons]
    omega
theorem szs_unk (l : List Str) : szs (l.map unkT) = l.length := szs_am unkT (fun _ => rfl) l
theorem txt_isUnkX {t : Tr} (wf : Wf t) : ∀ x ∈ t.txt "unknown", isUnk x = true := by
  induction t with
  | am k y =>
    intro x hx
    rcases wf.shp with ⟨_, _, e, ko⟩ | ⟨_, _, e, _⟩ | ⟨_, _, _, e, _⟩
    · cases e
      have hx : x ∈ (if k = "unknown" then [y] else []) := hx
      by_cases e : k = "unknown"
      · rw [if_pos e] at hx
        subst e
        rw [List.mem_singleton.mp hx]
        rcases ko with ⟨e, _⟩ | ⟨e, _⟩ | ⟨_, h⟩
        · exact absurd e (by decide +kernel)
        · exact absurd e (by decide +kernel)
        · exact h
      · rw [if_neg e] at hx
        cases hx
    · cases e
    · cases e
  | un s a ih =>
    rcases wf.shp with ⟨_, _, e, _⟩ | ⟨_, _, e, _, wa⟩ | ⟨_, _, _, e, _⟩
    · cases e
    · cases e; exact ih wa
    · cases e
  | bi s a b iha ihb =>
    rcases wf.shp with ⟨_, _, e, _⟩ | ⟨_, _, e, _⟩ | ⟨_, _, _, e, _, wa, wb⟩
    · cases e
    · cases e
    · cases e
      intro x hx
      rcases List.mem_append.mp hx with h | h
      · exact iha wa x h
      · exact ihb wb x h
theorem unkT_wf {x : Str} (h : isUnk x = true) : Wf (unkT x) := .am (.inr (.inr ⟨rfl, h⟩))
end Rd
namespace Rd
open PySem L2
theorem open_ex (ts : List Tr) : ∃ os, IsOpen ts os := by
  classical
  have key : ∀ {t : Tr}, t ∈ (allOf ts).filter (fun t => decide (∀ O' : List Tr, (∀ t ∈ ts, t ∈ O') → PCl O' → SCl O' O' → t ∈ O')) ↔ t ∈ allOf ts ∧ ∀ O' : List Tr, (∀ t ∈ ts, t ∈ O') → PCl O' → SCl O' O' → t ∈ O' := by
    intro t
    rw [List.mem_filter]
    simp only [decide_eq_true_eq]
  refine ⟨_, ⟨fun t ht => key.mpr ⟨allOf_base ts t ht, fun O' h _ _ => h t ht⟩, fun a b h => ?_, fun s c k ky h e m => ?_, fun O' h1 h2 h3 t ht => (key.mp ht).2 O' h1 h2 h3⟩⟩
  · obtain ⟨h1, h2⟩ := key.mp h
    obtain ⟨p1, p2⟩ := allOf_pcl ts a b h1
    exact ⟨key.mpr ⟨p1, fun O' g1 g2 g3 => (g2 a b (h2 O' g1 g2 g3)).1⟩, key.mpr ⟨p2, fun O' g1 g2 g3 => (g2 a b (h2 O' g1 g2 g3)).2⟩⟩
  · obtain ⟨h1, h2⟩ := key.mp h
    refine key.mpr ⟨allOf_scl ts s c k ky h1 e (mka_mono (fun t ht => (key.mp ht).1) m), fun O' g1 g2 g3 => g3 s c k ky (h2 O' g1 g2 g3) e (mka_mono (fun t ht => (key.mp ht).2 O' g1 g2 g3) m)⟩
theorem rowOk.head {r : Row} (h : rowOk r) : ∃ k0 kr, r.1 = k0 :: kr ∧ (k0 = "await" ↔ r.1 = AW) := by
  rcases h.1 with e | e | ⟨x, e, _⟩
  · exact ⟨_, _, e, by rw [e]; exact ⟨fun _ => rfl, fun _ => rfl⟩⟩
  · exact ⟨_, _, e, by rw [e]; exact ⟨fun z => absurd z (by decide +kernel), fun z => absurd z (by decide +kernel)⟩⟩
  · refine ⟨_, _, e, ?_⟩
    rw [e]
    refine ⟨fun z => absurd z (by decide +kernel), fun z => ?_⟩
    have := congrArg List.length z
    cases this
theorem szs_take {α : Type} (f : α → Tr) {rs : List α} {i : Nat} {r : α} (h : rs[i]? = some r) : szs ((rs.take (i + 1)).map f) = szs ((rs.take i).map f) + (f r).all.length ∧ szs ((rs.take (i + 1)).map f) ≤ szs (rs.map f) := by
  have etk : rs.take (i + 1) = rs.take i ++ [r] := by rw [List.take_succ, h]; rfl
  refine ⟨by rw [etk, List.map_append, szs_app]; rfl, ?_⟩
  have e : rs.map f = (rs.take (i + 1)).map f ++ (rs.drop (i + 1)).map f := by rw [← List.map_append, List.take_append_drop]
  rw [e, szs_app]
  exact Nat.le_add_right _ _
section
variable {P : Program} {w : World} {K : PySem.W.Frag} {mg : Str → Option Value} {base : Heap}
abbrev s_NotFit_init : Stmt := inClass (top 8) 0
theorem sc_NotFit_init : FnScope ["self", "index"] ["self", "index"] (defScope s_NotFit_init) := ⟨rfl, rfl, rfl, by decide +kernel, rfl, by decide +kernel, by decide +kernel⟩
theorem ok_NotFit (T : Tx w K mg) : Fm P w K mg base CX0 1 "NotFit" "__init__" ["self", "index"] (spX1 K "index") := by
  refine T.X_NotFit.init.ok0 sc_NotFit_init (fun _ _ _ _ _ _ us hl => match us, hl with | [_, _], _ => rfl)
    (fun vs H Q E h => ?_) (fun cdv A outer s H vs Q E hr h => ?_)
  · obtain ⟨a, C, v, rfl, _⟩ := h
    rfl
  · obtain ⟨a, C, v, rfl, TC, no, ha, k⟩ := h
    refine ⟨_, (pss_cons (ps_expr (pe_reinit rfl T.g_RoadError T.r_RoadError (pa_cons (pv 0) (pa_cons pe_str pa_nil))))
  (pss_one (ps_ost (pv 0) (pv 1)))), ?_⟩
    refine ⟨_, rfl, a, C, [.str "row not fit"], rfl, (by show 1 ≤ 1000; decide), TC, ha, _, rfl, _, rfl, a, C, rfl, TC, no, .inl ⟨ha, fun dx hdx ne => k dx hdx ne⟩⟩
abbrev s_check_fit : Stmt := top 42
theorem sc_check_fit : FnScope ["params", "knows", "fresh", "rows", "met", "held", "letter", "text", "name", "index", "row", "tree", "fresh_ones", "opened", "one"] ["params", "knows", "fresh", "rows"] (defScope s_check_fit) := ⟨rfl, rfl, rfl, by decide +kernel, rfl, by decide +kernel, by decide +kernel⟩
theorem ok_check_fit (T : Tx w K mg) (d : Nat) : Fk P w K mg base (L2N.CX P w) (d + 6) "check_fit" ["params", "knows", "fresh", "rows"] (sp_chkFit K d) := by
  refine T.F_check_fit.ok sc_check_fit (fun _ _ _ _ _ _ us hl => match us, hl with | [_, _, _, _], _ => rfl)
    (fun vs H Q E h => ?_) (fun cdv A outer s H vs Q E hr h => ?_)
  · obtain ⟨ap, ak, af, ar, ps, fr, ks, rs, uk, ur, S, rfl, _⟩ := h
    rfl
  · obtain ⟨ap, ak, af, ar, ps, fr, ks, rs, uk, ur, S, rfl, hap, hpu, hak, hks, hkw, d10, haf, hfn, har, hrs, hrw, hS1, hbig, k1, k0⟩ := h
    refine ⟨_, (pss_cons (ps_set (i := 4) sc_check_fit.nd rfl (Or.inr rfl) (pe_callTy call_list_of (by rfl) T.z_list (by decide +kernel) (pa_cons (pv 0) pa_nil)))
  (pss_cons (ps_setLc (i := 5) (own := [("letter", 6)]) (g := gName 6) (tt := tYes) (by rfl) sc_check_fit.nd rfl rfl (sw_true rfl rfl rfl (by decide +kernel)) (pi_list (pv 1)) (blkOk_by (own := [("letter", 6)]) (N := ["params", "knows", "fresh", "rows", "met", "held", "letter", "text", "name", "index", "row", "tree", "fresh_ones", "opened", "one"]) (sc := defScope s_check_fit) (by decide +kernel)) (fun _ _ _ _ _ => (pg_name (i := 6) sc_check_fit.nd rfl (Or.inl rfl))) (fun _ _ _ _ _ => pts_nil) (fun _ _ _ _ _ => (pe_fldk (K := K) rfl (pv 6) rfl)))
  (pss_cons (ps_expr (pe_bm PySem.F.plainAttrs_list PySem.F.slot_list_extend PySem.F.type_list_extend mt_extend (pv 5) (pa_cons (pe_op op_cat (pe_lc (own := [("text", 7)]) (g := gName 7) (tt := tYes) (by rfl) sc_check_fit.nd (pi_list (pv 0)) (blkOk_by (own := [("text", 7)]) (N := ["params", "knows", "fresh", "rows", "met", "held", "letter", "text", "name", "index", "row", "tree", "fresh_ones", "opened", "one"]) (sc := defScope s_check_fit) (by decide +kernel)) (fun _ _ _ _ _ => (pg_name (i := 7) sc_check_fit.nd rfl (Or.inl rfl))) (fun _ _ _ _ _ => pts_nil) (fun _ _ _ _ _ => (pe_tup (pa_cons pe_str (pa_cons (pv 7) pa_nil))))) (pe_lc (own := [("name", 8)]) (g := gName 8) (tt := tYes) (by rfl) sc_check_fit.nd (pi_list (pv 2)) (blkOk_by (own := [("name", 8)]) (N := ["params", "knows", "fresh", "rows", "met", "held", "letter", "text", "name", "index", "row", "tree", "fresh_ones", "opened", "one"]) (sc := defScope s_check_fit) (by decide +kernel)) (fun _ _ _ _ _ => (pg_name (i := 8) sc_check_fit.nd rfl (Or.inl rfl))) (fun _ _ _ _ _ => pts_nil) (fun _ _ _ _ _ => (pe_tup (pa_cons pe_str (pa_cons (pv 8) pa_nil)))))) pa_nil)))
  (pss_one (ps_for (passes_of rfl) rfl (pi_enum rfl T.z_enumerate (pa_cons (pv 3) pa_nil)) (pg_tup rfl (pgs_cons (pg_name (i := 9) sc_check_fit.nd rfl (Or.inl rfl)) (pgs_cons (pg_name (i := 10) sc_check_fit.nd rfl (Or.inl rfl)) pgs_nil)))
  (pss_cons (ps_set (i := 11) sc_check_fit.nd rfl (Or.inl rfl) (pe_fld (pe_ix ix_tup (pv 10) (pe_un un_neg pe_int) (fun _ _ => rfl)) rfl))
  (pss_cons (ps_setLc (i := 12) (own := [("text", 7)]) (g := gName 7)  (by rfl) sc_check_fit.nd rfl rfl (sw_true rfl rfl rfl (by decide +kernel)) (pi_list (pe_fm0 (pe_ix ix_tup (pv 10) (pe_un un_neg pe_int) (fun _ _ => rfl)) T.k_Letter (ok_unknowns T d) (hr.mono (by omega)) pass0)) (blkOk_by (own := [("text", 7)]) (N := ["params", "knows", "fresh", "rows", "met", "held", "letter", "text", "name", "index", "row", "tree", "fresh_ones", "opened", "one"]) (sc := defScope s_check_fit) (by decide +kernel)) (fun _ _ _ _ _ => (pg_name (i := 7) sc_check_fit.nd rfl (Or.inl rfl))) (fun _ _ _ _ _ => (pts_one (pt_cmpR (kOp (r := fun K => rIn K true) (K := K) rfl op_notIn_seq) (pv 7) (pv 4) (by rfl)))) (fun _ _ _ _ _ => (pe_tup (pa_cons pe_str (pa_cons (pv 7) pa_nil)))))
  (pss_one (ps_if (pt_cmpR op_eq (pe_ix ix_tup (pv 10) pe_int (fun _ _ => rfl)) pe_str (nomark _))
  (pss_cons (ps_set (i := 13) sc_check_fit.nd rfl (Or.inr rfl) (pe_fk (ok_opened_parts T d) (hr.mono (by omega)) rfl pass0 (pa_cons (pe_op op_cat (pv 5) (pe_lst (pa_cons (pv 11) pa_nil))) pa_nil)))
  (pss_cons (ps_if (pt_not (pt_val (pe_callB (cr_all rfl) (by rfl) T.z_all (by decide +kernel) (pa_cons (pe_lc (own := [("one", 14)]) (g := gName 14) (tt := tYes) (by rfl) sc_check_fit.nd (pi_list (pv 12)) (blkOk_by (own := [("one", 14)]) (N := ["params", "knows", "fresh", "rows", "met", "held", "letter", "text", "name", "index", "row", "tree", "fresh_ones", "opened", "one"]) (sc := defScope s_check_fit) (by decide +kernel)) (fun _ _ _ _ _ => (pg_name (i := 14) sc_check_fit.nd rfl (Or.inl rfl))) (fun _ _ _ _ _ => pts_nil) (fun _ _ _ _ _ => (pe_cmpR (kOp (r := rInD) (K := K) rfl (op_inD hr.units65)) (pv 14) (pv 13) (by rfl)))) pa_nil))))
  (pss_one (L2N.ps_raise rfl (L2N.takes_of rfl rfl rfl rfl) (pmk_xN T.X_NotFit (ok_NotFit T) (hr.mono (by omega)) rfl (pa_cons (pv 9) pa_nil))))
  pss_nil)
  (pss_cons (ps_expr (pe_bm PySem.F.plainAttrs_list PySem.F.slot_list_extend PySem.F.type_list_extend mt_extend (pv 5) (pa_cons (pv 12) pa_nil)))
  (pss_cons (ps_expr (pe_bm PySem.F.plainAttrs_list PySem.F.slot_list_extend PySem.F.type_list_extend mt_extend (pv 4) (pa_cons (pe_fm0 (pe_ix ix_tup (pv 10) (pe_un un_neg pe_int) (fun _ _ => rfl)) T.k_Letter (ok_unknowns T d) (hr.mono (by omega)) pass0) pa_nil)))
  (pss_one (ps_if (pt_not (pt_val (pe_fk (ok_is_seen_through T d) (hr.mono (by omega)) rfl pass0 (pa_cons (pv 11) (pa_cons (pe_fk (ok_opened_parts T d) (hr.mono (by omega)) rfl pass0 (pa_cons (pv 5) pa_nil)) pa_nil)))))
  (pss_one (L2N.ps_raise rfl (L2N.takes_of rfl rfl rfl rfl) (pmk_xN T.X_NotFit (ok_NotFit T) (hr.mono (by omega)) rfl (pa_cons (pv 9) pa_nil))))
  pss_nil))))))
  (pss_one (ps_if (PW.pt (pw_or (pt_truth (pv 12) (by intro _; rfl)) (pw_or1 (pt_not (pt_val (pe_fk (ok_is_made T d) (hr.mono (by omega)) rfl pass0 (pa_cons (pv 11) (pa_cons (pe_fk (ok_opened_parts T d) (hr.mono (by omega)) rfl pass0 (pa_cons (pv 5) pa_nil)) pa_nil))))))))
  (pss_one (L2N.ps_raise rfl (L2N.takes_of rfl rfl rfl rfl) (pmk_xN T.X_NotFit (ok_NotFit T) (hr.mono (by omega)) rfl (pa_cons (pv 9) pa_nil))))
  pss_nil))))))))))), ?_⟩
    have big : 16777216 ≤ sizeLine := by decide
    have hN : szs (fitH ps fr ks) + szs (rs.map (·.2)) ≤ 50000 := by
      have := Nat.mul_le_mul_left (szs (fitH ps fr ks) + szs (rs.map (·.2))) hS1
      omega
    have e0 : szs (fitH ps fr ks) = szs ks + (ps.length + fr.length) := by
      unfold fitH
      rw [szs_app, szs_app, szs_unk, szs_am (fun x => Tr.am "name" x) (fun _ => rfl)]
    have hkl := szs_len ks
    have hkl2 := hks.len
    refine seqAsg ⟨_, rfl, ap, _, rfl, .inl (SqL.of hap), fun M hM => ?_⟩
    refine gName_k ?_
    try dsimp only
    have sM := Rd.Same.upd (o := .lst (ps.map V.str)) hM
    have hM1 : upd H M (.lst (ps.map V.str)) M = some (.lst (ps.map V.str)) := upd_same
    generalize upd H M (.lst (ps.map V.str)) = H1 at sM hM1 ⊢
    refine seqAsg ⟨_, rfl, ak, rfl, ⟨_, SqL.of (sM _ _ hak)⟩, fun G hG => ?_⟩
    refine lcg (C := He.ga K "Letter") (R := IsT) (ds := ks) (fun _ => true) id (fun _ _ _ _ kp h => h.mono kp) (SqL.of (sM _ _ hak)) hkl2 (by omega) hG (fun i x t H2 Q2 hx ht s2 k2 => k2 _ (Same.refl _)) (fun i x t H2 Q2 hx ht _ s2 k2 => ?_) fun hv0 H2 s2 hG2 hv2 => ?_
    · obtain ⟨b, u, rfl, ⟨db, hb⟩, iu⟩ := (hks.get i t x ht hx).same (sM.trans s2)
      exact ⟨_, rfl, b, _, db, _, u, rfl, hb, T.k_Letter, T.n_Letter_tree, look1 _, k2 _ _ (Same.refl _) iu⟩
    have efl : (ks.filter (fun _ => true)).map id = ks := by simp
    rw [efl] at hv2
    have nGH : H G = none := sM.free hG
    have nGM : G ≠ M := fun z => by rw [z, hM1] at hG; cases hG
    refine gName_k ?_
    try dsimp only
    have S2 := sM.trans s2
    refine ⟨_, rfl, .inl ⟨rfl, _, SqL.of hG2⟩, ?_⟩
    refine ⟨_, rfl, ap, rfl, ⟨_, SqL.of (S2 _ _ hap)⟩, fun D1 hD1 => ?_⟩
    refine lcg (C := 0) (R := IsT) (ds := ps) (fun _ => true) unkT (fun _ _ _ _ kp h => h.mono kp) (SqL.of (S2 _ _ hap)) (by rw [List.length_map]) (by rw [List.length_map]; omega) hD1 (fun i x t H2 Q2 hx ht s2 k2 => k2 _ (Same.refl _)) (fun i x y H3 Q3 hx hy _ s3 k3 => ?_) fun v3 H3 s3 hD3 hv3 => ?_
    · rw [List.getElem?_map, hy] at hx
      cases hx
      exact ⟨_, rfl, (by show 2 ≤ sizeLine; decide), fun q hq => k3 _ _ (Rd.Same.upd hq) ⟨q, rfl, upd_same⟩⟩
    refine ⟨_, rfl, af, rfl, ⟨_, SqL.of ((S2.trans s3) _ _ haf)⟩, fun D2 hD2 => ?_⟩
    refine lcg (C := 0) (R := IsT) (ds := fr) (fun _ => true) (fun x => Tr.am "name" x) (fun _ _ _ _ kp h => h.mono kp) (SqL.of ((S2.trans s3) _ _ haf)) (by rw [List.length_map]) (by rw [List.length_map]; omega) hD2 (fun i x t H2 Q2 hx ht s2 k2 => k2 _ (Same.refl _)) (fun i x y H3 Q3 hx hy _ s3 k3 => ?_) fun v4 H4 s4 hD4 hv4 => ?_
    · rw [List.getElem?_map, hy] at hx
      cases hx
      exact ⟨_, rfl, (by show 2 ≤ sizeLine; decide), fun q hq => k3 _ _ (Rd.Same.upd hq) ⟨q, rfl, upd_same⟩⟩
    have ef3 : (ps.filter (fun _ => true)).map unkT = ps.map unkT := by rw [List.filter_eq_self.mpr (fun _ _ => rfl)]
    have ef4 : (fr.filter (fun _ => true)).map (fun x => Tr.am "name" x) = fr.map (fun x => Tr.am "name" x) := by rw [List.filter_eq_self.mpr (fun _ _ => rfl)]
    rw [ef3] at hv3
    rw [ef4] at hv4
    have l3 := hv3.len
    have l4 := hv4.len
    rw [List.length_map] at l3 l4
    refine ⟨D1, D2, v3, v4, rfl, rfl, s4 _ _ hD3, hD4, by omega, fun qc hqc => ?_⟩
    have sc5 := Rd.Same.upd (o := .lst (v3 ++ v4)) hqc
    have hqc1 : upd H4 qc (.lst (v3 ++ v4)) qc = some (.lst (v3 ++ v4)) := upd_same
    generalize upd H4 qc (.lst (v3 ++ v4)) = H5 at sc5 hqc1 ⊢
    have s25 := (s3.trans s4).trans sc5
    have hG5 := s25 _ _ hG2
    have lv0 := hv2.len
    refine ⟨G, qc, hv0, v3 ++ v4, rfl, rfl, hG5, hqc1, by rw [List.length_append]; omega, ?_⟩
    have kp5 := Kp.upd_lst (C := 0) (ys := hv0 ++ (v3 ++ v4)) hG5
    have hts5 : TsAt (upd H5 G (.lst (hv0 ++ (v3 ++ v4)))) (fitH ps fr ks) (hv0 ++ (v3 ++ v4)) := ((hv2.ts.same s25).mono kp5).app ((((hv3.ts.same s4).same sc5).mono kp5).app ((hv4.ts.same sc5).mono kp5))
    have S5 : Same H (upd H5 G (.lst (hv0 ++ (v3 ++ v4)))) := fun c o e => by
      rw [upd_ne (ne_of_none e nGH)]
      exact (S2.trans s25) _ _ e
    have hM5 : upd H5 G (.lst (hv0 ++ (v3 ++ v4))) M = some (.lst (ps.map V.str)) := by
      rw [upd_ne (Ne.symm nGM)]
      exact (s2.trans s25) _ _ hM1
    have hG6 : upd H5 G (.lst (hv0 ++ (v3 ++ v4))) G = some (.lst (hv0 ++ (v3 ++ v4))) := upd_same
    generalize upd H5 G (.lst (hv0 ++ (v3 ++ v4))) = H6 at hts5 S5 hM5 hG6 ⊢
    have wf0 : ∀ t ∈ fitH ps fr ks, Wf t ∧ t.dep ≤ d ∧ t.all.length ≤ S := fun t ht => by
      unfold fitH at ht
      rcases List.mem_append.mp ht with h | h
      · exact hkw t h
      · rcases List.mem_append.mp h with h | h
        · obtain ⟨x, hx, rfl⟩ := List.mem_map.mp h
          exact ⟨unkT_wf (hpu x hx), Nat.zero_le _, hS1⟩
        · obtain ⟨x, hx, rfl⟩ := List.mem_map.mp h
          exact ⟨.am (.inr (.inl ⟨rfl, hfn x hx⟩)), Nat.zero_le _, hS1⟩
    refine ⟨_, rfl, ar, ur, rfl, SqL.of (S5 _ _ har), ?_⟩
    have hrl := hrs.len
    refine ⟨fun i m σ Hc => m = ur.length - i ∧ i ≤ ur.length ∧ ∃ (met : List Str) (held : List Tr) (hv : List V) (t6 t7 t8 t9 t10 t11 t12 t13 t14 : Option V), σ = [some (.ref ap), some (.ref ak), some (.ref af), some (.ref ar), some (.ref M), some (.ref G), t6, t7, t8, t9, t10, t11, t12, t13, t14] ∧ Same H Hc ∧ Hc M = some (.lst (met.map V.str)) ∧ Hc G = some (.lst hv) ∧ TsAt Hc held hv ∧ (∀ t ∈ held, Wf t ∧ t.dep ≤ d ∧ t.all.length ≤ S) ∧ szs held ≤ szs (fitH ps fr ks) + szs ((rs.take i).map (·.2)) ∧ met.length ≤ ps.length + szs ((rs.take i).map (·.2)) ∧ ∀ o, Fit i met held (rs.drop i) o → Fit 0 ps (fitH ps fr ks) rs o, ⟨_, rfl, Nat.zero_le _, ps, fitH ps fr ks, _, _, _, _, _, _, _, _, _, _, rfl, S5, hM5, hG6, hts5, wf0, Nat.le_add_right _ _, Nat.le_add_right _ _, fun o h => h⟩, ?_⟩
    rintro i m σ Hc ⟨rfl, hi, met, held, hv, t6, t7, t8, t9, t10, t11, t12, t13, t14, rfl, Sc, hMc, hGc, htc, wfc, hsz, hml, hfit⟩
    by_cases hlt : i < ur.length
    · refine .inr ⟨⟨ur, ur[i], SqL.of (Sc _ _ har), List.getElem?_eq_getElem hlt⟩, fun σ Hc => ∃ (met : List Str) (held : List Tr) (hv : List V) (t6 t7 t8 t9 t10 t11 t12 t13 t14 : Option V), σ = [some (.ref ap), some (.ref ak), some (.ref af), some (.ref ar), some (.ref M), some (.ref G), t6, t7, t8, t9, t10, t11, t12, t13, t14] ∧ Same H Hc ∧ Hc M = some (.lst (met.map V.str)) ∧ Hc G = some (.lst hv) ∧ TsAt Hc held hv ∧ (∀ t ∈ held, Wf t ∧ t.dep ≤ d ∧ t.all.length ≤ S) ∧ szs held ≤ szs (fitH ps fr ks) + szs ((rs.take (i + 1)).map (·.2)) ∧ met.length ≤ ps.length + szs ((rs.take (i + 1)).map (·.2)) ∧ ∀ o, Fit (i + 1) met held (rs.drop (i + 1)) o → Fit 0 ps (fitH ps fr ks) rs o, fun σ' H' h => ⟨ur.length - (i + 1), by omega, rfl, hlt, h⟩, ?_⟩
      rintro _ _ ⟨Tq, v, rfl, hT, rfl, gx⟩
      have ex := gx _ (SqL.of (Sc _ _ har))
      have hr1 : rs[i]? = some rs[i] := List.getElem?_eq_getElem (by omega)
      obtain ⟨rok, dt, hSt⟩ := hrw _ (List.mem_of_getElem? hr1)
      obtain ⟨st1, st2⟩ := szs_take (·.2) hr1
      have edrop : rs.drop i = rs[i] :: rs.drop (i + 1) := List.drop_eq_getElem_cons (by omega)
      have hrow := hrs.get i _ v hr1 ex
      generalize rs[i] = r at hr1 rok dt hSt st1 st2 edrop hrow
      obtain ⟨k0', kr, ekk, hawt⟩ := rok.head
      obtain ⟨kk, t⟩ := r
      have ekk : kk = k0' :: kr := ekk
      have hawt : k0' = "await" ↔ kk = AW := hawt
      have wt : Wf t := rok.2
      have dt : t.dep ≤ d := dt
      have hSt : t.all.length ≤ S := hSt
      have st1 : szs ((rs.take (i + 1)).map (·.2)) = szs ((rs.take i).map (·.2)) + t.all.length := st1
      obtain ⟨a0, u0, rfl, ha0, b, u, rfl, ⟨db, hb⟩, iu⟩ := hrow
      have ha0 : H a0 = some (.tup (kk.map V.str ++ [.ref b])) := ha0
      have iu : IsT H t u := iu
      have sT := Rd.Same.upd (o := .tup [.int (i : Nat), .ref a0]) hT
      refine ⟨Tq, [.int (i : Nat), .ref a0], rfl, SqT.of upd_same, rfl, _, _, rfl, _, _, rfl, rfl, ?_⟩
      generalize upd Hc Tq (.tup [.int (i : Nat), .ref a0]) = H7 at sT ⊢
      have S7 := Sc.trans sT
      have hM7 := sT _ _ hMc
      have hG7 := sT _ _ hGc
      have ht7 := htc.same sT
      try dsimp only
      have rz : ∀ {H1 : Hp} {σ : St}, Same H H1 → (∀ m h', ¬ Fits met held (kk, t) m h') → σ[9]? = some (some (.int (i : Int))) → tMkO (He.ga K "NotFit") (spX1 K "index") [] (tCons (tVar 9) tNil) σ H1 (fun cls d H' => E cls d H') := fun {H1 σ} s1 hno e1 => by
        refine ⟨_, e1, rd_raise1 T.X_NotFit.oex T.X_NotFit.no fun dd H' s' nd hd => k0 i (hfit (some i) ?_) dd H' (s1.trans s') hd⟩
        rw [edrop]
        exact .no hno
      refine seqAsg ⟨_, rfl, _, rfl, a0, _, _, _, rfl, rfl, SqT.of (S7 _ _ ha0), atI_last _ _, b, _, db, _, u, rfl, S7 _ _ hb, T.k_Letter, T.n_Letter_tree, look1 _, ?_⟩
      refine gName_k ?_
      try dsimp only
      refine seqAsg ⟨_, rfl, _, rfl, a0, _, _, _, rfl, rfl, SqT.of (S7 _ _ ha0), atI_last _ _, b, db, _, rfl, S7 _ _ hb, lookT (by decide +kernel), b, u, t, rfl, ⟨db, S7 _ _ hb⟩, iu.same S7, wt, dt, d10, fun p8 H8 s8 np8 hp8 => ⟨p8, rfl, ⟨_, SqL.of hp8⟩, fun D hD => ?_⟩⟩
      have hul : (uniS (t.txt "unknown")).length ≤ t.all.length := by
        have h1 := uniS_len (l := t.txt "unknown")
        have h2 := txts_len "unknown" t
        omega
      refine lcg (C := 0) (R := IsT) (ds := uniS (t.txt "unknown")) (fun x => !decide (x ∈ met)) unkT (fun _ _ _ _ kp h => h.mono kp) (SqL.of hp8) (by rw [List.length_map]) (by rw [List.length_map]; omega) hD (fun i' x y H9 Q9 hx hy s9 k9 => ?_) (fun i' x y H9 Q9 hx hy _ s9 k9 => ?_) fun vn H9 s9 hD9 hn9 => ?_
      · rw [List.getElem?_map, hy] at hx
        cases hx
        have fl : (met.map V.str).all flatV = true := by rw [List.all_map]; exact List.all_eq_true.mpr fun _ _ => rfl
        refine ⟨_, rfl, _, rfl, M, _, rfl, .inl (SqL.of ((s8.trans s9) _ _ hM7)), rfl, fl, _, rfl, ?_⟩
        rw [if_pos rfl, inV_strsX]
        exact k9 _ (Same.refl _)
      · rw [List.getElem?_map, hy] at hx
        cases hx
        exact ⟨_, rfl, (by show 2 ≤ sizeLine; decide), fun q hq => k9 _ _ (Rd.Same.upd hq) ⟨q, rfl, upd_same⟩⟩
      have hn9 : AtL IsT H9 ((news met t).map unkT) vn := hn9
      have ln := hn9.len
      have lnw := news_len met t
      rw [List.length_map] at ln
      have s79 := s8.trans s9
      have S9 := S7.trans s79
      have hM9 := s79 _ _ hM7
      have hG9 := s79 _ _ hG7
      have ht9 := ht7.same s79
      have nwu : ∀ x ∈ news met t, isUnk x = true := fun x hx => txt_isUnkX wt x (uniS_mem.mp (List.mem_filter.mp hx).1)
      have wfn : ∀ y ∈ (news met t).map unkT, Wf y ∧ y.dep ≤ d ∧ y.all.length ≤ S := fun y hy => by
        obtain ⟨x, hx, rfl⟩ := List.mem_map.mp hy
        exact ⟨unkT_wf (nwu x hx), Nat.zero_le _, hS1⟩
      have lhv := htc.len
      have lhs := szs_len held
      refine gName_k ?_
      try dsimp only
      have ha9 := S9 _ _ ha0
      subst ekk
      refine ⟨_, rfl, a0, _, _, _, rfl, rfl, SqT.of ha9, at_of (j := 0) rfl rfl, rfl, _, rfl, ?_⟩
      rw [decS]
      have bigAll : ∀ {ts : List Tr}, szs ts ≤ szs (fitH ps fr ks) + szs (rs.map (·.2)) → 2 * ((allOf ts).length * S) ≤ 100000 ∧ (allOf ts).length ≤ 50000 := fun {ts} h => by
        rw [allOf_len]
        have := Nat.mul_le_mul_right S h
        omega
      have okDep : ∀ {ts : List Tr}, (∀ t ∈ ts, Wf t ∧ t.dep ≤ d ∧ t.all.length ≤ S) → ∀ t ∈ ts, t.fine ∧ t.dep ≤ 60 := fun {ts} h t ht => ⟨(h t ht).1.fine, by have := (h t ht).2.1; omega⟩
      by_cases haw : k0' = "await"
      · rw [decide_eq_true haw]
        refine iteT ?_
        have hkk := hawt.mp haw
        refine seqAsg ⟨_, rfl, _, rfl, (by show 1 ≤ sizeLine; decide), fun qL hqL => ?_⟩
        have sL := Rd.Same.upd (o := .lst [u]) hqL
        have hqL1 : upd H9 qL (.lst [u]) qL = some (.lst [u]) := upd_same
        generalize upd H9 qL (.lst [u]) = HL at sL hqL1 ⊢
        refine ⟨G, qL, hv, [u], rfl, rfl, sL _ _ hG9, hqL1, by rw [List.length_singleton]; omega, fun qC hqC => ?_⟩
        have sC := Rd.Same.upd (o := .lst (hv ++ [u])) hqC
        have hqC1 : upd HL qC (.lst (hv ++ [u])) qC = some (.lst (hv ++ [u])) := upd_same
        generalize upd HL qC (.lst (hv ++ [u])) = HC at sC hqC1 ⊢
        have s9C := sL.trans sC
        have SC := S9.trans s9C
        have wfh : ∀ y ∈ held ++ [t], Wf y ∧ y.dep ≤ d ∧ y.all.length ≤ S := fun y hy => by
          rcases List.mem_append.mp hy with h | h
          · exact wfc y h
          · rw [List.mem_singleton.mp h]
            exact ⟨wt, dt, hSt⟩
        have hszh : szs (held ++ [t]) ≤ szs (fitH ps fr ks) + szs (rs.map (·.2)) := by
          rw [szs_app, szs_one]
          omega
        obtain ⟨b1, b2⟩ := bigAll hszh
        refine ⟨qC, _, held ++ [t], S, rfl, hqC1, (ht9.same s9C).app (TsAt.one (iu.same SC)), wfh, by omega, b1, b2, fun qo uo os HO sO nqo hqo hto hopo hnd => ?_⟩
        refine gName_k ?_
        try dsimp only
        have wfo : ∀ y ∈ os, Wf y ∧ y.dep ≤ d ∧ y.all.length ≤ S := fun y hy => inAll_ok wfh (hopo.inAll y hy)
        have s9O := s9C.trans sO
        have SO := S9.trans s9O
        refine seqIf (tb_not (b := ((news met t).map unkT).all fun y => decide (y ∈ os)) fun Q2 kq => ⟨_, rfl, D, rfl, ⟨_, SqL.of (s9O _ _ hD9)⟩, fun D5 hD5 => ?_⟩) fun HQ sQ => ?_
        · refine lclB (ds := (news met t).map unkT) (fun y => decide (y ∈ os)) (SqL.of (s9O _ _ hD9)) (by rw [List.length_map]; exact ln) (by omega) hD5 (fun j x y H5' Q5 hx hy s5 k5 => ?_) fun H5' s5 hD5' => ?_
          · have iy := (hn9.get j y x hy hx).same (s9O.trans s5)
            have wy := wfn y (List.mem_of_getElem? hy)
            exact ⟨_, rfl, _, rfl, rd_inTs iy ⟨wy.1.fine, by have := wy.2.1; omega⟩ (s5 _ _ hqo) (hto.same s5) (okDep wfo) (k5 _ (Same.refl _))⟩
          · refine ⟨D5, _, rfl, SqL.of hD5', _, rfl, ?_⟩
            rw [allMap]
            exact kq _ s5
        have s9Q := s9O.trans sQ
        have SQ := S9.trans s9Q
        have eall : (((news met t).map unkT).all fun y => decide (y ∈ os)) = true ↔ ∀ x ∈ news met t, unkT x ∈ os := by
          rw [List.all_eq_true]
          exact ⟨fun h x hx => of_decide_eq_true (h _ (List.mem_map.mpr ⟨x, hx, rfl⟩)), fun h y hy => by
            obtain ⟨x, hx, rfl⟩ := List.mem_map.mp hy
            exact decide_eq_true (h x hx)⟩
        have hszn : szs (held ++ (news met t).map unkT) ≤ szs (fitH ps fr ks) + szs ((rs.take (i + 1)).map (·.2)) := by
          rw [szs_app, szs_unk]
          omega
        have wfhn : ∀ y ∈ held ++ (news met t).map unkT, Wf y ∧ y.dep ≤ d ∧ y.all.length ≤ S := fun y hy => by
          rcases List.mem_append.mp hy with h | h
          · exact wfc y h
          · exact wfn y h
        cases ea : (((news met t).map unkT).all fun y => decide (y ∈ os)) with
        | false =>
          refine iteT (rz SQ (fun m h' f => ?_) rfl)
          have hx : ¬ ∀ x ∈ news met t, unkT x ∈ os := fun z => by rw [eall.mpr z] at ea; cases ea
          cases f with
          | aw _ g1 g2 g3 g4 => exact hx fun x hx' => (g1.same hopo _).mp (g2 x hx')
          | ot hk' => exact hk' hkk
        | true =>
          refine iteF (nxt ?_)
          try dsimp only
          have hGQ := s9Q _ _ hG9
          have hDQ := s9Q _ _ hD9
          refine ⟨_, rfl, .inl ⟨rfl, _, SqL.of hGQ⟩, _, rfl, G, D, hv, vn, rfl, rfl, hGQ, hDQ, by omega, ?_⟩
          have kpG := Kp.upd_lst (C := 0) (ys := hv ++ vn) hGQ
          have htG : TsAt (upd HQ G (.lst (hv ++ vn))) (held ++ (news met t).map unkT) (hv ++ vn) := ((ht9.same s9Q).mono kpG).app ((hn9.ts.same s9Q).mono kpG)
          have SG : Same H (upd HQ G (.lst (hv ++ vn))) := fun c o e => by
            rw [upd_ne (ne_of_none e nGH)]
            exact SQ _ _ e
          have hMG : upd HQ G (.lst (hv ++ vn)) M = some (.lst (met.map V.str)) := by
            rw [upd_ne (Ne.symm nGM)]
            exact s9Q _ _ hM9
          have hGG : upd HQ G (.lst (hv ++ vn)) G = some (.lst (hv ++ vn)) := upd_same
          generalize upd HQ G (.lst (hv ++ vn)) = HG at htG SG hMG hGG ⊢
          try dsimp only
          refine ⟨_, rfl, .inl ⟨rfl, _, SqL.of hMG⟩, ?_⟩
          refine ⟨_, rfl, _, rfl, a0, _, _, _, rfl, rfl, SqT.of (SG _ _ ha0), atI_last _ _, b, db, _, rfl, SG _ _ hb, lookT (by decide +kernel), b, u, t, rfl, ⟨db, SG _ _ hb⟩, iu.same SG, wt, dt, d10, fun pU HU sU npU hpU => ?_⟩
          refine ⟨M, pU, _, _, rfl, rfl, sU _ _ hMG, hpU, by rw [List.length_map, List.length_map]; omega, ?_⟩
          have kpM := Kp.upd_lst (C := 0) (ys := met.map V.str ++ (uniS (t.txt "unknown")).map V.str) (sU _ _ hMG)
          have htM : TsAt (upd HU M (.lst (met.map V.str ++ (uniS (t.txt "unknown")).map V.str))) (held ++ (news met t).map unkT) (hv ++ vn) := (htG.same sU).mono kpM
          have SM : Same H (upd HU M (.lst (met.map V.str ++ (uniS (t.txt "unknown")).map V.str))) := fun c o e => by
            rw [upd_ne (ne_of_none e hM)]
            exact sU _ _ (SG _ _ e)
          have hGM : upd HU M (.lst (met.map V.str ++ (uniS (t.txt "unknown")).map V.str)) G = some (.lst (hv ++ vn)) := by
            rw [upd_ne nGM]
            exact sU _ _ hGG
          have hMM : upd HU M (.lst (met.map V.str ++ (uniS (t.txt "unknown")).map V.str)) M = some (.lst ((met ++ uniS (t.txt "unknown")).map V.str)) := by rw [upd_same, List.map_append]
          generalize upd HU M (.lst (met.map V.str ++ (uniS (t.txt "unknown")).map V.str)) = HM at htM SM hGM hMM ⊢
          try dsimp only
          obtain ⟨b3, b4⟩ := bigAll (Nat.le_trans hszn (by omega))
          refine ⟨_, rfl, _, rfl, G, _, held ++ (news met t).map unkT, S, rfl, hGM, htM, wfhn, by omega, b3, b4, fun qs us' ps' HS sS nqs hqs hts' hops _ => ?_⟩
          have wfs : ∀ y ∈ ps', Wf y ∧ y.dep ≤ d ∧ y.all.length ≤ S := fun y hy => inAll_ok wfhn (hops.inAll y hy)
          refine ⟨u, t, qs, us', ps', rfl, iu.same (SM.trans sS), wt, dt, by omega, hqs, hts', okDep wfs, fun HT sT' => ⟨_, rfl, ?_⟩⟩
          obtain ⟨f1, f0⟩ := fits_aw (met := met) hopo hops
          rw [← hkk] at f1 f0
          have ST := (SM.trans sS).trans sT'
          cases es : seen ps' t with
          | false =>
            refine iteT (rz ST (f0 fun z => ?_) rfl)
            rw [es] at z
            exact absurd z.2 (by decide)
          | true =>
            refine iteF (nxt ?_)
            try dsimp only
            have sMT := sS.trans sT'
            refine ⟨_, _, _, _, _, _, _, _, _, _, _, _, rfl, ST, sMT _ _ hMM, sMT _ _ hGM, htM.same sMT, wfhn, hszn, by rw [List.length_append]; omega, fun o ho => hfit o ?_⟩
            rw [edrop]
            exact .ok (f1 ⟨eall.mp ea, es⟩) ho
      · rw [decide_eq_false haw]
        refine iteF ?_
        have hkk : k0' :: kr ≠ AW := fun z => haw (hawt.mpr z)
        have szh : szs held ≤ szs (fitH ps fr ks) + szs (rs.map (·.2)) := by omega
        obtain ⟨b3, b4⟩ := bigAll szh
        have goal : ∀ {os : List Tr}, IsOpen held os → ((!vn.isEmpty || !mka os t) = true → ∀ m h', ¬ Fits met held (k0' :: kr, t) m h') ∧ ((!vn.isEmpty || !mka os t) = false → Fits met held (k0' :: kr, t) met held) := fun {os} hop => by
          obtain ⟨f1, f0⟩ := fits_ot (met := met) (t := t) hkk hop
          have en : vn.isEmpty = true ↔ news met t = [] := by
            rw [List.isEmpty_iff, ← List.length_eq_zero_iff, ln, List.length_eq_zero_iff]
          refine ⟨fun e => f0 fun z => ?_, fun e => f1 ?_⟩
          · rw [en.mpr z.1, z.2] at e
            cases e
          · have e := Bool.or_eq_false_iff.mp e
            exact ⟨en.mp (by simpa using e.1), by simpa using e.2⟩
        obtain ⟨oex, hoex⟩ : ∃ os, IsOpen held os := open_ex held
        refine oneIf (b := (!vn.isEmpty || !mka oex t)) (tb_or (b := !vn.isEmpty) (c := !mka oex t) (fun Q2 kq => ⟨_, rfl, !vn.isEmpty, .inl ⟨_, SqL.of hD9, rfl⟩, kq _ (Same.refl _)⟩) (fun HX sX _ => tb_not (b := mka oex t) fun Q2 kq => ⟨_, rfl, _, rfl, G, _, held, S, rfl, sX _ _ hG9, ht9.same sX, wfc, by omega, b3, b4, fun qs us' ps' HS sS nqs hqs hts' hops _ => ⟨u, t, qs, us', ps', rfl, iu.same ((S9.trans sX).trans sS), wt, dt, by omega, hqs, hts', okDep (fun y hy => inAll_ok wfc (hops.inAll y hy)), fun HT sT' => ⟨_, rfl, ?_⟩⟩⟩)) fun HT sT' => ?_
        · rw [mka_congr (hops.same hoex) t]
          exact kq _ (sS.trans sT')
        · obtain ⟨g1, g0⟩ := goal hoex
          cases eb : (!vn.isEmpty || !mka oex t) with
          | true => exact iteT (rz (S9.trans sT') (g1 eb) rfl)
          | false =>
            refine iteF (nxt ?_)
            try dsimp only
            refine ⟨met, held, hv, _, _, _, _, _, _, _, _, _, rfl, S9.trans sT', sT' _ _ hM9, sT' _ _ hG9, ht9.same sT', wfc, by omega, by omega, fun o ho => hfit o ?_⟩
            rw [edrop]
            exact .ok (g0 eb) ho
    · refine .inl ⟨⟨ur, SqL.of (Sc _ _ har), by omega⟩, ?_⟩
      refine k1 (hfit none ?_) _ Sc
      rw [List.drop_of_length_le (by omega)]
      exact .nil
end
end Rd
namespace Rd
open PySem L2
/-- what a role is made of -/
structure RoleD where
  ti : Str
  ps : List Str
  ks : List Tr
  fr : List Str
  rs : List Row
/-- the role at x -/
def IsRole (K : PySem.W.Frag) (H : Hp) (x : Addr) (r : RoleD) : Prop := ∃ (dx q tp tk tf tr : Addr) (uk ur : List V), H x = some (.ins (He.ga K "Role") dx [("title", .str r.ti), ("kept", .ref q)]) ∧ H q = some (.tup [.ref tp, .ref tk, .ref tf, .ref tr]) ∧
  H tp = some (.tup (r.ps.map V.str)) ∧ H tk = some (.tup uk) ∧ LsAt K H r.ks uk ∧ H tf = some (.tup (r.fr.map V.str)) ∧ H tr = some (.tup ur) ∧ RsAt (IsRow K) H r.rs ur
theorem IsRole.same {K : PySem.W.Frag} {H H' : Hp} {x : Addr} {r : RoleD} (s : Same H H') (h : IsRole K H x r) : IsRole K H' x r := by
  obtain ⟨dx, q, tp, tk, tf, tr, uk, ur, h1, h2, h3, h4, h5, h6, h7, h8⟩ := h
  exact ⟨dx, q, tp, tk, tf, tr, uk, ur, s _ _ h1, s _ _ h2, s _ _ h3, s _ _ h4, h5.same s, s _ _ h6, s _ _ h7, h8.mp fun r v h => h.same s⟩
/-- lists of a role, as they are passed -/
structure RoleIn (K : PySem.W.Frag) (H : Hp) (d S : Nat) (r : RoleD) (ap ak af ar : Addr) : Prop where
  hz : r.ti.length ≤ 200000
  hp : H ap = some (.lst (r.ps.map V.str)) ∧ r.ps.length ≤ 100 ∧ ∀ x ∈ r.ps, x.length ≤ 200000
  hk : ∃ uk, H ak = some (.lst uk) ∧ LsAt K H r.ks uk
  hkk : r.ks.length ≤ 100 ∧ ∀ t ∈ r.ks, Wf t ∧ t.dep ≤ d ∧ t.all.length ≤ S
  hf : H af = some (.lst (r.fr.map V.str)) ∧ r.fr.length ≤ 100 ∧ ∀ x ∈ r.fr, x.length ≤ 200000
  hr : ∃ ur, H ar = some (.lst ur) ∧ RsAt (IsRow K) H r.rs ur
  hrr : r.rs.length ≤ 100 ∧ ∀ y ∈ r.rs, rowOk y ∧ y.2.dep ≤ d ∧ y.2.all.length ≤ S
  hs : 1 ≤ S ∧ 2 * ((szs (fitH r.ps r.fr r.ks) + szs (r.rs.map (·.2))) * S) ≤ 100000
  hd : d ≤ 10
def RoleD.bad (r : RoleD) : Option Str := badRole r.ti r.ps r.ks r.fr r.rs
def RoleD.fit (r : RoleD) (o : Option Nat) : Prop := Fit 0 r.ps (fitH r.ps r.fr r.ks) r.rs o
theorem RoleD.good {r : RoleD} (h : r.bad = none) : (∀ x ∈ r.ps, isUnk x = true) ∧ ∀ x ∈ r.fr, isName x = true := by
  unfold RoleD.bad badRole at h
  split at h
  · cases h
  split at h
  · cases h
  rename_i h1
  split at h
  · cases h
  split at h
  · cases h
  rename_i h2
  have h1 : (!decide r.ps.Nodup || !r.ps.all isUnk) = false := by simpa using h1
  have h2 : (!decide r.fr.Nodup || r.fr.any (badFresh (allOf r.ks))) = false := by simpa using h2
  refine ⟨fun x hx => ?_, fun x hx => ?_⟩
  · have := (Bool.or_eq_false_iff.mp h1).2
    have : r.ps.all isUnk = true := by simpa using this
    exact List.all_eq_true.mp this x hx
  · have := (Bool.or_eq_false_iff.mp h2).2
    have := List.any_eq_false.mp this x hx
    have : badFresh (allOf r.ks) x = false := by simpa using this
    have := (Bool.or_eq_false_iff.mp this).1
    have : isFresh x = true := by simpa using this
    exact (He.ba this).1
def sp_Rinit (K : PySem.W.Frag) (d : Nat) : Sp := fun vs H Q E => ∃ (x dx ap ak af ar : Addr) (r : RoleD) (S : Nat), vs = [.ref x, .str r.ti, .ref ap, .ref ak, .ref af, .ref ar] ∧ H x = some (.ins (He.ga K "Role") dx []) ∧ RoleIn K H d S r ap ak af ar ∧
  (r.bad = none → r.fit none → ∀ H', But x H H' → IsRole K H' x r → Q .non H') ∧
  (∀ f, r.bad = some f → ∀ dd H', Same H H' → H' dd = some (.xd [("field", .str f)]) → E (.ref (He.ga K "BadRole")) (some dd) H') ∧
  ∀ i : Nat, r.bad = none → r.fit (some i) → ∀ dd H', Same H H' → H' dd = some (.xd [("index", .int (i : Int))]) → E (.ref (He.ga K "NotFit")) (some dd) H'
def sp_Rps (K : PySem.W.Frag) : Sp := fun vs H Q _ => ∃ (x : Addr) (r : RoleD), vs = [.ref x] ∧ IsRole K H x r ∧ ∀ q H', Same H H' → H q = none → H' q = some (.lst (r.ps.map V.str)) → Q (.ref q) H'
section
variable {P : Program} {w : World} {K : PySem.W.Frag} {mg : Str → Option Value} {base : Heap}
theorem lkT {a b : V} : ([("title", a), ("kept", b)] : List (Str × V)).lookup ("kept" : Str) = some b := by
  rw [List.lookup_cons, show (("kept" : Str) == "title") = false from by decide +kernel]
  simp [List.lookup]
abbrev s_Role_init : Stmt := inClass (top 43) 0
theorem sc_Role_init : FnScope ["self", "title", "params", "knows", "fresh", "rows"] ["self", "title", "params", "knows", "fresh", "rows"] (defScope s_Role_init) := ⟨rfl, rfl, rfl, by decide +kernel, rfl, by decide +kernel, by decide +kernel⟩
theorem ok_Rinit (T : Tx w K mg) (d : Nat) : Fm P w K mg base (L2N.CX P w) (d + 7) "Role" "__init__" ["self", "title", "params", "knows", "fresh", "rows"] (sp_Rinit K d) := by
  refine T.M_Role_init.ok sc_Role_init (fun _ _ _ _ _ _ us hl => match us, hl with | [_, _, _, _, _, _], _ => rfl)
    (fun vs H Q E h => ?_) (fun cdv A outer s H vs Q E hr h => ?_)
  · obtain ⟨x, dx, ap, ak, af, ar, r, S, rfl, _⟩ := h
    rfl
  · obtain ⟨x, dx, ap, ak, af, ar, r, S, rfl, hx, hin, k1, kb, kn⟩ := h
    refine ⟨_, (pss_cons (ps_expr (pe_fk (ok_check_role T d) (hr.mono (by omega)) rfl (L2N.passes_call (L2N.takes_of rfl rfl rfl rfl) (fun _ _ _ _ h => h)) (pa_cons (pv 1) (pa_cons (pv 2) (pa_cons (pv 3) (pa_cons (pv 4) (pa_cons (pv 5) pa_nil)))))))
  (pss_cons (ps_expr (pe_fk (ok_check_fit T d) (hr.mono (by omega)) rfl (L2N.passes_call (L2N.takes_of rfl rfl rfl rfl) (fun _ _ _ _ h => h)) (pa_cons (pv 2) (pa_cons (pv 3) (pa_cons (pv 4) (pa_cons (pv 5) pa_nil))))))
  (pss_cons (ps_fld (pv 0) (pv 1) rfl)
  (pss_one (ps_fld (pv 0) (pe_tup (pa_cons (pe_callTy call_tuple_of (by rfl) T.z_tuple (by decide +kernel) (pa_cons (pv 2) pa_nil)) (pa_cons (pe_callTy call_tuple_of (by rfl) T.z_tuple (by decide +kernel) (pa_cons (pv 3) pa_nil)) (pa_cons (pe_callTy call_tuple_of (by rfl) T.z_tuple (by decide +kernel) (pa_cons (pv 4) pa_nil)) (pa_cons (pe_callTy call_tuple_of (by rfl) T.z_tuple (by decide +kernel) (pa_cons (pv 5) pa_nil)) pa_nil))))) rfl))))), ?_⟩
    obtain ⟨uk, hak, hks⟩ := hin.hk
    obtain ⟨ur, har, hrs⟩ := hin.hr
    obtain ⟨hap, hpl, hpw⟩ := hin.hp
    obtain ⟨haf, hfl, hfw⟩ := hin.hf
    refine ⟨_, rfl, _, rfl, _, rfl, _, rfl, _, rfl, r.ti, ap, ak, af, ar, r.ps, r.fr, r.ks, r.rs, uk, ur, rfl, hin.hz, hap, hpl, hpw, hak, hks, hin.hkk.1, (fun t ht => ⟨(hin.hkk.2 t ht).1, (hin.hkk.2 t ht).2.1⟩), hin.hd, haf, hfl, hfw, har, hrs, hin.hrr.1, (fun y hy => ⟨(hin.hrr.2 y hy).1, (hin.hrr.2 y hy).2.1⟩), fun eb H1 s1 => ?_, fun f eb dd H1 s1 hd => kb f eb dd H1 s1 hd⟩
    have gd := RoleD.good (r := r) eb
    try dsimp only
    refine ⟨_, rfl, _, rfl, _, rfl, _, rfl, ap, ak, af, ar, r.ps, r.fr, r.ks, r.rs, uk, ur, S, rfl, s1 _ _ hap, gd.1, s1 _ _ hak, hks.same s1, hin.hkk.2, hin.hd, s1 _ _ haf, gd.2, s1 _ _ har, hrs.mp (fun r v h => h.same s1), hin.hrr.2, hin.hs.1, hin.hs.2, fun ef H2 s2 => ?_, fun i ef dd H2 s2 hd => kn i eb ef dd H2 (s1.trans s2) hd⟩
    try dsimp only
    have S2 := s1.trans s2
    have hx2 := S2 _ _ hx
    refine ⟨_, rfl, _, rfl, x, _, dx, [], rfl, hx2, T.k_Role, T.n_Role_title, (by show 0 < 1000; decide), ?_⟩
    have ep : putF "title" (V.str r.ti) [] = ([("title", V.str r.ti)] : List (Str × V)) := rfl
    rw [ep]
    have hx3 : upd H2 x (.ins (He.ga K "Role") dx [("title", .str r.ti)]) x = some (.ins (He.ga K "Role") dx [("title", .str r.ti)]) := upd_same
    have b3 : But x H (upd H2 x (.ins (He.ga K "Role") dx [("title", .str r.ti)])) := fun c o hc e => by
      rw [upd_ne hc]
      exact S2 _ _ e
    generalize upd H2 x (.ins (He.ga K "Role") dx [("title", .str r.ti)]) = H3 at hx3 b3 ⊢
    try dsimp only
    have nx : ∀ {c : Addr} {o : HO}, H c = some o → (∀ D, o ≠ .ins (He.ga K "Role") dx D) → H3 c = some o := fun {c o} e hne => b3 c o (fun z => by rw [z, hx] at e; cases e; exact hne _ rfl) e
    refine ⟨_, rfl, ap, _, rfl, .inl ⟨SqL.of (nx hap (fun _ z => by cases z)), fun tp htp => ?_⟩⟩
    have s4 := Rd.Same.upd (o := .tup (r.ps.map V.str)) htp
    have e4 : upd H3 tp (.tup (r.ps.map V.str)) tp = some (.tup (r.ps.map V.str)) := upd_same
    generalize upd H3 tp (.tup (r.ps.map V.str)) = H4 at s4 e4 ⊢
    refine ⟨_, rfl, ak, _, rfl, .inl ⟨SqL.of (s4 _ _ (nx hak (fun _ z => by cases z))), fun tk htk => ?_⟩⟩
    have s5 := Rd.Same.upd (o := .tup uk) htk
    have e5 : upd H4 tk (.tup uk) tk = some (.tup uk) := upd_same
    generalize upd H4 tk (.tup uk) = H5 at s5 e5 ⊢
    refine ⟨_, rfl, af, _, rfl, .inl ⟨SqL.of ((s4.trans s5) _ _ (nx haf (fun _ z => by cases z))), fun tf htf => ?_⟩⟩
    have s6 := Rd.Same.upd (o := .tup (r.fr.map V.str)) htf
    have e6 : upd H5 tf (.tup (r.fr.map V.str)) tf = some (.tup (r.fr.map V.str)) := upd_same
    generalize upd H5 tf (.tup (r.fr.map V.str)) = H6 at s6 e6 ⊢
    refine ⟨_, rfl, ar, _, rfl, .inl ⟨SqL.of (((s4.trans s5).trans s6) _ _ (nx har (fun _ z => by cases z))), fun tr htr => ?_⟩⟩
    have s7 := Rd.Same.upd (o := .tup ur) htr
    have e7 : upd H6 tr (.tup ur) tr = some (.tup ur) := upd_same
    generalize upd H6 tr (.tup ur) = H7 at s7 e7 ⊢
    refine ⟨(by show 4 ≤ sizeLine; decide), fun q hq => ?_⟩
    have s8 := Rd.Same.upd (o := .tup [.ref tp, .ref tk, .ref tf, .ref tr]) hq
    have e8 : upd H7 q (.tup [.ref tp, .ref tk, .ref tf, .ref tr]) q = some (.tup [.ref tp, .ref tk, .ref tf, .ref tr]) := upd_same
    generalize upd H7 q (.tup [.ref tp, .ref tk, .ref tf, .ref tr]) = H8 at s8 e8 ⊢
    have s38 := (((s4.trans s5).trans s6).trans s7).trans s8
    have hx8 := s38 _ _ hx3
    refine ⟨_, rfl, x, _, dx, _, rfl, hx8, T.k_Role, T.n_Role_kept, (by show 1 < 1000; decide), ?_⟩
    have ep2 : putF "kept" (V.ref q) ([("title", V.str r.ti)] : List (Str × V)) = ([("title", V.str r.ti), ("kept", V.ref q)] : List (Str × V)) := by
      unfold putF
      rfl
    rw [ep2]
    have kp : Kp (He.ga K "Letter") H (upd H8 x (.ins (He.ga K "Role") dx [("title", .str r.ti), ("kept", .ref q)])) := fun c o hi e => by
      have hc : c ≠ x := fun z => by
        rw [z, hx] at e
        cases e
        exact T.ne_Role (of_decide_eq_true hi)
      rw [upd_ne hc]
      exact s38 _ _ (b3 c o hc e)
    have tx : ∀ {c : Addr} {l : List V}, H8 c = some (.tup l) → upd H8 x (.ins (He.ga K "Role") dx [("title", .str r.ti), ("kept", .ref q)]) c = some (.tup l) := fun {c l} e => by
      rw [upd_ne (fun z => by rw [z, hx8] at e; cases e)]
      exact e
    refine k1 eb ef _ (fun c o hc e => by rw [upd_ne hc]; exact s38 _ _ (b3 c o hc e)) ⟨dx, q, tp, tk, tf, tr, uk, ur, upd_same, tx e8, tx ((((s5.trans s6).trans s7).trans s8) _ _ e4), tx (((s6.trans s7).trans s8) _ _ e5), hks.mono kp, tx ((s7.trans s8) _ _ e6), tx (s8 _ _ e7), hrs.mp fun y v h => h.mono kp⟩
abbrev s_Role_params : Stmt := inClass (top 43) 1
theorem sc_Role_params : FnScope ["self"] ["self"] (defScope s_Role_params) := ⟨rfl, rfl, rfl, by decide +kernel, rfl, by decide +kernel, by decide +kernel⟩
theorem ok_Rparams (T : Tx w K mg) : Fp P w K mg base CX0 1 "Role" "params" ["self"] (sp_Rps K) := by
  refine T.P_Role_params.ok0 sc_Role_params (fun _ _ _ _ _ _ us hl => match us, hl with | [_], _ => rfl)
    (fun vs H Q E h => ?_) (fun cdv A outer s H vs Q E hr h => ?_)
  · obtain ⟨x, r, rfl, _⟩ := h
    rfl
  · obtain ⟨x, r, rfl, ⟨dx, q, tp, tk, tf, tr, uk, ur, h1, h2, h3, h4, h5, h6, h7, h8⟩, k⟩ := h
    refine ⟨_, (pss_one (ps_ret (pe_callTy call_list_of (by rfl) T.z_list (by decide +kernel) (pa_cons (pe_ix ix_tup (pe_fld (pv 0) rfl) pe_int (fun _ _ => rfl)) pa_nil)))), ?_⟩
    refine ⟨_, rfl, x, _, dx, _, _, rfl, h1, T.k_Role, T.n_Role_kept, lkT, q, _, _, _, rfl, rfl, SqT.of h2, at_of (j := 0) rfl rfl, tp, _, rfl, .inr (SqT.of h3), fun q2 hq2 => ?_⟩
    exact k q2 _ (Rd.Same.upd hq2) hq2 upd_same
end
end Rd
namespace Rd
open PySem L2
theorem walkT {K : PySem.W.Frag} {a : Addr} {xs : List V} {GG : V → Hp → (Hp → Prop) → Prop} {H0 : Hp} {Qd : Hp → Prop} (Pv : Nat → Hp → Prop) (h0 : Pv 0 H0) (hl : ∀ i H, i ≤ xs.length → Pv i H → SqT K H a xs) (hs : ∀ i x H, xs[i]? = some x → Pv i H → GG x H (Pv (i + 1))) (hd : ∀ H, Pv xs.length H → Qd H) :
    ∃ W : Nat → Nat → Hp → Prop, (∃ m, W 0 m H0) ∧ ∀ i m H, W i m H →
      ((Itt K a).stop i H ∧ Qd H) ∨ ((Itt K a).go i H ∧ ∃ Nx : Hp → Prop, (∀ H', Nx H' → ∃ m', m' < m ∧ W (i + 1) m' H') ∧ ∀ x H', (Itt K a).yld i H x H' → GG x H' Nx) := by
  refine ⟨fun i m H => m = xs.length - i ∧ i ≤ xs.length ∧ Pv i H, ⟨xs.length, by simp, Nat.zero_le _, h0⟩, ?_⟩
  rintro i m H ⟨rfl, hi, p⟩
  have q := hl i H hi p
  by_cases hlt : i < xs.length
  · refine .inr ⟨⟨xs, xs[i], q, by simp [hlt]⟩, Pv (i + 1), fun H' p' => ⟨xs.length - (i + 1), by omega, rfl, hlt, p'⟩, fun x H' y => ?_⟩
    obtain ⟨e, y⟩ := y
    subst e
    exact hs i x _ (y xs q) p
  · have e : i = xs.length := by omega
    subst e
    exact .inl ⟨⟨xs, q, Nat.le_refl _⟩, hd H p⟩
/-- [te for x in a tuple if tt] -/
theorem lcgT {α β : Type} {K : PySem.W.Frag} {C a D : Addr} {xs : List V} {ds : List α} {R : Hp → β → V → Prop} {tt : TT} {te : TE} {i0 : Nat} {σ : St} {H1 : Hp} {Qd : Hp → Prop} (p : α → Bool) (g : α → β) (rm : ∀ H H' b v, Kp C H H' → R H b v → R H' b v) (hS : SqT K H1 a xs) (he : xs.length = ds.length) (hl : xs.length ≤ 100000) (hD : H1 D = none)
    (htt : ∀ (i : Nat) (x : V) (d : α) (H : Hp) (Q : Bool → Hp → Prop), xs[i]? = some x → ds[i]? = some d → Same H1 H → (∀ H', Same H H' → Q (p d) H') → tt ((wipe σ [i0]).set i0 (some x)) H Q)
    (hte : ∀ (i : Nat) (x : V) (d : α) (H : Hp) (Q : VK), xs[i]? = some x → ds[i]? = some d → p d = true → Same H1 H → (∀ v H', Same H H' → R H' (g d) v → Q v H') → te ((wipe σ [i0]).set i0 (some x)) H Q)
    (hq : ∀ vs H', Same H1 H' → H' D = some (.lst vs) → AtL R H' ((ds.filter p).map g) vs → Qd H') :
    ∃ W : Nat → Nat → Hp → Prop, (∃ m, W 0 m (L2.upd H1 D (.lst []))) ∧ ∀ i m H, W i m H →
      ((Itt K a).stop i H ∧ Qd H) ∨ ((Itt K a).go i H ∧ ∃ Nx : Hp → Prop, (∀ H', Nx H' → ∃ m', m' < m ∧ W (i + 1) m' H') ∧ ∀ x H', (Itt K a).yld i H x H' → gName i0 x (wipe σ [i0]) H' fun σ2 H2 => wipe σ2 [i0] = wipe σ [i0] ∧ tt σ2 H2 fun b H3 =>
        if b = true then te σ2 H3 fun y H4 => ∃ acc, H4 D = some (.lst acc) ∧ acc.length < sizeLine ∧ Nx (L2.upd H4 D (.lst (acc ++ [y]))) else Nx H3) := by
  refine walkT (K := K) (a := a) (xs := xs) (fun i H => ∃ vs, Same H1 H ∧ H D = some (.lst vs) ∧ AtL R H (((ds.take i).filter p).map g) vs) ⟨[], Rd.Same.upd hD, upd_same, AtL.nil⟩ (fun i H _ ⟨_, s, _⟩ => SqT.kept hS s) ?_ ?_
  · rintro i x H hx ⟨vs, sm, hd, hv⟩
    have hlt := (List.getElem?_eq_some_iff.mp hx).1
    have ht : ds[i]? = some ds[i] := List.getElem?_eq_getElem (by omega)
    have etk : ds.take (i + 1) = ds.take i ++ [ds[i]] := by rw [List.take_succ, ht]; rfl
    refine gName_k ⟨by simp [wipe], ?_⟩
    refine htt i x _ H _ hx ht sm fun H2 s2 => ?_
    cases ep : p ds[i] with
    | false =>
      refine iteF ⟨vs, sm.trans s2, s2 _ _ hd, ?_⟩
      rw [etk, List.filter_append, List.filter_cons_of_neg (by rw [ep]; decide), List.filter_nil, List.append_nil]
      exact hv.mp fun r v h => rm _ _ _ _ (Kp.of_same s2) h
    | true =>
      refine iteT (hte i x _ H2 _ hx ht ep (sm.trans s2) fun v H3 s3 h3 => ?_)
      have hD3 := s3 _ _ (s2 _ _ hd)
      have kp := Kp.upd_lst (C := C) (ys := vs ++ [v]) hD3
      have hvl := hv.len
      have hfl : (((ds.take i).filter p).map g).length ≤ i := by
        rw [List.length_map]
        refine Nat.le_trans (List.length_filter_le _ _) ?_
        rw [List.length_take]
        omega
      have big : 16777216 ≤ sizeLine := by decide
      refine ⟨vs, hD3, by omega, vs ++ [v], fun c o e => ?_, upd_same, ?_⟩
      · rw [upd_ne (ne_of_none e hD)]
        exact s3 _ _ (s2 _ _ (sm _ _ e))
      · rw [etk, List.filter_append, List.filter_cons_of_pos ep, List.filter_nil, List.map_append]
        exact (hv.mp fun r v h => rm _ _ _ _ ((Kp.of_same (s2.trans s3)).trans kp) h).snoc (rm _ _ _ _ kp h3)
  · rintro H ⟨vs, sm, hd, hv⟩
    rw [he, List.take_length] at hv
    exact hq vs H sm hd hv
theorem rd_notInTs {K : PySem.W.Frag} {H : Hp} {u : Tr} {ts : List Tr} {v : V} {p : Addr} {vs : List V} {Q : VK} (iu : IsT H u v) (fu : u.fine ∧ u.dep ≤ 60) (hp : H p = some (.lst vs)) (hts : TsAt H ts vs) (ft : ∀ t ∈ ts, t.fine ∧ t.dep ≤ 60) (q : Q (.bl (!decide (u ∈ ts))) H) : rNotInD K v (.ref p) H Q := by
  have h : rInD K v (.ref p) H (fun x H' => ∃ b, x = .bl b ∧ Q (.bl (!b)) H') := rd_inTs iu fu hp hts ft ⟨_, rfl, q⟩
  obtain ⟨d, ds, h1, h2, h3, h4, b, eb, h5⟩ := h
  cases eb
  exact ⟨d, ds, h1, h2, h3, h4, h5⟩
theorem rd_eqNil {K : PySem.W.Frag} {H : Hp} {ts : List Tr} {p q : Addr} {vs : List V} {Q : VK} (hp : H p = some (.lst vs)) (hts : TsAt H ts vs) (ft : ∀ t ∈ ts, t.fine ∧ t.dep ≤ 60) (hq : H q = some (.lst [])) (k : Q (.bl ts.isEmpty) H) : rEqD K (.ref p) (.ref q) H Q := by
  refine ⟨.list (ts.map dat), .list [], .lst (SqL.of hp) (dpAll_ts hts), .lst (SqL.of hq) .nil, ts_shaped ft, rfl, ?_⟩
  have e : PyData.eqv (.list (ts.map dat)) (.list []) = ts.isEmpty := by
    cases ts with
    | nil => rfl
    | cons t ts => rfl
  rw [e]
  exact k
/-! ### opened parts by rounds -/
def stepO (F : List Tr) : Tr → List Tr
  | .bi s a b => if s = "pair" then [a, b].filter (fun y => !decide (y ∈ F)) else match ukey (.bi s a b) with
    | some key => if (!decide (a ∈ F) && mka F key) = true then [a] else []
    | none => []
  | _ => []
def freshO (ts F : List Tr) : List Tr := ts.filter (fun y => !decide (y ∈ F)) ++ F.flatMap (stepO F)
structure OR (ts F : List Tr) : Prop where
  nd : F.Nodup
  least : ∀ O' : List Tr, (∀ t ∈ ts, t ∈ O') → PCl O' → SCl O' O' → ∀ t ∈ F, t ∈ O'
theorem OR.inAll {ts F : List Tr} (h : OR ts F) : ∀ t ∈ F, t ∈ allOf ts := h.least _ (allOf_base ts) (allOf_pcl ts) (allOf_scl ts)
theorem stepO_mem {F : List Tr} {t y : Tr} (h : y ∈ stepO F t) : y ∉ F ∧ ((∃ b, t = .bi "pair" y b) ∨ (∃ a, t = .bi "pair" a y) ∨ ∃ s k key, t = .bi s y k ∧ ukey t = some key ∧ mka F key = true) := by
  cases t with
  | am k x => cases h
  | un s a => cases h
  | bi s a b =>
    rw [stepO] at h
    by_cases e : s = "pair"
    · subst e
      rw [if_pos rfl] at h
      obtain ⟨h1, h2⟩ := List.mem_filter.mp h
      refine ⟨by simpa using h2, ?_⟩
      rcases List.mem_cons.mp h1 with rfl | h1
      · exact .inl ⟨b, rfl⟩
      · rw [List.mem_singleton.mp h1]
        exact .inr (.inl ⟨a, rfl⟩)
    · rw [if_neg e] at h
      cases ek : ukey (.bi s a b) with
      | none => rw [ek] at h; cases h
      | some key =>
        rw [ek] at h
        have h : y ∈ (if (!decide (a ∈ F) && mka F key) = true then [a] else []) := h
        by_cases ec : (!decide (a ∈ F) && mka F key) = true
        · rw [if_pos ec] at h
          rw [List.mem_singleton.mp h]
          obtain ⟨c1, c2⟩ := He.ba ec
          exact ⟨by simpa using c1, .inr (.inr ⟨s, b, key, rfl, rfl, c2⟩)⟩
        · rw [if_neg ec] at h
          cases h
theorem OR.fresh {ts F : List Tr} (h : OR ts F) {y : Tr} (hy : y ∈ freshO ts F) : y ∉ F ∧ ∀ O' : List Tr, (∀ t ∈ ts, t ∈ O') → PCl O' → SCl O' O' → y ∈ O' := by
  rcases List.mem_append.mp hy with g | g
  · obtain ⟨h1, h2⟩ := List.mem_filter.mp g
    exact ⟨by simpa using h2, fun O' b _ _ => b y h1⟩
  · obtain ⟨t, ht, g⟩ := List.mem_flatMap.mp g
    obtain ⟨g1, g2⟩ := stepO_mem g
    refine ⟨g1, fun O' b pc sc => ?_⟩
    have hO := h.least O' b pc sc
    rcases g2 with ⟨b', rfl⟩ | ⟨a', rfl⟩ | ⟨s, k, key, rfl, ek, em⟩
    · exact (pc _ _ (hO _ ht)).1
    · exact (pc _ _ (hO _ ht)).2
    · exact sc _ _ _ _ (hO _ ht) ek (mka_mono hO em)
theorem OR.done {ts F : List Tr} (h : OR ts F) (e : freshO ts F = []) : IsOpen ts F := by
  obtain ⟨e1, e2⟩ := List.append_eq_nil_iff.mp e
  have h1 : ∀ t ∈ ts, t ∈ F := fun t ht => by
    have := List.filter_eq_nil_iff.mp e1 t ht
    simpa using this
  have h2 : ∀ t ∈ F, stepO F t = [] := fun t ht => List.flatMap_eq_nil_iff.mp e2 t ht
  refine ⟨h1, fun a b hp => ?_, fun s c k key hb hk hm => ?_, h.least⟩
  · have := h2 _ hp
    rw [stepO, if_pos rfl] at this
    have := List.filter_eq_nil_iff.mp this
    exact ⟨by simpa using this a List.mem_cons_self, by simpa using this b (List.mem_cons_of_mem _ List.mem_cons_self)⟩
  · have := h2 _ hb
    by_cases e : s = "pair"
    · subst e
      have : ukey (.bi "pair" c k) = none := by
        show (if ("pair" : Str) = "seal" then some k else if ("pair" : Str) = "lock" then lkey k else none) = none
        rw [if_neg (by decide +kernel), if_neg (by decide +kernel)]
      rw [this] at hk
      cases hk
    · rw [stepO, if_neg e, hk] at this
      have this : (if (!decide (c ∈ F) && mka F key) = true then [c] else []) = ([] : List Tr) := this
      by_cases ec : c ∈ F
      · exact ec
      · rw [if_pos (by rw [hm, decide_eq_false ec]; rfl)] at this
        cases this
theorem OR.add {ts F : List Tr} (h : OR ts F) {y : Tr} (n : y ∉ F) (l : ∀ O' : List Tr, (∀ t ∈ ts, t ∈ O') → PCl O' → SCl O' O' → y ∈ O') : OR ts (F ++ [y]) := by
  refine ⟨?_, fun O' b pc sc t ht => ?_⟩
  · rw [List.nodup_append]
    refine ⟨h.nd, List.nodup_cons.mpr ⟨by simp, List.nodup_nil⟩, fun a ha b hb => ?_⟩
    rw [List.mem_singleton.mp hb]
    exact fun z => n (z ▸ ha)
  · rcases List.mem_append.mp ht with g | g
    · exact h.least O' b pc sc t g
    · rw [List.mem_singleton.mp g]
      exact l O' b pc sc
theorem OR.len {ts F : List Tr} (h : OR ts F) : F.length ≤ (allOf ts).length := nodup_sub h.nd h.inAll
end Rd
namespace Rd
open PySem L2
theorem pick_of {K : PySem.W.Frag} {p a : Addr} {xs us : List V} {n : Nat} {H : Hp} {Q : VK} {E : XK} (hp : H p = some (.lst xs)) (hx : StL (n + 1) xs) (ne : a ≠ p) (ha : H a = some (.lst us)) (h0 : 0 < us.length) (hb : us.length ≤ 1000)
    (k : ∀ v H' ys, v ∈ us → But p H H' → H' p = some (.lst ys) → StL n ys → Q v H') : sp_pick K [.ref p, .ref a] H Q E :=
  ⟨p, a, xs, us, n, rfl, hp, hx, SqL.of ha, SqL.of (by rw [upd_ne ne]; exact ha), h0, by omega, fun j v ys hj hy => k v _ ys (List.mem_of_getElem? hj) But.upd upd_same hy⟩
/-- all atoms of a form are among some -/
def Tr.leafIn (A : List Tr) : Tr → Prop
  | .am k x => Tr.am k x ∈ A
  | .un _ a => a.leafIn A
  | .bi _ a b => a.leafIn A ∧ b.leafIn A
def smS : Nat → Nat
  | 0 => 1
  | d + 1 => 2 * smS d + 2
theorem smS_pos (d : Nat) : 1 ≤ smS d := by cases d <;> simp [smS]
def dS (d : Nat) : Nat := 4 * 3 ^ d
structure Sml (d : Nat) (A : List Tr) (t : Tr) : Prop where
  wf : Wf t
  dp : t.dep ≤ 2 * d
  sz : t.all.length ≤ smS d
  lf : t.leafIn A
theorem all_un (s : Str) (a : Tr) : (Tr.un s a).all.length = a.all.length + 1 := by simp [Tr.all]
theorem all_bi (s : Str) (a b : Tr) : (Tr.bi s a b).all.length = a.all.length + b.all.length + 1 := by simp [Tr.all]
def sp_small (d : Nat) : Sp := fun vs H Q _ => ∃ (p u : Addr) (xs av : List V) (A : List Tr) (n : Nat), vs = [.ref p, .ref u, .int d] ∧ H p = some (.lst xs) ∧ StL (n + dS d) xs ∧ u ≠ p ∧ H u = some (.lst av) ∧ TsAt H A av ∧ 0 < A.length ∧ A.length ≤ 1000 ∧ (∀ t ∈ A, Wf t ∧ ∃ k x, t = .am k x) ∧
  ∀ t v ys H', But p H H' → H' p = some (.lst ys) → StL n ys → Sml d A t → IsT H' t v → Q v H'
def spU (D : Nat) : Sp := fun vs H Q E => ∃ d, d ≤ D ∧ sp_small d vs H Q E
def spSmR : Nat → Sp
  | 0 => fun _ _ _ _ => False
  | d + 1 => spU d
section
variable {P : Program} {w : World} {K : PySem.W.Frag} {mg : Str → Option Value} {base : Heap}
abbrev s__law_small : Stmt := top 54
theorem sc__law_small : FnScope ["_law_stream_here", "_law_atoms", "_law_deep", "_law_way", "_law_one", "_law_other"] ["_law_stream_here", "_law_atoms", "_law_deep"] (defScope s__law_small) := ⟨rfl, rfl, rfl, by decide +kernel, rfl, by decide +kernel, by decide +kernel⟩
theorem small_step (T : Tx w K mg) (D : Nat) (ih : Fk P w K mg base CX0 (D + 2) "_law_small" ["_law_stream_here", "_law_atoms", "_law_deep"] (spSmR D)) : Fk P w K mg base CX0 (D + 3) "_law_small" ["_law_stream_here", "_law_atoms", "_law_deep"] (spU D) := by
  refine T.F__law_small.ok0 sc__law_small (fun _ _ _ _ _ _ us hl => match us, hl with | [_, _, _], _ => rfl)
    (fun vs H Q E h => ?_) (fun cdv A outer s H vs Q E hr h => ?_)
  · obtain ⟨d, _, p, u, xs, av, AA, n, rfl, _⟩ := h
    rfl
  · obtain ⟨d, hdD, p, u, xs, av, AA, n, rfl, hp, hx, nup, hu, hA, hA0, hA1, hAw, k⟩ := h
    refine ⟨_, (pss_cons (ps_set (i := 3) sc__law_small.nd rfl (Or.inl rfl) (pe_ifExp (pt_cmpR op_gt (pv 2) pe_int (nomark _)) (pe_fk (ok__law_draw T) (hr.mono (by omega)) rfl pass0 (pa_cons (pv 0) (pa_cons pe_int pa_nil))) pe_int))
  (pss_cons (ps_if (pt_cmpR op_lt (pv 3) pe_int (nomark _))
  (pss_one (ps_ret (pe_fk (ok__law_pick T) (hr.mono (by omega)) rfl pass0 (pa_cons (pv 0) (pa_cons (pv 1) pa_nil)))))
  pss_nil)
  (pss_cons (ps_set (i := 4) sc__law_small.nd rfl (Or.inl rfl) (pe_fk ih (hr.mono (by omega)) rfl pass0 (pa_cons (pv 0) (pa_cons (pv 1) (pa_cons (pe_op op_sub (pv 2) pe_int) pa_nil)))))
  (pss_cons (ps_if (pt_cmpR op_eq (pv 3) pe_int (nomark _))
  (pss_one (ps_ret (pe_tup (pa_cons (pe_fk (ok__law_pick T) (hr.mono (by omega)) rfl pass0 (pa_cons (pv 0) (pa_cons (pe_lst (pa_cons pe_str (pa_cons pe_str (pa_cons pe_str pa_nil)))) pa_nil))) (pa_cons (pv 4) pa_nil)))))
  pss_nil)
  (pss_cons (ps_set (i := 5) sc__law_small.nd rfl (Or.inl rfl) (pe_fk ih (hr.mono (by omega)) rfl pass0 (pa_cons (pv 0) (pa_cons (pv 1) (pa_cons (pe_op op_sub (pv 2) pe_int) pa_nil)))))
  (pss_cons (ps_if (pt_cmpR op_eq (pv 3) pe_int (nomark _))
  (pss_one (ps_ret (pe_tup (pa_cons pe_str (pa_cons (pv 4) (pa_cons (pe_tup (pa_cons (pe_fk (ok__law_pick T) (hr.mono (by omega)) rfl pass0 (pa_cons (pv 0) (pa_cons (pe_lst (pa_cons pe_str (pa_cons pe_str pa_nil))) pa_nil))) (pa_cons (pv 5) pa_nil))) pa_nil))))))
  pss_nil)
  (pss_one (ps_ret (pe_tup (pa_cons (pe_ix ix_list (pe_lst (pa_cons pe_str (pa_cons pe_str pa_nil))) (pe_op op_mod (pe_callTy call_int1 (by rfl) T.z_int (by decide +kernel) (pa_cons (pv 3) pa_nil)) pe_int) (fun _ _ => rfl)) (pa_cons (pv 4) (pa_cons (pv 5) pa_nil)))))))))))), ?_⟩
    have hal := hA.len
    have d4 : 4 ≤ dS d := by
      have := Nat.pow_pos (n := d) (show 0 < 3 by decide)
      unfold dS
      omega
    have atomc : ∀ {H1 : Hp} {y1 : List V}, But p H H1 → H1 p = some (.lst y1) → StL (n + 1) y1 → sp_pick K [.ref p, .ref u] H1 Q E0 := fun {H1 y1} b hp1 hy => by
      refine pick_of hp1 hy nup (b u _ nup hu) (by omega) (by omega) fun v H' ys hv b' hp' hy' => ?_
      have kb : Kp 0 H H' := (b.trans b').kp hp
      obtain ⟨t, ht, it⟩ := (hA.mono kb).mem hv
      obtain ⟨wt, k', x', rfl⟩ := hAw t ht
      exact k _ v ys H' (b.trans b') hp' hy' ⟨wt, Nat.zero_le _, smS_pos d, ht⟩ it
    refine ⟨_, rfl, _, _, rfl, rfl, _, rfl, ite2 (fun h1 => ?_) (fun h1 => ?_)⟩
    · cases d with
      | zero => exact absurd (of_decide_eq_true h1) (by decide)
      | succ d =>
        obtain ⟨D', rfl⟩ : ∃ D', D = D' + 1 := ⟨D - 1, by omega⟩
        have hD : dS (d + 1) = 3 * dS d := by
          unfold dS
          rw [Nat.pow_succ]
          omega
        have dd4 : 4 ≤ dS d := by
          have := Nat.pow_pos (n := d) (show 0 < 3 by decide)
          unfold dS
          omega
        have ed : (((d + 1 : Nat) : Int) - 1) = (d : Int) := by omega
        have eS : smS (d + 1) = 2 * smS d + 2 := rfl
        refine rd_draw (m := 9) (n := n + 3 * dS d - 1) (by rfl) hp (hx.mono (by omega)) (by decide) (by decide) fun way H1 y1 hw b1 hp1 hy1 => ?_
        have hu1 := b1 u _ nup hu
        have hA1' : TsAt H1 AA av := hA.mono (C := 0) (b1.kp hp)
        refine gName_k ?_
        try dsimp only
        refine ⟨_, rfl, _, _, rfl, rfl, _, rfl, ite2 (fun h2 => ?_) (fun h2 => ?_)⟩
        · exact ⟨_, rfl, _, rfl, atomc b1 hp1 (hy1.mono (by omega))⟩
        refine ⟨_, rfl, _, rfl, _, rfl, _, _, rfl, rfl, d, by omega, p, u, y1, av, AA, n + 2 * dS d - 1, ?_, hp1, hy1.mono (by omega), nup, hu1, hA1', hA0, hA1, hAw, fun t1 v1 y2 H2 b2 hp2 hy2 sm1 it1 => ?_⟩
        · show [V.ref p, V.ref u, V.int (((d + 1 : Nat) : Int) - 1)] = _
          rw [ed]
        have hu2 := b2 u _ nup hu1
        have hA2 : TsAt H2 AA av := hA1'.mono (C := 0) (b2.kp hp1)
        have B2 := b1.trans b2
        have w1 := sm1.wf
        have d1 := sm1.dp
        have z1 := sm1.sz
        refine ⟨_, rfl, rfl, _, rfl, ite2 (fun h3 => ?_) (fun h3 => ?_)⟩
        · refine ⟨_, rfl, (by show 3 ≤ sizeLine; decide), fun ql hql => ?_⟩
          have sl := Rd.Same.upd (o := .lst [.str "mark", .str "open", .str "own"]) hql
          have nlp : ql ≠ p := fun z => by rw [z, hp2] at hql; cases hql
          have hql1 : upd H2 ql (.lst [.str "mark", .str "open", .str "own"]) ql = some (.lst [.str "mark", .str "open", .str "own"]) := upd_same
          generalize upd H2 ql (.lst [.str "mark", .str "open", .str "own"]) = HL at sl hql1 ⊢
          refine ⟨p, ql, y2, _, n, rfl, sl _ _ hp2, hy2.mono (by omega), SqL.of hql1, SqL.of (by rw [upd_ne nlp]; exact hql1), (by show 0 < 3; decide), (by show 3 < 1073741824; decide), fun j v y3 hj hy3 => ?_⟩
          have hv := List.mem_of_getElem? hj
          have b3 : But p HL (upd HL p (.lst y3)) := But.upd
          have hp3 : upd HL p (.lst y3) p = some (.lst y3) := upd_same
          generalize upd HL p (.lst y3) = H3 at b3 hp3 ⊢
          obtain ⟨s3, rfl, hs3⟩ : ∃ s3 : Str, v = .str s3 ∧ s3 ∈ (["mark", "open", "own"] : List Str) := str_of hv (by decide +kernel)
          refine ⟨_, rfl, (by show 2 ≤ sizeLine; decide), fun q hq => ?_⟩
          refine k (.un s3 t1) _ y3 _ (((B2.trans (But.of_same sl)).trans b3).trans (But.new hq)) (by rw [upd_ne (ne_of_none hp3 hq)]; exact hp3) hy3 ⟨.un hs3 w1, by show t1.dep + 1 ≤ 2 * (d + 1); omega, by rw [all_un]; omega, sm1.lf⟩ ⟨q, v1, rfl, upd_same, ((it1.same sl).but b3 (sl _ _ hp2)).same (Rd.Same.upd hq)⟩
        refine ⟨_, rfl, _, rfl, _, rfl, _, _, rfl, rfl, d, by omega, p, u, y2, av, AA, n + dS d - 1, ?_, hp2, hy2.mono (by omega), nup, hu2, hA2, hA0, hA1, hAw, fun t2 v2 y3 H3 b3 hp3 hy3 sm2 it2 => ?_⟩
        · show [V.ref p, V.ref u, V.int (((d + 1 : Nat) : Int) - 1)] = _
          rw [ed]
        have B3 := B2.trans b3
        have it1' := it1.but b3 hp2
        have w2 := sm2.wf
        have d2 := sm2.dp
        have z2 := sm2.sz
        refine ⟨_, rfl, rfl, _, rfl, ite2 (fun h4 => ?_) (fun h4 => ?_)⟩
        · refine ⟨_, rfl, _, rfl, (by show 2 ≤ sizeLine; decide), fun ql hql => ?_⟩
          have sl := Rd.Same.upd (o := .lst [.str "open", .str "own"]) hql
          have nlp : ql ≠ p := fun z => by rw [z, hp3] at hql; cases hql
          have hql1 : upd H3 ql (.lst [.str "open", .str "own"]) ql = some (.lst [.str "open", .str "own"]) := upd_same
          generalize upd H3 ql (.lst [.str "open", .str "own"]) = HL at sl hql1 ⊢
          refine ⟨p, ql, y3, _, n, rfl, sl _ _ hp3, hy3.mono (by omega), SqL.of hql1, SqL.of (by rw [upd_ne nlp]; exact hql1), (by show 0 < 2; decide), (by show 2 < 1073741824; decide), fun j v y4 hj hy4 => ?_⟩
          have hv := List.mem_of_getElem? hj
          have b4 : But p HL (upd HL p (.lst y4)) := But.upd
          have hp4 : upd HL p (.lst y4) p = some (.lst y4) := upd_same
          generalize upd HL p (.lst y4) = H4 at b4 hp4 ⊢
          obtain ⟨s4, rfl, hs4⟩ : ∃ s4 : Str, v = .str s4 ∧ s4 ∈ (["open", "own"] : List Str) := str_of hv (by decide +kernel)
          refine ⟨_, rfl, (by show 2 ≤ sizeLine; decide), fun q hq => ⟨(by show 3 ≤ sizeLine; decide), fun q2 hq2 => ?_⟩⟩
          have sq := Rd.Same.upd (o := .tup [.str s4, v2]) hq
          have sq2 := sq.trans (Rd.Same.upd (o := .tup [.str "lock", v1, .ref q]) hq2)
          have i1 := ((it1'.same sl).but b4 (sl _ _ hp3)).same sq2
          have i2 := ((it2.same sl).but b4 (sl _ _ hp3)).same sq2
          refine k (.bi "lock" t1 (.un s4 t2)) _ y4 _ (((B3.trans (But.of_same sl)).trans b4).trans (But.of_same sq2)) (sq2 _ _ hp4) hy4 ⟨.lk hs4 w1 w2, by show max t1.dep (t2.dep + 1) + 1 ≤ 2 * (d + 1); omega, by rw [all_bi, all_un]; omega, sm1.lf, sm2.lf⟩ ⟨q2, v1, _, rfl, upd_same, i1, q, v2, rfl, ?_, i2⟩
          rw [upd_ne (fun z => by rw [← z, upd_same] at hq2; cases hq2), upd_same]
        · refine ⟨(by show 2 ≤ sizeLine; decide), fun q hq => ?_⟩
          have sq := Rd.Same.upd (o := .lst [.str "pair", .str "seal"]) hq
          have hj : ((way : Int) % 2).toNat < 2 := by omega
          obtain ⟨v, hv⟩ : ∃ v, ([.str "pair", .str "seal"] : List V)[((way : Int) % 2).toNat]? = some v := ⟨_, List.getElem?_eq_getElem (by show _ < 2; exact hj)⟩
          obtain ⟨s4, rfl, hs4⟩ : ∃ s4 : Str, v = .str s4 ∧ s4 ∈ (["pair", "seal"] : List Str) := str_of (List.mem_of_getElem? hv) (by decide +kernel)
          refine ⟨_, rfl, .inl ⟨_, rfl, _, _, rfl, rfl, (by show (0 : Int) < 2; decide), q, _, _, .str s4, rfl, rfl, SqL.of upd_same, at_of (j := ((way : Int) % 2).toNat) (by omega) hv, _, rfl, _, rfl, (by show 3 ≤ sizeLine; decide), fun q2 hq2 => ?_⟩⟩
          have sq2 := sq.trans (Rd.Same.upd (o := .tup [.str s4, v1, v2]) hq2)
          exact k (.bi s4 t1 t2) _ y3 _ (B3.trans (But.of_same sq2)) (sq2 _ _ hp3) (hy3.mono (by omega)) ⟨.bi hs4 w1 w2, by show max t1.dep t2.dep + 1 ≤ 2 * (d + 1); omega, by rw [all_bi]; omega, sm1.lf, sm2.lf⟩ ⟨q2, v1, v2, rfl, upd_same, it1'.same sq2, it2.same sq2⟩
    · refine gName_k ?_
      try dsimp only
      refine ⟨_, rfl, _, _, rfl, rfl, _, rfl, ite2 (fun h2 => ?_) (fun h2 => absurd (by decide) h2)⟩
      exact ⟨_, rfl, _, rfl, atomc But.refl hp (hx.mono (by omega))⟩
theorem small_none (T : Tx w K mg) : Fk P w K mg base CX0 1 "_law_small" ["_law_stream_here", "_law_atoms", "_law_deep"] (spSmR 0) := by
  refine T.F__law_small.ok0 sc__law_small (fun _ _ _ _ _ _ us hl => match us, hl with | [_, _, _], _ => rfl) (fun vs H Q E h => h.elim) (fun cdv A outer s H vs Q E hr h => h.elim)
theorem ok__law_small (T : Tx w K mg) : ∀ d : Nat, Fk P w K mg base CX0 (d + 3) "_law_small" ["_law_stream_here", "_law_atoms", "_law_deep"] (spU d)
  | 0 => small_step T 0 ((small_none T).mono (by decide))
  | d + 1 => small_step T (d + 1) (ok__law_small T d)
end
end Rd
namespace Rd
open PySem L2
theorem sIxLast {x : V} {us : List V} : HT.sIx (us ++ [x]).length (us ++ [x]).length (some (-1)) = us.length := by
  show (if (-1 : Int) < 0 then ((-1 : Int) + ((us ++ [x]).length : Int)).toNat else min (-1 : Int).toNat (us ++ [x]).length) = us.length
  rw [if_pos (by decide), List.length_append, List.length_singleton]
  omega
theorem cutLast {x : V} {us : List V} : cutV (us ++ [x]) none (some (-1)) = us := by
  unfold cutV
  have e2 : HT.sIx (us ++ [x]).length 0 none = 0 := rfl
  rw [sIxLast, e2]
  simp
/-- lists of a role as forms -/
structure RoleF (H : Hp) (d S : Nat) (r : RoleD) (ap ak af ar : Addr) : Prop where
  hz : r.ti.length ≤ 200000
  hp : H ap = some (.lst (r.ps.map V.str)) ∧ r.ps.length ≤ 100 ∧ ∀ x ∈ r.ps, x.length ≤ 200000
  hk : ∃ uk, H ak = some (.lst uk) ∧ TsAt H r.ks uk
  hkk : r.ks.length ≤ 100 ∧ ∀ t ∈ r.ks, Wf t ∧ t.dep ≤ d ∧ t.all.length ≤ S
  hf : H af = some (.lst (r.fr.map V.str)) ∧ r.fr.length ≤ 100 ∧ ∀ x ∈ r.fr, x.length ≤ 200000
  hr : ∃ ur, H ar = some (.lst ur) ∧ RsAt IsRowF H r.rs ur
  hrr : r.rs.length ≤ 100 ∧ ∀ y ∈ r.rs, rowOk y ∧ y.2.dep ≤ d ∧ y.2.all.length ≤ S
  hs : 1 ≤ S ∧ 2 * ((szs (fitH r.ps r.fr r.ks) + szs (r.rs.map (·.2))) * S) ≤ 100000
  hd : d ≤ 10
def sp_lrole (K : PySem.W.Frag) (d : Nat) : Sp := fun vs H Q E => ∃ (qd ap ak af ar : Addr) (r : RoleD) (S : Nat), vs = [.str r.ti, .ref qd] ∧ H qd = some (.tup [.ref ap, .ref ak, .ref af, .ref ar]) ∧ RoleF H d S r ap ak af ar ∧
  (r.bad = none → r.fit none → ∀ x H', Same H H' → IsRole K H' x r → Q (.ref x) H') ∧
  (∀ f, r.bad = some f → ∀ dd H', Same H H' → H' dd = some (.xd [("field", .str f)]) → E (.ref (He.ga K "BadRole")) (some dd) H') ∧
  ∀ i : Nat, r.bad = none → r.fit (some i) → ∀ dd H', Same H H' → H' dd = some (.xd [("index", .int (i : Int))]) → E (.ref (He.ga K "NotFit")) (some dd) H'
section
variable {P : Program} {w : World} {K : PySem.W.Frag} {mg : Str → Option Value} {base : Heap}
abbrev s__law_role : Stmt := top 55
theorem sc__law_role : FnScope ["_law_title", "_law_drawn", "_law_params", "_law_knows", "_law_fresh", "_law_rows", "_law_made", "_law_row", "_law_form"] ["_law_title", "_law_drawn"] (defScope s__law_role) := ⟨rfl, rfl, rfl, by decide +kernel, rfl, by decide +kernel, by decide +kernel⟩
theorem ok__law_role (T : Tx w K mg) (d : Nat) : Fk P w K mg base (L2N.CX P w) (d + 9) "_law_role" ["_law_title", "_law_drawn"] (sp_lrole K d) := by
  refine T.F__law_role.ok sc__law_role (fun _ _ _ _ _ _ us hl => match us, hl with | [_, _], _ => rfl)
    (fun vs H Q E h => ?_) (fun cdv A outer s H vs Q E hr h => ?_)
  · obtain ⟨qd, ap, ak, af, ar, r, S, rfl, _⟩ := h
    rfl
  · obtain ⟨qd, ap, ak, af, ar, r, S, rfl, hqd, hin, k1, kb, kn⟩ := h
    refine ⟨_, (pss_cons (ps_asg (pv 1) (pg_tup rfl (pgs_cons (pg_name (i := 2) sc__law_role.nd rfl (Or.inl rfl)) (pgs_cons (pg_name (i := 3) sc__law_role.nd rfl (Or.inl rfl)) (pgs_cons (pg_name (i := 4) sc__law_role.nd rfl (Or.inl rfl)) (pgs_cons (pg_name (i := 5) sc__law_role.nd rfl (Or.inl rfl)) pgs_nil))))))
  (pss_cons (ps_setLc (i := 6) (own := [("_law_row", 7)]) (g := gName 7) (tt := tYes) (by rfl) sc__law_role.nd rfl rfl (sw_true rfl rfl rfl (by decide +kernel)) (pi_list (pv 5)) (blkOk_by (own := [("_law_row", 7)]) (N := ["_law_title", "_law_drawn", "_law_params", "_law_knows", "_law_fresh", "_law_rows", "_law_made", "_law_row", "_law_form"]) (sc := defScope s__law_role) (by decide +kernel)) (fun _ _ _ _ _ => (pg_name (i := 7) sc__law_role.nd rfl (Or.inl rfl))) (fun _ _ _ _ _ => pts_nil) (fun _ _ _ _ _ => (pe_op (kOp (r := rCatT) (K := K) rfl op_catT) (pe_slice (kSl (r := rSlT) (K := K) rfl sl_tup) (pv 7) po_none (po_some (pe_un un_neg pe_int))) (pe_tup (pa_cons (pe_fk (ok__law_letter T d) (hr.mono (by omega)) rfl pass0 (pa_cons (pe_ix (kIx (r := rIxT) (K := K) rfl ix_tup) (pv 7) (pe_un un_neg pe_int) (fun _ _ => rfl)) pa_nil)) pa_nil)))))
  (pss_one (ps_ret (pe_new T.J_Role T.g_Role (ok_Rinit T d) (hr.mono (by omega)) (by rfl) (L2N.passes_call (L2N.takes_of rfl rfl rfl rfl) (fun _ _ _ _ h => h)) (pa_cons (pv 0) (pa_cons (pe_callTy call_list_of (by rfl) T.z_list (by decide +kernel) (pa_cons (pv 2) pa_nil)) (pa_cons (pe_lc (own := [("_law_form", 8)]) (g := gName 8) (tt := tYes) (by rfl) sc__law_role.nd (pi_list (pv 3)) (blkOk_by (own := [("_law_form", 8)]) (N := ["_law_title", "_law_drawn", "_law_params", "_law_knows", "_law_fresh", "_law_rows", "_law_made", "_law_row", "_law_form"]) (sc := defScope s__law_role) (by decide +kernel)) (fun _ _ _ _ _ => (pg_name (i := 8) sc__law_role.nd rfl (Or.inl rfl))) (fun _ _ _ _ _ => pts_nil) (fun _ _ _ _ _ => (pe_fk (ok__law_letter T d) (hr.mono (by omega)) rfl pass0 (pa_cons (pv 8) pa_nil)))) (pa_cons (pe_callTy call_list_of (by rfl) T.z_list (by decide +kernel) (pa_cons (pv 4) pa_nil)) (pa_cons (pv 6) pa_nil)))))))))), ?_⟩
    have big : 16777216 ≤ sizeLine := by decide
    obtain ⟨uk, hak, hks⟩ := hin.hk
    obtain ⟨ur, har, hrs⟩ := hin.hr
    obtain ⟨hap, hpl, hpw⟩ := hin.hp
    obtain ⟨haf, hfl, hfw⟩ := hin.hf
    have d10 := hin.hd
    have hrl := hrs.len
    have hr1 := hin.hrr.1
    have hkl := hks.len
    have hk1 := hin.hkk.1
    refine seqAsg ⟨_, rfl, qd, _, rfl, SqT.of hqd, rfl, _, _, rfl, _, _, rfl, _, _, rfl, _, _, rfl, rfl, ?_⟩
    try dsimp only
    refine seqAsg ⟨_, rfl, ar, rfl, ⟨_, SqL.of har⟩, fun D hD => ?_⟩
    refine lcg (C := He.ga K "Letter") (R := IsRow K) (ds := r.rs) (fun _ => true) id (fun _ _ _ _ kp h => h.mono kp) (SqL.of har) hrl (by omega) hD (fun i x y H2 Q2 hx hy s2 k2 => k2 _ (Same.refl _)) (fun i x y H2 Q2 hx hy _ s2 k2 => ?_) fun vm H2 s2 hD2 hm2 => ?_
    · obtain ⟨a0, u, rfl, ha0, iu⟩ := (hrs.get i y x hy hx).same s2
      obtain ⟨rok, dt, _⟩ := hin.hrr.2 y (List.mem_of_getElem? hy)
      have hne : y.1 ≠ [] := by
        obtain ⟨k0, kr, e, _⟩ := rok.head
        rw [e]
        exact List.cons_ne_nil _ _
      refine ⟨_, rfl, _, rfl, _, rfl, a0, _, rfl, SqT.of ha0, ?_, fun p3 hp3 => ?_⟩
      · rintro ⟨_, z⟩
        rw [sIxLast, List.length_append, List.length_singleton] at z
        omega
      · rw [cutLast]
        have s3 := Rd.Same.upd (o := .tup (y.1.map V.str)) hp3
        have hp31 : upd H2 p3 (.tup (y.1.map V.str)) p3 = some (.tup (y.1.map V.str)) := upd_same
        generalize upd H2 p3 (.tup (y.1.map V.str)) = H3 at s3 hp31 ⊢
        refine ⟨_, rfl, _, rfl, a0, _, _, _, rfl, rfl, SqT.of (s3 _ _ ha0), atI_last _ _, u, y.2, rfl, iu.same s3, rok.2, dt, fun v' H4 s4 il => ⟨(by show 1 ≤ sizeLine; decide), fun q5 hq5 => ?_⟩⟩
        have s5 := Rd.Same.upd (o := .tup [v']) hq5
        have hq51 : upd H4 q5 (.tup [v']) q5 = some (.tup [v']) := upd_same
        generalize upd H4 q5 (.tup [v']) = H5 at s5 hq51 ⊢
        have hyl : y.1.length ≤ 2 := by
          rcases rok.1 with e | e | ⟨z, e, _⟩
          · rw [e]; show 1 ≤ 2; decide
          · rw [e]; show 1 ≤ 2; decide
          · rw [e]; exact Nat.le_refl _
        refine ⟨p3, q5, _, _, rfl, rfl, SqT.of ((s4.trans s5) _ _ hp31), SqT.of hq51, (fun z => hne (List.map_eq_nil_iff.mp z)), (by rw [List.length_map, List.length_singleton]; omega), (fun z => by cases z), fun _ q6 hq6 => ?_⟩
        have s6 := Rd.Same.upd (o := .tup (y.1.map V.str ++ [v'])) hq6
        exact k2 _ _ (((s3.trans s4).trans s5).trans s6) ⟨q6, v', rfl, upd_same, (il.same s5).same s6⟩
    have efl : (r.rs.filter (fun _ => true)).map id = r.rs := by rw [List.filter_eq_self.mpr (fun _ _ => rfl), List.map_id]
    rw [efl] at hm2
    refine gName_k ?_
    try dsimp only
    refine ⟨_, rfl, _, rfl, ap, _, rfl, .inl (SqL.of (s2 _ _ hap)), fun q1 hq1 => ?_⟩
    have s3 := Rd.Same.upd (o := .lst (r.ps.map V.str)) hq1
    have hq11 : upd H2 q1 (.lst (r.ps.map V.str)) q1 = some (.lst (r.ps.map V.str)) := upd_same
    generalize upd H2 q1 (.lst (r.ps.map V.str)) = H3 at s3 hq11 ⊢
    have S3 := s2.trans s3
    refine ⟨_, rfl, ak, rfl, ⟨_, SqL.of (S3 _ _ hak)⟩, fun D2 hD2' => ?_⟩
    refine lcg (C := He.ga K "Letter") (R := IsLet K) (ds := r.ks) (fun _ => true) id (fun _ _ _ _ kp h => h.mono kp) (SqL.of (S3 _ _ hak)) hkl (by omega) hD2' (fun i x y H2 Q2 hx hy s2 k2 => k2 _ (Same.refl _)) (fun i x y H4 Q4 hx hy _ s4 k4 => ?_) fun vl H4 s4 hD4 hl4 => ?_
    · obtain ⟨wy, dy, _⟩ := hin.hkk.2 y (List.mem_of_getElem? hy)
      exact ⟨_, rfl, x, y, rfl, (hks.get i y x hy hx).same (S3.trans s4), wy, dy, fun v' H5 s5 il => k4 v' H5 s5 il⟩
    have efk : (r.ks.filter (fun _ => true)).map id = r.ks := by rw [List.filter_eq_self.mpr (fun _ _ => rfl), List.map_id]
    rw [efk] at hl4
    refine ⟨_, rfl, af, _, rfl, .inl (SqL.of ((S3.trans s4) _ _ haf)), fun q5 hq5 => ?_⟩
    have s5 := Rd.Same.upd (o := .lst (r.fr.map V.str)) hq5
    have hq51 : upd H4 q5 (.lst (r.fr.map V.str)) q5 = some (.lst (r.fr.map V.str)) := upd_same
    generalize upd H4 q5 (.lst (r.fr.map V.str)) = H5 at s5 hq51 ⊢
    have s25 := (s3.trans s4).trans s5
    refine ⟨_, rfl, fun x dx hx hdx ne => ?_⟩
    have sx : Same H5 (upd (upd H5 dx (.own x)) x (.ins (He.ga K "Role") dx [])) := (Rd.Same.upd hdx).trans (Rd.Same.upd (by rw [upd_ne (Ne.symm ne)]; exact hx))
    have hx1 : upd (upd H5 dx (.own x)) x (.ins (He.ga K "Role") dx []) x = some (.ins (He.ga K "Role") dx []) := upd_same
    have S6 := (s2.trans s25).trans sx
    have nxH : H x = none := (s2.trans s25).free hx
    refine ⟨x, dx, q1, D2, q5, D, r, S, rfl, hx1, ⟨hin.hz, ⟨((s4.trans s5).trans sx) _ _ hq11, hpl, hpw⟩, ⟨vl, (s5.trans sx) _ _ hD4, hl4.len, fun i t v a b => (hl4.get i t v a b).same (s5.trans sx)⟩, hin.hkk, ⟨sx _ _ hq51, hfl, hfw⟩, ⟨vm, (s25.trans sx) _ _ hD2, hm2.len, fun i t v a b => (hm2.get i t v a b).same (s25.trans sx)⟩, hin.hrr, hin.hs, hin.hd⟩, fun eb ef H' bt hR => ⟨rfl, k1 eb ef x H' (fun c o e => bt c o (ne_of_none e nxH) (S6 _ _ e)) hR⟩, fun f eb dd H' s' hd => kb f eb dd H' (S6.trans s') hd, fun i eb ef dd H' s' hd => kn i eb ef dd H' (S6.trans s') hd⟩
end
end Rd
namespace Rd
open PySem L2
theorem Fits.det {met m m' : List Str} {held h h' : List Tr} {r : Row} (a : Fits met held r m h) (b : Fits met held r m' h') : m = m' ∧ h = h' := by
  cases a with
  | aw hk =>
    cases b with
    | aw => exact ⟨rfl, rfl⟩
    | ot hk' => exact absurd hk hk'
  | ot hk =>
    cases b with
    | aw hk' => exact absurd hk' hk
    | ot => exact ⟨rfl, rfl⟩
theorem Fit.det {i : Nat} {met : List Str} {held : List Tr} {rs : List Row} {o o' : Option Nat} (a : Fit i met held rs o) : Fit i met held rs o' → o = o' := by
  induction a with
  | nil =>
    intro b
    cases b
    rfl
  | ok h _ ih =>
    intro b
    cases b with
    | ok h2 g2 =>
      obtain ⟨rfl, rfl⟩ := h.det h2
      exact ih g2
    | no hn => exact absurd h (hn _ _)
  | no hn =>
    intro b
    cases b with
    | ok h2 _ => exact absurd h2 (hn _ _)
    | no => rfl
end Rd
namespace Rd
open PySem L2
/-! ### displays of forms -/
def EvT (te : TE) (t : Tr) : Prop := ∀ (σ : St) (H : Hp) (Q : VK), (∀ v H', Same H H' → IsT H' t v → Q v H') → te σ H Q
def EvTs (ta : TA) (ts : List Tr) : Prop := ∀ (σ : St) (H : Hp) (Q : List V → Hp → Prop), (∀ vs H', Same H H' → TsAt H' ts vs → Q vs H') → ta σ H Q
theorem EvT.am {k x : Str} : EvT (tTup (tCons (tC (.str k)) (tCons (tC (.str x)) tNil))) (.am k x) := fun _ _ _ q => ⟨(by show 2 ≤ sizeLine; decide), fun p hp => q _ _ (Rd.Same.upd hp) ⟨p, rfl, upd_same⟩⟩
theorem EvT.un {s : Str} {te : TE} {a : Tr} (h : EvT te a) : EvT (tTup (tCons (tC (.str s)) (tCons te tNil))) (.un s a) := fun σ H Q q => h σ H _ fun v H1 s1 i1 => ⟨(by show 2 ≤ sizeLine; decide), fun p hp => q _ _ (s1.trans (Rd.Same.upd hp)) ⟨p, _, rfl, upd_same, i1.same (Rd.Same.upd hp)⟩⟩
theorem EvT.bi {s : Str} {te tf : TE} {a b : Tr} (h : EvT te a) (g : EvT tf b) : EvT (tTup (tCons (tC (.str s)) (tCons te (tCons tf tNil)))) (.bi s a b) := fun σ H Q q => h σ H _ fun v H1 s1 i1 => g σ H1 _ fun v2 H2 s2 i2 => ⟨(by show 3 ≤ sizeLine; decide), fun p hp => q _ _ ((s1.trans s2).trans (Rd.Same.upd hp)) ⟨p, _, _, rfl, upd_same, i1.same (s2.trans (Rd.Same.upd hp)), i2.same (Rd.Same.upd hp)⟩⟩
theorem TsAt.nil {H : Hp} : TsAt H [] [] := ⟨rfl, fun i t v h => by simp at h⟩
theorem EvTs.nil : EvTs tNil [] := fun _ _ _ q => q _ _ (Same.refl _) TsAt.nil
theorem EvTs.cons {te : TE} {ta : TA} {t : Tr} {ts : List Tr} (h : EvT te t) (g : EvTs ta ts) : EvTs (tCons te ta) (t :: ts) := fun σ H Q q => h σ H _ fun v H1 s1 i1 => g σ H1 _ fun vs H2 s2 i2 => q _ _ (s1.trans s2) (TsAt.cons (i1.same s2) i2)
theorem EvTs.lst {ta : TA} {ts : List Tr} {σ : St} {H : Hp} {Q : VK} (h : EvTs ta ts) (hl : ts.length ≤ 1000) (k : ∀ q vs H', Same H H' → H q = none → H' q = some (.lst vs) → TsAt H' ts vs → Q (.ref q) H') : tLst ta σ H Q := h σ H _ fun vs H1 s1 i1 => by
  have big : 16777216 ≤ sizeLine := by decide
  have := i1.len
  exact ⟨by omega, fun p hp => k p vs _ (s1.trans (Rd.Same.upd hp)) (s1.free hp) upd_same (i1.same (Rd.Same.upd hp))⟩
/-- [te for x in xs if tt], the test draws once -/
theorem lcgD {α β : Type} {K : PySem.W.Frag} {C a D p : Addr} {xs x0 : List V} {ds : List α} {R : Hp → β → V → Prop} {tt : TT} {te : TE} {i0 n : Nat} {σ : St} {H1 : Hp} {Qd : Hp → Prop} (g : α → β) (rm : ∀ H H' b v, Kp C H H' → R H b v → R H' b v) (hS : H1 a = some (.lst xs)) (nap : a ≠ p) (he : xs.length = ds.length) (hl : xs.length ≤ 100000) (hD : H1 D = none) (hp : H1 p = some (.lst x0)) (hx0 : StL (n + ds.length) x0)
    (htt : ∀ (i : Nat) (x : V) (d : α) (H : Hp) (Q : Bool → Hp → Prop) (m : Nat) (ys : List V), xs[i]? = some x → ds[i]? = some d → But p H1 H → H p = some (.lst ys) → StL (m + 1) ys → (∀ b ys' H', But p H H' → H' p = some (.lst ys') → StL m ys' → Q b H') → tt ((wipe σ [i0]).set i0 (some x)) H Q)
    (hte : ∀ (i : Nat) (x : V) (d : α) (H : Hp) (Q : VK), xs[i]? = some x → ds[i]? = some d → But p H1 H → (∀ v H', Same H H' → R H' (g d) v → Q v H') → te ((wipe σ [i0]).set i0 (some x)) H Q)
    (hq : ∀ (l : List α) vs ys H', But p H1 H' → H' p = some (.lst ys) → StL n ys → H' D = some (.lst vs) → l.Sublist ds → AtL R H' (l.map g) vs → Qd H') :
    ∃ W : Nat → Nat → Hp → Prop, (∃ m, W 0 m (L2.upd H1 D (.lst []))) ∧ ∀ i m H, W i m H →
      ((Itl K a).stop i H ∧ Qd H) ∨ ((Itl K a).go i H ∧ ∃ Nx : Hp → Prop, (∀ H', Nx H' → ∃ m', m' < m ∧ W (i + 1) m' H') ∧ ∀ x H', (Itl K a).yld i H x H' → gName i0 x (wipe σ [i0]) H' fun σ2 H2 => wipe σ2 [i0] = wipe σ [i0] ∧ tt σ2 H2 fun b H3 =>
        if b = true then te σ2 H3 fun y H4 => ∃ acc, H4 D = some (.lst acc) ∧ acc.length < sizeLine ∧ Nx (L2.upd H4 D (.lst (acc ++ [y]))) else Nx H3) := by
  have nDp : D ≠ p := fun z => by rw [z, hp] at hD; cases hD
  refine walkL (K := K) (a := a) (xs := xs) (fun i H => ∃ (l : List α) (vs ys : List V), But p H1 H ∧ H p = some (.lst ys) ∧ StL (n + (ds.length - i)) ys ∧ H D = some (.lst vs) ∧ l.Sublist (ds.take i) ∧ AtL R H (l.map g) vs) ⟨[], [], x0, But.new hD, by rw [upd_ne (Ne.symm nDp)]; exact hp, hx0, upd_same, List.Sublist.slnil, AtL.nil⟩ (fun i H _ ⟨_, _, _, b, _⟩ => SqL.of (b _ _ nap hS)) ?_ ?_
  · rintro i x H hx ⟨l, vs, ys, bt, hpi, hyi, hd, hsub, hv⟩
    have hlt := (List.getElem?_eq_some_iff.mp hx).1
    have ht : ds[i]? = some ds[i] := List.getElem?_eq_getElem (by omega)
    have etk : ds.take (i + 1) = ds.take i ++ [ds[i]] := by rw [List.take_succ, ht]; rfl
    refine gName_k ⟨by simp [wipe], ?_⟩
    refine htt i x _ H _ (n + (ds.length - (i + 1))) ys hx ht bt hpi (by rw [show n + (ds.length - (i + 1)) + 1 = n + (ds.length - i) by omega]; exact hyi) fun b y2 H2 b2 hp2 hy2 => ?_
    have hd2 := b2 _ _ nDp hd
    have k2 : Kp C H H2 := b2.kp hpi
    cases b with
    | false =>
      refine iteF ⟨l, vs, y2, bt.trans b2, hp2, hy2, hd2, ?_, hv.mp fun r v h => rm _ _ _ _ k2 h⟩
      rw [etk]
      exact hsub.trans (List.sublist_append_left _ _)
    | true =>
      refine iteT (hte i x _ H2 _ hx ht (bt.trans b2) fun v H3 s3 h3 => ?_)
      have hD3 := s3 _ _ hd2
      have kp := Kp.upd_lst (C := C) (ys := vs ++ [v]) hD3
      have hvl := hv.len
      have hsl := hsub.length_le
      rw [List.length_map] at hvl
      rw [List.length_take] at hsl
      have big : 16777216 ≤ sizeLine := by decide
      refine ⟨vs, hD3, by omega, l ++ [ds[i]], vs ++ [v], y2, ?_, ?_, hy2, upd_same, ?_, ?_⟩
      · refine fun c o hc e => ?_
        rw [upd_ne (ne_of_none e hD)]
        exact s3 _ _ ((bt.trans b2) _ _ hc e)
      · rw [upd_ne (Ne.symm nDp)]
        exact s3 _ _ hp2
      · rw [etk]
        exact hsub.append (List.Sublist.refl _)
      · rw [List.map_append]
        exact (hv.mp fun r v h => rm _ _ _ _ ((k2.trans (Kp.of_same s3)).trans kp) h).snoc (rm _ _ _ _ kp h3)
  · rintro H ⟨l, vs, ys, bt, hpi, hyi, hd, hsub, hv⟩
    rw [he, List.take_length] at hsub
    rw [he, Nat.sub_self] at hyi
    exact hq l vs ys H bt hpi hyi hd hsub hv
end Rd
namespace Rd
open PySem L2
def buS (s : Nat) : Nat → Nat
  | 0 => s
  | d + 1 => 2 * buS s d + 2
/-- a form that can be made of what is held -/
structure Bu (e s d : Nat) (held : List Tr) (t : Tr) : Prop where
  mt : mka held t = true
  wf : Wf t
  dp : t.dep ≤ e + 2 * d
  sz : t.all.length ≤ buS s d
theorem buS_ge (s : Nat) : ∀ d, s ≤ buS s d
  | 0 => Nat.le_refl _
  | d + 1 => by
    have := buS_ge s d
    show s ≤ 2 * buS s d + 2
    omega
def sp_built (e s d : Nat) : Sp := fun vs H Q _ => ∃ (p u : Addr) (xs hv : List V) (held : List Tr) (n : Nat), vs = [.ref p, .ref u, .int d] ∧ H p = some (.lst xs) ∧ StL (n + dS d) xs ∧ u ≠ p ∧ H u = some (.lst hv) ∧ TsAt H held hv ∧ held.length ≤ 900 ∧ (∀ t ∈ held, Wf t ∧ t.dep ≤ e ∧ t.all.length ≤ s) ∧ 1 ≤ s ∧
  ∀ t v ys H', But p H H' → H' p = some (.lst ys) → StL n ys → Bu e s d held t → IsT H' t v → Q v H'
def spBu (D : Nat) : Sp := fun vs H Q E => ∃ e s d, d ≤ D ∧ sp_built e s d vs H Q E
def spBuR : Nat → Sp
  | 0 => fun _ _ _ _ => False
  | d + 1 => spBu d
def WAB : List Tr := [.am "word" "a", .am "word" "b"]
theorem wab_ok : ∀ t ∈ WAB, Wf t ∧ t.dep = 0 ∧ t.all.length = 1 ∧ ∀ O, mka O t = true := by
  intro t ht
  have : t = .am "word" "a" ∨ t = .am "word" "b" := by simpa [WAB] using ht
  rcases this with rfl | rfl
  · exact ⟨.am (.inl ⟨rfl, by decide +kernel⟩), rfl, rfl, fun O => by simp [mka]⟩
  · exact ⟨.am (.inl ⟨rfl, by decide +kernel⟩), rfl, rfl, fun O => by simp [mka]⟩
section
variable {P : Program} {w : World} {K : PySem.W.Frag} {mg : Str → Option Value} {base : Heap}
abbrev s__law_built : Stmt := top 51
theorem sc__law_built : FnScope ["_law_stream_here", "_law_held", "_law_deep", "_law_way", "_law_one", "_law_other"] ["_law_stream_here", "_law_held", "_law_deep"] (defScope s__law_built) := ⟨rfl, rfl, rfl, by decide +kernel, rfl, by decide +kernel, by decide +kernel⟩
theorem built_step (T : Tx w K mg) (D : Nat) (ih : Fk P w K mg base CX0 (D + 2) "_law_built" ["_law_stream_here", "_law_held", "_law_deep"] (spBuR D)) : Fk P w K mg base CX0 (D + 3) "_law_built" ["_law_stream_here", "_law_held", "_law_deep"] (spBu D) := by
  refine T.F__law_built.ok0 sc__law_built (fun _ _ _ _ _ _ us hl => match us, hl with | [_, _, _], _ => rfl)
    (fun vs H Q E h => ?_) (fun cdv A outer s H vs Q E hr h => ?_)
  · obtain ⟨e, sz, d, _, p, u, xs, hv, held, n, rfl, _⟩ := h
    rfl
  · obtain ⟨e, sz, d, hdD, p, u, xs, hv, held, n, rfl, hp, hx, nup, hu, hA, hA1, hAw, hs1, k⟩ := h
    refine ⟨_, (pss_cons (ps_set (i := 3) sc__law_built.nd rfl (Or.inl rfl) (pe_ifExp (pt_cmpR op_gt (pv 2) pe_int (nomark _)) (pe_fk (ok__law_draw T) (hr.mono (by omega)) rfl pass0 (pa_cons (pv 0) (pa_cons pe_int pa_nil))) pe_int))
  (pss_cons (ps_if (pt_cmpR op_lt (pv 3) pe_int (nomark _))
  (pss_one (ps_ret (pe_fk (ok__law_pick T) (hr.mono (by omega)) rfl pass0 (pa_cons (pv 0) (pa_cons (pe_op op_cat (pe_callTy call_list_of (by rfl) T.z_list (by decide +kernel) (pa_cons (pv 1) pa_nil)) (pe_lst (pa_cons (pe_tup (pa_cons pe_str (pa_cons pe_str pa_nil))) (pa_cons (pe_tup (pa_cons pe_str (pa_cons pe_str pa_nil))) pa_nil)))) pa_nil)))))
  pss_nil)
  (pss_cons (ps_par (i := 4) (j := 5) (by rfl) sc__law_built.nd rfl rfl (by decide) rfl rfl (pa_cons (pe_fk ih (hr.mono (by omega)) rfl pass0 (pa_cons (pv 0) (pa_cons (pv 1) (pa_cons (pe_op op_sub (pv 2) pe_int) pa_nil)))) (pa_cons (pe_fk ih (hr.mono (by omega)) rfl pass0 (pa_cons (pv 0) (pa_cons (pv 1) (pa_cons (pe_op op_sub (pv 2) pe_int) pa_nil)))) pa_nil)) (by rfl))
  (pss_cons (ps_if (pt_cmpR op_eq (pv 3) pe_int (nomark _))
  (pss_one (ps_ret (pe_tup (pa_cons pe_str (pa_cons (pv 4) (pa_cons (pe_tup (pa_cons pe_str (pa_cons (pv 5) pa_nil))) pa_nil))))))
  pss_nil)
  (pss_cons (ps_if (pt_cmpR op_eq (pv 3) pe_int (nomark _))
  (pss_one (ps_ret (pe_tup (pa_cons pe_str (pa_cons (pv 4) pa_nil)))))
  pss_nil)
  (pss_one (ps_ret (pe_tup (pa_cons (pe_ix ix_list (pe_lst (pa_cons pe_str (pa_cons pe_str pa_nil))) (pe_op op_mod (pe_callTy call_int1 (by rfl) T.z_int (by decide +kernel) (pa_cons (pv 3) pa_nil)) pe_int) (fun _ _ => rfl)) (pa_cons (pv 4) (pa_cons (pv 5) pa_nil))))))))))), ?_⟩
    have big : 16777216 ≤ sizeLine := by decide
    have hal := hA.len
    have d4 : 4 ≤ dS d := by
      have := Nat.pow_pos (n := d) (show 0 < 3 by decide)
      unfold dS
      omega
    have atomc : ∀ {H1 H3 : Hp} {y1 zs : List V} {q3 : Addr}, But p H H1 → H1 p = some (.lst y1) → StL (n + 1) y1 → Same H1 H3 → H1 q3 = none → H3 q3 = some (.lst zs) → TsAt H3 (held ++ WAB) zs → sp_pick K [.ref p, .ref q3] H3 Q E0 := fun {H1 H3 y1 zs q3} b hp1 hy s3 nq hq hz => by
      have hzl := hz.len
      rw [List.length_append, show WAB.length = 2 from rfl] at hzl
      have n3 : q3 ≠ p := fun z => by rw [z, hp1] at nq; cases nq
      refine pick_of (s3 _ _ hp1) hy n3 hq (by omega) (by omega) fun v H' ys hv b' hp' hy' => ?_
      have kb : Kp 0 H3 H' := b'.kp (s3 _ _ hp1)
      obtain ⟨t, ht, it⟩ := (hz.mono kb).mem hv
      refine k t v ys H' ((b.trans (But.of_same s3)).trans b') hp' hy' ?_ it
      have hg := buS_ge sz d
      rcases List.mem_append.mp ht with h | h
      · obtain ⟨w1, w2, w3⟩ := hAw t h
        exact ⟨mka_of h, w1, by omega, by omega⟩
      · obtain ⟨w1, w2, w3, w4⟩ := wab_ok t h
        exact ⟨w4 _, w1, by omega, by omega⟩
    refine ⟨_, rfl, _, _, rfl, rfl, _, rfl, ite2 (fun h1 => ?_) (fun h1 => ?_)⟩
    · cases d with
      | zero => exact absurd (of_decide_eq_true h1) (by decide)
      | succ d =>
        obtain ⟨D', rfl⟩ : ∃ D', D = D' + 1 := ⟨D - 1, by omega⟩
        have hD : dS (d + 1) = 3 * dS d := by
          unfold dS
          rw [Nat.pow_succ]
          omega
        have dd4 : 4 ≤ dS d := by
          have := Nat.pow_pos (n := d) (show 0 < 3 by decide)
          unfold dS
          omega
        have ed : (((d + 1 : Nat) : Int) - 1) = (d : Int) := by omega
        have eS : buS sz (d + 1) = 2 * buS sz d + 2 := rfl
        refine rd_draw (m := 10) (n := n + 3 * dS d - 1) (by rfl) hp (hx.mono (by omega)) (by decide) (by decide) fun way H1 y1 hw b1 hp1 hy1 => ?_
        have hu1 := b1 u _ nup hu
        have hA1' : TsAt H1 held hv := hA.mono (C := 0) (b1.kp hp)
        refine gName_k ?_
        try dsimp only
        refine ⟨_, rfl, _, _, rfl, rfl, _, rfl, ite2 (fun h2 => ?_) (fun h2 => ?_)⟩
        · refine ⟨_, rfl, _, rfl, u, _, rfl, .inl (SqL.of hu1), fun q1 hq1 => ?_⟩
          have s1 := Rd.Same.upd (o := .lst hv) hq1
          have hq11 : upd H1 q1 (.lst hv) q1 = some (.lst hv) := upd_same
          generalize upd H1 q1 (.lst hv) = H2 at s1 hq11 ⊢
          refine EvTs.lst (ts := WAB) (.cons .am (.cons .am .nil)) (by decide) fun q2 v2 H3 s2 nq2 hq2 ht2 => ?_
          have l2 := ht2.len
          rw [show WAB.length = 2 from rfl] at l2
          refine ⟨q1, q2, hv, v2, rfl, rfl, s2 _ _ hq11, hq2, by omega, fun q3 hq3 => ?_⟩
          have s3 := Rd.Same.upd (o := .lst (hv ++ v2)) hq3
          have s13 := (s1.trans s2).trans s3
          exact atomc b1 hp1 (hy1.mono (by omega)) s13 ((s1.trans s2).free hq3) upd_same ((hA1'.same s13).app (ht2.same s3))
        refine ⟨_, rfl, _, rfl, _, rfl, _, _, rfl, rfl, e, sz, d, by omega, p, u, y1, hv, held, n + 2 * dS d - 1, ?_, hp1, hy1.mono (by omega), nup, hu1, hA1', hA1, hAw, hs1, fun t1 v1 y2 H2 b2 hp2 hy2 sm1 it1 => ?_⟩
        · show [V.ref p, V.ref u, V.int (((d + 1 : Nat) : Int) - 1)] = _
          rw [ed]
        have hu2 := b2 u _ nup hu1
        have hA2 : TsAt H2 held hv := hA1'.mono (C := 0) (b2.kp hp1)
        have B2 := b1.trans b2
        have w1 := sm1.wf
        have d1 := sm1.dp
        have z1 := sm1.sz
        have m1 := sm1.mt
        refine ⟨_, rfl, _, rfl, _, rfl, _, _, rfl, rfl, e, sz, d, by omega, p, u, y2, hv, held, n + dS d - 1, ?_, hp2, hy2.mono (by omega), nup, hu2, hA2, hA1, hAw, hs1, fun t2 v2 y3 H3 b3 hp3 hy3 sm2 it2 => ?_⟩
        · show [V.ref p, V.ref u, V.int (((d + 1 : Nat) : Int) - 1)] = _
          rw [ed]
        have B3 := B2.trans b3
        have it1' := it1.but b3 hp2
        have w2 := sm2.wf
        have d2 := sm2.dp
        have z2 := sm2.sz
        have m2 := sm2.mt
        refine ⟨v1, v2, rfl, ?_⟩
        try dsimp only
        refine ⟨_, rfl, rfl, _, rfl, ite2 (fun h3 => ?_) (fun h3 => ?_)⟩
        · refine ⟨_, rfl, _, rfl, (by show 2 ≤ sizeLine; decide), fun q hq => ⟨(by show 3 ≤ sizeLine; decide), fun q2 hq2 => ?_⟩⟩
          have sq := Rd.Same.upd (o := .tup [.str "open", v2]) hq
          have sq2 := sq.trans (Rd.Same.upd (o := .tup [.str "lock", v1, .ref q]) hq2)
          refine k (.bi "lock" t1 (.un "open" t2)) _ y3 _ (B3.trans (But.of_same sq2)) (sq2 _ _ hp3) (hy3.mono (by omega)) ⟨?_, .lk (by decide +kernel) w1 w2, by show max t1.dep (t2.dep + 1) + 1 ≤ e + 2 * (d + 1); omega, by rw [all_bi, all_un]; omega⟩ ⟨q2, v1, _, rfl, upd_same, it1'.same sq2, q, v2, rfl, ?_, it2.same sq2⟩
          · simp [mka, m1, m2]
          · rw [upd_ne (fun z => by rw [← z, upd_same] at hq2; cases hq2), upd_same]
        refine ⟨_, rfl, rfl, _, rfl, ite2 (fun h4 => ?_) (fun h4 => ?_)⟩
        · refine ⟨_, rfl, (by show 2 ≤ sizeLine; decide), fun q hq => ?_⟩
          have sq := Rd.Same.upd (o := .tup [.str "mark", v1]) hq
          exact k (.un "mark" t1) _ y3 _ (B3.trans (But.of_same sq)) (sq _ _ hp3) (hy3.mono (by omega)) ⟨by simp [mka, m1], .un (by decide +kernel) w1, by show t1.dep + 1 ≤ e + 2 * (d + 1); omega, by rw [all_un]; omega⟩ ⟨q, v1, rfl, upd_same, it1'.same sq⟩
        · refine ⟨(by show 2 ≤ sizeLine; decide), fun q hq => ?_⟩
          have sq := Rd.Same.upd (o := .lst [.str "pair", .str "seal"]) hq
          have hj : ((way : Int) % 2).toNat < 2 := by omega
          obtain ⟨v, hv'⟩ : ∃ v, ([.str "pair", .str "seal"] : List V)[((way : Int) % 2).toNat]? = some v := ⟨_, List.getElem?_eq_getElem (by show _ < 2; exact hj)⟩
          obtain ⟨s4, rfl, hs4⟩ : ∃ s4 : Str, v = .str s4 ∧ s4 ∈ (["pair", "seal"] : List Str) := str_of (List.mem_of_getElem? hv') (by decide +kernel)
          refine ⟨_, rfl, .inl ⟨_, rfl, _, _, rfl, rfl, (by show (0 : Int) < 2; decide), q, _, _, .str s4, rfl, rfl, SqL.of upd_same, at_of (j := ((way : Int) % 2).toNat) (by omega) hv', _, rfl, _, rfl, (by show 3 ≤ sizeLine; decide), fun q2 hq2 => ?_⟩⟩
          have sq2 := sq.trans (Rd.Same.upd (o := .tup [.str s4, v1, v2]) hq2)
          exact k (.bi s4 t1 t2) _ y3 _ (B3.trans (But.of_same sq2)) (sq2 _ _ hp3) (hy3.mono (by omega)) ⟨by simp [mka, m1, m2], .bi hs4 w1 w2, by show max t1.dep t2.dep + 1 ≤ e + 2 * (d + 1); omega, by rw [all_bi]; omega⟩ ⟨q2, v1, v2, rfl, upd_same, it1'.same sq2, it2.same sq2⟩
    · refine gName_k ?_
      try dsimp only
      refine ⟨_, rfl, _, _, rfl, rfl, _, rfl, ite2 (fun h2 => ?_) (fun h2 => absurd (by decide) h2)⟩
      refine ⟨_, rfl, _, rfl, u, _, rfl, .inl (SqL.of hu), fun q1 hq1 => ?_⟩
      have s1 := Rd.Same.upd (o := .lst hv) hq1
      have hq11 : upd H q1 (.lst hv) q1 = some (.lst hv) := upd_same
      generalize upd H q1 (.lst hv) = H2 at s1 hq11 ⊢
      refine EvTs.lst (ts := WAB) (.cons .am (.cons .am .nil)) (by decide) fun q2 v2 H3 s2 nq2 hq2 ht2 => ?_
      have l2 := ht2.len
      rw [show WAB.length = 2 from rfl] at l2
      refine ⟨q1, q2, hv, v2, rfl, rfl, s2 _ _ hq11, hq2, by omega, fun q3 hq3 => ?_⟩
      have s3 := Rd.Same.upd (o := .lst (hv ++ v2)) hq3
      have s13 := (s1.trans s2).trans s3
      exact atomc But.refl hp (hx.mono (by omega)) s13 ((s1.trans s2).free hq3) upd_same ((hA.same s13).app (ht2.same s3))
theorem built_none (T : Tx w K mg) : Fk P w K mg base CX0 1 "_law_built" ["_law_stream_here", "_law_held", "_law_deep"] (spBuR 0) := by
  refine T.F__law_built.ok0 sc__law_built (fun _ _ _ _ _ _ us hl => match us, hl with | [_, _, _], _ => rfl) (fun vs H Q E h => h.elim) (fun cdv A outer s H vs Q E hr h => h.elim)
theorem ok__law_built (T : Tx w K mg) : ∀ d : Nat, Fk P w K mg base CX0 (d + 3) "_law_built" ["_law_stream_here", "_law_held", "_law_deep"] (spBu d)
  | 0 => built_step T 0 ((built_none T).mono (by decide))
  | d + 1 => built_step T (d + 1) (ok__law_built T d)
end
end Rd
namespace Rd
open PySem L2
theorem mka_txt {O : List Tr} {kd : Str} (hk : kd ≠ "word") : ∀ {t : Tr}, mka O t = true → ∀ x ∈ t.txt kd, ∃ y ∈ O, x ∈ y.txt kd
  | .am k z, h, x, hx => by
    simp only [mka, Bool.or_eq_true, decide_eq_true_eq] at h
    rcases h with e | h
    · have hx : x ∈ (if k = kd then [z] else []) := hx
      rw [if_neg (fun z => hk (by rw [← z, e]))] at hx
      cases hx
    · exact ⟨_, h, hx⟩
  | .un s a, h, x, hx => by
    simp only [mka, Bool.or_eq_true, Bool.and_eq_true, decide_eq_true_eq] at h
    rcases h with h | ⟨_, h⟩
    · exact ⟨_, h, hx⟩
    · exact mka_txt hk (t := a) h x hx
  | .bi s a b, h, x, hx => by
    simp only [mka, Bool.or_eq_true, Bool.and_eq_true, decide_eq_true_eq] at h
    rcases h with h | ⟨h1, h2⟩
    · exact ⟨_, h, hx⟩
    · rcases List.mem_append.mp hx with g | g
      · exact mka_txt hk (t := a) h1 x g
      · exact mka_txt hk (t := b) h2 x g
/-- a form that whoever holds this can look into as far as the fresh unknowns, and compare -/
structure Wt (held : List Tr) (fr : List Str) (t : Tr) : Prop where
  wf : Wf t
  dp : t.dep ≤ 6
  sz : t.all.length ≤ 16
  op : ∀ os : List Tr, (∀ y ∈ held, y ∈ os) → t ∈ os → PCl os → SCl os os → ∀ x ∈ fr, unkT x ∈ os
  sn : ∀ ps : List Tr, (∀ y ∈ held, y ∈ ps) → (∀ x ∈ fr, unkT x ∈ ps) → seen ps t = true
  un : ∀ x ∈ t.txt "unknown", x ∈ fr ∨ ∃ y ∈ held, x ∈ y.txt "unknown"
  nm : ∀ x ∈ t.txt "name", ∃ y ∈ held, x ∈ y.txt "name"
  inn : ∀ x ∈ fr, x ∈ t.txt "unknown"
theorem Wt.bu {held : List Tr} {t : Tr} (h : Bu 1 2 1 held t) : Wt held [] t := ⟨h.wf, by have := h.dp; omega, by have := h.sz; have e : buS 2 1 = 6 := rfl; omega, fun _ _ _ _ _ x hx => (by cases hx), fun ps hs _ => seen_mka (mka_mono hs h.mt), fun x hx => .inr (mka_txt (by decide +kernel) h.mt x hx), fun x hx => mka_txt (by decide +kernel) h.mt x hx, fun x hx => by cases hx⟩
theorem unkT_txt (x : Str) : (unkT x).txt "unknown" = [x] := rfl
theorem unkT_nm (x : Str) : (unkT x).txt "name" = [] := rfl
section
variable {held : List Tr} {f0 ky : Tr} {x : Str} (hx : isUnk x = true) (h0 : Bu 1 2 1 held f0) (hk : Bu 1 2 1 held ky) (ho : ∀ a, Tr.un "own" a ∈ held → Wf a ∧ a.dep ≤ 1 ∧ a.all.length ≤ 2)
include hx h0 hk ho
theorem wt_opts : (∀ t ∈ [Tr.bi "pair" f0 (unkT x), .bi "seal" (unkT x) ky, .bi "pair" (.bi "seal" (unkT x) ky) f0, unkT x], Wt held [x] t) ∧
    (∀ a, Tr.un "own" a ∈ held → a ∈ held → Wt held [x] (.bi "lock" (.bi "pair" (unkT x) f0) (.un "open" a))) ∧
    (unkT "you" ∈ held → Wt held [x] (.bi "lock" (.bi "pair" (unkT x) f0) (.un "own" (unkT "you")))) := by
  have wx := unkT_wf hx
  have dx : (unkT x).dep = 0 := rfl
  have sx : (unkT x).all.length = 1 := rfl
  have d0 := h0.dp
  have dk := hk.dp
  have z0 : f0.all.length ≤ 6 := h0.sz
  have zk : ky.all.length ≤ 6 := hk.sz
  have tu : ∀ y ∈ f0.txt "unknown", ∃ z ∈ held, y ∈ z.txt "unknown" := mka_txt (by decide +kernel) h0.mt
  have tn : ∀ y ∈ f0.txt "name", ∃ z ∈ held, y ∈ z.txt "name" := mka_txt (by decide +kernel) h0.mt
  have ku : ∀ y ∈ ky.txt "unknown", ∃ z ∈ held, y ∈ z.txt "unknown" := mka_txt (by decide +kernel) hk.mt
  have kn : ∀ y ∈ ky.txt "name", ∃ z ∈ held, y ∈ z.txt "name" := mka_txt (by decide +kernel) hk.mt
  have xin : ∀ {os : List Tr}, unkT x ∈ os → ∀ y ∈ [x], unkT y ∈ os := fun {os} h y hy => by rw [List.mem_singleton.mp hy]; exact h
  have xof : ∀ {ps : List Tr}, (∀ y ∈ [x], unkT y ∈ ps) → mka ps (unkT x) = true := fun {ps} h => mka_of (h x List.mem_cons_self)
  have m0 : ∀ {ps : List Tr}, (∀ y ∈ held, y ∈ ps) → mka ps f0 = true := fun {ps} h => mka_mono h h0.mt
  have mk' : ∀ {ps : List Tr}, (∀ y ∈ held, y ∈ ps) → mka ps ky = true := fun {ps} h => mka_mono h hk.mt
  refine ⟨fun t ht => ?_, fun a ha hin => ?_, fun hyou => ?_⟩
  · have : t = .bi "pair" f0 (unkT x) ∨ t = .bi "seal" (unkT x) ky ∨ t = .bi "pair" (.bi "seal" (unkT x) ky) f0 ∨ t = unkT x := by simpa using ht
    rcases this with rfl | rfl | rfl | rfl
    · refine ⟨.bi (by decide +kernel) h0.wf wx, by show max f0.dep 0 + 1 ≤ 6; omega, by rw [all_bi]; omega, fun os _ h1 pc _ => xin (pc _ _ h1).2, fun ps hs hf => seen_mka (by simp [mka, m0 hs, xof hf]), fun y hy => ?_, fun y hy => ?_, fun y hy => ?_⟩
      · rcases List.mem_append.mp hy with g | g
        · exact .inr (tu y g)
        · exact .inl g
      · rcases List.mem_append.mp hy with g | g
        · exact tn y g
        · cases g
      · exact List.mem_append_right _ hy
    · refine ⟨.bi (by decide +kernel) wx hk.wf, by show max 0 ky.dep + 1 ≤ 6; omega, by rw [all_bi]; omega, fun os hs h1 _ sc => xin (sc _ _ _ ky h1 rfl (mk' hs)), fun ps hs hf => seen_mka (by simp [mka, mk' hs, xof hf]), fun y hy => ?_, fun y hy => ?_, fun y hy => ?_⟩
      · rcases List.mem_append.mp hy with g | g
        · exact .inl g
        · exact .inr (ku y g)
      · rcases List.mem_append.mp hy with g | g
        · cases g
        · exact kn y g
      · exact List.mem_append_left _ hy
    · refine ⟨.bi (by decide +kernel) (.bi (by decide +kernel) wx hk.wf) h0.wf, by show max (max 0 ky.dep + 1) f0.dep + 1 ≤ 6; omega, by rw [all_bi, all_bi]; omega, fun os hs h1 pc sc => xin (sc _ _ _ ky (pc _ _ h1).1 rfl (mk' hs)), fun ps hs hf => seen_mka (by simp [mka, mk' hs, m0 hs, xof hf]), fun y hy => ?_, fun y hy => ?_, fun y hy => ?_⟩
      · rcases List.mem_append.mp hy with g | g
        · rcases List.mem_append.mp g with g | g
          · exact .inl g
          · exact .inr (ku y g)
        · exact .inr (tu y g)
      · rcases List.mem_append.mp hy with g | g
        · rcases List.mem_append.mp g with g | g
          · cases g
          · exact kn y g
        · exact tn y g
      · exact List.mem_append_left _ (List.mem_append_left _ hy)
    · exact ⟨wx, by omega, by omega, fun os _ h1 _ _ => xin h1, fun ps _ hf => seen_mka (xof hf), fun y hy => .inl hy, fun y hy => (by cases hy), fun y hy => hy⟩
  · obtain ⟨wa, da, sa⟩ := ho a ha
    refine ⟨.lk (by decide +kernel) (.bi (by decide +kernel) wx h0.wf) wa, by show max (max 0 f0.dep + 1) (a.dep + 1) + 1 ≤ 6; omega, by rw [all_bi, all_bi, all_un]; omega, fun os hs h1 pc sc => xin (pc _ _ (sc _ _ _ (.un "own" a) h1 (by rfl) (mka_of (hs _ ha)))).1, fun ps hs hf => seen_mka (by simp [mka, m0 hs, xof hf, mka_of (hs _ hin)]), fun y hy => ?_, fun y hy => ?_, fun y hy => ?_⟩
    · rcases List.mem_append.mp hy with g | g
      · rcases List.mem_append.mp g with g | g
        · exact .inl g
        · exact .inr (tu y g)
      · exact .inr ⟨_, ha, g⟩
    · rcases List.mem_append.mp hy with g | g
      · rcases List.mem_append.mp g with g | g
        · cases g
        · exact tn y g
      · exact ⟨_, ha, g⟩
    · exact List.mem_append_left _ (List.mem_append_left _ hy)
  · have uk : ukey (.bi "lock" (.bi "pair" (unkT x) f0) (.un "own" (unkT "you"))) = some (.un "open" (unkT "you")) := by rfl
    have mo : ∀ {os : List Tr}, (∀ y ∈ held, y ∈ os) → mka os (.un "open" (unkT "you")) = true := fun {os} hs => by
      have := mka_of (hs _ hyou)
      simp [mka, this]
    refine ⟨.lk (by decide +kernel) (.bi (by decide +kernel) wx h0.wf) (unkT_wf (by decide +kernel)), by show max (max 0 f0.dep + 1) (0 + 1) + 1 ≤ 6; omega, by rw [all_bi, all_bi, all_un]; show 1 + f0.all.length + 1 + (1 + 1) + 1 ≤ 16; omega, fun os hs h1 pc sc => xin (pc _ _ (sc _ _ _ _ h1 uk (mo hs))).1, fun ps hs hf => ?_, fun y hy => ?_, fun y hy => ?_, fun y hy => ?_⟩
    · rw [seen, if_neg (by decide +kernel), uk]
      have h1 : mka ps (.bi "pair" (unkT x) f0) = true := by simp [mka, m0 hs, xof hf]
      rw [seen_mka h1]
      show (_ || (mka ps (.un "open" (unkT "you")) && true)) = true
      rw [mo hs]
      simp
    · rcases List.mem_append.mp hy with g | g
      · rcases List.mem_append.mp g with g | g
        · exact .inl g
        · exact .inr (tu y g)
      · exact .inr ⟨unkT "you", hyou, g⟩
    · rcases List.mem_append.mp hy with g | g
      · rcases List.mem_append.mp g with g | g
        · cases g
        · exact tn y g
      · cases g
    · exact List.mem_append_left _ (List.mem_append_left _ hy)
end
end Rd
namespace Rd
open PySem L2
def Tr.in1 : Tr → Tr
  | .un _ a => a
  | t => t
def sp_wanted : Sp := fun vs H Q _ => ∃ (p u f : Addr) (xs hv fv : List V) (held : List Tr) (fr : List Str) (n : Nat), vs = [.ref p, .ref u, .ref f] ∧ H p = some (.lst xs) ∧ StL (n + 25) xs ∧ u ≠ p ∧ f ≠ p ∧ H u = some (.lst hv) ∧ TsAt H held hv ∧ held.length ≤ 100 ∧ (∀ t ∈ held, Wf t ∧ t.dep ≤ 1 ∧ t.all.length ≤ 2) ∧ (∀ a, Tr.un "own" a ∈ held → a ∈ held) ∧
  H f = some (.lst fv) ∧ TsAt H (fr.map unkT) fv ∧ fr.length ≤ 1 ∧ (∀ x ∈ fr, isUnk x = true) ∧
  ∀ t v ys H', But p H H' → H' p = some (.lst ys) → StL n ys → Wt held fr t → IsT H' t v → Q v H'
def lk1 (f0 : Tr) (x : Str) (a : Tr) : Tr := .bi "lock" (.bi "pair" (unkT x) f0) (.un "open" a)
def isOwn (t : Tr) : Bool := decide (t.head = "own")
def YOU : Tr := unkT "you"
section
variable {P : Program} {w : World} {K : PySem.W.Frag} {mg : Str → Option Value} {base : Heap}
abbrev s__law_wanted : Stmt := top 52
theorem sc__law_wanted : FnScope ["_law_stream_here", "_law_held", "_law_fresh", "_law_form", "_law_one", "_law_key", "_law_some", "_law_owns", "_law_own", "_law_inner"] ["_law_stream_here", "_law_held", "_law_fresh"] (defScope s__law_wanted) := ⟨rfl, rfl, rfl, by decide +kernel, rfl, by decide +kernel, by decide +kernel⟩
theorem ok__law_wanted (T : Tx w K mg) : Fk P w K mg base CX0 6 "_law_wanted" ["_law_stream_here", "_law_held", "_law_fresh"] sp_wanted := by
  refine T.F__law_wanted.ok0 sc__law_wanted (fun _ _ _ _ _ _ us hl => match us, hl with | [_, _, _], _ => rfl)
    (fun vs H Q E h => ?_) (fun cdv A outer s H vs Q E hr h => ?_)
  · obtain ⟨p, u, f, xs, hv, fv, held, fr, n, rfl, _⟩ := h
    rfl
  · obtain ⟨p, u, f, xs, hv, fv, held, fr, n, rfl, hp, hx, nup, nfp, hu, hA, hA1, hAw, hOwn, hf, hfr, hf1, hfu, k⟩ := h
    refine ⟨_, (pss_cons (ps_set (i := 3) sc__law_wanted.nd rfl (Or.inr rfl) (pe_fk (ok__law_built T 1) (hr.mono (by omega)) rfl pass0 (pa_cons (pv 0) (pa_cons (pv 1) (pa_cons pe_int pa_nil)))))
  (pss_cons (ps_for PassesOwn.never rfl (pi_list (pv 2)) (pg_name (i := 4) sc__law_wanted.nd rfl (Or.inr rfl))
  (pss_cons (ps_set (i := 5) sc__law_wanted.nd rfl (Or.inl rfl) (pe_fk (ok__law_built T 1) (hr.mono (by omega)) rfl pass0 (pa_cons (pv 0) (pa_cons (pv 1) (pa_cons pe_int pa_nil)))))
  (pss_cons (ps_set (i := 6) sc__law_wanted.nd rfl (Or.inl rfl) (pe_lst (pa_cons (pe_tup (pa_cons pe_str (pa_cons (pv 3) (pa_cons (pv 4) pa_nil)))) (pa_cons (pe_tup (pa_cons pe_str (pa_cons (pv 4) (pa_cons (pv 5) pa_nil)))) (pa_cons (pe_tup (pa_cons pe_str (pa_cons (pe_tup (pa_cons pe_str (pa_cons (pv 4) (pa_cons (pv 5) pa_nil)))) (pa_cons (pv 3) pa_nil)))) (pa_cons (pv 4) pa_nil))))))
  (pss_cons (ps_setLc (i := 7) (own := [("_law_own", 8)]) (g := gName 8)  (by rfl) sc__law_wanted.nd rfl rfl (sw_true rfl rfl rfl (by decide +kernel)) (pi_list (pv 1)) (blkOk_by (own := [("_law_own", 8)]) (N := ["_law_stream_here", "_law_held", "_law_fresh", "_law_form", "_law_one", "_law_key", "_law_some", "_law_owns", "_law_own", "_law_inner"]) (sc := defScope s__law_wanted) (by decide +kernel)) (fun _ _ _ _ _ => (pg_name (i := 8) sc__law_wanted.nd rfl (Or.inl rfl))) (fun _ _ _ _ _ => (pts_one (pt_cmpR op_eq (pe_ix (kIx (r := rIxT) (K := K) rfl ix_tup) (pv 8) pe_int (fun _ _ => rfl)) pe_str (nomark _)))) (fun _ _ _ _ _ => (pe_ix (kIx (r := rIxT) (K := K) rfl ix_tup) (pv 8) pe_int (fun _ _ => rfl))))
  (pss_cons (ps_expr (pe_bm PySem.F.plainAttrs_list PySem.F.slot_list_extend PySem.F.type_list_extend mt_extend (pv 6) (pa_cons (pe_lc (own := [("_law_inner", 9)]) (g := gName 9) (tt := tYes) (by rfl) sc__law_wanted.nd (pi_list (pv 7)) (blkOk_by (own := [("_law_inner", 9)]) (N := ["_law_stream_here", "_law_held", "_law_fresh", "_law_form", "_law_one", "_law_key", "_law_some", "_law_owns", "_law_own", "_law_inner"]) (sc := defScope s__law_wanted) (by decide +kernel)) (fun _ _ _ _ _ => (pg_name (i := 9) sc__law_wanted.nd rfl (Or.inl rfl))) (fun _ _ _ _ _ => pts_nil) (fun _ _ _ _ _ => (pe_tup (pa_cons pe_str (pa_cons (pe_tup (pa_cons pe_str (pa_cons (pv 4) (pa_cons (pv 3) pa_nil)))) (pa_cons (pe_tup (pa_cons pe_str (pa_cons (pv 9) pa_nil))) pa_nil)))))) pa_nil)))
  (pss_cons (ps_if (pt_cmpR (op_inD hr.units65) (pe_tup (pa_cons pe_str (pa_cons pe_str pa_nil))) (pv 1) (by rfl))
  (pss_one (ps_expr (pe_bm PySem.F.plainAttrs_list PySem.F.slot_list_append PySem.F.type_list_append mt_append (pv 6) (pa_cons (pe_tup (pa_cons pe_str (pa_cons (pe_tup (pa_cons pe_str (pa_cons (pv 4) (pa_cons (pv 3) pa_nil)))) (pa_cons (pe_tup (pa_cons pe_str (pa_cons (pe_tup (pa_cons pe_str (pa_cons pe_str pa_nil))) pa_nil))) pa_nil)))) pa_nil))))
  pss_nil)
  (pss_one (ps_set (i := 3) sc__law_wanted.nd rfl (Or.inr rfl) (pe_fk (ok__law_pick T) (hr.mono (by omega)) rfl pass0 (pa_cons (pv 0) (pa_cons (pv 6) pa_nil)))))))))))
  (pss_one (ps_ret (pv 3))))), ?_⟩
    have big : 16777216 ≤ sizeLine := by decide
    have d1 : dS 1 = 12 := rfl
    have hal := hA.len
    have hfl := hfr.len
    rw [List.length_map] at hfl
    refine seqAsg ⟨_, rfl, _, rfl, 1, 2, 1, Nat.le_refl _, p, u, xs, hv, held, n + 13, rfl, hp, hx.mono (by omega), nup, hu, hA, by omega, hAw, by decide, fun t0 v0 y1 H1 b1 hp1 hy1 bu0 it0 => ?_⟩
    refine gName_k ?_
    try dsimp only
    refine ⟨_, rfl, f, rfl, ⟨_, SqL.of (b1 _ _ nfp hf)⟩, ?_⟩
    refine for_list (xs := fv) (fun i σ Hc => ∃ (t : Tr) (v : V) (ys : List V) (t4 t5 t6 t7 t8 t9 : Option V), σ = [some (.ref p), some (.ref u), some (.ref f), some v, t4, t5, t6, t7, t8, t9] ∧ But p H Hc ∧ Hc p = some (.lst ys) ∧ StL (n + 13 * (1 - i)) ys ∧ Wt held (fr.take i) t ∧ (i = 0 → Bu 1 2 1 held t) ∧ IsT Hc t v) ⟨t0, v0, y1, _, _, _, _, _, _, rfl, b1, hp1, hy1, Wt.bu bu0, fun _ => bu0, it0⟩ ?_ ?_ ?_
    · rintro i σ Hc hi ⟨t, v, ys, t4, t5, t6, t7, t8, t9, rfl, bc, _⟩
      exact SqL.of (bc _ _ nfp hf)
    · rintro i x σ Hc hxi ⟨t, v, ys, t4, t5, t6, t7, t8, t9, rfl, bc, hpc, hyc, wt, hbu, it⟩
      have hlt := (List.getElem?_eq_some_iff.mp hxi).1
      have hi0 : i = 0 := by omega
      subst hi0
      have bu := hbu rfl
      obtain ⟨z, hz⟩ : ∃ z, fr = [z] := by
        match fr, hf1, hfl with
        | [z], _, _ => exact ⟨z, rfl⟩
        | [], _, e => exact absurd hlt (by have : fv.length = 0 := e; omega)
      subst hz
      have iz : IsT H (unkT z) x := hfr.get 0 _ x rfl hxi
      have uz : isUnk z = true := hfu z List.mem_cons_self
      refine gName_k ?_
      try dsimp only
      have huc := bc _ _ nup hu
      have kc : Kp 0 H Hc := bc.kp hp
      refine seqAsg ⟨_, rfl, _, rfl, 1, 2, 1, Nat.le_refl _, p, u, ys, hv, held, n + 1, rfl, hpc, hyc.mono (by omega), nup, huc, hA.mono kc, by omega, hAw, by decide, fun tk vk y2 H2 b2 hp2 hy2 buk itk => ?_⟩
      refine gName_k ?_
      try dsimp only
      have B2 := bc.trans b2
      have k2 : Kp 0 H H2 := B2.kp hp
      have ix2 : IsT H2 (unkT z) x := iz.mono k2
      have it2 : IsT H2 t v := it.mono (C := 0) (b2.kp hpc)
      have ev : ∀ {te : TE} {a : Tr} {σ : St} {H5 : Hp} {Q : VK}, True := fun {_ _ _ _ _} => trivial
      -- the four forms
      refine seqAsg ⟨_, rfl, _, rfl, (by show 3 ≤ sizeLine; decide), fun q1 hq1 => ⟨_, rfl, _, rfl, (by show 3 ≤ sizeLine; decide), fun q2 hq2 => ⟨_, rfl, _, rfl, (by show 3 ≤ sizeLine; decide), fun q3 hq3 => ⟨_, rfl, (by show 3 ≤ sizeLine; decide), fun q4 hq4 => ⟨_, rfl, (by show 4 ≤ sizeLine; decide), fun q5 hq5 => ?_⟩⟩⟩⟩⟩
      have s1 := Rd.Same.upd (o := .tup [.str "pair", v, x]) hq1
      have g1 : upd H2 q1 (.tup [.str "pair", v, x]) q1 = some (.tup [.str "pair", v, x]) := upd_same
      generalize upd H2 q1 (.tup [.str "pair", v, x]) = H3 at s1 g1 hq2 hq3 hq4 hq5 ⊢
      have s2 := Rd.Same.upd (o := .tup [.str "seal", x, vk]) hq2
      have g2 : upd H3 q2 (.tup [.str "seal", x, vk]) q2 = some (.tup [.str "seal", x, vk]) := upd_same
      generalize upd H3 q2 (.tup [.str "seal", x, vk]) = H4 at s2 g2 hq3 hq4 hq5 ⊢
      have s3 := Rd.Same.upd (o := .tup [.str "seal", x, vk]) hq3
      have g3 : upd H4 q3 (.tup [.str "seal", x, vk]) q3 = some (.tup [.str "seal", x, vk]) := upd_same
      generalize upd H4 q3 (.tup [.str "seal", x, vk]) = H5 at s3 g3 hq4 hq5 ⊢
      have s4 := Rd.Same.upd (o := .tup [.str "pair", .ref q3, v]) hq4
      have g4 : upd H5 q4 (.tup [.str "pair", .ref q3, v]) q4 = some (.tup [.str "pair", .ref q3, v]) := upd_same
      generalize upd H5 q4 (.tup [.str "pair", .ref q3, v]) = H6 at s4 g4 hq5 ⊢
      have s5 := Rd.Same.upd (o := .lst [.ref q1, .ref q2, .ref q4, x]) hq5
      have g5 : upd H6 q5 (.lst [.ref q1, .ref q2, .ref q4, x]) q5 = some (.lst [.ref q1, .ref q2, .ref q4, x]) := upd_same
      generalize upd H6 q5 (.lst [.ref q1, .ref q2, .ref q4, x]) = H7 at s5 g5 ⊢
      have s57 := s4.trans s5
      have s47 := s3.trans s57
      have s37 := s2.trans s47
      have s27 := s1.trans s37
      have hp7 := s27 _ _ hp2
      have nq5p : q5 ≠ p := fun z => by rw [z, s4 _ _ (s3 _ _ (s2 _ _ (s1 _ _ hp2)))] at hq5; cases hq5
      have nq5H2 : H2 q5 = none := ((s1.trans s2).trans (s3.trans s4)).free hq5
      have ix7 := ix2.same s27
      have it7 := it2.same s27
      have ik7 := itk.same s27
      have ts7 : TsAt H7 [Tr.bi "pair" t (unkT z), .bi "seal" (unkT z) tk, .bi "pair" (.bi "seal" (unkT z) tk) t, unkT z] [.ref q1, .ref q2, .ref q4, x] :=
        TsAt.cons ⟨q1, _, _, rfl, s37 _ _ g1, it7, ix7⟩ (TsAt.cons ⟨q2, _, _, rfl, s47 _ _ g2, ix7, ik7⟩ (TsAt.cons ⟨q4, _, _, rfl, s5 _ _ g4, ⟨q3, _, _, rfl, s57 _ _ g3, ix7, ik7⟩, it7⟩ (TsAt.one ix7)))
      refine gName_k ?_
      try dsimp only
      have S7 : But p H H7 := B2.trans (But.of_same s27)
      have hu7 := S7 _ _ nup hu
      have k7 : Kp 0 H H7 := S7.kp hp
      have hA7 := hA.mono k7
      refine seqAsg ⟨_, rfl, u, rfl, ⟨_, SqL.of hu7⟩, fun D hD => ?_⟩
      have nDp : D ≠ p := fun z => by rw [z, hp7] at hD; cases hD
      refine lcg (C := 0) (R := IsT) (ds := held) isOwn Tr.in1 (fun _ _ _ _ kp h => h.mono kp) (SqL.of hu7) hal (by omega) hD (fun j y t' H8 Q8 hy ht s8 k8 => ?_) (fun j y t' H8 Q8 hy ht hh s8 k8 => ?_) fun vo H8 s8 hD8 ho8 => ?_
      · obtain ⟨pf, us, rfl, hpf⟩ := ((hA7.get j t' y ht hy).same s8).hd
        refine ⟨_, rfl, pf, _, _, _, rfl, rfl, SqT.of hpf, at_of (j := 0) rfl rfl, rfl, _, rfl, ?_⟩
        rw [decS]
        exact k8 _ (Same.refl _)
      · have i8 := (hA7.get j t' y ht hy).same s8
        have hh := of_decide_eq_true hh
        have wt' := (hAw t' (List.mem_of_getElem? ht)).1
        cases t' with
        | am kk xx =>
          rcases wt'.shp with ⟨_, _, e, ko⟩ | ⟨_, _, e, _⟩ | ⟨_, _, _, e, _⟩
          · cases e
            have hh : kk = "own" := hh
            subst hh
            rcases ko with ⟨e, _⟩ | ⟨e, _⟩ | ⟨e, _⟩ <;> exact absurd e (by decide +kernel)
          · cases e
          · cases e
        | un ss aa =>
          obtain ⟨pf, u1, rfl, hpf, i1⟩ := i8
          exact ⟨_, rfl, pf, _, _, _, rfl, rfl, SqT.of hpf, at_of (j := 1) rfl rfl, k8 _ _ (Same.refl _) i1⟩
        | bi ss aa bb =>
          obtain ⟨pf, u1, u2, rfl, hpf, i1, i2⟩ := i8
          have hh : ss = "own" := hh
          subst hh
          rcases wt'.shp with ⟨_, _, e, _⟩ | ⟨_, _, e, _⟩ | ⟨_, _, _, e, hs, _⟩
          · cases e
          · cases e
          · cases e
            exact absurd hs (by decide +kernel)
      have lo := ho8.len
      have lof : ((held.filter isOwn).map Tr.in1).length ≤ 100 := by
        rw [List.length_map]
        exact Nat.le_trans (List.length_filter_le _ _) hA1
      refine gName_k ?_
      try dsimp only
      have owns : ∀ a ∈ (held.filter isOwn).map Tr.in1, Tr.un "own" a ∈ held := fun a ha => by
        obtain ⟨t', ht', rfl⟩ := List.mem_map.mp ha
        obtain ⟨h1, h2⟩ := List.mem_filter.mp ht'
        have h2 := of_decide_eq_true h2
        have wt' := (hAw t' h1).1
        cases t' with
        | am kk xx =>
          rcases wt'.shp with ⟨_, _, e, ko⟩ | ⟨_, _, e, _⟩ | ⟨_, _, _, e, _⟩
          · cases e
            have h2 : kk = "own" := h2
            subst h2
            rcases ko with ⟨e, _⟩ | ⟨e, _⟩ | ⟨e, _⟩ <;> exact absurd e (by decide +kernel)
          · cases e
          · cases e
        | un ss aa =>
          have h2 : ss = "own" := h2
          subst h2
          exact h1
        | bi ss aa bb =>
          have h2 : ss = "own" := h2
          subst h2
          rcases wt'.shp with ⟨_, _, e, _⟩ | ⟨_, _, e, _⟩ | ⟨_, _, _, e, hs, _⟩
          · cases e
          · cases e
          · cases e
            exact absurd hs (by decide +kernel)
      generalize (held.filter isOwn).map Tr.in1 = ow at ho8 lo lof owns
      have g58 := s8 _ _ g5
      refine ⟨_, rfl, .inl ⟨rfl, _, SqL.of g58⟩, ?_⟩
      refine ⟨_, rfl, D, rfl, ⟨_, SqL.of hD8⟩, fun D2 hD2 => ?_⟩
      have ix8 := ix7.same s8
      have it8 := it7.same s8
      refine lcg (C := 0) (R := IsT) (ds := ow) (fun _ => true) (lk1 t z) (fun _ _ _ _ kp h => h.mono kp) (SqL.of hD8) lo (by omega) hD2 (fun j y t' H9 Q9 hy ht s9 k9 => k9 _ (Same.refl _)) (fun j y t' H9 Q9 hy ht hh s9 k9 => ?_) fun vl H9 s9 hD9 hl9 => ?_
      · have i9 := (ho8.get j t' y ht hy).same s9
        refine ⟨_, rfl, _, rfl, (by show 3 ≤ sizeLine; decide), fun r1 hr1 => ⟨_, rfl, (by show 2 ≤ sizeLine; decide), fun r2 hr2 => ⟨(by show 3 ≤ sizeLine; decide), fun r3 hr3 => ?_⟩⟩⟩
        have e1 := Rd.Same.upd (o := .tup [.str "pair", x, v]) hr1
        have f1 : upd H9 r1 (.tup [.str "pair", x, v]) r1 = some (.tup [.str "pair", x, v]) := upd_same
        generalize upd H9 r1 (.tup [.str "pair", x, v]) = G1 at e1 f1 hr2 hr3 ⊢
        have e2 := Rd.Same.upd (o := .tup [.str "open", y]) hr2
        have f2 : upd G1 r2 (.tup [.str "open", y]) r2 = some (.tup [.str "open", y]) := upd_same
        generalize upd G1 r2 (.tup [.str "open", y]) = G2 at e2 f2 hr3 ⊢
        have e3 := Rd.Same.upd (o := .tup [.str "lock", .ref r1, .ref r2]) hr3
        have e13 := (e1.trans e2).trans e3
        exact k9 _ _ e13 ⟨r3, _, _, rfl, upd_same, ⟨r1, _, _, rfl, (e2.trans e3) _ _ f1, (ix8.same s9).same e13, (it8.same s9).same e13⟩, ⟨r2, _, rfl, e3 _ _ f2, i9.same e13⟩⟩
      rw [List.filter_eq_self.mpr (fun _ _ => rfl)] at hl9
      have ll := hl9.len
      rw [List.length_map] at ll
      have g59 := s9 _ _ g58
      refine ⟨q5, D2, _, _, rfl, rfl, g59, hD9, by rw [List.length_cons]; show 3 + 1 + vl.length ≤ sizeLine; omega, ?_⟩
      have k9' := Kp.upd_lst (C := 0) (ys := [.ref q1, .ref q2, .ref q4, x] ++ vl) g59
      have b9 : But p H2 (upd H9 q5 (.lst ([.ref q1, .ref q2, .ref q4, x] ++ vl))) := fun c o hc e => by
        rw [upd_ne (ne_of_none e nq5H2)]
        exact s9 _ _ (s8 _ _ (s27 _ _ e))
      have g10 : upd H9 q5 (.lst ([.ref q1, .ref q2, .ref q4, x] ++ vl)) q5 = some (.lst ([.ref q1, .ref q2, .ref q4, x] ++ vl)) := upd_same
      have hp10 : upd H9 q5 (.lst ([.ref q1, .ref q2, .ref q4, x] ++ vl)) p = some (.lst y2) := by
        rw [upd_ne (Ne.symm nq5p)]
        exact s9 _ _ (s8 _ _ hp7)
      have ts10 : TsAt (upd H9 q5 (.lst ([.ref q1, .ref q2, .ref q4, x] ++ vl))) ([Tr.bi "pair" t (unkT z), .bi "seal" (unkT z) tk, .bi "pair" (.bi "seal" (unkT z) tk) t, unkT z] ++ ow.map (lk1 t z)) ([.ref q1, .ref q2, .ref q4, x] ++ vl) := ((ts7.same (s8.trans s9)).mono k9').app (hl9.ts.mono k9')
      have ix10 := (ix8.same s9).mono k9'
      have it10 := (it8.same s9).mono k9'
      have hA10 := ((hA7.same s8).same s9).mono k9'
      have hu10 : upd H9 q5 (.lst ([.ref q1, .ref q2, .ref q4, x] ++ vl)) u = some (.lst hv) := b9 _ _ nup (B2 _ _ nup hu)
      generalize upd H9 q5 (.lst ([.ref q1, .ref q2, .ref q4, x] ++ vl)) = H10 at b9 g10 hp10 ts10 ix10 it10 hA10 hu10 ⊢
      try dsimp only
      obtain ⟨o1, o2, o3⟩ := wt_opts uz bu buk fun a ha => by
        obtain ⟨w1, w2, w3⟩ := hAw _ (hOwn a ha)
        exact ⟨w1, w2, w3⟩
      have fH : ∀ t ∈ held, t.fine ∧ t.dep ≤ 60 := fun t ht => ⟨(hAw t ht).1.fine, by have := (hAw t ht).2.1; omega⟩
      refine seqIf (b := decide (YOU ∈ held)) (fun Q2 kq => ?_) fun H11 s11 => ?_
      · refine ⟨(by show 2 ≤ sizeLine; decide), fun qy hqy => ?_⟩
        have sY := Rd.Same.upd (o := .tup [.str "unknown", .str "you"]) hqy
        exact ⟨_, rfl, rd_inTs (u := YOU) ⟨qy, rfl, upd_same⟩ ⟨(unkT_wf (by decide +kernel)).fine, by decide⟩ (sY _ _ hu10) (hA10.same sY) fH ⟨_, rfl, kq _ sY⟩⟩
      have base : ∀ t' ∈ [Tr.bi "pair" t (unkT z), .bi "seal" (unkT z) tk, .bi "pair" (.bi "seal" (unkT z) tk) t, unkT z] ++ ow.map (lk1 t z), Wt held [z] t' := fun t' ht' => by
        rcases List.mem_append.mp ht' with h | h
        · exact o1 t' h
        · obtain ⟨a, ha, rfl⟩ := List.mem_map.mp h
          exact o2 a (owns a ha) (hOwn a (owns a ha))
      have l10 : ([.ref q1, .ref q2, .ref q4, x] ++ vl).length = 4 + ow.length := by
        rw [ts10.len, List.length_append, List.length_map]
        rfl
      have fin : ∀ {H12 : Hp} {fs : List Tr} {ws : List V} {QQ : VK}, But p H2 H12 → H12 p = some (.lst y2) → H12 q5 = some (.lst ws) → TsAt H12 fs ws → (∀ t' ∈ fs, Wt held [z] t') → 0 < ws.length → ws.length ≤ 1000 → (∀ v' H' (t : Tr) (ys : List V), But p H H' → H' p = some (.lst ys) → StL n ys → Wt held [z] t → IsT H' t v' → QQ v' H') → sp_pick K [.ref p, .ref q5] H12 QQ E0 := fun {H12 fs ws QQ} bb hpp hqq tt ww l0 l1 kk => by
        refine pick_of hpp hy2 nq5p hqq l0 l1 fun v' H' ys' hv' b' hp' hy' => ?_
        obtain ⟨t', ht', it'⟩ := (tt.mono (C := 0) (b'.kp hpp)).mem hv'
        exact kk _ _ t' ys' ((B2.trans bb).trans b') hp' hy' (ww t' ht') it'
      by_cases hY : YOU ∈ held
      · rw [decide_eq_true hY]
        have g11 := s11 _ _ g10
        refine iteT ⟨_, rfl, .inl ⟨rfl, _, SqL.of g11⟩, _, rfl, _, rfl, (by show 3 ≤ sizeLine; decide), fun r1 hr1 => ?_⟩
        have e1 := Rd.Same.upd (o := .tup [.str "pair", x, v]) hr1
        have f1 : upd H11 r1 (.tup [.str "pair", x, v]) r1 = some (.tup [.str "pair", x, v]) := upd_same
        generalize upd H11 r1 (.tup [.str "pair", x, v]) = G1 at e1 f1 ⊢
        refine ⟨(by show 2 ≤ sizeLine; decide), fun qy hqy => ⟨(by show 2 ≤ sizeLine; decide), fun qz hqz => ⟨(by show 3 ≤ sizeLine; decide), fun r3 hr3 => ?_⟩⟩⟩
        have sy := Rd.Same.upd (o := .tup [.str "unknown", .str "you"]) hqy
        have fy : upd G1 qy (.tup [.str "unknown", .str "you"]) qy = some (.tup [.str "unknown", .str "you"]) := upd_same
        generalize upd G1 qy (.tup [.str "unknown", .str "you"]) = Gy at sy fy hqz hr3 ⊢
        have sz := Rd.Same.upd (o := .tup [.str "own", .ref qy]) hqz
        have fz : upd Gy qz (.tup [.str "own", .ref qy]) qz = some (.tup [.str "own", .ref qy]) := upd_same
        generalize upd Gy qz (.tup [.str "own", .ref qy]) = HY at sz fz hr3 ⊢
        have sY := sy.trans sz
        have iY : IsT HY (.un "own" YOU) (.ref qz) := ⟨qz, _, rfl, fz, qy, rfl, sz _ _ fy⟩
        have e3 := Rd.Same.upd (o := .tup [.str "lock", .ref r1, .ref qz]) hr3
        have f3 : upd HY r3 (.tup [.str "lock", .ref r1, .ref qz]) r3 = some (.tup [.str "lock", .ref r1, .ref qz]) := upd_same
        generalize upd HY r3 (.tup [.str "lock", .ref r1, .ref qz]) = G3 at e3 f3 ⊢
        have e13 := (e1.trans sY).trans e3
        have s12 := s11.trans e13
        refine ⟨q5, _, _, rfl, rfl, e13 _ _ g11, by rw [l10]; omega, ?_⟩
        have kl := Kp.upd_lst (C := 0) (ys := [.ref q1, .ref q2, .ref q4, x] ++ vl ++ [.ref r3]) (e13 _ _ g11)
        have iL : IsT G3 (.bi "lock" (.bi "pair" (unkT z) t) (.un "own" YOU)) (.ref r3) := ⟨r3, _, _, rfl, f3, ⟨r1, _, _, rfl, (sY.trans e3) _ _ f1, ix10.same s12, it10.same s12⟩, iY.same e3⟩
        have ts12 := ((ts10.same s12).mono kl).app ((TsAt.one iL).mono kl)
        refine ⟨_, rfl, _, rfl, fin (fun c o hc e => ?_) ?_ upd_same ts12 (fun t' ht' => ?_) (by rw [List.length_append]; show 0 < _ + 1; omega) (by rw [List.length_append, l10]; show 4 + ow.length + 1 ≤ 1000; omega) fun v' H' t' ys' b' hp' hy' wt' it' => ?_⟩
        · rw [upd_ne (ne_of_none e nq5H2)]
          exact s12 _ _ (b9 _ _ hc e)
        · rw [upd_ne (Ne.symm nq5p)]
          exact s12 _ _ hp10
        · rcases List.mem_append.mp ht' with h | h
          · exact base t' h
          · rw [List.mem_singleton.mp h]
            exact o3 hY
        · refine gName_k ?_
          try dsimp only
          exact ⟨t', v', ys', _, _, _, _, _, _, rfl, b', hp', hy', wt', fun z => absurd z (by decide), it'⟩
      · rw [decide_eq_false hY]
        refine iteF (nxt ?_)
        try dsimp only
        refine ⟨_, rfl, _, rfl, fin (b9.trans (But.of_same s11)) (s11 _ _ hp10) (s11 _ _ g10) (ts10.same s11) base (by omega) (by omega) fun v' H' t' ys' b' hp' hy' wt' it' => ?_⟩
        refine gName_k ?_
        try dsimp only
        exact ⟨t', v', ys', _, _, _, _, _, _, rfl, b', hp', hy', wt', fun z => absurd z (by decide), it'⟩
    · rintro σ Hc ⟨t, v, ys, t4, t5, t6, t7, t8, t9, rfl, bc, hpc, hyc, wt, hbu, it⟩
      refine ⟨_, rfl, k t v ys Hc bc hpc (hyc.mono (by omega)) ?_ it⟩
      rwa [hfl, List.take_length] at wt
end
end Rd
namespace Rd
open PySem L2
def SD : List Str := ["send"]
def CD : List Str := ["claim", "done"]
structure RowS (A : List Tr) (r : Row) : Prop where
  kd : r.1 = AW ∨ r.1 = SD ∨ r.1 = CD
  wf : Wf r.2
  dp : r.2.dep ≤ 6
  sz : r.2.all.length ≤ 22
  lf : r.2.leafIn A
def dW : Nat := dS 3 + 2
def sp_lrows : Sp := fun vs H Q _ => ∃ (p u : Addr) (xs av : List V) (A : List Tr) (n : Nat), vs = [.ref p, .ref u] ∧ H p = some (.lst xs) ∧ StL (n + (1 + 5 * dW)) xs ∧ u ≠ p ∧ H u = some (.lst av) ∧ TsAt H A av ∧ 0 < A.length ∧ A.length ≤ 1000 ∧ (∀ t ∈ A, Wf t ∧ ∃ k x, t = .am k x) ∧
  ∀ q ur (rs : List Row) ys H', But p H H' → H q = none → H' q = some (.lst ur) → RsAt IsRowF H' rs ur → H' p = some (.lst ys) → StL n ys → rs.length ≤ 5 → (∀ r ∈ rs, RowS A r) → Q (.ref q) H'
theorem Sml.s3 {A : List Tr} {d : Nat} {t : Tr} (h : Sml d A t) (hd : d ≤ 3) : Wf t ∧ t.dep ≤ 6 ∧ t.all.length ≤ 22 ∧ t.leafIn A := by
  refine ⟨h.wf, by have := h.dp; omega, Nat.le_trans h.sz ?_, h.lf⟩
  have : ∀ e, e ≤ 3 → smS e ≤ 22 := by decide
  exact this d hd
section
variable {P : Program} {w : World} {K : PySem.W.Frag} {mg : Str → Option Value} {base : Heap}
end
end Rd
namespace Rd
open PySem L2
theorem cut_to2 {xs : List V} {k : Nat} : cutV xs none (some (k : Int)) = xs.take k := by
  unfold cutV
  rw [HT.sIx_nat]
  show (xs.drop 0).take (min k xs.length - 0) = xs.take k
  rw [List.drop_zero, Nat.sub_zero]
  by_cases h : k ≤ xs.length
  · rw [Nat.min_eq_left h]
  · rw [Nat.min_eq_right (by omega), List.take_length, List.take_of_length_le (by omega)]
theorem all_unk {x : Str} : ∀ {t : Tr}, unkT x ∈ t.all ↔ x ∈ t.txt "unknown"
  | .am k y => by
    show unkT x ∈ [Tr.am k y] ↔ x ∈ (if k = "unknown" then [y] else [])
    rw [List.mem_singleton]
    constructor
    · intro e
      obtain ⟨e1, e2⟩ := Tr.am.inj e
      rw [if_pos e1.symm, e2]
      exact List.mem_cons_self
    · intro h
      by_cases e : k = "unknown"
      · rw [if_pos e] at h
        rw [List.mem_singleton.mp h, e]
        rfl
      · rw [if_neg e] at h
        cases h
  | .un s a => by
    rw [all_parts, List.mem_cons]
    show _ ∨ unkT x ∈ [a].flatMap Tr.all ↔ x ∈ a.txt "unknown"
    rw [List.flatMap_cons, List.flatMap_nil, List.append_nil, ← all_unk (t := a)]
    exact ⟨fun h => h.elim (fun e => by cases e) id, .inr⟩
  | .bi s a b => by
    rw [all_parts, List.mem_cons]
    show _ ∨ unkT x ∈ [a, b].flatMap Tr.all ↔ x ∈ a.txt "unknown" ++ b.txt "unknown"
    rw [List.flatMap_cons, List.flatMap_cons, List.flatMap_nil, List.append_nil, List.mem_append, List.mem_append, ← all_unk (t := a), ← all_unk (t := b)]
    exact ⟨fun h => h.elim (fun e => by cases e) id, .inr⟩
theorem news_memD {m : List Str} {t : Tr} {x : Str} (h : x ∈ news m t) : x ∈ uniS (t.txt "unknown") ∧ x ∉ m := by
  obtain ⟨h1, h2⟩ := List.mem_filter.mp h
  exact ⟨h1, by simpa using h2⟩
def NK : List Str := ["N", "K"]
structure RowD (r : Row) : Prop where
  kd : r.1 = AW ∨ r.1 = SD ∨ ∃ x ∈ (["begun", "done"] : List Str), r.1 = ([("claim" : Str), x] : List Str)
  wf : Wf r.2
  dp : r.2.dep ≤ 6
  sz : r.2.all.length ≤ 16
  nm : ∀ x ∈ r.2.txt "name", x ∈ NK
/-- how far a fit role is drawn -/
structure Drn (ps : List Str) (ks lh ph : List Tr) (met : List Str) (rs : List Row) : Prop where
  eq : ∀ y, y ∈ lh ↔ y ∈ ph
  mt : ∀ x, unkT x ∈ lh ↔ x ∈ met
  un : ∀ y ∈ lh, ∀ x ∈ y.txt "unknown", x ∈ met
  el : ∀ y ∈ lh, Wf y ∧ y.dep ≤ 1 ∧ y.all.length ≤ 2
  nm : ∀ y ∈ lh, ∀ x ∈ y.txt "name", x ∈ NK
  ow : ∀ a, Tr.un "own" a ∈ lh → a ∈ lh
  fit : ∀ rest o, Fit rs.length met ph rest o → Fit 0 ps (fitH ps ["N"] ks) (rs ++ rest) o
  rows : ∀ r ∈ rs, RowD r
theorem Drn.snoc {ps : List Str} {ks lh ph ph' : List Tr} {met met' : List Str} {rs : List Row} {r : Row} (h : Drn ps ks lh ph met rs) (f : Fits met ph r met' ph') : ∀ rest o, Fit (rs ++ [r]).length met' ph' rest o → Fit 0 ps (fitH ps ["N"] ks) ((rs ++ [r]) ++ rest) o := fun rest o g => by
  rw [List.append_assoc]
  refine h.fit _ _ (.ok f ?_)
  rw [List.length_append] at g
  exact g
theorem Drn.ot {ps : List Str} {ks lh ph : List Tr} {met : List Str} {rs : List Row} {kk : List Str} {t : Tr} (h : Drn ps ks lh ph met rs) (hk : kk ≠ AW) (rd : RowD (kk, t)) (m : mka lh t = true) : Drn ps ks lh ph met (rs ++ [(kk, t)]) := by
  have hn : news met t = [] := by
    refine List.filter_eq_nil_iff.mpr fun x hx => ?_
    obtain ⟨y, hy, hxy⟩ := mka_txt (by decide +kernel) m x (uniS_mem.mp hx)
    simpa using h.un y hy x hxy
  obtain ⟨os, ho⟩ := open_ex ph
  refine ⟨h.eq, h.mt, h.un, h.el, h.nm, h.ow, h.snoc (.ot hk hn ho (mka_mono (fun y hy => ho.base y ((h.eq y).mp hy)) m)), fun r hr => ?_⟩
  rcases List.mem_append.mp hr with g | g
  · exact h.rows r g
  · rw [List.mem_singleton.mp g]
    exact rd
theorem Drn.aw {ps : List Str} {ks lh ph : List Tr} {met : List Str} {rs : List Row} {t : Tr} {fr add : List Str} (h : Drn ps ks lh ph met rs) (hw : Wt lh fr t) (hf : ∀ x ∈ fr, unkT x ∉ lh) (hu : ∀ x ∈ fr, isUnk x = true) (ha : ∀ x, x ∈ add ↔ x ∈ fr) : Drn ps ks (lh ++ add.map unkT) (ph ++ (news met t).map unkT) (met ++ uniS (t.txt "unknown")) (rs ++ [(AW, t)]) := by
  have hn : ∀ x, x ∈ news met t ↔ x ∈ fr := fun x => by
    constructor
    · intro hx
      obtain ⟨h1, h2⟩ := news_memD hx
      rcases hw.un x (uniS_mem.mp h1) with g | ⟨y, hy, hxy⟩
      · exact g
      · exact absurd (h.un y hy x hxy) h2
    · intro hx
      refine List.mem_filter.mpr ⟨uniS_mem.mpr (hw.inn x hx), ?_⟩
      have : x ∉ met := fun z => hf x hx ((h.mt x).mpr z)
      simpa using this
  obtain ⟨os, ho⟩ := open_ex (ph ++ [t])
  obtain ⟨qs, hq⟩ := open_ex (ph ++ (news met t).map unkT)
  have mem_add : ∀ y, y ∈ add.map unkT ↔ y ∈ (news met t).map unkT := fun y => by
    rw [List.mem_map, List.mem_map]
    exact ⟨fun ⟨x, hx, e⟩ => ⟨x, (hn x).mpr ((ha x).mp hx), e⟩, fun ⟨x, hx, e⟩ => ⟨x, (ha x).mpr ((hn x).mp hx), e⟩⟩
  have unkI : ∀ (x : Str) (l : List Str), unkT x ∈ l.map unkT ↔ x ∈ l := fun x l => by
    rw [List.mem_map]
    exact ⟨fun ⟨z, hz, e⟩ => by cases e; exact hz, fun hx => ⟨x, hx, rfl⟩⟩
  refine ⟨fun y => ?_, fun x => ?_, fun y hy x hx => ?_, fun y hy => ?_, fun y hy x hx => ?_, fun a hy => ?_, h.snoc (.aw rfl ho (fun x hx => ?_) hq ?_), fun r hr => ?_⟩
  · rw [List.mem_append, List.mem_append, h.eq, mem_add]
  · rw [List.mem_append, List.mem_append, h.mt, unkI, ha, uniS_mem]
    refine ⟨fun g => g.elim .inl fun g => .inr (hw.inn x g), fun g => g.elim .inl fun g => ?_⟩
    rcases hw.un x g with g | ⟨y, hy, hxy⟩
    · exact .inr g
    · exact .inl (h.un y hy x hxy)
  · rcases List.mem_append.mp hy with g | g
    · exact List.mem_append_left _ (h.un y g x hx)
    · obtain ⟨z, hz, rfl⟩ := List.mem_map.mp g
      rw [unkT_txt] at hx
      rw [List.mem_singleton.mp hx]
      exact List.mem_append_right _ (uniS_mem.mpr (hw.inn z ((ha z).mp hz)))
  · rcases List.mem_append.mp hy with g | g
    · exact h.el y g
    · obtain ⟨z, hz, rfl⟩ := List.mem_map.mp g
      exact ⟨unkT_wf (hu z ((ha z).mp hz)), Nat.zero_le _, by show 1 ≤ 2; decide⟩
  · rcases List.mem_append.mp hy with g | g
    · exact h.nm y g x hx
    · obtain ⟨z, hz, rfl⟩ := List.mem_map.mp g
      cases hx
  · rcases List.mem_append.mp hy with g | g
    · exact List.mem_append_left _ (h.ow a g)
    · obtain ⟨z, hz, e⟩ := List.mem_map.mp g
      cases e
  · refine hw.op os (fun y hy => ho.base y (List.mem_append_left _ ((h.eq y).mp hy))) (ho.base t (List.mem_append_right _ List.mem_cons_self)) ho.pcl ho.scl x ((hn x).mp hx)
  · refine hw.sn qs (fun y hy => hq.base y (List.mem_append_left _ ((h.eq y).mp hy))) fun x hx => hq.base _ (List.mem_append_right _ ((unkI x _).mpr ((hn x).mpr hx)))
  · rcases List.mem_append.mp hr with g | g
    · exact h.rows r g
    · rw [List.mem_singleton.mp g]
      refine ⟨.inl rfl, hw.wf, hw.dp, hw.sz, fun x hx => ?_⟩
      obtain ⟨y, hy, hxy⟩ := hw.nm x hx
      exact h.nm y hy x hxy
def MY : List Str := ["me", "you"]
def KK : Tr := .am "name" "K"
def ownU (x : Str) : Tr := .un "own" (unkT x)
def lh0 (ps : List Str) (ks : List Tr) : List Tr := (ps.map unkT ++ [.am "name" "N"]) ++ ks
theorem KK_wf : Wf KK := .am (.inr (.inl ⟨rfl, by decide +kernel⟩))
theorem MY_unk : ∀ x ∈ MY, isUnk x = true := by decide +kernel
theorem Drn.init {ps qs : List Str} (hp : ∀ x ∈ ps, x ∈ MY) (hq : ∀ x ∈ qs, x ∈ ps) : Drn ps (KK :: qs.map ownU) (lh0 ps (KK :: qs.map ownU)) (fitH ps ["N"] (KK :: qs.map ownU)) ps [] := by
  have cs : ∀ y, y ∈ lh0 ps (KK :: qs.map ownU) → (∃ x ∈ ps, y = unkT x) ∨ y = .am "name" "N" ∨ y = KK ∨ ∃ x ∈ qs, y = ownU x := fun y hy => by
    unfold lh0 at hy
    rcases List.mem_append.mp hy with g | g
    · rcases List.mem_append.mp g with g | g
      · obtain ⟨x, hx, rfl⟩ := List.mem_map.mp g
        exact .inl ⟨x, hx, rfl⟩
      · exact .inr (.inl (List.mem_singleton.mp g))
    · rcases List.mem_cons.mp g with g | g
      · exact .inr (.inr (.inl g))
      · obtain ⟨x, hx, rfl⟩ := List.mem_map.mp g
        exact .inr (.inr (.inr ⟨x, hx, rfl⟩))
  have inp : ∀ x ∈ ps, unkT x ∈ lh0 ps (KK :: qs.map ownU) := fun x hx => List.mem_append_left _ (List.mem_append_left _ (List.mem_map.mpr ⟨x, hx, rfl⟩))
  refine ⟨fun y => ?_, fun x => ⟨fun hx => ?_, inp x⟩, fun y hy x hx => ?_, fun y hy => ?_, fun y hy x hx => ?_, fun a hy => ?_, fun rest o g => g, fun r hr => by cases hr⟩
  · unfold lh0 fitH
    simp only [List.mem_append, List.map_cons, List.map_nil]
    constructor
    · rintro ((g | g) | g)
      · exact .inr (.inl g)
      · exact .inr (.inr g)
      · exact .inl g
    · rintro (g | g | g)
      · exact .inr g
      · exact .inl (.inl g)
      · exact .inl (.inr g)
  · rcases cs _ hx with ⟨z, hz, e⟩ | e | e | ⟨z, _, e⟩
    · cases e; exact hz
    · exact absurd (Tr.am.inj e).1 (by decide +kernel)
    · exact absurd (Tr.am.inj e).1 (by decide +kernel)
    · cases e
  · rcases cs _ hy with ⟨z, hz, rfl⟩ | rfl | rfl | ⟨z, hz, rfl⟩
    · rw [unkT_txt] at hx; rw [List.mem_singleton.mp hx]; exact hz
    · cases hx
    · cases hx
    · have hx : x ∈ [z] := hx
      rw [List.mem_singleton.mp hx]; exact hq z hz
  · rcases cs _ hy with ⟨z, hz, rfl⟩ | rfl | rfl | ⟨z, hz, rfl⟩
    · exact ⟨unkT_wf (MY_unk z (hp z hz)), Nat.zero_le _, by show 1 ≤ 2; decide⟩
    · exact ⟨.am (.inr (.inl ⟨rfl, by decide +kernel⟩)), Nat.zero_le _, by show 1 ≤ 2; decide⟩
    · exact ⟨KK_wf, Nat.zero_le _, by show 1 ≤ 2; decide⟩
    · exact ⟨.un (by decide +kernel) (unkT_wf (MY_unk z (hp z (hq z hz)))), Nat.le_refl _, by show 2 ≤ 2; decide⟩
  · rcases cs _ hy with ⟨z, hz, rfl⟩ | rfl | rfl | ⟨z, hz, rfl⟩
    · cases hx
    · have hx : x ∈ [("N" : Str)] := hx
      rw [List.mem_singleton.mp hx]; decide +kernel
    · have hx : x ∈ [("K" : Str)] := hx
      rw [List.mem_singleton.mp hx]; decide +kernel
    · cases hx
  · rcases cs _ hy with ⟨z, hz, e⟩ | e | e | ⟨z, hz, e⟩
    · cases e
    · cases e
    · cases e
    · cases e
      exact inp z (hq z hz)
/-- a drawn role, told -/
structure FitR (r : RoleD) : Prop where
  ps : ∃ d, d ≤ 2 ∧ r.ps = MY.take d
  ks : ∃ qs : List Str, qs.length ≤ 1 ∧ (∀ x ∈ qs, x ∈ r.ps) ∧ r.ks = KK :: qs.map ownU
  fr : r.fr = (["N"] : List Str)
  rl : r.rs.length ≤ 4
  rows : ∀ y ∈ r.rs, RowD y
  fit : r.fit none
theorem NK_dig : ∀ x ∈ NK, endDig x = false := by decide +kernel
theorem FitR.bad {r : RoleD} (h : FitR r) (hz : isWord r.ti = true) : r.bad = none := by
  obtain ⟨z, ps, ks, fr, rs⟩ := r
  obtain ⟨d, hd, e1⟩ := h.ps
  obtain ⟨qs, hq1, hqs, e2⟩ := h.ks
  have e3 := h.fr
  have hrw := h.rows
  have hz : isWord z = true := hz
  have e1 : ps = MY.take d := e1
  have e2 : ks = KK :: qs.map ownU := e2
  have e3 : fr = (["N"] : List Str) := e3
  have hqs : ∀ x ∈ qs, x ∈ ps := hqs
  have hp : (!decide ps.Nodup || !ps.all isUnk) = false := by
    have : ∀ d, d ≤ 2 → (!decide (MY.take d).Nodup || !(MY.take d).all isUnk) = false := by decide +kernel
    rw [e1]
    exact this d hd
  have h1 : ks.any (badKnow ps) = false := by
    rw [List.any_eq_false, e2]
    intro t ht
    rcases List.mem_cons.mp ht with rfl | ht
    · have : ∀ d, d ≤ 2 → badKnow (MY.take d) KK = false := by decide +kernel
      rw [e1, this d hd]
      decide
    · obtain ⟨x, hx, rfl⟩ := List.mem_map.mp ht
      have : badKnow ps (ownU x) = (hasDig (ownU x) || [x].any fun x => !decide (x ∈ ps)) := rfl
      rw [this, List.any_cons, List.any_nil, decide_eq_true (hqs x hx)]
      have : hasDig (ownU x) = false := rfl
      rw [this]
      decide
  have h2 : Tr.am "name" "N" ∉ allOf ks := fun hm => by
    rw [e2] at hm
    obtain ⟨t, ht, hu⟩ := List.mem_flatMap.mp hm
    rcases List.mem_cons.mp ht with rfl | ht
    · exact absurd hu (by decide +kernel)
    · obtain ⟨x, hx, rfl⟩ := List.mem_map.mp ht
      have hu : Tr.am "name" "N" ∈ [ownU x, unkT x] := hu
      rcases List.mem_cons.mp hu with e | hu
      · cases e
      · exact absurd (Tr.am.inj (List.mem_singleton.mp hu)).1 (by decide +kernel)
  have h3 : rs.any badRow = false := by
    rw [List.any_eq_false]
    intro r hr'
    have h := hrw r hr'
    have g1 : hasDig r.2 = false := by
      unfold hasDig
      rw [List.any_eq_false]
      intro x hx
      rw [NK_dig x (h.nm x hx)]
      decide
    have g2 : claimBad r.1 = false := by
      rcases h.kd with e | e | ⟨x, hx, e⟩
      · rw [e]; decide +kernel
      · rw [e]; decide +kernel
      · rw [e]
        have : ∀ x ∈ (["begun", "done"] : List Str), claimBad ([("claim" : Str), x] : List Str) = false := by decide +kernel
        exact this x hx
    unfold badRow
    rw [g1, g2]
    decide
  unfold RoleD.bad badRole
  show (if isWord z = false then _ else _) = _
  rw [if_neg (by rw [hz]; decide), if_neg (by show ¬ (!decide ps.Nodup || !ps.all isUnk) = true; rw [hp]; decide), if_neg (by show ¬ ks.any (badKnow ps) = true; rw [h1]; decide), if_neg, if_neg (by show ¬ rs.any badRow = true; rw [h3]; decide)]
  show ¬ (!decide fr.Nodup || fr.any (badFresh (allOf ks))) = true
  rw [e3, List.any_cons, List.any_nil]
  unfold badFresh
  rw [decide_eq_false h2]
  decide +kernel
end Rd
namespace Rd
open PySem L2
def XYZ : List Str := ["x", "y", "z"]
def sp_fitrole : Sp := fun vs H Q _ => ∃ (p a : Addr) (xs av : List V) (n : Nat), vs = [.ref p, .ref a] ∧ H p = some (.lst xs) ∧ StL (n + 163) xs ∧ a ≠ p ∧ H a = some (.lst av) ∧ TsAt H [KK] av ∧
  ∀ (r : RoleD) q ap ak af ar ys H', But p H H' → H q = none → H ap = none → H ak = none → H af = none → H ar = none → H' q = some (.tup [.ref ap, .ref ak, .ref af, .ref ar]) → (∀ z : Str, z.length ≤ 200000 → RoleF H' 6 16 ⟨z, r.ps, r.ks, r.fr, r.rs⟩ ap ak af ar) → H' p = some (.lst ys) → StL n ys → FitR r → Q (.ref q) H'
theorem szs_ownU : ∀ qs : List Str, szs (qs.map ownU) = 2 * qs.length
  | [] => rfl
  | x :: qs => by
    have e3 : szs ((x :: qs).map ownU) = 2 + szs (qs.map ownU) := rfl
    rw [e3, szs_ownU qs, List.length_cons]
    omega
/-- the state of the walk ahead of row i; H6: the heap ahead of the first one -/
def FrI (H6 : Hp) (p a R P1 K1 : Addr) (ps : List Str) (ks : List Tr) (n i : Nat) (σ : St) (Hc : Hp) : Prop :=
  ∃ (lh ph : List Tr) (met : List Str) (rs : List Row) (hv ur ys : List V) (G : Addr) (t4 t7 t8 t9 t10 t11 : Option V), σ = [some (.ref p), some (.ref a), some (.ref P1), some (.ref K1), t4, some (.ref G), some (.ref R), t7, t8, t9, t10, t11] ∧
    (∀ c o, c ≠ p → c ≠ R → H6 c = some o → Hc c = some o) ∧ Hc R = some (.lst ur) ∧ RsAt IsRowF Hc rs ur ∧ rs.length = i ∧ Drn ps ks lh ph met rs ∧ G ≠ p ∧ G ≠ R ∧ Hc G = some (.lst hv) ∧ TsAt Hc lh hv ∧ lh.length ≤ 5 + 3 * i ∧ Hc p = some (.lst ys) ∧ StL (n + (4 - i) * 40) ys
section
variable {P : Program} {w : World} {K : PySem.W.Frag} {mg : Str → Option Value} {base : Heap}
abbrev s__law_fit_role : Stmt := top 53
theorem sc__law_fit_role : FnScope ["_law_stream_here", "_law_known", "_law_params", "_law_knows", "_law_name", "_law_held", "_law_rows", "_law_k", "_law_way", "_law_fresh", "_law_one", "_law_word"] ["_law_stream_here", "_law_known"] (defScope s__law_fit_role) := ⟨rfl, rfl, rfl, by decide +kernel, rfl, by decide +kernel, by decide +kernel⟩
theorem ok__law_fit_role (T : Tx w K mg) : Fk P w K mg base CX0 11 "_law_fit_role" ["_law_stream_here", "_law_known"] sp_fitrole := by
  refine T.F__law_fit_role.ok0 sc__law_fit_role (fun _ _ _ _ _ _ us hl => match us, hl with | [_, _], _ => rfl)
    (fun vs H Q E h => ?_) (fun cdv A outer s H vs Q E hr h => ?_)
  · obtain ⟨p, a, xs, av, n, rfl, _⟩ := h
    rfl
  · obtain ⟨p, a, xs, av, n, rfl, hp, hx, nap, ha, hka, k⟩ := h
    refine ⟨_, (pss_cons (ps_set (i := 2) sc__law_fit_role.nd rfl (Or.inl rfl) (pe_slice sl_list (pe_lst (pa_cons pe_str (pa_cons pe_str pa_nil))) po_none (po_some (pe_fk (ok__law_draw T) (hr.mono (by omega)) rfl pass0 (pa_cons (pv 0) (pa_cons pe_int pa_nil))))))
  (pss_cons (ps_set (i := 3) sc__law_fit_role.nd rfl (Or.inl rfl) (pe_op op_cat (pe_callTy call_list_of (by rfl) T.z_list (by decide +kernel) (pa_cons (pv 1) pa_nil)) (pe_lc (own := [("_law_name", 4)]) (g := gName 4) (tt := tYes) (by rfl) sc__law_fit_role.nd (pi_list (pe_slice sl_list (pv 2) po_none (po_some (pe_fk (ok__law_draw T) (hr.mono (by omega)) rfl pass0 (pa_cons (pv 0) (pa_cons pe_int pa_nil)))))) (blkOk_by (own := [("_law_name", 4)]) (N := ["_law_stream_here", "_law_known", "_law_params", "_law_knows", "_law_name", "_law_held", "_law_rows", "_law_k", "_law_way", "_law_fresh", "_law_one", "_law_word"]) (sc := defScope s__law_fit_role) (by decide +kernel)) (fun _ _ _ _ _ => (pg_name (i := 4) sc__law_fit_role.nd rfl (Or.inl rfl))) (fun _ _ _ _ _ => pts_nil) (fun _ _ _ _ _ => (pe_tup (pa_cons pe_str (pa_cons (pe_tup (pa_cons pe_str (pa_cons (pv 4) pa_nil))) pa_nil)))))))
  (pss_cons (ps_set (i := 5) sc__law_fit_role.nd rfl (Or.inr rfl) (pe_op op_cat (pe_op op_cat (pe_lc (own := [("_law_name", 4)]) (g := gName 4) (tt := tYes) (by rfl) sc__law_fit_role.nd (pi_list (pv 2)) (blkOk_by (own := [("_law_name", 4)]) (N := ["_law_stream_here", "_law_known", "_law_params", "_law_knows", "_law_name", "_law_held", "_law_rows", "_law_k", "_law_way", "_law_fresh", "_law_one", "_law_word"]) (sc := defScope s__law_fit_role) (by decide +kernel)) (fun _ _ _ _ _ => (pg_name (i := 4) sc__law_fit_role.nd rfl (Or.inl rfl))) (fun _ _ _ _ _ => pts_nil) (fun _ _ _ _ _ => (pe_tup (pa_cons pe_str (pa_cons (pv 4) pa_nil))))) (pe_lst (pa_cons (pe_tup (pa_cons pe_str (pa_cons pe_str pa_nil))) pa_nil))) (pv 3)))
  (pss_cons (ps_set (i := 6) sc__law_fit_role.nd rfl (Or.inr rfl) (pe_lst pa_nil))
  (pss_cons (ps_for PassesOwn.never rfl (pi_range1 rfl T.z_range (pa_cons (pe_op op_add pe_int (pe_fk (ok__law_draw T) (hr.mono (by omega)) rfl pass0 (pa_cons (pv 0) (pa_cons pe_int pa_nil)))) pa_nil)) (pg_name (i := 7) sc__law_fit_role.nd rfl (Or.inl rfl))
  (pss_cons (ps_set (i := 8) sc__law_fit_role.nd rfl (Or.inl rfl) (pe_fk (ok__law_draw T) (hr.mono (by omega)) rfl pass0 (pa_cons (pv 0) (pa_cons pe_int pa_nil))))
  (pss_one (ps_if (pt_cmpR op_lt (pv 8) pe_int (nomark _))
  (pss_cons (ps_setLc (i := 9) (own := [("_law_name", 4)]) (g := gName 4)  (by rfl) sc__law_fit_role.nd rfl rfl (sw_true rfl rfl rfl (by decide +kernel)) (pi_list (pe_lst (pa_cons pe_str (pa_cons pe_str (pa_cons pe_str pa_nil))))) (blkOk_by (own := [("_law_name", 4)]) (N := ["_law_stream_here", "_law_known", "_law_params", "_law_knows", "_law_name", "_law_held", "_law_rows", "_law_k", "_law_way", "_law_fresh", "_law_one", "_law_word"]) (sc := defScope s__law_fit_role) (by decide +kernel)) (fun _ _ _ _ _ => (pg_name (i := 4) sc__law_fit_role.nd rfl (Or.inl rfl))) (fun _ _ _ _ _ => (pts_one (pt_cmpR (kOp (r := rNotInD) (K := K) rfl (op_notInD hr.units65)) (pe_tup (pa_cons pe_str (pa_cons (pv 4) pa_nil))) (pv 5) (by rfl)))) (fun _ _ _ _ _ => (pe_tup (pa_cons pe_str (pa_cons (pv 4) pa_nil)))))
  (pss_cons (ps_expr (pe_bm PySem.F.plainAttrs_list PySem.F.slot_list_append PySem.F.type_list_append mt_append (pv 6) (pa_cons (pe_tup (pa_cons pe_str (pa_cons (pe_fk (ok__law_wanted T) (hr.mono (by omega)) rfl pass0 (pa_cons (pv 0) (pa_cons (pv 5) (pa_cons (pe_slice sl_list (pv 9) po_none (po_some (pe_fk (ok__law_draw T) (hr.mono (by omega)) rfl pass0 (pa_cons (pv 0) (pa_cons pe_int pa_nil))))) pa_nil)))) pa_nil))) pa_nil)))
  (pss_one (ps_set (i := 5) sc__law_fit_role.nd rfl (Or.inr rfl) (pe_op op_cat (pv 5) (pe_lc (own := [("_law_one", 10)]) (g := gName 10)  (by rfl) sc__law_fit_role.nd (pi_list (pv 9)) (blkOk_by (own := [("_law_one", 10)]) (N := ["_law_stream_here", "_law_known", "_law_params", "_law_knows", "_law_name", "_law_held", "_law_rows", "_law_k", "_law_way", "_law_fresh", "_law_one", "_law_word"]) (sc := defScope s__law_fit_role) (by decide +kernel)) (fun _ _ _ _ _ => (pg_name (i := 10) sc__law_fit_role.nd rfl (Or.inl rfl))) (fun _ _ _ _ _ => (pts_one (pt_cmpR (kOp (r := rInD) (K := K) rfl (op_inD hr.units65)) (pv 10) (pe_fk (ok__law_parts T 6) (hr.mono (by omega)) rfl pass0 (pa_cons (pe_ix (kIx (r := rIxT) (K := K) rfl ix_tup) (pe_ix (kIx (r := rIxL) (K := K) rfl ix_list) (pv 6) (pe_un un_neg pe_int) (fun _ _ => rfl)) pe_int (fun _ _ => rfl)) pa_nil)) (by rfl)))) (fun _ _ _ _ _ => (pv 10))))))))
  (pss_one (ps_if (pt_cmpR op_lt (pv 8) pe_int (nomark _))
  (pss_one (ps_expr (pe_bm PySem.F.plainAttrs_list PySem.F.slot_list_append PySem.F.type_list_append mt_append (pv 6) (pa_cons (pe_tup (pa_cons pe_str (pa_cons (pe_fk (ok__law_built T 2) (hr.mono (by omega)) rfl pass0 (pa_cons (pv 0) (pa_cons (pv 5) (pa_cons pe_int pa_nil)))) pa_nil))) pa_nil))))
  (pss_cons (ps_set (i := 11) sc__law_fit_role.nd rfl (Or.inl rfl) (pe_fk (ok__law_pick T) (hr.mono (by omega)) rfl pass0 (pa_cons (pv 0) (pa_cons (pe_lst (pa_cons pe_str (pa_cons pe_str pa_nil))) pa_nil))))
  (pss_one (ps_expr (pe_bm PySem.F.plainAttrs_list PySem.F.slot_list_append PySem.F.type_list_append mt_append (pv 6) (pa_cons (pe_tup (pa_cons pe_str (pa_cons (pv 11) (pa_cons (pe_fk (ok__law_built T 2) (hr.mono (by omega)) rfl pass0 (pa_cons (pv 0) (pa_cons (pv 5) (pa_cons pe_int pa_nil)))) pa_nil)))) pa_nil)))))))))))
  (pss_one (ps_ret (pe_tup (pa_cons (pv 2) (pa_cons (pv 3) (pa_cons (pe_lst (pa_cons pe_str pa_nil)) (pa_cons (pv 6) pa_nil)))))))))))), ?_⟩
    have big : 16777216 ≤ sizeLine := by decide
    -- params
    refine seqAsg ⟨(by show 2 ≤ sizeLine; decide), fun q0 hq0 => ?_⟩
    have s0 := Rd.Same.upd (o := .lst [.str "me", .str "you"]) hq0
    have hq01 : upd H q0 (.lst [.str "me", .str "you"]) q0 = some (.lst (MY.map V.str)) := upd_same
    have nq0p : q0 ≠ p := fun z => by rw [z, hp] at hq0; cases hq0
    generalize upd H q0 (.lst [.str "me", .str "you"]) = H1 at s0 hq01 ⊢
    refine rd_draw (m := 3) (n := n + 162) (by rfl) (s0 _ _ hp) (hx.mono (by omega)) (by decide) (by decide) fun d1 H2 y2 hd1 b2 hp2 hy2 => ?_
    refine ⟨_, rfl, q0, _, rfl, SqL.of (b2 _ _ nq0p hq01), fun P1 hP1 => ?_⟩
    rw [cut_to2, ← List.map_take]
    have sP := Rd.Same.upd (o := .lst ((MY.take d1).map V.str)) hP1
    have hP11 : upd H2 P1 (.lst ((MY.take d1).map V.str)) P1 = some (.lst ((MY.take d1).map V.str)) := upd_same
    have nP1p : P1 ≠ p := fun z => by rw [z, hp2] at hP1; cases hP1
    generalize upd H2 P1 (.lst ((MY.take d1).map V.str)) = H3 at sP hP11 ⊢
    have B3 : But p H H3 := ((But.of_same s0).trans b2).trans (But.of_same sP)
    have nP1 : H P1 = none := s0.free (b2.free hp2 hP1)
    have hpl : (MY.take d1).length ≤ 2 := by rw [List.length_take]; exact Nat.min_le_right _ _
    have hpm : ∀ x ∈ MY.take d1, x ∈ MY := fun x hx => List.mem_of_mem_take hx
    have psd : ∃ d, d ≤ 2 ∧ MY.take d1 = MY.take d := ⟨d1, by omega, rfl⟩
    generalize MY.take d1 = ps at hP11 hpl hpm psd
    refine gName_k ?_
    try dsimp only
    -- knows
    refine seqAsg ⟨_, rfl, a, _, rfl, .inl (SqL.of (B3 _ _ nap ha)), fun qk hqk => ?_⟩
    have sk := Rd.Same.upd (o := .lst av) hqk
    have hqk1 : upd H3 qk (.lst av) qk = some (.lst av) := upd_same
    have hp3 := sP _ _ hp2
    have nqkp : qk ≠ p := fun z => by rw [z, hp3] at hqk; cases hqk
    generalize upd H3 qk (.lst av) = H4 at sk hqk1 ⊢
    refine ⟨_, rfl, rd_draw (m := 2) (n := n + 161) (by rfl) (sk _ _ hp3) hy2 (by decide) (by decide) fun d2 H5 y5 hd2 b5 hp5 hy5 => ?_⟩
    refine ⟨_, rfl, P1, _, rfl, SqL.of (b5 _ _ nP1p (sk _ _ hP11)), fun P2 hP2 => ?_⟩
    rw [cut_to2, ← List.map_take]
    have sP2 := Rd.Same.upd (o := .lst ((ps.take d2).map V.str)) hP2
    have hP21 : upd H5 P2 (.lst ((ps.take d2).map V.str)) P2 = some (.lst ((ps.take d2).map V.str)) := upd_same
    generalize upd H5 P2 (.lst ((ps.take d2).map V.str)) = H6 at sP2 hP21 ⊢
    have hql : (ps.take d2).length ≤ 1 := by rw [List.length_take]; omega
    have hqm : ∀ x ∈ ps.take d2, x ∈ ps := fun x hx => List.mem_of_mem_take hx
    generalize ps.take d2 = qs at hP21 hql hqm
    refine ⟨P2, rfl, ⟨_, SqL.of hP21⟩, fun D hD => ?_⟩
    refine lcg (C := 0) (R := IsT) (ds := qs) (fun _ => true) ownU (fun _ _ _ _ kp h => h.mono kp) (SqL.of hP21) (by rw [List.length_map]) (by rw [List.length_map]; omega) hD (fun i x t H2 Q2 hx ht s2 k2 => k2 _ (Same.refl _)) (fun i x y H7 Q7 hx hy _ s7 k7 => ?_) fun vo H7 s7 hD7 ho7 => ?_
    · rw [List.getElem?_map, hy] at hx
      cases hx
      refine ⟨_, rfl, (by show 2 ≤ sizeLine; decide), fun r1 hr1 => ⟨(by show 2 ≤ sizeLine; decide), fun r2 hr2 => ?_⟩⟩
      have e1 := Rd.Same.upd (o := .tup [.str "unknown", .str y]) hr1
      have e2 := Rd.Same.upd (o := .tup [.str "own", .ref r1]) hr2
      exact k7 _ _ (e1.trans e2) ⟨r2, _, rfl, upd_same, r1, rfl, e2 _ _ upd_same⟩
    rw [List.filter_eq_self.mpr (fun _ _ => rfl)] at ho7
    have lo := ho7.len
    rw [List.length_map] at lo
    have la := hka.len
    have s57 := sP2.trans s7
    have hqk7 : H7 qk = some (.lst av) := s57 _ _ (b5 _ _ nqkp hqk1)
    refine ⟨qk, D, av, vo, rfl, rfl, hqk7, hD7, by rw [la]; show 1 + vo.length ≤ sizeLine; omega, fun K1 hK1 => ?_⟩
    have hp7 := s57 _ _ hp5
    have nK1p : K1 ≠ p := fun z => by rw [z, hp7] at hK1; cases hK1
    have sK := Rd.Same.upd (o := .lst (av ++ vo)) hK1
    have hK11 : upd H7 K1 (.lst (av ++ vo)) K1 = some (.lst (av ++ vo)) := upd_same
    generalize upd H7 K1 (.lst (av ++ vo)) = H8 at sK hK11 ⊢
    have B7 : But p H H7 := ((B3.trans (But.of_same sk)).trans b5).trans (But.of_same s57)
    have nK1 : H K1 = none := B7.free hp7 hK1
    have B8 := B7.trans (But.of_same sK)
    have kts8 : TsAt H8 (KK :: qs.map ownU) (av ++ vo) := (hka.mono (C := 0) (B8.kp hp)).app (ho7.ts.same sK)
    have hP18 : H8 P1 = some (.lst (ps.map V.str)) := (s57.trans sK) _ _ (b5 _ _ nP1p (sk _ _ hP11))
    have hp8 := sK _ _ hp7
    generalize hks : KK :: qs.map ownU = ks at kts8
    refine gName_k ?_
    try dsimp only
    -- held
    refine seqAsg ⟨_, rfl, P1, rfl, ⟨_, SqL.of hP18⟩, fun D2 hD2 => ?_⟩
    refine lcg (C := 0) (R := IsT) (ds := ps) (fun _ => true) unkT (fun _ _ _ _ kp h => h.mono kp) (SqL.of hP18) (by rw [List.length_map]) (by rw [List.length_map]; omega) hD2 (fun i x t H2 Q2 hx ht s2 k2 => k2 _ (Same.refl _)) (fun i x y H9 Q9 hx hy _ s9 k9 => ?_) fun vu H9 s9 hD9 hu9 => ?_
    · rw [List.getElem?_map, hy] at hx
      cases hx
      exact ⟨_, rfl, (by show 2 ≤ sizeLine; decide), fun q hq => k9 _ _ (Rd.Same.upd hq) ⟨q, rfl, upd_same⟩⟩
    rw [List.filter_eq_self.mpr (fun _ _ => rfl)] at hu9
    have lu := hu9.len
    rw [List.length_map] at lu
    refine EvTs.lst (ts := [.am "name" "N"]) (.cons .am .nil) (by decide) fun qn vn H10 s10 nqn hqn htn => ?_
    have ln := htn.len
    have ln : vn.length = 1 := ln
    refine ⟨D2, qn, vu, vn, rfl, rfl, s10 _ _ hD9, hqn, by omega, fun qa hqa => ?_⟩
    have sa := Rd.Same.upd (o := .lst (vu ++ vn)) hqa
    have hqa1 : upd H10 qa (.lst (vu ++ vn)) qa = some (.lst (vu ++ vn)) := upd_same
    generalize upd H10 qa (.lst (vu ++ vn)) = H11 at sa hqa1 ⊢
    have s811 := (s9.trans s10).trans sa
    have lkv := kts8.len
    have lks : ks.length ≤ 2 := by rw [← hks, List.length_cons, List.length_map]; omega
    refine ⟨_, rfl, qa, K1, _, _, rfl, rfl, hqa1, s811 _ _ hK11, by rw [List.length_append]; omega, fun G hG => ?_⟩
    have sG := Rd.Same.upd (o := .lst ((vu ++ vn) ++ (av ++ vo))) hG
    have hG1 : upd H11 G (.lst ((vu ++ vn) ++ (av ++ vo))) G = some (.lst ((vu ++ vn) ++ (av ++ vo))) := upd_same
    have hp11 := s811 _ _ hp8
    have nGp : G ≠ p := fun z => by rw [z, hp11] at hG; cases hG
    generalize upd H11 G (.lst ((vu ++ vn) ++ (av ++ vo))) = H12 at sG hG1 ⊢
    have s812 := s811.trans sG
    have hts12 : TsAt H12 (lh0 ps ks) ((vu ++ vn) ++ (av ++ vo)) := ((hu9.ts.same (s10.trans (sa.trans sG))).app (htn.same (sa.trans sG))).app (kts8.same s812)
    refine gName_k ?_
    try dsimp only
    refine seqAsg ⟨Nat.zero_le _, fun R hR => ?_⟩
    have sR := Rd.Same.upd (o := .lst []) hR
    have hR1 : upd H12 R (.lst []) R = some (.lst []) := upd_same
    have hp12 := sG _ _ hp11
    have nRp : R ≠ p := fun z => by rw [z, hp12] at hR; cases hR
    have nGR : G ≠ R := fun z => by rw [← z, hG1] at hR; cases hR
    have nP1R : P1 ≠ R := fun z => by rw [← z, s812 _ _ hP18] at hR; cases hR
    have nK1R : K1 ≠ R := fun z => by rw [← z, s812 _ _ hK11] at hR; cases hR
    have B12 : But p H H12 := B8.trans (But.of_same s812)
    have nR : H R = none := B12.free hp12 hR
    generalize upd H12 R (.lst []) = H13 at sR hR1 ⊢
    have B13 := B12.trans (But.of_same sR)
    have s813 := s812.trans sR
    have hp13 := sR _ _ hp12
    refine gName_k ?_
    try dsimp only
    refine rd_draw (m := 4) (n := n + 160) (by rfl) hp13 hy5 (by decide) (by decide) fun dw H14 y14 hdw b14 hp14 hy14 => ?_
    refine ⟨_, _, rfl, rfl, ?_⟩
    have e1 : ((1 : Int) + (dw : Int)) = ((dw + 1 : Nat) : Int) := by omega
    have hdr : Drn ps ks (lh0 ps ks) (fitH ps ["N"] ks) ps [] := by
      rw [← hks]
      exact Drn.init hpm hqm
    have k1314 : Kp 0 H13 H14 := b14.kp hp13
    have l0 : (lh0 ps ks).length ≤ 5 := by
      unfold lh0
      rw [List.length_append, List.length_append, List.length_map]
      show ps.length + 1 + ks.length ≤ 5
      omega
    refine ⟨((dw + 1 : Nat) : Int), (by show [V.int (1 + (dw : Int))] = _; rw [e1]), by omega, by omega, for_range (n := dw + 1) (FrI H14 p a R P1 K1 ps ks n) ⟨lh0 ps ks, fitH ps ["N"] ks, ps, [], _, [], y14, G, _, _, _, _, _, _, rfl, fun c o _ _ e => e, b14 _ _ nRp hR1, RsAt.nil, rfl, hdr, nGp, nGR, b14 _ _ nGp (sR _ _ hG1), (hts12.same sR).mono k1314, l0, hp14, hy14⟩ ?_ ?_⟩
    · rintro i σ Hc hi ⟨lh, ph, met, rs, hv, ur, ys, G, t4, t7, t8, t9, t10, t11, rfl, off, hRc, hrc, hrl, dr, nGp, nGR, hGc, htc, hll, hpc, hyc⟩
      refine gName_k ?_
      try dsimp only
      have em : n + (4 - i) * 40 = n + (4 - (i + 1)) * 40 + 39 + 1 := by omega
      rw [em] at hyc
      refine seqAsg (rd_draw (m := 5) (by rfl) hpc hyc (by decide) (by decide) fun d5 H1 y1 hd5 b1 hp1 hy1 => ?_)
      refine gName_k ?_
      try dsimp only
      have k1 : Kp 0 Hc H1 := b1.kp hpc
      have hR1 := b1 _ _ nRp hRc
      have hG1 := b1 _ _ nGp hGc
      have ht1 := htc.mono k1
      have hrc1 : RsAt IsRowF H1 rs ur := hrc.mp fun r v h => h.mono k1
      have off1 : ∀ c o, c ≠ p → c ≠ R → H14 c = some o → H1 c = some o := fun c o h1 h2 e => b1 _ _ h1 (off c o h1 h2 e)
      have lur := hrc.len
      have lhv := htc.len
      have fineL : ∀ t ∈ lh, t.fine ∧ t.dep ≤ 60 := fun t ht => ⟨(dr.el t ht).1.fine, by have := (dr.el t ht).2.1; omega⟩
      -- the end of a row
      have fin : ∀ {Hx : Hp} {kk : List Str} {t : Tr} {v : V} {q6 : Addr} {yx : List V}, But p H1 Hx → Hx p = some (.lst yx) → IsT Hx t v → Hx q6 = none → upd Hx q6 (.tup (kk.map V.str ++ [v])) R = some (.lst ur) ∧
          (∀ c o, c ≠ p → c ≠ R → Hx c = some o → upd (upd Hx q6 (.tup (kk.map V.str ++ [v]))) R (.lst (ur ++ [.ref q6])) c = some o) ∧ upd (upd Hx q6 (.tup (kk.map V.str ++ [v]))) R (.lst (ur ++ [.ref q6])) R = some (.lst (ur ++ [.ref q6])) ∧
          RsAt IsRowF (upd (upd Hx q6 (.tup (kk.map V.str ++ [v]))) R (.lst (ur ++ [.ref q6]))) (rs ++ [(kk, t)]) (ur ++ [.ref q6]) ∧ TsAt (upd (upd Hx q6 (.tup (kk.map V.str ++ [v]))) R (.lst (ur ++ [.ref q6]))) lh hv ∧
          upd (upd Hx q6 (.tup (kk.map V.str ++ [v]))) R (.lst (ur ++ [.ref q6])) p = some (.lst yx) ∧ IsT (upd (upd Hx q6 (.tup (kk.map V.str ++ [v]))) R (.lst (ur ++ [.ref q6]))) t v ∧ upd (upd Hx q6 (.tup (kk.map V.str ++ [v]))) R (.lst (ur ++ [.ref q6])) q6 = some (.tup (kk.map V.str ++ [v])) ∧ Kp 0 Hx (upd (upd Hx q6 (.tup (kk.map V.str ++ [v]))) R (.lst (ur ++ [.ref q6]))) := fun {Hx kk t v q6 yx} bx hpx itx hq6 => by
        have s6 := Rd.Same.upd (o := .tup (kk.map V.str ++ [v])) hq6
        have g6 : upd Hx q6 (.tup (kk.map V.str ++ [v])) q6 = some (.tup (kk.map V.str ++ [v])) := upd_same
        have hRx : Hx R = some (.lst ur) := bx _ _ nRp hR1
        have nqR : q6 ≠ R := fun z => by rw [z, hRx] at hq6; cases hq6
        generalize upd Hx q6 (.tup (kk.map V.str ++ [v])) = Hy at s6 g6 ⊢
        have hRy := s6 _ _ hRx
        have kp := Kp.upd_lst (C := 0) (ys := ur ++ [.ref q6]) hRy
        have kx : Kp 0 Hx (upd Hy R (.lst (ur ++ [.ref q6]))) := (Kp.of_same s6).trans kp
        have k1x : Kp 0 H1 (upd Hy R (.lst (ur ++ [.ref q6]))) := (bx.kp hp1).trans kx
        have hq6' : upd Hy R (.lst (ur ++ [.ref q6])) q6 = some (.tup (kk.map V.str ++ [v])) := by rw [upd_ne nqR]; exact g6
        refine ⟨hRy, fun c o _ h2 e => by rw [upd_ne h2]; exact s6 _ _ e, upd_same, ?_, ht1.mono k1x, by rw [upd_ne (Ne.symm nRp)]; exact s6 _ _ hpx, itx.mono kx, hq6', kx⟩
        exact (hrc1.mp fun r v h => h.mono k1x).snoc ⟨q6, v, rfl, hq6', itx.mono kx⟩
      refine ⟨_, rfl, _, _, rfl, rfl, _, rfl, ite2 (fun h2 => ?_) (fun h2 => ?_)⟩
      · -- await
        refine seqAsg ⟨(by show 3 ≤ sizeLine; decide), fun qx hqx => ?_⟩
        have sx := Rd.Same.upd (o := .lst [.str "x", .str "y", .str "z"]) hqx
        have hqx1 : upd H1 qx (.lst [.str "x", .str "y", .str "z"]) qx = some (.lst (XYZ.map V.str)) := upd_same
        generalize upd H1 qx (.lst [.str "x", .str "y", .str "z"]) = H2 at sx hqx1 ⊢
        refine ⟨qx, rfl, ⟨_, SqL.of hqx1⟩, fun D hD => ?_⟩
        have hp2' := sx _ _ hp1
        have nDp : D ≠ p := fun z => by rw [z, hp2'] at hD; cases hD
        have nDR : D ≠ R := fun z => by rw [z, sx _ _ hR1] at hD; cases hD
        refine lcg (C := 0) (R := IsT) (ds := XYZ) (fun x => !decide (unkT x ∈ lh)) unkT (fun _ _ _ _ kp h => h.mono kp) (SqL.of hqx1) (by rw [List.length_map]) (by rw [List.length_map]; show 3 ≤ 100000; decide) hD (fun j x y H3 Q3 hx hy s3 k3 => ?_) (fun j x y H3 Q3 hx hy _ s3 k3 => ?_) fun vf H3 s3 hD3 hf3 => ?_
        · rw [List.getElem?_map, hy] at hx
          cases hx
          refine ⟨_, rfl, (by show 2 ≤ sizeLine; decide), fun q hq => ?_⟩
          have sq := Rd.Same.upd (o := .tup [.str "unknown", .str y]) hq
          have hyu : isUnk y = true := by
            have : ∀ y ∈ XYZ, isUnk y = true := by decide +kernel
            exact this y (List.mem_of_getElem? hy)
          exact ⟨_, rfl, rd_notInTs (u := unkT y) ⟨q, rfl, upd_same⟩ ⟨(unkT_wf hyu).fine, Nat.zero_le _⟩ (sq _ _ (s3 _ _ (sx _ _ hG1))) (((ht1.same sx).same s3).same sq) fineL ⟨_, rfl, k3 _ sq⟩⟩
        · rw [List.getElem?_map, hy] at hx
          cases hx
          exact ⟨_, rfl, (by show 2 ≤ sizeLine; decide), fun q hq => k3 _ _ (Rd.Same.upd hq) ⟨q, rfl, upd_same⟩⟩
        have fvm : ∀ x ∈ XYZ.filter (fun x => !decide (unkT x ∈ lh)), isUnk x = true ∧ unkT x ∉ lh := fun x hx => by
          obtain ⟨h1, h2⟩ := List.mem_filter.mp hx
          have : ∀ y ∈ XYZ, isUnk y = true := by decide +kernel
          exact ⟨this x h1, by simpa using h2⟩
        have lfv : (XYZ.filter (fun x => !decide (unkT x ∈ lh))).length ≤ 3 := List.length_filter_le _ _
        generalize XYZ.filter (fun x => !decide (unkT x ∈ lh)) = fv at hf3 fvm lfv
        have lvf := hf3.len
        rw [List.length_map] at lvf
        refine gName_k ?_
        try dsimp only
        have s13 := sx.trans s3
        have hp3 := s13 _ _ hp1
        have hR3 := s13 _ _ hR1
        refine ⟨_, rfl, .inl ⟨rfl, _, SqL.of hR3⟩, _, rfl, _, rfl, _, rfl, ?_⟩
        refine rd_draw (m := 2) (by rfl) hp3 hy1 (by decide) (by decide) fun d3 H4 y4 hd3 b4 hp4 hy4 => ?_
        refine ⟨_, rfl, D, _, rfl, SqL.of (b4 _ _ nDp hD3), fun F2 hF2 => ?_⟩
        rw [cut_to2]
        have sF := Rd.Same.upd (o := .lst (vf.take d3)) hF2
        have hF21 : upd H4 F2 (.lst (vf.take d3)) F2 = some (.lst (vf.take d3)) := upd_same
        have nF2p : F2 ≠ p := fun z => by rw [z, hp4] at hF2; cases hF2
        generalize upd H4 F2 (.lst (vf.take d3)) = H5 at sF hF21 ⊢
        have b15 : But p H1 H5 := ((But.of_same s13).trans b4).trans (But.of_same sF)
        have k15 : Kp 0 H1 H5 := b15.kp hp1
        have htf : TsAt H5 ((fv.take d3).map unkT) (vf.take d3) := by
          have h5 : TsAt H5 (fv.map unkT) vf := (hf3.ts.mono (C := 0) (b4.kp hp3)).same sF
          refine ⟨by rw [List.length_map, List.length_take, List.length_take, lvf], fun j t v h1 h2 => ?_⟩
          have hj : j < d3 := by
            have := (List.getElem?_eq_some_iff.mp h2).1
            rw [List.length_take] at this
            omega
          rw [List.map_take, List.getElem?_take_of_lt hj] at h1
          rw [List.getElem?_take_of_lt hj] at h2
          exact h5.get j t v h1 h2
        have htl : (fv.take d3).length ≤ 1 := by rw [List.length_take]; omega
        have htm : ∀ x ∈ fv.take d3, x ∈ fv := fun x hx => List.mem_of_mem_take hx
        refine ⟨p, G, F2, y4, hv, _, lh, fv.take d3, n + (4 - (i + 1)) * 40, rfl, sF _ _ hp4, hy4.mono (by omega), nGp, nF2p, b15 _ _ nGp hG1, ht1.mono k15, by omega, dr.el, dr.ow, hF21, htf, htl, fun x hx => (fvm x (htm x hx)).1, fun t v y6 H6 b6 hp6 hy6 wt it => ?_⟩
        refine ⟨(by show 2 ≤ sizeLine; decide), fun q6 hq6 => ?_⟩
        obtain ⟨f1, f2, f3, f4, f5, f6, f7, f8, f9⟩ := fin (kk := AW) (b15.trans b6) hp6 it hq6
        refine ⟨R, ur, .ref q6, rfl, rfl, f1, by omega, ?_⟩
        have b16 := b15.trans b6
        have hG7 : upd (upd H6 q6 (.tup (AW.map V.str ++ [v]))) R (.lst (ur ++ [.ref q6])) G = some (.lst hv) := f2 _ _ nGp nGR (b16 _ _ nGp hG1)
        have hD7 : upd (upd H6 q6 (.tup (AW.map V.str ++ [v]))) R (.lst (ur ++ [.ref q6])) D = some (.lst vf) := f2 _ _ nDp nDR (b6 _ _ nDp (sF _ _ (b4 _ _ nDp hD3)))
        have hf7 : AtL IsT (upd (upd H6 q6 (.tup (AW.map V.str ++ [v]))) R (.lst (ur ++ [.ref q6]))) (fv.map unkT) vf := hf3.mp fun r v h => ((((h.mono (C := 0) (b4.kp hp3)).same sF).mono (C := 0) (b6.kp (sF _ _ hp4)))).mono f9
        have off7 : ∀ c o, c ≠ p → c ≠ R → H14 c = some o → upd (upd H6 q6 (.tup (AW.map V.str ++ [v]))) R (.lst (ur ++ [.ref q6])) c = some o := fun c o h1 h2 e => f2 c o h1 h2 (b16 _ _ h1 (off1 c o h1 h2 e))
        try dsimp only
        have eAW : AW.map V.str ++ [v] = [V.str "await", v] := rfl
        rw [eAW] at f2 f3 f4 f5 f6 f7 f8 f9 hG7 hD7 hf7 off7
        generalize upd (upd H6 q6 (.tup [V.str "await", v])) R (.lst (ur ++ [.ref q6])) = H7 at f2 f3 f4 f5 f6 f7 f8 f9 hG7 hD7 hf7 off7 ⊢
        have wt' := wt.wf
        refine ⟨_, rfl, _, rfl, D, rfl, ⟨_, SqL.of hD7⟩, fun D2 hD2 => ?_⟩
        refine lcg (C := 0) (R := IsT) (ds := fv) (fun x => decide (unkT x ∈ t.all)) unkT (fun _ _ _ _ kp h => h.mono kp) (SqL.of hD7) lvf (by omega) hD2 (fun j x y H8 Q8 hx hy s8 k8 => ?_) (fun j x y H8 Q8 hx hy _ s8 k8 => ?_) fun va H8 s8 hD8 ha8 => ?_
        · have hy' : (fv.map unkT)[j]? = some (unkT y) := by rw [List.getElem?_map, hy]; rfl
          have ix := (hf7.get j _ x hy' hx).same s8
          refine ⟨_, rfl, _, rfl, _, rfl, R, _, _, _, rfl, rfl, SqL.of (s8 _ _ f3), atI_last _ _, q6, _, _, _, rfl, rfl, SqT.of (s8 _ _ f8), at_of (j := 1) rfl rfl, v, t, rfl, f7.same s8, wt', wt.dp, by decide, fun pp ws H9 s9 npp hpp hts => ?_⟩
          have hyu := (fvm y (List.mem_of_getElem? hy)).1
          exact rd_inTs (u := unkT y) (ix.same s9) ⟨(unkT_wf hyu).fine, Nat.zero_le _⟩ hpp hts (fun u hu => by
            obtain ⟨w1, w2⟩ := all_wf wt' u hu
            exact ⟨w1.fine, by have := wt.dp; omega⟩) ⟨_, rfl, k8 _ s9⟩
        · have hy' : (fv.map unkT)[j]? = some (unkT y) := by rw [List.getElem?_map, hy]; rfl
          exact ⟨_, rfl, k8 _ _ (Same.refl _) ((hf7.get j _ x hy' hx).same s8)⟩
        have lva := ha8.len
        rw [List.length_map] at lva
        have laf := List.length_filter_le (fun x => decide (unkT x ∈ t.all)) fv
        have hadd : ∀ x, x ∈ fv.filter (fun x => decide (unkT x ∈ t.all)) ↔ x ∈ fv.take d3 := fun x => by
          constructor
          · intro hx
            obtain ⟨h1, h2⟩ := List.mem_filter.mp hx
            have h2 := all_unk.mp (of_decide_eq_true h2)
            rcases wt.un x h2 with g | ⟨y, hy, hxy⟩
            · exact g
            · exact absurd ((dr.mt x).mpr (dr.un y hy x hxy)) (fvm x h1).2
          · intro hx
            exact List.mem_filter.mpr ⟨htm x hx, decide_eq_true (all_unk.mpr (wt.inn x hx))⟩
        have dr2 := dr.aw wt (fun x hx => (fvm x (htm x hx)).2) (fun x hx => (fvm x (htm x hx)).1) hadd
        refine ⟨G, D2, hv, va, rfl, rfl, s8 _ _ hG7, hD8, by omega, fun G' hG' => ?_⟩
        have sG' := Rd.Same.upd (o := .lst (hv ++ va)) hG'
        have hG'1 : upd H8 G' (.lst (hv ++ va)) G' = some (.lst (hv ++ va)) := upd_same
        have nG'p : G' ≠ p := fun z => by rw [z, s8 _ _ f6] at hG'; cases hG'
        have nG'R : G' ≠ R := fun z => by rw [z, s8 _ _ f3] at hG'; cases hG'
        generalize upd H8 G' (.lst (hv ++ va)) = H9 at sG' hG'1 ⊢
        have s79 := s8.trans sG'
        refine gName_k ?_
        try dsimp only
        refine ⟨_, _, _, rs ++ [(AW, t)], hv ++ va, ur ++ [.ref q6], y6, G', _, _, _, _, _, _, rfl, fun c o h1 h2 e => s79 _ _ (off7 c o h1 h2 e), s79 _ _ f3, f4.mp (fun r v h => h.same s79), by rw [List.length_append, hrl]; rfl, dr2, nG'p, nG'R, hG'1, (f5.same s79).app (ha8.ts.same sG'), ?_, s79 _ _ f6, hy6⟩
        rw [List.length_append, List.length_map]
        omega
      refine ⟨_, rfl, _, _, rfl, rfl, _, rfl, ite2 (fun h3 => ?_) (fun h3 => ?_)⟩
      · -- send
        refine ⟨_, rfl, .inl ⟨rfl, _, SqL.of hR1⟩, _, rfl, _, rfl, 1, 2, 2, Nat.le_refl _, p, G, y1, hv, lh, n + (4 - (i + 1)) * 40, rfl, hp1, hy1.mono (by show _ + 36 ≤ _; omega), nGp, hG1, ht1, by omega, dr.el, by decide, fun t v y6 H6 b6 hp6 hy6 bu it => ?_⟩
        refine ⟨(by show 2 ≤ sizeLine; decide), fun q6 hq6 => ?_⟩
        obtain ⟨f1, f2, f3, f4, f5, f6, f7, f8, f9⟩ := fin (kk := SD) b6 hp6 it hq6
        refine ⟨R, ur, .ref q6, rfl, rfl, f1, by omega, ?_⟩
        have dr2 := dr.ot (kk := SD) (t := t) (by decide +kernel) ⟨.inr (.inl rfl), bu.wf, by have := bu.dp; show t.dep ≤ 6; omega, by have := bu.sz; have e : buS 2 2 = 14 := rfl; show t.all.length ≤ 16; omega, fun x hx => by
          obtain ⟨y, hy, hxy⟩ := mka_txt (by decide +kernel) bu.mt x hx
          exact dr.nm y hy x hxy⟩ bu.mt
        exact ⟨lh, ph, met, rs ++ [(SD, t)], hv, _, y6, G, _, _, _, _, _, _, rfl, fun c o h1 h2 e => f2 c o h1 h2 (b6 _ _ h1 (off1 c o h1 h2 e)), f3, f4, by rw [List.length_append, hrl]; rfl, dr2, nGp, nGR, f2 _ _ nGp nGR (b6 _ _ nGp hG1), f5, by omega, f6, hy6⟩
      · -- claim
        refine seqAsg ⟨_, rfl, (by show 2 ≤ sizeLine; decide), fun qw hqw => ?_⟩
        have sw := Rd.Same.upd (o := .lst [.str "begun", .str "done"]) hqw
        have hqw1 : upd H1 qw (.lst [.str "begun", .str "done"]) qw = some (.lst [.str "begun", .str "done"]) := upd_same
        have nqwp : qw ≠ p := fun z => by rw [z, hp1] at hqw; cases hqw
        generalize upd H1 qw (.lst [.str "begun", .str "done"]) = H2 at sw hqw1 ⊢
        refine pick_of (E := E0) (sw _ _ hp1) hy1 nqwp hqw1 (by show 0 < 2; decide) (by show 2 ≤ 1000; decide) fun vw H3 y3 hvw b3 hp3 hy3 => ?_
        obtain ⟨cw, rfl, hcw⟩ : ∃ cw : Str, vw = .str cw ∧ cw ∈ (["begun", "done"] : List Str) := str_of hvw (by decide +kernel)
        have b13 : But p H1 H3 := (But.of_same sw).trans b3
        try dsimp only
        refine ⟨_, rfl, .inl ⟨rfl, _, SqL.of (b13 _ _ nRp hR1)⟩, _, rfl, _, rfl, _, rfl, 1, 2, 1, by decide, p, G, y3, hv, lh, n + (4 - (i + 1)) * 40, rfl, hp3, hy3.mono (by show _ + 12 ≤ _; omega), nGp, b13 _ _ nGp hG1, ht1.mono (C := 0) (b13.kp hp1), by omega, dr.el, by decide, fun t v y6 H6 b6 hp6 hy6 bu it => ?_⟩
        refine ⟨(by show 3 ≤ sizeLine; decide), fun q6 hq6 => ?_⟩
        have b16 := b13.trans b6
        obtain ⟨f1, f2, f3, f4, f5, f6, f7, f8, f9⟩ := fin (kk := [("claim" : Str), cw]) b16 hp6 it hq6
        refine ⟨R, ur, .ref q6, rfl, rfl, f1, by omega, ?_⟩
        have dr2 := dr.ot (kk := [("claim" : Str), cw]) (t := t) (fun z => by cases z) ⟨.inr (.inr ⟨cw, hcw, rfl⟩), bu.wf, by have := bu.dp; show t.dep ≤ 6; omega, by have := bu.sz; have e : buS 2 1 = 6 := rfl; show t.all.length ≤ 16; omega, fun x hx => by
          obtain ⟨y, hy, hxy⟩ := mka_txt (by decide +kernel) bu.mt x hx
          exact dr.nm y hy x hxy⟩ bu.mt
        exact ⟨lh, ph, met, rs ++ [([("claim" : Str), cw], t)], hv, _, y6, G, _, _, _, _, _, _, rfl, fun c o h1 h2 e => f2 c o h1 h2 (b16 _ _ h1 (off1 c o h1 h2 e)), f3, f4, by rw [List.length_append, hrl]; rfl, dr2, nGp, nGR, f2 _ _ nGp nGR (b16 _ _ nGp hG1), f5, by omega, f6, hy6⟩
    · rintro σ Hc ⟨lh, ph, met, rs, hv, ur, ys, G, t4, t7, t8, t9, t10, t11, rfl, off, hRc, hrc, hrl, dr, nGp, nGR, hGc, htc, hll, hpc, hyc⟩
      refine ⟨_, rfl, _, rfl, (by show 1 ≤ sizeLine; decide), fun qf hqf => ?_⟩
      have sf := Rd.Same.upd (o := .lst [.str "N"]) hqf
      have hqf1 : upd Hc qf (.lst [.str "N"]) qf = some (.lst [.str "N"]) := upd_same
      generalize upd Hc qf (.lst [.str "N"]) = H15 at sf hqf1 ⊢
      refine ⟨_, rfl, (by show 4 ≤ sizeLine; decide), fun qt hqt => ?_⟩
      have st := Rd.Same.upd (o := .tup [.ref P1, .ref K1, .ref qf, .ref R]) hqt
      have hqt1 : upd H15 qt (.tup [.ref P1, .ref K1, .ref qf, .ref R]) qt = some (.tup [.ref P1, .ref K1, .ref qf, .ref R]) := upd_same
      generalize upd H15 qt (.tup [.ref P1, .ref K1, .ref qf, .ref R]) = H16 at st hqt1 ⊢
      have sct := sf.trans st
      have B14 : But p H H14 := B13.trans b14
      have Bc : ∀ c o, c ≠ p → H c = some o → Hc c = some o := fun c o h1 e => off c o h1 (fun z => by rw [z, nR] at e; cases e) (B14 _ _ h1 e)
      have B16 : But p H H16 := fun c o h1 e => sct _ _ (Bc c o h1 e)
      have frees : ∀ {q : Addr}, Hc q = none → H q = none := fun {q} e => by
        cases h : H q with
        | none => rfl
        | some o =>
          by_cases z : q = p
          · rw [z, hpc] at e; cases e
          · rw [Bc q o z h] at e; cases e
      have kc : Kp 0 H14 Hc := fun c o hi e => off c o (fun z => by rw [z, hp14] at e; cases e; cases hi) (fun z => by rw [z, b14 _ _ nRp hR1] at e; cases e; cases hi) e
      have hP1c : H16 P1 = some (.lst (ps.map V.str)) := sct _ _ (off _ _ nP1p nP1R (b14 _ _ nP1p (s813 _ _ hP18)))
      have hK1c : H16 K1 = some (.lst (av ++ vo)) := sct _ _ (off _ _ nK1p nK1R (b14 _ _ nK1p (s813 _ _ hK11)))
      have hksc : TsAt H16 ks (av ++ vo) := (((kts8.same s813).mono k1314).mono kc).same sct
      have hft : Fit 0 ps (fitH ps ["N"] ks) rs none := by
        have := dr.fit [] none .nil
        rwa [List.append_nil] at this
      have hksx : ∃ qs : List Str, qs.length ≤ 1 ∧ (∀ x ∈ qs, x ∈ ps) ∧ ks = KK :: qs.map ownU := ⟨qs, hql, hqm, hks.symm⟩
      have hkw : ∀ t ∈ ks, Wf t ∧ t.dep ≤ 6 ∧ t.all.length ≤ 16 := fun t ht => by
        obtain ⟨w1, w2, w3⟩ := hdr.el t (by unfold lh0; exact List.mem_append_right _ ht)
        exact ⟨w1, by omega, by omega⟩
      have rok : ∀ r ∈ rs, rowOk r := fun r hr => by
        have h := dr.rows r hr
        refine ⟨?_, h.wf⟩
        rcases h.kd with e | e | ⟨x, hx, e⟩
        · exact .inl e
        · exact .inr (.inl e)
        · refine .inr (.inr ⟨x, e, ?_⟩)
          have : ∀ x ∈ (["begun", "done"] : List Str), x.length ≤ 200000 := by decide +kernel
          exact this x hx
      have hsz : szs (fitH ps ["N"] ks) ≤ 10 := by
        unfold fitH
        rw [szs_app, szs_app, szs_unk, szs_am (fun x => Tr.am "name" x) (fun _ => rfl), ← hks]
        have e1 : szs (KK :: qs.map ownU) = 1 + szs (qs.map ownU) := rfl
        have e2 : szs (qs.map ownU) = 2 * qs.length := by
          exact szs_ownU qs
        show szs (KK :: qs.map ownU) + (ps.length + 1) ≤ 10
        omega
      have hsr : szs (rs.map (·.2)) ≤ 64 := by
        have : ∀ l : List Row, (∀ r ∈ l, r.2.all.length ≤ 16) → szs (l.map (·.2)) ≤ l.length * 16 := fun l => by
          unfold szs
          induction l with
          | nil => exact fun _ => Nat.le_refl _
          | cons r l ih =>
            intro h
            rw [List.map_cons, List.map_cons, List.sum_cons, List.length_cons]
            have h1 := h r List.mem_cons_self
            have h2 := ih fun r hr => h r (List.mem_cons_of_mem _ hr)
            omega
        have := this rs fun r hr => (dr.rows r hr).sz
        omega
      have rlen : rs.length ≤ 4 := by omega
      refine k ⟨"", ps, ks, ["N"], rs⟩ qt P1 K1 qf R ys H16 B16 (frees (sf.free hqt)) nP1 nK1 (frees hqf) nR hqt1 (fun z hz => ?_) (sct _ _ hpc) (hyc.mono (by omega)) ⟨psd, hksx, rfl, rlen, dr.rows, hft⟩
      refine ⟨hz, ⟨hP1c, by show ps.length ≤ 100; omega, fun x hx => ?_⟩, ⟨_, hK1c, hksc⟩, ⟨by show ks.length ≤ 100; omega, hkw⟩, ⟨st _ _ hqf1, by show 1 ≤ 100; decide, fun x hx => ?_⟩, ⟨ur, sct _ _ hRc, hrc.mp fun r v h => h.same sct⟩, ⟨by show rs.length ≤ 100; omega, fun r hr => ⟨rok r hr, (dr.rows r hr).dp, (dr.rows r hr).sz⟩⟩, ⟨by decide, ?_⟩, by decide⟩
      · have : ∀ x ∈ MY, x.length ≤ 200000 := by decide +kernel
        exact this x (hpm x hx)
      · rw [List.mem_singleton.mp hx]; decide +kernel
      · show 2 * ((szs (fitH ps ["N"] ks) + szs (rs.map (·.2))) * 16) ≤ 100000
        omega
end
end Rd
namespace Rd
open PySem L2
/-! ### data that can be compared -/
def Shp (n : Nat) (d : PyData) : Prop := d.canLay0 = true ∧ d.depth ≤ n
theorem Shp.all {n : Nat} : ∀ {ds : List PyData}, (∀ d ∈ ds, Shp n d) → PyData.canLayAll0 ds = true ∧ PyData.depthAll ds ≤ n
  | [], _ => ⟨rfl, Nat.zero_le _⟩
  | d :: ds, h => by
    obtain ⟨a, b⟩ := Shp.all fun y hy => h y (List.mem_cons_of_mem _ hy)
    obtain ⟨c, e⟩ := h d List.mem_cons_self
    refine ⟨?_, ?_⟩
    · show (d.canLay0 && PyData.canLayAll0 ds) = true
      rw [a, c]
      rfl
    · show max d.depth (PyData.depthAll ds) ≤ n
      omega
theorem Shp.list {n : Nat} {ds : List PyData} (h : ∀ d ∈ ds, Shp n d) : Shp (n + 1) (.list ds) := ⟨(Shp.all h).1, Nat.succ_le_succ (Shp.all h).2⟩
theorem Shp.tup {n : Nat} {ds : List PyData} (h : ∀ d ∈ ds, Shp n d) : Shp (n + 1) (.tuple ds) := ⟨(Shp.all h).1, Nat.succ_le_succ (Shp.all h).2⟩
theorem Shp.str {n : Nat} {x : Str} (h : okS x) : Shp n (.str x) := ⟨strOk_of h, Nat.zero_le _⟩
theorem Shp.tr {n : Nat} {t : Tr} (h : Wf t) (hd : t.dep + 1 ≤ n) : Shp n (dat t) := ⟨dat_lay h.fine, Nat.le_trans dat_dep hd⟩
theorem Shp.mono {n m : Nat} {d : PyData} (h : Shp n d) (e : n ≤ m) : Shp m d := ⟨h.1, Nat.le_trans h.2 e⟩
theorem Shp.shaped {n : Nat} {d : PyData} (h : Shp n d) (e : n ≤ 64) : SeqAt.shaped d = true := by
  show (d.canLay0 && decide (d.depth ≤ 64)) = true
  rw [h.1, decide_eq_true (Nat.le_trans h.2 e)]
  rfl
theorem rd_neDat {K : PySem.W.Frag} {H : Hp} {v u : V} {d : PyData} {n : Nat} {Q : VK} (h1 : Dp K H v d) (h2 : Dp K H u d) (hs : Shp n d) (hn : n ≤ 64) (q : Q (.bl false) H) : rNeD K v u H Q := by
  refine ⟨d, d, h1, h2, hs.shaped hn, hs.shaped hn, ?_⟩
  rw [SeqAt.eqv_refl _ hs.1]
  exact q
def rowD (r : Row) : PyData := .tuple (r.1.map PyData.str ++ [dat r.2])
def rdat (r : RoleD) : PyData := .tuple [.str r.ti, .list (r.ps.map PyData.str), .list (r.ks.map dat), .list (r.fr.map PyData.str), .list (r.rs.map rowD)]
theorem dpAll_app {K : PySem.W.Frag} {H : Hp} : ∀ {vs us : List V} {ds es : List PyData}, DpAll K H vs ds → DpAll K H us es → DpAll K H (vs ++ us) (ds ++ es)
  | _, _, _, _, .nil, h => h
  | _, _, _, _, .cons a b, h => .cons a (dpAll_app b h)
theorem dpAll_at {β : Type} {K : PySem.W.Frag} {H : Hp} {R : Hp → β → V → Prop} {f : β → PyData} (hf : ∀ b v, R H b v → Dp K H v (f b)) : ∀ {bs : List β} {vs : List V}, AtL R H bs vs → DpAll K H vs (bs.map f)
  | [], [], _ => .nil
  | [], v :: vs, h => by have := h.len; cases this
  | b :: bs, [], h => by have := h.len; cases this
  | b :: bs, v :: vs, h => .cons (hf b v (h.get 0 b v rfl rfl)) (dpAll_at hf ⟨by have := h.len; simpa using this, fun i b v h1 h2 => h.get (i + 1) b v h1 h2⟩)
theorem IsRowF.dpt {K : PySem.W.Frag} {H : Hp} {r : Row} {v : V} (h : IsRowF H r v) : Dp K H v (rowD r) := by
  obtain ⟨a, u, rfl, h1, h2⟩ := h
  exact .tup (SqT.of h1) (dpAll_app (dpAll_str _) (.cons h2.dp .nil))
theorem RsAt.atl {R : Hp → Row → V → Prop} {H : Hp} {rs : List Row} {vs : List V} (h : RsAt R H rs vs) : AtL R H rs vs := ⟨h.len, h.get⟩
theorem AtL.rs {R : Hp → Row → V → Prop} {H : Hp} {rs : List Row} {vs : List V} (h : AtL R H rs vs) : RsAt R H rs vs := ⟨h.len, h.get⟩
/-- nothing but lists changes -/
def KN (H H' : Hp) : Prop := ∀ c o, (∀ l, o ≠ .lst l) → H c = some o → H' c = some o
theorem KN.of_same {H H' : Hp} (s : Same H H') : KN H H' := fun c o _ e => s c o e
theorem KN.trans {H H1 H2 : Hp} (a : KN H H1) (b : KN H1 H2) : KN H H2 := fun c o hc h => b c o hc (a c o hc h)
theorem KN.upd {H : Hp} {a : Addr} {xs ys : List V} (h : H a = some (.lst xs)) : KN H (L2.upd H a (.lst ys)) := fun c o hc e => by
  rw [upd_ne (fun z => by rw [z, h] at e; cases e; exact hc _ rfl)]
  exact e
theorem KN.kp {C : Addr} {H H' : Hp} (k : KN H H') : Kp C H H' := fun c o hi e => k c o (fun l z => by rw [z] at hi; cases hi) e
theorem IsRole.kn {K : PySem.W.Frag} {H H' : Hp} {x : Addr} {r : RoleD} (s : KN H H') (h : IsRole K H x r) : IsRole K H' x r := by
  obtain ⟨dx, q, tp, tk, tf, tr, uk, ur, h1, h2, h3, h4, h5, h6, h7, h8⟩ := h
  exact ⟨dx, q, tp, tk, tf, tr, uk, ur, s _ _ (fun l z => by cases z) h1, s _ _ (fun l z => by cases z) h2, s _ _ (fun l z => by cases z) h3, s _ _ (fun l z => by cases z) h4, h5.mono s.kp, s _ _ (fun l z => by cases z) h6, s _ _ (fun l z => by cases z) h7, h8.mp fun r v h => h.mono s.kp⟩
def sp_Rks (K : PySem.W.Frag) : Sp := fun vs H Q _ => ∃ (x : Addr) (r : RoleD), vs = [.ref x] ∧ IsRole K H x r ∧ ∀ q uk H', Same H H' → H q = none → H' q = some (.lst uk) → LsAt K H' r.ks uk → Q (.ref q) H'
def sp_Rfr (K : PySem.W.Frag) : Sp := fun vs H Q _ => ∃ (x : Addr) (r : RoleD), vs = [.ref x] ∧ IsRole K H x r ∧ ∀ q H', Same H H' → H q = none → H' q = some (.lst (r.fr.map V.str)) → Q (.ref q) H'
def sp_Rrs (K : PySem.W.Frag) : Sp := fun vs H Q _ => ∃ (x : Addr) (r : RoleD), vs = [.ref x] ∧ IsRole K H x r ∧ ∀ q ur H', Same H H' → H q = none → H' q = some (.lst ur) → RsAt (IsRow K) H' r.rs ur → Q (.ref q) H'
def sp_rtold (K : PySem.W.Frag) : Sp := fun vs H Q _ => ∃ (x : Addr) (r : RoleD), vs = [.ref x] ∧ IsRole K H x r ∧ r.ks.length ≤ 1000 ∧ r.rs.length ≤ 1000 ∧ (∀ y ∈ r.rs, rowOk y) ∧ ∀ q H', Same H H' → Dp K H' (.ref q) (rdat r) → Q (.ref q) H'
theorem lkTi {a b : V} : ([("title", a), ("kept", b)] : List (Str × V)).lookup ("title" : Str) = some a := by simp [List.lookup]
section
variable {P : Program} {w : World} {K : PySem.W.Frag} {mg : Str → Option Value} {base : Heap}
abbrev s_Role_knows : Stmt := inClass (top 43) 2
theorem sc_Role_knows : FnScope ["self"] ["self"] (defScope s_Role_knows) := ⟨rfl, rfl, rfl, by decide +kernel, rfl, by decide +kernel, by decide +kernel⟩
theorem ok_Rknows (T : Tx w K mg) : Fp P w K mg base CX0 1 "Role" "knows" ["self"] (sp_Rks K) := by
  refine T.P_Role_knows.ok0 sc_Role_knows (fun _ _ _ _ _ _ us hl => match us, hl with | [_], _ => rfl)
    (fun vs H Q E h => ?_) (fun cdv A outer s H vs Q E hr h => ?_)
  · obtain ⟨x, r, rfl, _⟩ := h
    rfl
  · obtain ⟨x, r, rfl, ⟨dx, q, tp, tk, tf, tr, uk, ur, h1, h2, h3, h4, h5, h6, h7, h8⟩, k⟩ := h
    refine ⟨_, (pss_one (ps_ret (pe_callTy call_list_of (by rfl) T.z_list (by decide +kernel) (pa_cons (pe_ix ix_tup (pe_fld (pv 0) rfl) pe_int (fun _ _ => rfl)) pa_nil)))), ?_⟩
    refine ⟨_, rfl, x, _, dx, _, _, rfl, h1, T.k_Role, T.n_Role_kept, lkT, q, _, _, _, rfl, rfl, SqT.of h2, at_of (j := 1) rfl rfl, tk, _, rfl, .inr (SqT.of h4), fun q2 hq2 => ?_⟩
    exact k q2 _ _ (Rd.Same.upd hq2) hq2 upd_same (h5.same (Rd.Same.upd hq2))
abbrev s_Role_fresh : Stmt := inClass (top 43) 3
theorem sc_Role_fresh : FnScope ["self"] ["self"] (defScope s_Role_fresh) := ⟨rfl, rfl, rfl, by decide +kernel, rfl, by decide +kernel, by decide +kernel⟩
theorem ok_Rfresh (T : Tx w K mg) : Fp P w K mg base CX0 1 "Role" "fresh" ["self"] (sp_Rfr K) := by
  refine T.P_Role_fresh.ok0 sc_Role_fresh (fun _ _ _ _ _ _ us hl => match us, hl with | [_], _ => rfl)
    (fun vs H Q E h => ?_) (fun cdv A outer s H vs Q E hr h => ?_)
  · obtain ⟨x, r, rfl, _⟩ := h
    rfl
  · obtain ⟨x, r, rfl, ⟨dx, q, tp, tk, tf, tr, uk, ur, h1, h2, h3, h4, h5, h6, h7, h8⟩, k⟩ := h
    refine ⟨_, (pss_one (ps_ret (pe_callTy call_list_of (by rfl) T.z_list (by decide +kernel) (pa_cons (pe_ix ix_tup (pe_fld (pv 0) rfl) pe_int (fun _ _ => rfl)) pa_nil)))), ?_⟩
    refine ⟨_, rfl, x, _, dx, _, _, rfl, h1, T.k_Role, T.n_Role_kept, lkT, q, _, _, _, rfl, rfl, SqT.of h2, at_of (j := 2) rfl rfl, tf, _, rfl, .inr (SqT.of h6), fun q2 hq2 => ?_⟩
    exact k q2 _ (Rd.Same.upd hq2) hq2 upd_same
abbrev s_Role_rows : Stmt := inClass (top 43) 4
theorem sc_Role_rows : FnScope ["self"] ["self"] (defScope s_Role_rows) := ⟨rfl, rfl, rfl, by decide +kernel, rfl, by decide +kernel, by decide +kernel⟩
theorem ok_Rrows (T : Tx w K mg) : Fp P w K mg base CX0 1 "Role" "rows" ["self"] (sp_Rrs K) := by
  refine T.P_Role_rows.ok0 sc_Role_rows (fun _ _ _ _ _ _ us hl => match us, hl with | [_], _ => rfl)
    (fun vs H Q E h => ?_) (fun cdv A outer s H vs Q E hr h => ?_)
  · obtain ⟨x, r, rfl, _⟩ := h
    rfl
  · obtain ⟨x, r, rfl, ⟨dx, q, tp, tk, tf, tr, uk, ur, h1, h2, h3, h4, h5, h6, h7, h8⟩, k⟩ := h
    refine ⟨_, (pss_one (ps_ret (pe_callTy call_list_of (by rfl) T.z_list (by decide +kernel) (pa_cons (pe_ix ix_tup (pe_fld (pv 0) rfl) pe_int (fun _ _ => rfl)) pa_nil)))), ?_⟩
    refine ⟨_, rfl, x, _, dx, _, _, rfl, h1, T.k_Role, T.n_Role_kept, lkT, q, _, _, _, rfl, rfl, SqT.of h2, at_of (j := 3) rfl rfl, tr, _, rfl, .inr (SqT.of h7), fun q2 hq2 => ?_⟩
    exact k q2 _ _ (Rd.Same.upd hq2) hq2 upd_same (h8.mp fun r v h => h.same (Rd.Same.upd hq2))
end
end Rd
namespace Rd
open PySem L2
theorem FitR.ti {r : RoleD} (h : FitR r) (z : Str) : FitR ⟨z, r.ps, r.ks, r.fr, r.rs⟩ := ⟨h.ps, h.ks, h.fr, h.rl, h.rows, h.fit⟩
theorem RowD.ok {r : Row} (h : RowD r) : rowOk r := by
  refine ⟨?_, h.wf⟩
  rcases h.kd with e | e | ⟨x, hx, e⟩
  · exact .inl e
  · exact .inr (.inl e)
  · refine .inr (.inr ⟨x, e, ?_⟩)
    have : ∀ x ∈ (["begun", "done"] : List Str), x.length ≤ 200000 := by decide +kernel
    exact this x hx
theorem RoleF.dpr {K : PySem.W.Frag} {H : Hp} {d S : Nat} {r : RoleD} {ap ak af ar q : Addr} (h : RoleF H d S r ap ak af ar) (hq : H q = some (.tup [.str r.ti, .ref ap, .ref ak, .ref af, .ref ar])) : Dp K H (.ref q) (rdat r) := by
  obtain ⟨uk, hak, hks⟩ := h.hk
  obtain ⟨ur, har, hrs⟩ := h.hr
  exact .tup (SqT.of hq) (.cons (.str _) (.cons (.lst (SqL.of h.hp.1) (dpAll_str _)) (.cons (.lst (SqL.of hak) (dpAll_ts hks)) (.cons (.lst (SqL.of h.hf.1) (dpAll_str _)) (.cons (.lst (SqL.of har) (dpAll_at (R := IsRowF) (fun b v h => h.dpt) hrs.atl)) .nil)))))
theorem RoleF.same {H H' : Hp} {d S : Nat} {r : RoleD} {ap ak af ar : Addr} (h : RoleF H d S r ap ak af ar) (s : Same H H') : RoleF H' d S r ap ak af ar := by
  obtain ⟨uk, hak, hks⟩ := h.hk
  obtain ⟨ur, har, hrs⟩ := h.hr
  exact ⟨h.hz, ⟨s _ _ h.hp.1, h.hp.2⟩, ⟨uk, s _ _ hak, hks.same s⟩, h.hkk, ⟨s _ _ h.hf.1, h.hf.2⟩, ⟨ur, s _ _ har, hrs.mp fun r v h => h.same s⟩, h.hrr, h.hs, h.hd⟩
mutual
theorem dp_same {K : PySem.W.Frag} {H H' : Hp} (s : Same H H') : ∀ (d : PyData) (v : V), Dp K H v d → Dp K H' v d
  | .none, _, h => by cases h; exact .non
  | .bool b, _, h => by cases h; exact .bl b
  | .int i, _, h => by cases h; exact .int i
  | .str x, _, h => by cases h; exact .str x
  | .list ds, _, h => by
    cases h with
    | lst a b => exact .lst (SqL.kept a s) (dpAll_same s ds _ b)
  | .tuple ds, _, h => by
    cases h with
    | tup a b => exact .tup (SqT.kept a s) (dpAll_same s ds _ b)
  | .dict kvs, _, h => by cases h
theorem dpAll_same {K : PySem.W.Frag} {H H' : Hp} (s : Same H H') : ∀ (ds : List PyData) (vs : List V), DpAll K H vs ds → DpAll K H' vs ds
  | [], _, h => by cases h; exact .nil
  | d :: ds, _, h => by
    cases h with
    | cons a b => exact .cons (dp_same s d _ a) (dpAll_same s ds _ b)
end
theorem rd_mkC {K : PySem.W.Frag} {H1 : Hp} {z k y : Str} {QL : List V → Hp → Prop} {E : XK} {σ : St} (hz : z.length ≤ 200000) (ha : atomOf z = some (k, y)) (kk : ∀ x H', Same H1 H' → IsLet K H' (.am k y) (.ref x) → QL [.ref x] H') : tCons (tMake (He.ga K "Letter") (sp_Linit K) [.non] E (tCons (tC (.str z)) tNil)) tNil σ H1 QL := rd_mkA (Q := fun v H' => QL [v] H') hz ha kk
end Rd
namespace Rd
open PySem L2
/-! ### books -/
def hasUnk (t : Tr) : Bool := !(t.txt "unknown").isEmpty
def sp_plainB (K : PySem.W.Frag) (d : Nat) : Sp := fun vs H Q _ => ∃ (a : Addr) (v : V) (t : Tr), vs = [.ref a] ∧ IsL K H a v ∧ IsT H t v ∧ Wf t ∧ t.dep ≤ d ∧ d ≤ 10 ∧ ∀ H', Same H H' → Q (.bl (!hasUnk t)) H'
structure BookD where
  roles : List RoleD
  known : List Tr
def IsRoleV (K : PySem.W.Frag) (H : Hp) (r : RoleD) (v : V) : Prop := ∃ x, v = .ref x ∧ IsRole K H x r
theorem IsRoleV.same {K : PySem.W.Frag} {H H' : Hp} {r : RoleD} {v : V} (s : Same H H') (h : IsRoleV K H r v) : IsRoleV K H' r v := by
  obtain ⟨x, e, h⟩ := h
  exact ⟨x, e, h.same s⟩
theorem IsRoleV.kn {K : PySem.W.Frag} {H H' : Hp} {r : RoleD} {v : V} (s : KN H H') (h : IsRoleV K H r v) : IsRoleV K H' r v := by
  obtain ⟨x, e, h⟩ := h
  exact ⟨x, e, h.kn s⟩
def IsBook (K : PySem.W.Frag) (H : Hp) (x : Addr) (b : BookD) : Prop := ∃ (dx q tr tk : Addr) (vr vk : List V), H x = some (.ins (He.ga K "Book") dx [("kept", .ref q)]) ∧ H q = some (.tup [.ref tr, .ref tk]) ∧ H tr = some (.tup vr) ∧ AtL (IsRoleV K) H b.roles vr ∧ H tk = some (.tup vk) ∧ LsAt K H b.known vk
theorem IsBook.same {K : PySem.W.Frag} {H H' : Hp} {x : Addr} {b : BookD} (s : Same H H') (h : IsBook K H x b) : IsBook K H' x b := by
  obtain ⟨dx, q, tr, tk, vr, vk, h1, h2, h3, h4, h5, h6⟩ := h
  exact ⟨dx, q, tr, tk, vr, vk, s _ _ h1, s _ _ h2, s _ _ h3, h4.mp fun r v h => h.same s, s _ _ h5, h6.same s⟩
theorem IsBook.kn {K : PySem.W.Frag} {H H' : Hp} {x : Addr} {b : BookD} (s : KN H H') (h : IsBook K H x b) : IsBook K H' x b := by
  obtain ⟨dx, q, tr, tk, vr, vk, h1, h2, h3, h4, h5, h6⟩ := h
  exact ⟨dx, q, tr, tk, vr, vk, s _ _ (fun l z => by cases z) h1, s _ _ (fun l z => by cases z) h2, s _ _ (fun l z => by cases z) h3, h4.mp fun r v h => h.kn s, s _ _ (fun l z => by cases z) h5, h6.mono s.kp⟩
def badLet (t : Tr) : Bool := hasDig t || !!hasUnk t
def BookD.bad (b : BookD) : Option Str := if (!decide (b.roles.map (·.ti)).Nodup) = true then some "roles" else if b.known.any badLet = true then some "known" else none
def sp_Binit (K : PySem.W.Frag) (d : Nat) : Sp := fun vs H Q E => ∃ (x dx ar ak : Addr) (b : BookD) (vr vk : List V), vs = [.ref x, .ref ar, .ref ak] ∧ H x = some (.ins (He.ga K "Book") dx []) ∧ H ar = some (.lst vr) ∧ AtL (IsRoleV K) H b.roles vr ∧ b.roles.length ≤ 100 ∧ H ak = some (.lst vk) ∧ LsAt K H b.known vk ∧ b.known.length ≤ 100 ∧ (∀ t ∈ b.known, Wf t ∧ t.dep ≤ d) ∧ d ≤ 10 ∧
  (b.bad = none → ∀ H', But x H H' → IsBook K H' x b → Q .non H') ∧
  ∀ f, b.bad = some f → ∀ dd H', Same H H' → H' dd = some (.xd [("field", .str f)]) → E (.ref (He.ga K "BadBook")) (some dd) H'
def sp_Broles (K : PySem.W.Frag) : Sp := fun vs H Q _ => ∃ (x : Addr) (b : BookD), vs = [.ref x] ∧ IsBook K H x b ∧ ∀ q vr H', Same H H' → H q = none → H' q = some (.lst vr) → AtL (IsRoleV K) H' b.roles vr → Q (.ref q) H'
def sp_Bknown (K : PySem.W.Frag) : Sp := fun vs H Q _ => ∃ (x : Addr) (b : BookD), vs = [.ref x] ∧ IsBook K H x b ∧ ∀ q vk H', Same H H' → H q = none → H' q = some (.lst vk) → LsAt K H' b.known vk → Q (.ref q) H'
theorem lkK {a : V} : ([("kept", a)] : List (Str × V)).lookup ("kept" : Str) = some a := by simp [List.lookup]
section
variable {P : Program} {w : World} {K : PySem.W.Frag} {mg : Str → Option Value} {base : Heap}
abbrev s_BadBook_init : Stmt := inClass (top 9) 0
theorem sc_BadBook_init : FnScope ["self", "field"] ["self", "field"] (defScope s_BadBook_init) := ⟨rfl, rfl, rfl, by decide +kernel, rfl, by decide +kernel, by decide +kernel⟩
theorem ok_BadBook (T : Tx w K mg) : Fm P w K mg base CX0 1 "BadBook" "__init__" ["self", "field"] (spX1 K "field") := by
  refine T.X_BadBook.init.ok0 sc_BadBook_init (fun _ _ _ _ _ _ us hl => match us, hl with | [_, _], _ => rfl)
    (fun vs H Q E h => ?_) (fun cdv A outer s H vs Q E hr h => ?_)
  · obtain ⟨a, C, v, rfl, _⟩ := h
    rfl
  · obtain ⟨a, C, v, rfl, TC, no, ha, k⟩ := h
    refine ⟨_, (pss_cons (ps_expr (pe_reinit rfl T.g_RoadError T.r_RoadError (pa_cons (pv 0) (pa_cons pe_str pa_nil))))
  (pss_one (ps_ost (pv 0) (pv 1)))), ?_⟩
    refine ⟨_, rfl, a, C, [.str "book not allowed"], rfl, (by show 1 ≤ 1000; decide), TC, ha, _, rfl, _, rfl, a, C, rfl, TC, no, .inl ⟨ha, fun dx hdx ne => k dx hdx ne⟩⟩
abbrev s_is_plain : Stmt := top 27
theorem sc_is_plain : FnScope ["letter"] ["letter"] (defScope s_is_plain) := ⟨rfl, rfl, rfl, by decide +kernel, rfl, by decide +kernel, by decide +kernel⟩
theorem ok_is_plainB (T : Tx w K mg) (d : Nat) : Fk P w K mg base CX0 (d + 5) "is_plain" ["letter"] (sp_plainB K d) := by
  refine T.F_is_plain.ok0 sc_is_plain (fun _ _ _ _ _ _ us hl => match us, hl with | [_], _ => rfl)
    (fun vs H Q E h => ?_) (fun cdv A outer s H vs Q E hr h => ?_)
  · obtain ⟨a, v, t, rfl, _⟩ := h
    rfl
  · obtain ⟨a, v, t, rfl, ⟨dx, ha⟩, it, wf, dp, d10, k⟩ := h
    refine ⟨_, (pss_one (ps_ret (pe_cmpR (op_eqD hr.units) (pe_fm0 (pv 0) T.k_Letter (ok_unknowns T d) (hr.mono (by omega)) pass0) (pe_lst pa_nil) (nomark _)))), ?_⟩
    refine ⟨_, rfl, a, dx, _, rfl, ha, lookT (by decide +kernel), a, v, t, rfl, ⟨dx, ha⟩, it, wf, dp, d10, fun p H1 s1 np hp1 => ?_⟩
    refine ⟨Nat.zero_le _, fun q hq => ?_⟩
    have sq := Rd.Same.upd (o := .lst []) hq
    have hsh : SeqAt.shaped (.list ((uniS (t.txt "unknown")).map PyData.str)) = true := str_shaped fun x hx => (unk_len (txt_isUnkX wf x (uniS_mem.mp hx))).2.2
    refine ⟨.list ((uniS (t.txt "unknown")).map PyData.str), .list [], .lst (SqL.of (sq _ _ hp1)) (dpAll_str _), .lst (SqL.of upd_same) .nil, hsh, rfl, ?_⟩
    have e : PyData.eqv (.list ((uniS (t.txt "unknown")).map PyData.str)) (.list []) = !hasUnk t := by
      unfold hasUnk
      cases e1 : t.txt "unknown" with
      | nil => rfl
      | cons x l =>
        cases e2 : uniS (x :: l) with
        | nil =>
          have : x ∈ uniS (x :: l) := uniS_mem.mpr List.mem_cons_self
          rw [e2] at this
          cases this
        | cons y m => rfl
    rw [e]
    exact k _ (s1.trans sq)
abbrev s_Book_roles : Stmt := inClass (top 44) 1
theorem sc_Book_roles : FnScope ["self"] ["self"] (defScope s_Book_roles) := ⟨rfl, rfl, rfl, by decide +kernel, rfl, by decide +kernel, by decide +kernel⟩
theorem ok_Broles (T : Tx w K mg) : Fp P w K mg base CX0 1 "Book" "roles" ["self"] (sp_Broles K) := by
  refine T.P_Book_roles.ok0 sc_Book_roles (fun _ _ _ _ _ _ us hl => match us, hl with | [_], _ => rfl)
    (fun vs H Q E h => ?_) (fun cdv A outer s H vs Q E hr h => ?_)
  · obtain ⟨x, r, rfl, _⟩ := h
    rfl
  · obtain ⟨x, b, rfl, ⟨dx, q, tr, tk, vr, vk, h1, h2, h3, h4, h5, h6⟩, k⟩ := h
    refine ⟨_, (pss_one (ps_ret (pe_callTy call_list_of (by rfl) T.z_list (by decide +kernel) (pa_cons (pe_ix ix_tup (pe_fld (pv 0) rfl) pe_int (fun _ _ => rfl)) pa_nil)))), ?_⟩
    refine ⟨_, rfl, x, _, dx, _, _, rfl, h1, T.k_Book, T.n_Book_kept, lkK, q, _, _, _, rfl, rfl, SqT.of h2, at_of (j := 0) rfl rfl, tr, _, rfl, .inr (SqT.of h3), fun q2 hq2 => ?_⟩
    exact k q2 _ _ (Rd.Same.upd hq2) hq2 upd_same (h4.mp fun r v h => h.same (Rd.Same.upd hq2))
abbrev s_Book_known : Stmt := inClass (top 44) 2
theorem sc_Book_known : FnScope ["self"] ["self"] (defScope s_Book_known) := ⟨rfl, rfl, rfl, by decide +kernel, rfl, by decide +kernel, by decide +kernel⟩
theorem ok_Bknown (T : Tx w K mg) : Fp P w K mg base CX0 1 "Book" "known" ["self"] (sp_Bknown K) := by
  refine T.P_Book_known.ok0 sc_Book_known (fun _ _ _ _ _ _ us hl => match us, hl with | [_], _ => rfl)
    (fun vs H Q E h => ?_) (fun cdv A outer s H vs Q E hr h => ?_)
  · obtain ⟨x, r, rfl, _⟩ := h
    rfl
  · obtain ⟨x, b, rfl, ⟨dx, q, tr, tk, vr, vk, h1, h2, h3, h4, h5, h6⟩, k⟩ := h
    refine ⟨_, (pss_one (ps_ret (pe_callTy call_list_of (by rfl) T.z_list (by decide +kernel) (pa_cons (pe_ix ix_tup (pe_fld (pv 0) rfl) pe_int (fun _ _ => rfl)) pa_nil)))), ?_⟩
    refine ⟨_, rfl, x, _, dx, _, _, rfl, h1, T.k_Book, T.n_Book_kept, lkK, q, _, _, _, rfl, rfl, SqT.of h2, at_of (j := 1) rfl rfl, tk, _, rfl, .inr (SqT.of h5), fun q2 hq2 => ?_⟩
    exact k q2 _ _ (Rd.Same.upd hq2) hq2 upd_same (h6.same (Rd.Same.upd hq2))
end
end Rd
namespace Rd
open PySem L2
section
variable {K : PySem.W.Frag} {H H' : Hp} {x C dx : Addr}
theorem IsT.bx (hx : H x = some (.ins C dx [])) (b : But x H H') : ∀ {t : Tr} {v : V}, IsT H t v → IsT H' t v
  | .am k y, v, ⟨p, e, h⟩ => ⟨p, e, b _ _ (fun z => by rw [z, hx] at h; cases h) h⟩
  | .un s a, v, ⟨p, u, e, h, g⟩ => ⟨p, u, e, b _ _ (fun z => by rw [z, hx] at h; cases h) h, IsT.bx hx b g⟩
  | .bi s a c, v, ⟨p, u1, u2, e, h, g1, g2⟩ => ⟨p, u1, u2, e, b _ _ (fun z => by rw [z, hx] at h; cases h) h, IsT.bx hx b g1, IsT.bx hx b g2⟩
theorem IsLet.bx (hx : H x = some (.ins C dx [])) (b : But x H H') {t : Tr} {v : V} (h : IsLet K H t v) : IsLet K H' t v := by
  obtain ⟨a, u, e, ⟨da, ha⟩, it⟩ := h
  exact ⟨a, u, e, ⟨da, b _ _ (fun z => by rw [z, hx] at ha; cases ha) ha⟩, it.bx hx b⟩
theorem IsRow.bx (hx : H x = some (.ins C dx [])) (b : But x H H') {r : Row} {v : V} (h : IsRow K H r v) : IsRow K H' r v := by
  obtain ⟨a, u, e, ha, it⟩ := h
  exact ⟨a, u, e, b _ _ (fun z => by rw [z, hx] at ha; cases ha) ha, it.bx hx b⟩
theorem IsRole.bx (hx : H x = some (.ins C dx [])) (b : But x H H') {y : Addr} {r : RoleD} (h : IsRole K H y r) : IsRole K H' y r := by
  obtain ⟨dy, q, tp, tk, tf, tr, uk, ur, h1, h2, h3, h4, h5, h6, h7, h8⟩ := h
  exact ⟨dy, q, tp, tk, tf, tr, uk, ur, b _ _ (fun z => by rw [z, hx] at h1; cases h1) h1, b _ _ (fun z => by rw [z, hx] at h2; cases h2) h2, b _ _ (fun z => by rw [z, hx] at h3; cases h3) h3, b _ _ (fun z => by rw [z, hx] at h4; cases h4) h4, ⟨h5.len, fun i t v a c => (h5.get i t v a c).bx hx b⟩, b _ _ (fun z => by rw [z, hx] at h6; cases h6) h6, b _ _ (fun z => by rw [z, hx] at h7; cases h7) h7, h8.mp fun r v h => h.bx hx b⟩
end
section
variable {P : Program} {w : World} {K : PySem.W.Frag} {mg : Str → Option Value} {base : Heap}
abbrev s_Book_init : Stmt := inClass (top 44) 0
theorem sc_Book_init : FnScope ["self", "roles", "known", "role", "letter"] ["self", "roles", "known"] (defScope s_Book_init) := ⟨rfl, rfl, rfl, by decide +kernel, rfl, by decide +kernel, by decide +kernel⟩
theorem ok_Binit (T : Tx w K mg) (d : Nat) : Fm P w K mg base (L2N.CX P w) (d + 7) "Book" "__init__" ["self", "roles", "known"] (sp_Binit K d) := by
  refine T.M_Book_init.ok sc_Book_init (fun _ _ _ _ _ _ us hl => match us, hl with | [_, _, _], _ => rfl)
    (fun vs H Q E h => ?_) (fun cdv A outer s H vs Q E hr h => ?_)
  · obtain ⟨x, dx, ar, ak, b, vr, vk, rfl, _⟩ := h
    rfl
  · obtain ⟨x, dx, ar, ak, b, vr, vk, rfl, hx, har, hro, hrl, hak, hkn, hkl, hkw, d10, k1, kb⟩ := h
    refine ⟨_, (pss_cons (ps_if (pt_not (pt_val (pe_fk (ok_are_unlike T) (hr.mono (by omega)) rfl pass0 (pa_cons (pe_lc (own := [("role", 3)]) (g := gName 3) (tt := tYes) (by rfl) sc_Book_init.nd (pi_list (pv 1)) (blkOk_by (own := [("role", 3)]) (N := ["self", "roles", "known", "role", "letter"]) (sc := defScope s_Book_init) (by decide +kernel)) (fun _ _ _ _ _ => (pg_name (i := 3) sc_Book_init.nd rfl (Or.inl rfl))) (fun _ _ _ _ _ => pts_nil) (fun _ _ _ _ _ => (pe_fldk (K := K) rfl (pv 3) rfl))) pa_nil))))
  (pss_one (L2N.ps_raise rfl (L2N.takes_of rfl rfl rfl rfl) (pmk_xN T.X_BadBook (ok_BadBook T) (hr.mono (by omega)) rfl (pa_cons pe_str pa_nil))))
  pss_nil)
  (pss_cons (ps_for (passes_of rfl) rfl (pi_list (pv 2)) (pg_name (i := 4) sc_Book_init.nd rfl (Or.inl rfl))
  (pss_one (ps_if (PW.pt (pw_or (pt_val (pe_fk (ok_has_digits T d) (hr.mono (by omega)) rfl pass0 (pa_cons (pv 4) pa_nil))) (pw_or1 (pt_not (pt_val (pe_fk (ok_is_plainB T d) (hr.mono (by omega)) rfl pass0 (pa_cons (pv 4) pa_nil)))))))
  (pss_one (L2N.ps_raise rfl (L2N.takes_of rfl rfl rfl rfl) (pmk_xN T.X_BadBook (ok_BadBook T) (hr.mono (by omega)) rfl (pa_cons pe_str pa_nil))))
  pss_nil)))
  (pss_one (ps_fld (pv 0) (pe_tup (pa_cons (pe_callTy call_tuple_of (by rfl) T.z_tuple (by decide +kernel) (pa_cons (pv 1) pa_nil)) (pa_cons (pe_callTy call_tuple_of (by rfl) T.z_tuple (by decide +kernel) (pa_cons (pv 2) pa_nil)) pa_nil))) rfl)))), ?_⟩
    have big : 16777216 ≤ sizeLine := by decide
    have lr := hro.len
    have lk := hkn.len
    have rz : ∀ {H1 : Hp} {σ : St} {f : Str}, Same H H1 → b.bad = some f → tMkO (He.ga K "BadBook") (spX1 K "field") [] (tCons (tC (.str f)) tNil) σ H1 (fun cls d H' => E cls d H') := fun {H1 σ f} s1 e =>
      rd_raise1 T.X_BadBook.oex T.X_BadBook.no fun dd H' s' nd hd => kb f e dd H' (s1.trans s') hd
    refine seqIf (tb_not (b := decide (b.roles.map (·.ti)).Nodup) fun Q2 kq => ⟨_, rfl, ar, rfl, ⟨_, SqL.of har⟩, fun D hD => ?_⟩) fun H1 s1 => ?_
    · refine lcg (C := 0) (R := fun _ x v => v = V.str x) (ds := b.roles) (fun _ => true) (·.ti) (fun _ _ _ _ _ h => h) (SqL.of har) lr (by omega) hD (fun i x t H2 Q2 hx ht s2 k2 => k2 _ (Same.refl _)) (fun j y r H5 Q5 hy hj _ s5 k5 => ?_) fun v6 H6 s6 hD6 hv6 => ?_
      · obtain ⟨xr, rfl, hR⟩ := (hro.get j r y hj hy).same s5
        obtain ⟨dr, q', tp, tk, tf, tr, uk, ur, hxr, _⟩ := id hR
        exact ⟨_, rfl, xr, _, dr, _, _, rfl, hxr, T.k_Role, T.n_Role_title, lkTi, k5 _ _ (Same.refl _) rfl⟩
      rw [List.filter_eq_self.mpr (fun _ _ => rfl)] at hv6
      have ev6 : v6 = (b.roles.map (·.ti)).map V.str := by
        refine List.ext_getElem? fun j => ?_
        have l6 := hv6.len
        by_cases hj : j < v6.length
        · have h1 : v6[j]? = some v6[j] := List.getElem?_eq_getElem hj
          have h2 : (b.roles.map (·.ti))[j]? = some (b.roles.map (·.ti))[j] := List.getElem?_eq_getElem (by omega)
          rw [List.getElem?_map, h1, h2, hv6.get j _ _ h2 h1]
          rfl
        · rw [List.getElem?_eq_none (by omega), List.getElem?_eq_none (by rw [List.length_map]; omega)]
      rw [ev6] at hD6
      exact ⟨D, _, rfl, SqL.of hD6, by rw [List.length_map]; omega, fun H7 s7 => ⟨_, rfl, kq _ (s6.trans s7)⟩⟩
    cases en : (!decide (b.roles.map (·.ti)).Nodup) with
    | true => exact iteT (rz s1 (by unfold BookD.bad; rw [if_pos en]))
    | false =>
      refine iteF (nxt ?_)
      try dsimp only
      have e0 : b.bad = (if b.known.any badLet = true then some "known" else none : Option Str) := by
        unfold BookD.bad
        exact if_neg (by rw [en]; decide)
      refine seqJoin (fun σ' H' => b.known.any badLet = false ∧ Same H H' ∧ ∃ t3 t4 : Option V, σ' = [some (.ref x), some (.ref ar), some (.ref ak), t3, t4]) (fun KK hK => ?_) ?_
      · refine ⟨_, rfl, ak, rfl, ⟨_, SqL.of (s1 _ _ hak)⟩, ?_⟩
        refine for_list (xs := vk) (fun i σ' H' => (b.known.take i).any badLet = false ∧ Same H H' ∧ ∃ t3 t4 : Option V, σ' = [some (.ref x), some (.ref ar), some (.ref ak), t3, t4]) ⟨rfl, s1, _, _, rfl⟩ ?_ ?_ ?_
        · rintro i σ' H' hi ⟨_, s', _⟩
          exact SqL.of (s' _ _ hak)
        · rintro i y σ' H' hy ⟨hno, s', t3, t4, rfl⟩
          refine gName_k ?_
          try dsimp only
          have hlt := (List.getElem?_eq_some_iff.mp hy).1
          have ht : b.known[i]? = some b.known[i] := List.getElem?_eq_getElem (by omega)
          obtain ⟨a, u, rfl, ⟨da, ha⟩, iu⟩ := (hkn.get i _ y ht hy).same s'
          obtain ⟨wt, dt⟩ := hkw _ (List.mem_of_getElem? ht)
          have etk : b.known.take (i + 1) = b.known.take i ++ [b.known[i]] := by rw [List.take_succ, ht]; rfl
          have emem : badLet b.known[i] = true → b.known.any badLet = true := fun e => List.any_eq_true.mpr ⟨_, List.mem_of_getElem? ht, e⟩
          generalize b.known[i] = t at ht iu wt dt etk emem
          refine oneIf (b := badLet t) (tb_or (b := hasDig t) (c := !!hasUnk t) (fun Q2 kq => ⟨_, rfl, a, u, t, rfl, ⟨da, ha⟩, iu, wt, dt, d10, fun H3 s3 => ⟨_, rfl, kq _ s3⟩⟩) (fun H3 s3 _ => tb_not (b := !hasUnk t) fun Q2 kq => ⟨_, rfl, a, u, t, rfl, ⟨da, s3 _ _ ha⟩, iu.same s3, wt, dt, d10, fun H4 s4 => ⟨_, rfl, kq _ s4⟩⟩)) fun H3 s3 => ?_
          cases eb : badLet t with
          | true => exact iteT (rz (s'.trans s3) (by rw [e0, if_pos (emem eb)]))
          | false => exact iteF ⟨by rw [etk, List.any_append, hno, List.any_cons, eb]; rfl, s'.trans s3, _, _, rfl⟩
        · rintro σ' H' ⟨hno, s', t3, t4, rfl⟩
          rw [lk, List.take_length] at hno
          exact hK _ _ ⟨hno, s', t3, t4, rfl⟩
      rintro σ' H3 ⟨hno, S3, t3, t4, rfl⟩
      have hbad : b.bad = none := by rw [e0, if_neg (by rw [hno]; decide)]
      refine ⟨_, rfl, ar, _, rfl, .inl ⟨SqL.of (S3 _ _ har), fun tr htr => ?_⟩⟩
      have s4 := Rd.Same.upd (o := .tup vr) htr
      have e4 : upd H3 tr (.tup vr) tr = some (.tup vr) := upd_same
      generalize upd H3 tr (.tup vr) = H4 at s4 e4 ⊢
      refine ⟨_, rfl, ak, _, rfl, .inl ⟨SqL.of ((S3.trans s4) _ _ hak), fun tk htk => ?_⟩⟩
      have s5 := Rd.Same.upd (o := .tup vk) htk
      have e5 : upd H4 tk (.tup vk) tk = some (.tup vk) := upd_same
      generalize upd H4 tk (.tup vk) = H5 at s5 e5 ⊢
      refine ⟨(by show 2 ≤ sizeLine; decide), fun q hq => ?_⟩
      have s6 := Rd.Same.upd (o := .tup [.ref tr, .ref tk]) hq
      have e6 : upd H5 q (.tup [.ref tr, .ref tk]) q = some (.tup [.ref tr, .ref tk]) := upd_same
      generalize upd H5 q (.tup [.ref tr, .ref tk]) = H6 at s6 e6 ⊢
      have S6 := ((S3.trans s4).trans s5).trans s6
      have hx6 := S6 _ _ hx
      refine ⟨_, rfl, x, _, dx, _, rfl, hx6, T.k_Book, T.n_Book_kept, (by show 0 < 1000; decide), ?_⟩
      have ep : putF "kept" (V.ref q) [] = ([("kept", V.ref q)] : List (Str × V)) := rfl
      rw [ep]
      have bx : But x H6 (upd H6 x (.ins (He.ga K "Book") dx [("kept", .ref q)])) := But.upd
      have ux : ∀ {c : Addr} {l : List V}, H6 c = some (.tup l) → upd H6 x (.ins (He.ga K "Book") dx [("kept", .ref q)]) c = some (.tup l) := fun {c l} e => bx _ _ (fun z => by rw [z, hx6] at e; cases e) e
      refine k1 hbad _ (fun c o hc e => bx _ _ hc (S6 _ _ e)) ⟨dx, q, tr, tk, vr, vk, upd_same, ux e6, ux ((s5.trans s6) _ _ e4), hro.mp (fun r v h => ?_), ux (s6 _ _ e5), ⟨hkn.len, fun i t v a c => ((hkn.get i t v a c).same S6).bx hx6 bx⟩⟩
      obtain ⟨xr, e, hR⟩ := h.same S6
      exact ⟨xr, e, hR.bx hx6 bx⟩
end
end Rd
namespace Rd
open PySem L2
/-- a class of one's own, made in a try's body -/
theorem pe_newS {X : Cx} {CX : CXT} {k : Nat} {c : Str} {ps : List Str} {sp : Sp} {e : Expr} {es : List Expr} {t : TA} {p pos : Pos} {E : St → XK} (M : Mk X.K (He.ga X.K c) (He.ma X.K (He.ga X.K c) "__init__")) (g : X.mg c = some (.ref (He.ga X.K c))) (F : Fm X.prog X.w X.K X.mg X.base CX k c "__init__" ps sp) (hr : Room (k + 1) X.A) (hg : Gl X c) (hx : ∀ σ, PassesAt CX X σ (E σ)) (ha : PA X (e :: es) t)
    (hdb : (c == ("__debug__" : Str)) = false := by decide) (he : starEach (e :: es) X.env = (false, eval e X.env) :: starEach es X.env := by rfl) (hpl : (backTo pos (starEach es X.env)).any (·.1) = false := by rfl) :
    PE X (.Call (.Name c p) (e :: es) [] pos) (tMakeS (He.ga X.K c) sp [] E t) := by
  obtain ⟨⟨fd, a, b⟩, me⟩ := F
  refine ⟨fun pins s σ H Q I h => ?_⟩
  refine wpAny_Call_Name_kw (ld_glob I hg g ?_ hdb)
  refine PySem.W.callWith_K (h₀ := X.base) I.ok.mod.kin M.kp (thn (ha.run pos pins s σ H _ I h) fun us s1 ⟨vs, H1, I1, r, q⟩ => ⟨I1.kIn, ?_⟩) he hpl
  exact run_makeS M a hr b .nil (hx σ) I1 r q
def bdat (b : BookD) : PyData := .tuple [.list (b.roles.map fun r => .str r.ti), .list (b.roles.map fun r => .list (r.rs.map rowD)), .list (b.known.map dat)]
structure BookOk (b : BookD) : Prop where
  rl : b.roles.length ≤ 100
  kl : b.known.length ≤ 100
  rs : ∀ r ∈ b.roles, r.rs.length ≤ 1000 ∧ ∀ y ∈ r.rs, rowOk y
def sp_btold (K : PySem.W.Frag) : Sp := fun vs H Q _ => ∃ (x : Addr) (b : BookD), vs = [.ref x] ∧ IsBook K H x b ∧ BookOk b ∧ ∀ q H', Same H H' → Dp K H' (.ref q) (bdat b) → Q (.ref q) H'
/-- a list of its own that holds rows as forms -/
def RowsL (D : Addr) (H : Hp) (r : RoleD) (v : V) : Prop := ∃ q ws, v = .ref q ∧ q ≠ D ∧ H q = some (.lst ws) ∧ RsAt IsRowF H r.rs ws
theorem RowsL.but {D : Addr} {H H' : Hp} {r : RoleD} {v : V} (b : ∀ c o, c ≠ D → H c = some o → H' c = some o) {l : List V} (hD : H D = some (.lst l)) (h : RowsL D H r v) : RowsL D H' r v := by
  obtain ⟨q, ws, e, ne, h1, h2⟩ := h
  exact ⟨q, ws, e, ne, b _ _ ne h1, h2.mp fun r v g => g.mono (C := 0) fun c o hi e => b c o (fun z => by rw [z, hD] at e; cases e; cases hi) e⟩
theorem tYes_k {σ : St} {H : Hp} {A B : Hp → Prop} (h : A H) : tYes σ H fun b H3 => if b = true then A H3 else B H3 := by
  show (if true = true then A H else B H)
  rw [if_pos rfl]
  exact h
section
variable {P : Program} {w : World} {K : PySem.W.Frag} {mg : Str → Option Value} {base : Heap}
/-- row[:-1] + (row[-1].form(),) -/
abbrev s__law_told : Stmt := top 56
theorem sc__law_told : FnScope ["_law_book", "_law_rows", "_law_row", "_law_role_here", "_law_letter_here"] ["_law_book"] (defScope s__law_told) := ⟨rfl, rfl, rfl, by decide +kernel, rfl, by decide +kernel, by decide +kernel⟩
theorem ok__law_btold (T : Tx w K mg) : Fk P w K mg base CX0 4 "_law_told" ["_law_book"] (sp_btold K) := by
  refine T.F__law_told.ok0 sc__law_told (fun _ _ _ _ _ _ us hl => match us, hl with | [_], _ => rfl)
    (fun vs H Q E h => ?_) (fun cdv A outer s H vs Q E hr h => ?_)
  · obtain ⟨x, r, rfl, _⟩ := h
    rfl
  · obtain ⟨x, b, rfl, hB, bk, k⟩ := h
    refine ⟨_, (pss_cons (ps_setLc (i := 1) (own := [("_law_role_here", 3)]) (g := gName 3) (tt := tYes) (by rfl) sc__law_told.nd rfl rfl (sw_true rfl rfl rfl (by decide +kernel)) (pi_list (pe_fp rfl (pv 0) T.k_Book (ok_Broles T) (hr.mono (by omega)) pass0)) (blkOk_by (own := [("_law_role_here", 3)]) (N := ["_law_book", "_law_rows", "_law_row", "_law_role_here", "_law_letter_here"]) (sc := defScope s__law_told) (by decide +kernel)) (fun _ _ _ _ _ => (pg_name (i := 3) sc__law_told.nd rfl (Or.inl rfl))) (fun _ _ _ _ _ => pts_nil) (fun _ _ _ _ _ => (pe_lc (own := [("_law_row", 2)]) (g := gName 2) (tt := tYes) (by rfl) sc__law_told.nd (pi_listk (K := K) rfl (pe_fp rfl (pv 3) T.k_Role (ok_Rrows T) (hr.mono (by omega)) pass0)) (blkOk_by (own := [("_law_row", 2)]) (N := ["_law_book", "_law_rows", "_law_row", "_law_role_here", "_law_letter_here"]) (by kernel_rfl)) (fun _ _ _ _ _ => (pg_name (i := 2) sc__law_told.nd rfl (Or.inl rfl))) (fun _ _ _ _ _ => pts_nil) (fun _ _ _ _ _ => (pe_op (kOp (r := rCatT) (K := K) rfl op_catT) (pe_slice (kSl (r := rSlT) (K := K) rfl sl_tup) (pv 2) po_none (po_some (pe_un un_neg pe_int))) (pe_tup (pa_cons (pe_fm0k (K := K) rfl (pe_ix (kIx (r := rIxT) (K := K) rfl ix_tup) (pv 2) (pe_un un_neg pe_int) (fun _ _ => rfl)) T.k_Letter (ok_form T) (hr.mono (by omega)) pass0) pa_nil)))))))
  (pss_one (ps_ret (pe_tup (pa_cons (pe_lc (own := [("_law_role_here", 3)]) (g := gName 3) (tt := tYes) (by rfl) sc__law_told.nd (pi_list (pe_fp rfl (pv 0) T.k_Book (ok_Broles T) (hr.mono (by omega)) pass0)) (blkOk_by (own := [("_law_role_here", 3)]) (N := ["_law_book", "_law_rows", "_law_row", "_law_role_here", "_law_letter_here"]) (sc := defScope s__law_told) (by decide +kernel)) (fun _ _ _ _ _ => (pg_name (i := 3) sc__law_told.nd rfl (Or.inl rfl))) (fun _ _ _ _ _ => pts_nil) (fun _ _ _ _ _ => (pe_fldk (K := K) rfl (pv 3) rfl))) (pa_cons (pv 1) (pa_cons (pe_lc (own := [("_law_letter_here", 4)]) (g := gName 4) (tt := tYes) (by rfl) sc__law_told.nd (pi_list (pe_fp rfl (pv 0) T.k_Book (ok_Bknown T) (hr.mono (by omega)) pass0)) (blkOk_by (own := [("_law_letter_here", 4)]) (N := ["_law_book", "_law_rows", "_law_row", "_law_role_here", "_law_letter_here"]) (sc := defScope s__law_told) (by decide +kernel)) (fun _ _ _ _ _ => (pg_name (i := 4) sc__law_told.nd rfl (Or.inl rfl))) (fun _ _ _ _ _ => pts_nil) (fun _ _ _ _ _ => (pe_fm0k (K := K) rfl (pv 4) T.k_Letter (ok_form T) (hr.mono (by omega)) pass0))) pa_nil))))))), ?_⟩
    have big : 16777216 ≤ sizeLine := by decide
    obtain ⟨dx, q', tr, tk, vr0, vk0, hx, _⟩ := id hB
    have hrl := bk.rl
    have hkl := bk.kl
    refine seqAsg ⟨_, rfl, x, dx, _, rfl, hx, x, b, rfl, hB, fun q1 vr H1 s1 nq1 hq1 hro => ⟨q1, rfl, ⟨_, SqL.of hq1⟩, fun D hD => ?_⟩⟩
    have lr := hro.len
    refine walkL (K := K) (a := q1) (xs := vr) (fun i Hc => ∃ vs, Same H1 Hc ∧ Hc D = some (.lst vs) ∧ AtL (RowsL D) Hc (b.roles.take i) vs) ⟨[], Rd.Same.upd hD, upd_same, AtL.nil⟩ (fun i Hc _ ⟨_, sc, _⟩ => SqL.of (sc _ _ hq1)) ?_ ?_
    · rintro i y Hc hy ⟨vs, sc, hDc, hvs⟩
      have hlt := (List.getElem?_eq_some_iff.mp hy).1
      have ht : b.roles[i]? = some b.roles[i] := List.getElem?_eq_getElem (by omega)
      have etk : b.roles.take (i + 1) = b.roles.take i ++ [b.roles[i]] := by rw [List.take_succ, ht]; rfl
      obtain ⟨xr, rfl, hR⟩ := (hro.get i _ y ht hy).same sc
      obtain ⟨hr1, rok⟩ := bk.rs _ (List.mem_of_getElem? ht)
      generalize b.roles[i] = r at etk hR hr1 rok
      obtain ⟨dr, q'', tp, tk, tf, tr, uk, ur0, hxr, _⟩ := id hR
      refine gName_k ⟨rfl, ?_⟩
      refine tYes_k ?_
      refine ⟨_, rfl, xr, dr, _, rfl, hxr, xr, r, rfl, hR, fun q2 ur H2 s2 nq2 hq2 hrs => ⟨q2, rfl, ⟨_, SqL.of hq2⟩, fun D2 hD2 => ?_⟩⟩
      have hrl2 := hrs.len
      refine lcg (K := K) (i0 := 2) (tt := tYes) (C := He.ga K "Letter") (R := IsRowF) (ds := r.rs) (fun _ => true) id (fun _ _ _ _ kp h => h.mono kp) (SqL.of hq2) hrl2 (by omega) hD2 (fun i x y H2 Q2 hx hy s2 k2 => k2 _ (Same.refl _)) (fun i x y H2 Q2 hx hy _ s2 k2 => ?_) fun vm H3 s3 hD3 hm3 => ?_
      · obtain ⟨a0, u, rfl, ha0, b, u', rfl, ⟨db, hb⟩, iu⟩ := (hrs.get i y x hy hx).same s2
        have rk := rok y (List.mem_of_getElem? hy)
        have hne : y.1 ≠ [] := by
          obtain ⟨k0, kr, e, _⟩ := rk.head
          rw [e]
          exact List.cons_ne_nil _ _
        refine ⟨_, rfl, _, rfl, _, rfl, a0, _, rfl, SqT.of ha0, ?_, fun p3 hp3 => ?_⟩
        · rintro ⟨_, z⟩
          rw [sIxLast, List.length_append, List.length_singleton] at z
          omega
        · rw [cutLast]
          have s3 := Rd.Same.upd (o := .tup (y.1.map V.str)) hp3
          have hp31 : upd H2 p3 (.tup (y.1.map V.str)) p3 = some (.tup (y.1.map V.str)) := upd_same
          generalize upd H2 p3 (.tup (y.1.map V.str)) = H3 at s3 hp31 ⊢
          refine ⟨_, rfl, _, rfl, a0, _, _, _, rfl, rfl, SqT.of (s3 _ _ ha0), atI_last _ _, b, db, _, rfl, s3 _ _ hb, lookT (by decide +kernel), b, u', rfl, ⟨db, s3 _ _ hb⟩, (by show 1 ≤ sizeLine; decide), fun q5 hq5 => ?_⟩
          have s5 := Rd.Same.upd (o := .tup [u']) hq5
          have hq51 : upd H3 q5 (.tup [u']) q5 = some (.tup [u']) := upd_same
          generalize upd H3 q5 (.tup [u']) = H5 at s5 hq51 ⊢
          have hyl : y.1.length ≤ 2 := by
            rcases rk.1 with e | e | ⟨z, e, _⟩
            · rw [e]; show 1 ≤ 2; decide
            · rw [e]; show 1 ≤ 2; decide
            · rw [e]; exact Nat.le_refl _
          refine ⟨p3, q5, _, _, rfl, rfl, SqT.of (s5 _ _ hp31), SqT.of hq51, (fun z => hne (List.map_eq_nil_iff.mp z)), (by rw [List.length_map, List.length_singleton]; omega), (fun z => by cases z), fun _ q6 hq6 => ?_⟩
          have s6 := Rd.Same.upd (o := .tup (y.1.map V.str ++ [u'])) hq6
          have s36 := (s3.trans s5).trans s6
          exact k2 _ _ s36 ⟨q6, u', rfl, upd_same, iu.same s36⟩
      have efl : (r.rs.filter (fun _ => true)).map id = r.rs := by rw [List.filter_eq_self.mpr (fun _ _ => rfl), List.map_id]
      rw [efl] at hm3
      have s23 := s2.trans s3
      have hDc3 := s23 _ _ hDc
      have nD2 : D2 ≠ D := fun z => by rw [z, s2 _ _ hDc] at hD2; cases hD2
      have hvl := hvs.len
      rw [List.length_take] at hvl
      have bt : ∀ c o, c ≠ D → H3 c = some o → upd H3 D (.lst (vs ++ [.ref D2])) c = some o := fun c o hc e => by rw [upd_ne hc]; exact e
      refine ⟨vs, hDc3, by omega, vs ++ [.ref D2], fun c o e => ?_, upd_same, ?_⟩
      · exact bt _ _ (ne_of_none e hD) (s23 _ _ (sc _ _ e))
      · rw [etk]
        exact (hvs.mp fun r v h => RowsL.but bt hDc3 (h.but (fun c o _ e => s23 c o e) hDc)).snoc (RowsL.but bt hDc3 ⟨D2, vm, rfl, nD2, hD3, hm3.rs⟩)
    · rintro H2 ⟨vs, s2, hD2, hvs⟩
      rw [lr, List.take_length] at hvs
      refine gName_k ?_
      try dsimp only
      have S2 := s1.trans s2
      have hB2 := hB.same S2
      refine ⟨_, rfl, x, dx, _, rfl, S2 _ _ hx, x, b, rfl, hB2, fun q3 vr3 H3 s3 nq3 hq3 hro3 => ⟨q3, rfl, ⟨_, SqL.of hq3⟩, fun D3 hD3 => ?_⟩⟩
      have lr3 := hro3.len
      refine lcg (C := 0) (R := fun _ x v => v = V.str x) (ds := b.roles) (fun _ => true) (·.ti) (fun _ _ _ _ _ h => h) (SqL.of hq3) lr3 (by omega) hD3 (fun i x t H2 Q2 hx ht s2 k2 => k2 _ (Same.refl _)) (fun j y r H5 Q5 hy hj _ s5 k5 => ?_) fun v4 H4 s4 hD4 hv4 => ?_
      · obtain ⟨xr, rfl, hR⟩ := (hro3.get j r y hj hy).same s5
        obtain ⟨dr, q', tp, tk, tf, tr, uk, ur, hxr, _⟩ := id hR
        exact ⟨_, rfl, xr, _, dr, _, _, rfl, hxr, T.k_Role, T.n_Role_title, lkTi, k5 _ _ (Same.refl _) rfl⟩
      rw [List.filter_eq_self.mpr (fun _ _ => rfl)] at hv4
      have S34 := s3.trans s4
      have S4 := S2.trans S34
      refine ⟨_, rfl, ?_⟩
      refine ⟨_, rfl, x, dx, _, rfl, S4 _ _ hx, x, b, rfl, hB.same S4, fun q5 vk H5 s5 nq5 hq5 hks => ⟨q5, rfl, ⟨_, SqL.of hq5⟩, fun D5 hD5 => ?_⟩⟩
      refine lcg (C := 0) (R := IsT) (ds := b.known) (fun _ => true) id (fun _ _ _ _ kp h => h.mono kp) (SqL.of hq5) hks.len (by rw [hks.len]; omega) hD5 (fun i x y H2 Q2 hx hy s2 k2 => k2 _ (Same.refl _)) (fun i x y H5 Q5 hx hy _ s5 k5 => ?_) fun vl H6 s6 hD6 hl6 => ?_
      · obtain ⟨b, u', rfl, ⟨db, hb⟩, iu⟩ := (hks.get i y x hy hx).same s5
        exact ⟨_, rfl, b, db, _, rfl, hb, lookT (by decide +kernel), b, u', rfl, ⟨db, hb⟩, k5 _ _ (Same.refl _) iu⟩
      have efk : (b.known.filter (fun _ => true)).map id = b.known := by rw [List.filter_eq_self.mpr (fun _ _ => rfl), List.map_id]
      rw [efk] at hl6
      have S56 := s5.trans s6
      refine ⟨(by show 3 ≤ sizeLine; decide), fun q7 hq7 => ?_⟩
      have s7 := Rd.Same.upd (o := .tup [.ref D3, .ref D, .ref D5]) hq7
      refine k q7 _ ((S4.trans S56).trans s7) (.tup (SqT.of upd_same) (.cons (.lst (SqL.of ((S56.trans s7) _ _ hD4)) ?_) (.cons (.lst (SqL.of (((S34.trans S56).trans s7) _ _ hD2)) ?_) (.cons (.lst (SqL.of (s7 _ _ hD6)) (dpAll_ts (hl6.ts.same s7))) .nil))))
      · have e : (b.roles.map fun r => PyData.str r.ti) = (b.roles.map (·.ti)).map PyData.str := by rw [List.map_map]; rfl
        rw [e]
        exact dpAll_at (R := fun _ x v => v = V.str x) (fun b v h => by rw [h]; exact .str _) ⟨hv4.len, hv4.get⟩
      · refine dpAll_at (R := RowsL D) (fun r v h => ?_) (hvs.mp fun r v h => h.but (fun c o _ e => ((S34.trans S56).trans s7) c o e) hD2)
        obtain ⟨q, ws, rfl, _, h1, h2⟩ := h
        exact .lst (SqL.of h1) (dpAll_at (R := IsRowF) (fun b v h => h.dpt) h2.atl)
def sp_btried (K : PySem.W.Frag) : Sp := fun vs H Q _ => ∃ (ar ak : Addr) (b : BookD) (vr vk : List V), vs = [.ref ar, .ref ak] ∧ H ar = some (.lst vr) ∧ AtL (IsRoleV K) H b.roles vr ∧ H ak = some (.lst vk) ∧ LsAt K H b.known vk ∧ BookOk b ∧ (∀ t ∈ b.known, Wf t ∧ t.dep ≤ 6) ∧
  (b.bad = none → ∀ q H', Same H H' → Dp K H' (.ref q) (.tuple [bdat b, .str ""]) → Q (.ref q) H') ∧
  ∀ f, b.bad = some f → ∀ q H', Same H H' → Dp K H' (.ref q) (.tuple [.none, .str f]) → Q (.ref q) H'
abbrev s__law_tried : Stmt := top 57
theorem sc__law_tried : FnScope ["_law_roles", "_law_heap", "e"] ["_law_roles", "_law_heap"] (defScope s__law_tried) := ⟨rfl, rfl, rfl, by decide +kernel, rfl, by decide +kernel, by decide +kernel⟩
theorem ok__law_btried (T : Tx w K mg) : Fk P w K mg base CX0 15 "_law_tried" ["_law_roles", "_law_heap"] (sp_btried K) := by
  refine T.F__law_tried.ok0 sc__law_tried (fun _ _ _ _ _ _ us hl => match us, hl with | [_, _], _ => rfl)
    (fun vs H Q E h => ?_) (fun cdv A outer s H vs Q E hr h => ?_)
  · obtain ⟨ar, ak, b, vr, vk, rfl, _⟩ := h
    rfl
  · obtain ⟨ar, ak, b, vr, vk, rfl, har, hro, hak, hkn, bk, hkw, k1, k0⟩ := h
    refine ⟨_, (pss_one (L2N.ps_try_as (tb := fun W => tRet (tTup (tCons (tCall (sp_btold K) [] E0 (tCons (tMakeS (He.ga K "Book") (sp_Binit K 6) [] (WE W) (tCons (tVar 0) (tCons (tVar 1) tNil))) tNil)) (tCons (tC (.str "")) tNil)))) (ts := fun a cls d => tRet (tTup (tCons (tC .non) (tCons (tXf a cls d (He.ga K "BadBook") "field" (tVar 2)) tNil)))) (i := 2) rfl rfl sc__law_tried.nd rfl rfl ⟨rfl, by decide, .inl T.X_BadBook.g⟩ takes0N (fun W pn xe tk _ => (pss_one (ps_ret (pe_tup (pa_cons (pe_fk (ok__law_btold T) (hr.mono (by omega)) rfl pass0 (pa_cons (pe_newS T.J_Book T.g_Book (ok_Binit T 6) (hr.mono (by omega)) (by rfl) (fun σ => L2N.passAt tk σ) (pa_cons (pv 0) (pa_cons (pv 1) pa_nil))) pa_nil)) (pa_cons pe_str pa_nil)))))) (fun a oe cls d pn hz hf => (pss_one (ps_ret (pe_tup (pa_cons pe_non (pa_cons (pe_xf T.X_BadBook.xf T.X_BadBook.no hz.zc hf (pv 2)) pa_nil)))))))), ?_⟩
    refine ⟨_, rfl, _, rfl, fun x dx hx hdx ne => ?_⟩
    have sx : Same H (upd (upd H dx (.own x)) x (.ins (He.ga K "Book") dx [])) := (Rd.Same.upd hdx).trans (Rd.Same.upd (by rw [upd_ne (Ne.symm ne)]; exact hx))
    have hx1 : upd (upd H dx (.own x)) x (.ins (He.ga K "Book") dx []) x = some (.ins (He.ga K "Book") dx []) := upd_same
    generalize upd (upd H dx (.own x)) x (.ins (He.ga K "Book") dx []) = H1 at sx hx1 ⊢
    refine ⟨x, dx, ar, ak, b, vr, vk, rfl, hx1, sx _ _ har, hro.mp fun r v h => h.same sx, bk.rl, sx _ _ hak, hkn.same sx, bk.kl, hkw, by decide, fun eb H' bt hB => ⟨rfl, ?_⟩, fun f eb dd H' s' hd => ?_⟩
    · have S' : Same H H' := fun c o e => bt c o (ne_of_none e hx) (sx _ _ e)
      refine ⟨x, b, rfl, hB, bk, fun q H2 s2 dp => ⟨(by show 2 ≤ sizeLine; decide), fun q2 hq2 => ?_⟩⟩
      have s3 := Rd.Same.upd (o := .tup [.ref q, .str ""]) hq2
      exact k1 eb q2 _ ((S'.trans s2).trans s3) (.tup (SqT.of upd_same) (.cons (dp_same s3 _ _ dp) (.cons (.str _) .nil)))
    · refine ⟨true, T.X_BadBook.em, fun _ i' hi' => ?_, fun q => by cases q⟩
      exact ⟨_, rfl, rfl, rfl, dd, _, _, rfl, hd, lookX _, (by show 2 ≤ sizeLine; decide), fun q hq => k0 f eb q _ ((sx.trans s').trans (Rd.Same.upd hq)) (.tup (SqT.of upd_same) (.cons .non (.cons (.str _) .nil)))⟩
end
end Rd
namespace Rd
open PySem L2
/-- a walk over two lists side by side -/
theorem walkZ {K : PySem.W.Frag} {a b : Addr} {xs ys : List V} {GG : V → Hp → (Hp → Prop) → Prop} {H0 : Hp} {Qd : Hp → Prop} (Pv : Nat → Hp → Prop) (h0 : Pv 0 H0) (hl : xs.length = ys.length) (hab : ∀ i H, i ≤ xs.length → Pv i H → SqL K H a xs ∧ SqL K H b ys)
    (hs : ∀ i x y T H, xs[i]? = some x → ys[i]? = some y → Pv i H → H T = none → GG (.ref T) (upd H T (.tup [x, y])) (Pv (i + 1))) (hd : ∀ H, Pv xs.length H → Qd H) :
    ∃ W : Nat → Nat → Hp → Prop, (∃ m, W 0 m H0) ∧ ∀ i m H, W i m H →
      ((Itz K a b).stop i H ∧ Qd H) ∨ ((Itz K a b).go i H ∧ ∃ Nx : Hp → Prop, (∀ H', Nx H' → ∃ m', m' < m ∧ W (i + 1) m' H') ∧ ∀ x H', (Itz K a b).yld i H x H' → GG x H' Nx) := by
  refine ⟨fun i m H => m = xs.length - i ∧ i ≤ xs.length ∧ Pv i H, ⟨xs.length, by simp, Nat.zero_le _, h0⟩, ?_⟩
  rintro i m H ⟨rfl, hi, p⟩
  obtain ⟨qa, qb⟩ := hab i H hi p
  by_cases hlt : i < xs.length
  · have hly : i < ys.length := by omega
    refine .inr ⟨⟨xs, ys, xs[i], ys[i], qa, qb, List.getElem?_eq_getElem hlt, List.getElem?_eq_getElem hly⟩, Pv (i + 1), fun H' p' => ⟨xs.length - (i + 1), by omega, rfl, hlt, p'⟩, fun x H' y => ?_⟩
    obtain ⟨T, u, v, rfl, hT, rfl, gu, gv⟩ := y
    exact hs i u v T H (gu _ qa) (gv _ qb) p hT
  · have e : i = xs.length := by omega
    subst e
    exact .inl ⟨⟨xs, ys, qa, qb, .inl (Nat.le_refl _)⟩, hd H p⟩
theorem RoleF.move {H H' : Hp} {d S : Nat} {r : RoleD} {ap ak af ar : Addr} (h : RoleF H d S r ap ak af ar) (m : ∀ c ∈ [ap, ak, af, ar], ∀ o, H c = some o → H' c = some o) (k : Kp 0 H H') : RoleF H' d S r ap ak af ar := by
  obtain ⟨uk, hak, hks⟩ := h.hk
  obtain ⟨ur, har, hrs⟩ := h.hr
  exact ⟨h.hz, ⟨m _ (by simp) _ h.hp.1, h.hp.2⟩, ⟨uk, m _ (by simp) _ hak, hks.mono k⟩, h.hkk, ⟨m _ (by simp) _ h.hf.1, h.hf.2⟩, ⟨ur, m _ (by simp) _ har, hrs.mp fun r v h => h.mono k⟩, h.hrr, h.hs, h.hd⟩
/-- a drawn fit role as a tuple of lists, none of which is p or D -/
def DrR (p D : Addr) (H : Hp) (r : RoleD) (v : V) : Prop := ∃ q ap ak af ar : Addr, v = .ref q ∧ H q = some (.tup [.ref ap, .ref ak, .ref af, .ref ar]) ∧ (∀ c ∈ [ap, ak, af, ar], c ≠ p ∧ c ≠ D) ∧ (∀ z : Str, z.length ≤ 200000 → RoleF H 6 16 ⟨z, r.ps, r.ks, r.fr, r.rs⟩ ap ak af ar) ∧ FitR r
theorem DrR.off {p D : Addr} {H H' : Hp} {r : RoleD} {v : V} {lp lD : List V} (hp : H p = some (.lst lp)) (hD : H D = some (.lst lD)) (b : ∀ c o, c ≠ p → c ≠ D → H c = some o → H' c = some o) (h : DrR p D H r v) : DrR p D H' r v := by
  obtain ⟨q, ap, ak, af, ar, e, hq, ne, hR, fr⟩ := h
  have nl : ∀ {c o}, H c = some o → (∀ l, o ≠ .lst l) → H' c = some o := fun {c o} e hl => b c o (fun z => by rw [z, hp] at e; cases e; exact hl _ rfl) (fun z => by rw [z, hD] at e; cases e; exact hl _ rfl) e
  exact ⟨q, ap, ak, af, ar, e, nl hq (fun l z => by cases z), ne, fun z hz => (hR z hz).move (fun c hc o e => b c o (ne c hc).1 (ne c hc).2 e) (fun c o hi e => nl e (fun l z => by rw [z] at hi; cases hi)), fr⟩
/-! ### letters with an unknown or a digit -/
theorem all_txt {k x : Str} : ∀ {t : Tr}, Tr.am k x ∈ t.all ↔ x ∈ t.txt k
  | .am k' y => by
    show _ ∈ [Tr.am k' y] ↔ x ∈ (if k' = k then [y] else [])
    by_cases e : k' = k
    · subst e
      rw [if_pos rfl, List.mem_singleton, List.mem_singleton]
      exact ⟨fun z => by cases z; rfl, fun z => by rw [z]⟩
    · rw [if_neg e, List.mem_singleton]
      exact ⟨fun z => by cases z; exact absurd rfl e, fun z => by cases z⟩
  | .un s a => by
    show _ ∈ Tr.un s a :: a.all ↔ x ∈ a.txt k
    rw [List.mem_cons, ← all_txt]
    exact ⟨fun z => by rcases z with z | z; cases z; exact z, .inr⟩
  | .bi s a b => by
    show _ ∈ Tr.bi s a b :: (a.all ++ b.all) ↔ x ∈ a.txt k ++ b.txt k
    rw [List.mem_cons, List.mem_append, List.mem_append, ← all_txt, ← all_txt]
    exact ⟨fun z => by rcases z with z | z; cases z; exact z, .inr⟩
theorem leaf_all {A : List Tr} : ∀ {t : Tr}, t.leafIn A → ∀ k x, Tr.am k x ∈ t.all → Tr.am k x ∈ A
  | .am k' y, h, k, x, m => by
    rw [List.mem_singleton.mp m]
    exact h
  | .un s a, h, k, x, m => by
    rcases List.mem_cons.mp m with z | z
    · cases z
    · exact leaf_all (t := a) h k x z
  | .bi s a b, h, k, x, m => by
    rcases List.mem_cons.mp m with z | z
    · cases z
    · rcases List.mem_append.mp z with z | z
      · exact leaf_all (t := a) h.1 k x z
      · exact leaf_all (t := b) h.2 k x z
def BADL : List Tr := [.am "unknown" "x", .am "name" "N0"]
def ATS : List Tr := [.am "name" "K", .am "word" "a", .am "name" "S"]
theorem badLet_eq {A : List Tr} (hA : ∀ u ∈ A, u ∈ ATS ∨ u ∈ BADL) {t : Tr} (h : t.leafIn A) : badLet t = t.all.any fun u => decide (u ∈ BADL) := by
  rw [Bool.eq_iff_iff, List.any_eq_true]
  unfold badLet hasDig hasUnk
  constructor
  · intro e
    rcases Bool.or_eq_true_iff.mp e with e | e
    · obtain ⟨x, hx, ed⟩ := List.any_eq_true.mp e
      have m := all_txt.mpr hx
      refine ⟨_, m, ?_⟩
      rcases hA _ (leaf_all h _ _ m) with z | z
      · have : x = "K" ∨ x = "S" := by
          have z : Tr.am "name" x = .am "name" "K" ∨ Tr.am "name" x = .am "word" "a" ∨ Tr.am "name" x = .am "name" "S" := by simpa [ATS] using z
          rcases z with z | z | z
          · cases z; exact .inl rfl
          · exact absurd (congrArg Tr.head z) (by show ¬ (("name" : Str) = "word"); decide +kernel)
          · cases z; exact .inr rfl
        rcases this with rfl | rfl
        · exact absurd ed (by decide +kernel)
        · exact absurd ed (by decide +kernel)
      · exact decide_eq_true z
    · cases e2 : t.txt "unknown" with
      | nil => rw [e2] at e; exact absurd e (by decide)
      | cons x l =>
        have m := all_txt.mpr (show x ∈ t.txt "unknown" by rw [e2]; exact List.mem_cons_self)
        refine ⟨_, m, ?_⟩
        rcases hA _ (leaf_all h _ _ m) with z | z
        · have z : Tr.am "unknown" x = .am "name" "K" ∨ Tr.am "unknown" x = .am "word" "a" ∨ Tr.am "unknown" x = .am "name" "S" := by simpa [ATS] using z
          rcases z with z | z | z <;> exact absurd (congrArg Tr.head z) (by first | (show ¬ (("unknown" : Str) = "word"); decide +kernel) | (show ¬ (("unknown" : Str) = "name"); decide +kernel))
        · exact decide_eq_true z
  · rintro ⟨u, hu, e⟩
    have e := of_decide_eq_true e
    have e : u = .am "unknown" "x" ∨ u = .am "name" "N0" := by simpa [BADL] using e
    rcases e with rfl | rfl
    · have := all_txt.mp hu
      refine Bool.or_eq_true_iff.mpr (.inr ?_)
      cases e2 : t.txt "unknown" with
      | nil => rw [e2] at this; cases this
      | cons x l => rfl
    · exact Bool.or_eq_true_iff.mpr (.inl (List.any_eq_true.mpr ⟨_, all_txt.mp hu, by decide +kernel⟩))
def sp_partsR : Sp := fun vs H Q _ => ∃ (q : Addr) (us : List V) (ts : List Tr), vs = [.ref q] ∧ H q = some (.tup (.str "heap" :: us)) ∧ TsAt H ts us ∧ (∀ t ∈ ts, Wf t ∧ t.dep ≤ 6) ∧ ts.length ≤ 10 ∧ ∀ p ws H', Same H H' → H p = none → H' p = some (.lst (.ref q :: ws)) → TsAt H' (allOf ts) ws → Q (.ref p) H'
section
variable {P : Program} {w : World} {K : PySem.W.Frag} {mg : Str → Option Value} {base : Heap}
theorem ok__law_partsR (T : Tx w K mg) : Fk P w K mg base CX0 9 "_law_parts" ["_law_form"] sp_partsR := by
  have ih := ok__law_parts (P := P) (base := base) T 6
  refine T.F__law_parts.ok0 sc__law_parts (fun _ _ _ _ _ _ us hl => match us, hl with | [_], _ => rfl)
    (fun vs H Q E h => ?_) (fun cdv A outer s H vs Q E hr h => ?_)
  · obtain ⟨q, us, ts, rfl, _⟩ := h
    rfl
  · obtain ⟨pf, us, ts, rfl, hpv, hts, hw, hl, k⟩ := h
    refine ⟨_, (pss_cons (ps_set (i := 1) sc__law_parts.nd rfl (Or.inl rfl) (pe_lst (pa_cons (pv 0) pa_nil)))
  (pss_cons (ps_if (pt_cmpR op_notInT (pe_ix ix_tup (pv 0) pe_int (fun _ _ => rfl)) (pe_tup (pa_cons pe_str (pa_cons pe_str (pa_cons pe_str pa_nil)))) (by rfl))
  (pss_one (ps_for PassesOwn.never rfl (pi_tup (pe_slice sl_tup (pv 0) (po_some pe_int) po_none)) (pg_name (i := 2) sc__law_parts.nd rfl (Or.inl rfl))
  (pss_one (ps_expr (pe_bm PySem.F.plainAttrs_list PySem.F.slot_list_extend PySem.F.type_list_extend mt_extend (pv 1) (pa_cons (pe_fk ih (hr.mono (by omega)) rfl pass0 (pa_cons (pv 2) pa_nil)) pa_nil))))))
  pss_nil)
  (pss_one (ps_ret (pv 1))))), ?_⟩
    have big : 16777216 ≤ sizeLine := by decide
    refine ⟨_, rfl, (by show 1 ≤ sizeLine; decide), fun p np => ?_⟩
    refine gName_k ?_
    try dsimp only
    have sp := Rd.Same.upd (o := .lst [.ref pf]) np
    refine ⟨_, rfl, pf, _, _, _, rfl, rfl, SqT.of (sp _ _ hpv), at_of (j := 0) rfl rfl, (by show 3 ≤ sizeLine; decide), fun q hq => ?_⟩
    have sq := Rd.Same.upd (o := .tup [.str "word", .str "name", .str "unknown"]) hq
    refine ⟨_, q, ["word", "name", "unknown"], rfl, rfl, SqT.of upd_same, _, rfl, ?_⟩
    have s1 := sp.trans sq
    have hp1 : upd (upd H p (.lst [.ref pf])) q (.tup [.str "word", .str "name", .str "unknown"]) p = some (.lst [.ref pf]) := sq _ _ upd_same
    have h3 : (!decide (("heap" : Str) ∈ (["word", "name", "unknown"] : List Str))) = true := by decide +kernel
    refine iteP h3 ?_
    refine ⟨_, rfl, _, rfl, pf, _, rfl, SqT.of (s1 _ _ hpv), ?_, fun p2 hp2 => ?_⟩
    · rintro ⟨z, _⟩
      rw [show (1 : Int) = ((1 : Nat) : Int) from rfl, HT.sIx_nat, List.length_cons] at z
      omega
    rw [cut1]
    have s2 := Rd.Same.upd (o := .tup us) hp2
    have hul := hts.len
    refine ⟨p2, rfl, ⟨_, SqT.of upd_same⟩, ?_⟩
    refine for_tup (xs := us) (fun i σ Hc => (Same H Hc ∧ Hc p2 = some (.tup us) ∧ ∃ ws, Hc p = some (.lst (.ref pf :: ws)) ∧ TsAt Hc (allOf (ts.take i)) ws) ∧ ∃ t2, σ = [some (.ref pf), some (.ref p), t2]) ⟨⟨s1.trans s2, upd_same, [], s2 _ _ hp1, ⟨rfl, fun i t v h => by simp [allOf] at h⟩⟩, _, rfl⟩ ?_ ?_ ?_
    · rintro i σ H' hi ⟨⟨_, h, _⟩, _⟩
      exact SqT.of h
    · rintro i x σ H1 hx ⟨⟨sm, htu, ws, hws1, hws⟩, t2, rfl⟩
      refine gName_k ?_
      try dsimp only
      have hlt := (List.getElem?_eq_some_iff.mp hx).1
      have ht : ts[i]? = some ts[i] := List.getElem?_eq_getElem (by omega)
      obtain ⟨w1, w2⟩ := hw _ (List.mem_of_getElem? ht)
      have etk0 : ts.take (i + 1) = ts.take i ++ [ts[i]] := by rw [List.take_succ, ht]; rfl
      have etk : allOf (ts.take (i + 1)) = allOf (ts.take i) ++ ts[i].all := by
        unfold allOf
        rw [etk0, List.flatMap_append, List.flatMap_cons, List.flatMap_nil, List.append_nil]
      refine ⟨_, rfl, .inl ⟨rfl, _, SqL.of hws1⟩, _, rfl, x, ts[i], rfl, (hts.get i _ x ht hx).same sm, w1, w2, (by omega), fun b zs H2 sm2 nb hb htz => ?_⟩
      have hsz : (.ref pf :: ws).length + zs.length ≤ 1000000 := by
        have h1 := hws.len
        have h2 := htz.len
        have h3 : ∀ t ∈ ts, t.all.length ≤ 128 := fun t ht => by
          have hl1 := all_len t
          have hpw : 2 ^ (t.dep + 1) ≤ 2 ^ 7 := Nat.pow_le_pow_right (by decide) (by have := (hw t ht).2; omega)
          omega
        have h4 := h3 _ (List.mem_of_getElem? ht)
        have h5 := szs_le (l := ts.take i) (S := 128) fun t ht => h3 t (List.mem_of_mem_take ht)
        rw [← allOf_len, List.length_take] at h5
        have h6 : min i ts.length * 128 ≤ 10 * 128 := Nat.mul_le_mul_right _ (by omega)
        rw [List.length_cons]
        omega
      refine ⟨p, b, _, zs, rfl, rfl, sm2 _ _ hws1, hb, (by omega), ?_⟩
      have kp := Kp.upd_lst (C := 0) (ys := (.ref pf :: ws) ++ zs) (sm2 _ _ hws1)
      have nbp : b ≠ p := fun z => by rw [z, hws1] at nb; cases nb
      refine ⟨⟨fun c o e => ?_, ?_, ws ++ zs, upd_same, ?_⟩, _, rfl⟩
      · rw [upd_ne (ne_of_none e np)]
        exact sm2 _ _ (sm _ _ e)
      · rw [upd_ne (fun z => by rw [z, hws1] at htu; cases htu)]
        exact sm2 _ _ htu
      · rw [etk]
        exact ((hws.same sm2).mono kp).app (htz.mono kp)
    · rintro σ H1 ⟨⟨sm, htu, ws, hws1, hws⟩, t2, rfl⟩
      rw [hul, List.take_length] at hws
      exact ⟨_, rfl, k p ws H1 sm np hws1 hws⟩
end
end Rd
namespace Rd
open PySem L2
def T4 : List Str := ["a", "begins", "answers", "ends"]
theorem t4_ok : ∀ z ∈ T4, isWord z = true ∧ z.length ≤ 200000 ∧ okS z := by
  intro z hz
  have h1 : T4.all (fun z => isWord z && decide (z.length ≤ 200000)) = true := by decide +kernel
  have h2 := List.all_eq_true.mp h1 z hz
  exact ⟨(Bool.and_eq_true_iff.mp h2).1, of_decide_eq_true (Bool.and_eq_true_iff.mp h2).2, (word_len (Bool.and_eq_true_iff.mp h2).1).2.2⟩
/-- the role r with the title z -/
def RoleD.wt (r : RoleD) (z : Str) : RoleD := ⟨z, r.ps, r.ks, r.fr, r.rs⟩
def bookOf (zs : List Str) (rs : List RoleD) (ts : List Tr) : BookD := ⟨(zs.zip rs).map fun q => q.2.wt q.1, ts⟩
theorem bo_ti {zs : List Str} {rs : List RoleD} {ts : List Tr} (h : rs.length = zs.length) : (bookOf zs rs ts).roles.map (·.ti) = zs := by
  unfold bookOf
  show ((zs.zip rs).map fun q => q.2.wt q.1).map (·.ti) = zs
  rw [List.map_map]
  show (zs.zip rs).map Prod.fst = zs
  rw [List.map_fst_zip]
  omega
theorem bo_rs {zs : List Str} {rs : List RoleD} {ts : List Tr} (h : rs.length = zs.length) : ((bookOf zs rs ts).roles.map fun r => PyData.list (r.rs.map rowD)) = rs.map fun r => PyData.list (r.rs.map rowD) := by
  unfold bookOf
  show ((zs.zip rs).map fun q => q.2.wt q.1).map _ = _
  rw [List.map_map]
  show (zs.zip rs).map ((fun r : RoleD => PyData.list (r.rs.map rowD)) ∘ Prod.snd) = _
  rw [← List.map_map, List.map_snd_zip]
  omega
def dueP (b : BookD) : PyData := match b.bad with
  | none => .tuple [bdat b, .str ""]
  | some f => .tuple [.none, .str f]
theorem bad_cases {b : BookD} : b.bad = none ∨ b.bad = some "roles" ∨ b.bad = some "known" := by
  unfold BookD.bad
  split
  · exact .inr (.inl rfl)
  · split
    · exact .inr (.inr rfl)
    · exact .inl rfl
theorem Shp.untup {n : Nat} {ds : List PyData} (h : Shp n (.tuple ds)) : ∀ d ∈ ds, Shp n d := by
  have h1 : PyData.canLayAll0 ds = true := h.1
  have h2 : PyData.depthAll ds + 1 ≤ n := h.2
  clear h
  induction ds with
  | nil => intro d hd; cases hd
  | cons e ds ih =>
    have h3 : (e.canLay0 && PyData.canLayAll0 ds) = true := h1
    have h4 : max e.depth (PyData.depthAll ds) + 1 ≤ n := h2
    obtain ⟨a, b⟩ := Bool.and_eq_true_iff.mp h3
    intro d hd
    rcases List.mem_cons.mp hd with rfl | hd
    · exact ⟨a, by omega⟩
    · exact ih b (by omega) d hd
theorem rowD_shp {r : Row} (h : RowD r) : Shp 9 (rowD r) := by
  refine Shp.tup (n := 8) fun y hy => ?_
  rcases List.mem_append.mp hy with g | g
  · obtain ⟨x, hx, rfl⟩ := List.mem_map.mp g
    refine Shp.str ?_
    rcases h.kd with e | e | ⟨c, hc, e⟩
    · rw [e] at hx; exact okS_of (l := AW) (by decide +kernel) hx
    · rw [e] at hx; exact okS_of (l := SD) (by decide +kernel) hx
    · rw [e] at hx
      rcases List.mem_cons.mp hx with z | z
      · rw [z]; exact okS_of (l := ["claim"]) (by decide +kernel) List.mem_cons_self
      · rw [List.mem_singleton.mp z]; exact okS_of (l := ["begun", "done"]) (by decide +kernel) hc
  · rw [List.mem_singleton.mp g]
    exact Shp.tr h.wf (by have := h.dp; omega)
structure BookF (b : BookD) : Prop where
  ti : ∀ r ∈ b.roles, okS r.ti
  rw : ∀ r ∈ b.roles, ∀ y ∈ r.rs, RowD y
  kw : ∀ t ∈ b.known, Wf t ∧ t.dep ≤ 6
theorem BookF.shp {b : BookD} (h : BookF b) : Shp 13 (dueP b) := by
  have hb : Shp 12 (bdat b) := by
    refine Shp.tup (n := 11) fun y hy => ?_
    have : y = .list (b.roles.map fun r => .str r.ti) ∨ y = .list (b.roles.map fun r => .list (r.rs.map rowD)) ∨ y = .list (b.known.map dat) := by simpa using hy
    rcases this with rfl | rfl | rfl
    · exact Shp.list (n := 10) fun y hy => by
        obtain ⟨r, hr, rfl⟩ := List.mem_map.mp hy
        exact Shp.str (h.ti r hr)
    · exact Shp.list (n := 10) fun y hy => by
        obtain ⟨r, hr, rfl⟩ := List.mem_map.mp hy
        exact Shp.list (n := 9) fun y hy => by
          obtain ⟨q, hq, rfl⟩ := List.mem_map.mp hy
          exact rowD_shp (h.rw r hr q hq)
    · exact Shp.list (n := 10) fun y hy => by
        obtain ⟨t, ht, rfl⟩ := List.mem_map.mp hy
        exact Shp.tr (h.kw t ht).1 (by have := (h.kw t ht).2; omega)
  have hs : ∀ x ∈ (["", "roles", "known"] : List Str), okS x := fun x hx => okS_of (l := ["", "roles", "known"]) (by decide +kernel) hx
  unfold dueP
  rcases bad_cases (b := b) with e | e | e
  · rw [e]
    refine Shp.tup (n := 12) fun y hy => ?_
    have : y = bdat b ∨ y = .str "" := by simpa using hy
    rcases this with rfl | rfl
    · exact hb
    · exact Shp.str (hs _ (by simp))
  · rw [e]
    refine Shp.tup (n := 12) fun y hy => ?_
    have : y = .none ∨ y = .str "roles" := by simpa using hy
    rcases this with rfl | rfl
    · exact ⟨rfl, Nat.zero_le _⟩
    · exact Shp.str (hs _ (by simp))
  · rw [e]
    refine Shp.tup (n := 12) fun y hy => ?_
    have : y = .none ∨ y = .str "known" := by simpa using hy
    rcases this with rfl | rfl
    · exact ⟨rfl, Nat.zero_le _⟩
    · exact Shp.str (hs _ (by simp))
/-- what the law holds for due -/
def DueV (H : Hp) (o : Option Str) (xq v : V) : Prop := ∃ q x s, v = .ref q ∧ H q = some (.tup [x, .str s]) ∧ ((o = none ∧ s = "" ∧ x = xq) ∨ (o = some s ∧ x = .non))
theorem DueV.same {H H' : Hp} {o : Option Str} {xq v : V} (s : Same H H') (h : DueV H o xq v) : DueV H' o xq v := by
  obtain ⟨q, x, z, e, h1, h2⟩ := h
  exact ⟨q, x, z, e, s _ _ h1, h2⟩
theorem DueV.dp {K : PySem.W.Frag} {H : Hp} {b : BookD} {xq v : V} (hd : Dp K H xq (bdat b)) (h : DueV H b.bad xq v) : Dp K H v (dueP b) := by
  obtain ⟨q, x, z, rfl, h1, h2⟩ := h
  unfold dueP
  rcases h2 with ⟨a, rfl, rfl⟩ | ⟨a, rfl⟩
  · rw [a]
    exact .tup (SqT.of h1) (.cons hd (.cons (.str _) .nil))
  · rw [a]
    exact .tup (SqT.of h1) (.cons .non (.cons (.str _) .nil))
def gB : Option Tr → Bool
  | none => false
  | some u => decide (u ∈ BADL)
theorem any_bad {AA : List Tr} (hA : ∀ u ∈ AA, u ∈ ATS ∨ u ∈ BADL) : ∀ {ts : List Tr}, (∀ t ∈ ts, t.leafIn AA) → ((allOf ts).map some).any gB = ts.any badLet
  | [], _ => rfl
  | t :: ts, h => by
    have e : allOf (t :: ts) = t.all ++ allOf ts := by unfold allOf; rw [List.flatMap_cons]
    rw [e, List.map_append, List.any_append, any_bad hA fun u hu => h u (List.mem_cons_of_mem _ hu), List.any_cons, badLet_eq hA (h t List.mem_cons_self), List.any_map]
    rfl
theorem putS_lt {zs : List Str} : decide (((putS [] zs).length : Int) < (((zs.map V.str).length : Nat) : Int)) = !decide zs.Nodup := by
  have up : ∀ (r l : List Str), (putS l r).length ≤ l.length + r.length := by
    intro r
    induction r with
    | nil => intro l; exact Nat.le_refl _
    | cons x r ih =>
      intro l
      show (putS (addS l x) r).length ≤ _
      have h1 := ih (addS l x)
      have h2 : (addS l x).length ≤ l.length + 1 := by unfold addS; split <;> simp
      rw [List.length_cons]
      omega
  have h1 := up zs []
  have h2 := putS_eq (r := zs) (l := [])
  rw [List.length_nil] at h1 h2
  rw [List.length_map]
  by_cases e : zs.Nodup
  · have := h2.mpr ⟨e, fun x _ => by simp⟩
    rw [decide_eq_true e, decide_eq_false (by omega)]
    rfl
  · rw [decide_eq_false e, decide_eq_true ?_]
    · rfl
    · have : ¬ (putS [] zs).length = 0 + zs.length := fun z => e (h2.mp z).1
      omega
theorem eqv_heap {ds : List PyData} {t : Tr} (ht : t.head ≠ "heap") : PyData.eqv (dat t) (.tuple (.str "heap" :: ds)) = false := by
  cases t with
  | am k y =>
    show ((k == ("heap" : Str)) && _) = false
    rw [beq_eq_false_iff_ne.mpr (show k ≠ ("heap" : Str) from ht), Bool.false_and]
  | un k y =>
    show ((k == ("heap" : Str)) && _) = false
    rw [beq_eq_false_iff_ne.mpr (show k ≠ ("heap" : Str) from ht), Bool.false_and]
  | bi k y z =>
    show ((k == ("heap" : Str)) && _) = false
    rw [beq_eq_false_iff_ne.mpr (show k ≠ ("heap" : Str) from ht), Bool.false_and]
/-- ("heap",) + a tuple -/
theorem rd_catH {K : PySem.W.Frag} {q1 q2 : Addr} {us : List V} {H : Hp} {Q : VK} (h1 : H q1 = some (.tup [.str "heap"])) (h2 : H q2 = some (.tup us)) (hl : us.length ≤ 1000) (k : ∀ q H', Same H H' → H' q = some (.tup (.str "heap" :: us)) → Q (.ref q) H') : rCatT K (.ref q1) (.ref q2) H Q := by
  have big : 16777216 ≤ sizeLine := by decide
  refine ⟨q1, q2, _, _, rfl, rfl, SqT.of h1, SqT.of h2, (fun z => by cases z), (by have : ([V.str "heap"] : List V).length = 1 := rfl; omega), fun e => ?_, fun _ p hp => k p _ (Rd.Same.upd hp) upd_same⟩
  subst e
  exact k q1 H (Same.refl _) h1
def RowRf (H : Hp) (r : RoleD) (v : V) : Prop := ∃ q ws, v = .ref q ∧ H q = some (.lst ws) ∧ RsAt IsRowF H r.rs ws
theorem RowRf.same {H H' : Hp} {r : RoleD} {v : V} (s : Same H H') (h : RowRf H r v) : RowRf H' r v := by
  obtain ⟨q, ws, e, h1, h2⟩ := h
  exact ⟨q, ws, e, s _ _ h1, h2.mp fun r v h => h.same s⟩
theorem isBad_eqv {ds : List PyData} : (BADL.map dat).any (fun z => PyData.eqv z (.tuple (.str "heap" :: ds))) = false := by
  show (PyData.eqv (dat (.am "unknown" "x")) _ || (PyData.eqv (dat (.am "name" "N0")) _ || false)) = false
  rw [eqv_heap (by show ("unknown" : Str) ≠ "heap"; decide +kernel), eqv_heap (by show ("name" : Str) ≠ "heap"; decide +kernel)]
  rfl
theorem BADL_fine : ∀ t ∈ BADL, t.fine ∧ t.dep ≤ 60 := by
  intro t ht
  have : t = .am "unknown" "x" ∨ t = .am "name" "N0" := by simpa [BADL] using ht
  rcases this with rfl | rfl
  · exact ⟨(Wf.am (.inr (.inr ⟨rfl, by decide +kernel⟩))).fine, by decide⟩
  · exact ⟨(Wf.am (.inr (.inl ⟨rfl, by decide +kernel⟩))).fine, by decide⟩
def spLaw (K : PySem.W.Frag) : Sp := fun vs H Q _ => ∃ (a : Addr) (ns : List Int), vs = [.ref a] ∧ SqL K H a (ns.map V.int) ∧ ns.length ≤ 63 ∧ ∀ H', Q (.bl true) H'
section
variable {P : Program} {w : World} {K : PySem.W.Frag} {mg : Str → Option Value} {base : Heap}
abbrev s_law : Stmt := top 58
theorem sc_law : FnScope ["_law_script", "_law_k", "_law_stream_here", "_law_titles", "_law_drawn", "_law_title", "_law_atoms", "_law_forms", "_law_turn", "_law_roles", "_law_one", "_law_heap", "_law_form", "_law_due", "_law_part", "_law_book"] ["_law_script"] (defScope s_law) := ⟨rfl, rfl, rfl, by decide +kernel, rfl, by decide +kernel, by decide +kernel⟩
theorem ok_law {f : Addr} {fd : FuncData} (F : FunD K "law" "law" (defArgs s_law) (defBody s_law) (defScope s_law) [] [] f fd) (T : Tx w K mg) : FnOk P w K mg base CX0 20 f fd ["_law_script"] (spLaw K) := by
  refine F.ok sc_law (fun vs H Q E h => ?_) (fun cdv A outer s H vs Q E hr h => ?_)
  · obtain ⟨a, ns, rfl, _⟩ := h
    rfl
  · obtain ⟨a, ns, rfl, hS, hn, k⟩ := h
    refine ⟨_, PSs.nox (pss_cons (ps_for PassesOwn.never rfl (pi_range1 rfl T.z_range (pa_cons pe_int pa_nil)) (pg_name (i := 1) sc_law.nd rfl (Or.inl rfl))
  (pss_cons (ps_set (i := 2) sc_law.nd rfl (Or.inr rfl) (pe_fk (ok__law_stream T) (hr.mono (by omega)) rfl pass0 (pa_cons (pv 0) (pa_cons (pv 1) pa_nil))))
  (pss_cons (ps_set (i := 3) sc_law.nd rfl (Or.inl rfl) (pe_slice sl_list (pe_lst (pa_cons pe_str (pa_cons pe_str (pa_cons pe_str (pa_cons pe_str pa_nil))))) po_none (po_some (pe_fk (ok__law_draw T) (hr.mono (by omega)) rfl pass0 (pa_cons (pv 2) (pa_cons pe_int pa_nil))))))
  (pss_cons (ps_if (PW.pt (pw_and (pt_cmpR (op_neD hr.units) (pv 3) (pe_lst pa_nil) (nomark _)) (pw_and1 (pt_cmpR op_eq (pe_fk (ok__law_draw T) (hr.mono (by omega)) rfl pass0 (pa_cons (pv 2) (pa_cons pe_int pa_nil))) pe_int (nomark _)))))
  (pss_one (ps_expr (pe_bm PySem.F.plainAttrs_list PySem.F.slot_list_append PySem.F.type_list_append mt_append (pv 3) (pa_cons (pe_fk (ok__law_pick T) (hr.mono (by omega)) rfl pass0 (pa_cons (pv 2) (pa_cons (pv 3) pa_nil))) pa_nil))))
  pss_nil)
  (pss_cons (ps_setLc (i := 4) (own := [("_law_title", 5)]) (g := gName 5) (tt := tYes) (by rfl) sc_law.nd rfl rfl (sw_true rfl rfl rfl (by decide +kernel)) (pi_list (pv 3)) (blkOk_by (own := [("_law_title", 5)]) (N := ["_law_script", "_law_k", "_law_stream_here", "_law_titles", "_law_drawn", "_law_title", "_law_atoms", "_law_forms", "_law_turn", "_law_roles", "_law_one", "_law_heap", "_law_form", "_law_due", "_law_part", "_law_book"]) (sc := defScope s_law) (by decide +kernel)) (fun _ _ _ _ _ => (pg_name (i := 5) sc_law.nd rfl (Or.inl rfl))) (fun _ _ _ _ _ => pts_nil) (fun _ _ _ _ _ => (pe_fk (ok__law_fit_role T) (hr.mono (by omega)) rfl pass0 (pa_cons (pv 2) (pa_cons (pe_lst (pa_cons (pe_tup (pa_cons pe_str (pa_cons pe_str pa_nil))) pa_nil)) pa_nil)))))
  (pss_cons (ps_set (i := 6) sc_law.nd rfl (Or.inr rfl) (pe_lst (pa_cons (pe_tup (pa_cons pe_str (pa_cons pe_str pa_nil))) (pa_cons (pe_tup (pa_cons pe_str (pa_cons pe_str pa_nil))) (pa_cons (pe_tup (pa_cons pe_str (pa_cons pe_str pa_nil))) pa_nil)))))
  (pss_cons (ps_if (pt_cmpR op_eq (pe_fk (ok__law_draw T) (hr.mono (by omega)) rfl pass0 (pa_cons (pv 2) (pa_cons pe_int pa_nil))) pe_int (nomark _))
  (pss_one (ps_expr (pe_bm PySem.F.plainAttrs_list PySem.F.slot_list_append PySem.F.type_list_append mt_append (pv 6) (pa_cons (pe_fk (ok__law_pick T) (hr.mono (by omega)) rfl pass0 (pa_cons (pv 2) (pa_cons (pe_lst (pa_cons (pe_tup (pa_cons pe_str (pa_cons pe_str pa_nil))) (pa_cons (pe_tup (pa_cons pe_str (pa_cons pe_str pa_nil))) pa_nil))) pa_nil))) pa_nil))))
  pss_nil)
  (pss_cons (ps_setLc (i := 7) (own := [("_law_turn", 8)]) (g := gName 8) (tt := tYes) (by rfl) sc_law.nd rfl rfl (sw_true rfl rfl rfl (by decide +kernel)) (pi_range1 rfl T.z_range (pa_cons (pe_fk (ok__law_draw T) (hr.mono (by omega)) rfl pass0 (pa_cons (pv 2) (pa_cons pe_int pa_nil))) pa_nil)) (blkOk_by (own := [("_law_turn", 8)]) (N := ["_law_script", "_law_k", "_law_stream_here", "_law_titles", "_law_drawn", "_law_title", "_law_atoms", "_law_forms", "_law_turn", "_law_roles", "_law_one", "_law_heap", "_law_form", "_law_due", "_law_part", "_law_book"]) (sc := defScope s_law) (by decide +kernel)) (fun _ _ _ _ _ => (pg_name (i := 8) sc_law.nd rfl (Or.inl rfl))) (fun _ _ _ _ _ => pts_nil) (fun _ _ _ _ _ => (pe_fk (ok__law_small T 2) (hr.mono (by omega)) rfl pass0 (pa_cons (pv 2) (pa_cons (pv 6) (pa_cons pe_int pa_nil))))))
  (pss_cons (ps_setLc (i := 9) (own := [("_law_title", 5), ("_law_one", 10)])  (tt := tYes) (by rfl) sc_law.nd rfl rfl (sw_true rfl rfl rfl (by decide +kernel)) (pi_zip rfl T.z_zip (pa_cons (pv 3) (pa_cons (pv 4) pa_nil))) (blkOk_by (own := [("_law_title", 5), ("_law_one", 10)]) (N := ["_law_script", "_law_k", "_law_stream_here", "_law_titles", "_law_drawn", "_law_title", "_law_atoms", "_law_forms", "_law_turn", "_law_roles", "_law_one", "_law_heap", "_law_form", "_law_due", "_law_part", "_law_book"]) (sc := defScope s_law) (by decide +kernel)) (fun _ _ _ _ _ => (pg_tupk (K := K) (n := 2) rfl rfl (pgs_cons (pg_name (i := 5) sc_law.nd rfl (Or.inl rfl)) (pgs_cons (pg_name (i := 10) sc_law.nd rfl (Or.inl rfl)) pgs_nil)))) (fun _ _ _ _ _ => pts_nil) (fun _ _ _ _ _ => (pe_fk (ok__law_role T 6) (hr.mono (by omega)) rfl passN (pa_cons (pv 5) (pa_cons (pv 10) pa_nil)))))
  (pss_cons (ps_setLc (i := 11) (own := [("_law_form", 12)]) (g := gName 12) (tt := tYes) (by rfl) sc_law.nd rfl rfl (sw_true rfl rfl rfl (by decide +kernel)) (pi_list (pv 7)) (blkOk_by (own := [("_law_form", 12)]) (N := ["_law_script", "_law_k", "_law_stream_here", "_law_titles", "_law_drawn", "_law_title", "_law_atoms", "_law_forms", "_law_turn", "_law_roles", "_law_one", "_law_heap", "_law_form", "_law_due", "_law_part", "_law_book"]) (sc := defScope s_law) (by decide +kernel)) (fun _ _ _ _ _ => (pg_name (i := 12) sc_law.nd rfl (Or.inl rfl))) (fun _ _ _ _ _ => pts_nil) (fun _ _ _ _ _ => (pe_fk (ok__law_letter T 6) (hr.mono (by omega)) rfl pass0 (pa_cons (pv 12) pa_nil))))
  (pss_cons (ps_set (i := 13) sc_law.nd rfl (Or.inl rfl) (pe_tup (pa_cons (pe_tup (pa_cons (pv 3) (pa_cons (pe_lc (own := [("_law_one", 10)]) (g := gName 10) (tt := tYes) (by rfl) sc_law.nd (pi_list (pv 4)) (blkOk_by (own := [("_law_one", 10)]) (N := ["_law_script", "_law_k", "_law_stream_here", "_law_titles", "_law_drawn", "_law_title", "_law_atoms", "_law_forms", "_law_turn", "_law_roles", "_law_one", "_law_heap", "_law_form", "_law_due", "_law_part", "_law_book"]) (sc := defScope s_law) (by decide +kernel)) (fun _ _ _ _ _ => (pg_name (i := 10) sc_law.nd rfl (Or.inl rfl))) (fun _ _ _ _ _ => pts_nil) (fun _ _ _ _ _ => (pe_ix (kIx (r := rIxT) (K := K) rfl ix_tup) (pv 10) pe_int (fun _ _ => rfl)))) (pa_cons (pv 7) pa_nil)))) (pa_cons pe_str pa_nil))))
  (pss_cons (ps_if (pt_val (pe_callB (cr_any rfl) (by rfl) T.z_any (by decide +kernel) (pa_cons (pe_lc (own := [("_law_part", 14)]) (g := gName 14) (tt := tYes) (by rfl) sc_law.nd (pi_list (pe_fk (ok__law_partsR T) (hr.mono (by omega)) rfl pass0 (pa_cons (pe_op op_catT (pe_tup (pa_cons pe_str pa_nil)) (pe_callTy call_tuple_of (by rfl) T.z_tuple (by decide +kernel) (pa_cons (pv 7) pa_nil))) pa_nil))) (blkOk_by (own := [("_law_part", 14)]) (N := ["_law_script", "_law_k", "_law_stream_here", "_law_titles", "_law_drawn", "_law_title", "_law_atoms", "_law_forms", "_law_turn", "_law_roles", "_law_one", "_law_heap", "_law_form", "_law_due", "_law_part", "_law_book"]) (sc := defScope s_law) (by decide +kernel)) (fun _ _ _ _ _ => (pg_name (i := 14) sc_law.nd rfl (Or.inl rfl))) (fun _ _ _ _ _ => pts_nil) (fun _ _ _ _ _ => (pe_cmpR (kOp (r := rInD) (K := K) rfl (op_inD hr.units65)) (pv 14) (pe_lst (pa_cons (pe_tup (pa_cons pe_str (pa_cons pe_str pa_nil))) (pa_cons (pe_tup (pa_cons pe_str (pa_cons pe_str pa_nil))) pa_nil))) (by rfl)))) pa_nil)))
  (pss_one (ps_set (i := 13) sc_law.nd rfl (Or.inl rfl) (pe_tup (pa_cons pe_non (pa_cons pe_str pa_nil)))))
  pss_nil)
  (pss_cons (ps_if (pt_cmpR op_lt (pe_callB (cr_lenSS rfl) (by rfl) T.z_len (by decide +kernel) (pa_cons (pe_callTy (cr_setOfS rfl) (by rfl) T.z_set (by decide +kernel) (pa_cons (pv 3) pa_nil)) pa_nil)) (pe_callB call_len_seq (by rfl) T.z_len (by decide +kernel) (pa_cons (pv 3) pa_nil)) (nomark _))
  (pss_one (ps_set (i := 13) sc_law.nd rfl (Or.inl rfl) (pe_tup (pa_cons pe_non (pa_cons pe_str pa_nil)))))
  pss_nil)
  (pss_cons (ps_if (pt_cmpR (op_neD hr.units) (pe_fk (ok__law_btried T) (hr.mono (by omega)) rfl pass0 (pa_cons (pv 9) (pa_cons (pv 11) pa_nil))) (pv 13) (nomark _))
  (pss_one (ps_ret pe_bl))
  pss_nil)
  (pss_one (ps_if (pt_cmpR op_eq (pe_ix ix_tup (pv 13) pe_int (fun _ _ => rfl)) pe_str (nomark _))
  (pss_cons (ps_set (i := 15) sc_law.nd rfl (Or.inl rfl) (pe_new T.J_Book T.g_Book (ok_Binit T 6) (hr.mono (by omega)) (by rfl) passN (pa_cons (pv 9) (pa_cons (pv 11) pa_nil))))
  (pss_cons (ps_expr (pe_bm0 PySem.F.plainAttrs_list PySem.F.slot_list_clear PySem.F.type_list_clear mt_clear (pv 9)))
  (pss_cons (ps_expr (pe_bm0 PySem.F.plainAttrs_list PySem.F.slot_list_clear PySem.F.type_list_clear mt_clear (pv 11)))
  (pss_cons (ps_expr (pe_bm0 PySem.F.plainAttrs_list PySem.F.slot_list_clear PySem.F.type_list_clear mt_clear (pe_fp rfl (pv 15) T.k_Book (ok_Broles T) (hr.mono (by omega)) pass0)))
  (pss_cons (ps_expr (pe_bm PySem.F.plainAttrs_list PySem.F.slot_list_append PySem.F.type_list_append mt_append (pe_fp rfl (pv 15) T.k_Book (ok_Bknown T) (hr.mono (by omega)) pass0) (pa_cons (pe_mk1 (ok_Letter T) (hr.mono (by omega)) (by rfl) passN (pa_cons pe_str pa_nil)) pa_nil)))
  (pss_one (ps_if (pt_cmpR (op_neD hr.units) (pe_fk (ok__law_btold T) (hr.mono (by omega)) rfl pass0 (pa_cons (pv 15) pa_nil)) (pe_ix ix_tup (pv 13) pe_int (fun _ _ => rfl)) (nomark _))
  (pss_one (ps_ret pe_bl))
  pss_nil)))))))
  pss_nil))))))))))))))))
  (pss_one (ps_ret pe_bl))), ?_⟩
    have big : 16777216 ≤ sizeLine := by decide
    refine ⟨3, rfl, by decide, by decide, for_range (n := 3) (fun i σ H => SqL K H a (ns.map V.int) ∧ ∃ (t1 t2 t3 t4 t5 t6 t7 t8 t9 t10 t11 t12 t13 t14 t15 : Option V), σ = [some (.ref a), t1, t2, t3, t4, t5, t6, t7, t8, t9, t10, t11, t12, t13, t14, t15]) ⟨hS, _, _, _, _, _, _, _, _, _, _, _, _, _, _, _, rfl⟩ ?_ ?_⟩
    · rintro i σ H2 hi ⟨hS2, t1, t2, t3, t4, t5, t6, t7, t8, t9, t10, t11, t12, t13, t14, t15, rfl⟩
      refine gName_k ?_
      try dsimp only
      refine seqAsg ⟨_, rfl, _, rfl, a, ns, _, rfl, hS2, hn, (by omega), (by omega), fun p xs H3 s3 np hp3 hx3 => ?_⟩
      refine gName_k ?_
      try dsimp only
      -- titles
      refine seqAsg ⟨(by show 4 ≤ sizeLine; decide), fun q0 hq0 => ?_⟩
      have s4 := Rd.Same.upd (o := .lst [.str "a", .str "begins", .str "answers", .str "ends"]) hq0
      have hq01 : upd H3 q0 (.lst [.str "a", .str "begins", .str "answers", .str "ends"]) q0 = some (.lst (T4.map V.str)) := upd_same
      have nq0p : q0 ≠ p := fun z => by rw [z, hp3] at hq0; cases hq0
      generalize upd H3 q0 (.lst [.str "a", .str "begins", .str "answers", .str "ends"]) = H4 at s4 hq01 ⊢
      refine rd_draw (m := 5) (n := 1010) (by rfl) (s4 _ _ hp3) (hx3.mono (by decide)) (by decide) (by decide) fun d1 H5 y5 hd1 b5 hp5 hy5 => ?_
      refine ⟨_, rfl, q0, _, rfl, SqL.of (b5 _ _ nq0p hq01), fun L1 hL1 => ?_⟩
      rw [cut_to2, ← List.map_take]
      have s6 := Rd.Same.upd (o := .lst ((T4.take d1).map V.str)) hL1
      have hL11 : upd H5 L1 (.lst ((T4.take d1).map V.str)) L1 = some (.lst ((T4.take d1).map V.str)) := upd_same
      have nL1p : L1 ≠ p := fun z => by rw [z, hp5] at hL1; cases hL1
      have hp6 := s6 _ _ hp5
      have B6 : But p H2 (upd H5 L1 (.lst ((T4.take d1).map V.str))) := ((But.of_same (s3.trans s4)).trans b5).trans (But.of_same s6)
      have nL12 : H2 L1 = none := (s3.trans s4).free (b5.free hp5 hL1)
      generalize upd H5 L1 (.lst ((T4.take d1).map V.str)) = H6 at s6 hL11 hp6 B6 ⊢
      have hzl : (T4.take d1).length ≤ 4 := by rw [List.length_take]; exact Nat.min_le_right _ _
      have hzm : ∀ x ∈ T4.take d1, x ∈ T4 := fun x hx => List.mem_of_mem_take hx
      have S6 : Same H2 H6 := But.fresh (Same.refl _) np B6
      generalize T4.take d1 = z0 at hL11 hzl hzm
      refine gName_k ?_
      try dsimp only
      refine seqJoin (fun σ' Hc => (∃ (t1 : Option V), σ' = [some (.ref a), t1, some (.ref p), some (.ref L1), t4, t5, t6, t7, t8, t9, t10, t11, t12, t13, t14, t15]) ∧ Same H2 Hc ∧ ∃ (zs : List Str) (ys : List V), Hc L1 = some (.lst (zs.map V.str)) ∧ zs.length ≤ 5 ∧ (∀ x ∈ zs, x ∈ T4) ∧ Hc p = some (.lst ys) ∧ StL 1000 ys) (fun KK hK => ?_) ?_
      · cases z0 with
        | nil =>
          refine ⟨_, rfl, Nat.zero_le _, fun q hq => ?_⟩
          have sq := Rd.Same.upd (o := .lst []) hq
          refine ⟨.list [], .list [], .lst (SqL.of (sq _ _ hL11)) .nil, .lst (SqL.of upd_same) .nil, rfl, rfl, _, rfl, ?_⟩
          refine iteF ?_
          exact hK _ _ ⟨⟨_, rfl⟩, S6.trans sq, [], y5, sq _ _ hL11, by decide, (fun x hx => by cases hx), sq _ _ hp6, hy5.mono (by decide)⟩
        | cons z zr =>
          refine ⟨_, rfl, Nat.zero_le _, fun q hq => ?_⟩
          have sq := Rd.Same.upd (o := .lst []) hq
          have hsh : SeqAt.shaped (.list ((z :: zr).map PyData.str)) = true := str_shaped fun x hx => (t4_ok x (hzm x hx)).2.2
          refine ⟨.list ((z :: zr).map PyData.str), .list [], .lst (SqL.of (sq _ _ hL11)) (dpAll_str _), .lst (SqL.of upd_same) .nil, hsh, rfl, _, rfl, ?_⟩
          refine iteT ?_
          refine rd_draw (m := 4) (n := 1009) (by rfl) (sq _ _ hp6) hy5 (by decide) (by decide) fun d8 H8 y8 hd8 b8 hp8 hy8 => ?_
          have S8 : Same H2 H8 := But.fresh (S6.trans sq) np b8
          have hL8 := b8 _ _ nL1p (sq _ _ hL11)
          refine ⟨rfl, _, rfl, ite2 (fun h => ?_) (fun h => ?_)⟩
          · refine ⟨_, rfl, .inl ⟨rfl, _, SqL.of hL8⟩, _, rfl, _, rfl, ?_⟩
            refine pick_of (E := E0) (n := 1008) hp8 hy8 nL1p hL8 (by rw [List.length_map, List.length_cons]; omega) (by rw [List.length_map]; omega) fun v9 H9 y9 hv9 b9 hp9 hy9 => ?_
            obtain ⟨x9, hx9, rfl⟩ := List.mem_map.mp hv9
            have hL9 := b9 _ _ nL1p hL8
            refine ⟨L1, _, _, rfl, rfl, hL9, by rw [List.length_map]; omega, ?_⟩
            have ne : p ≠ L1 := Ne.symm nL1p
            refine hK _ _ ⟨⟨_, rfl⟩, fun c o e => ?_, (z :: zr) ++ [x9], y9, by rw [upd_same, List.map_append]; rfl, by rw [List.length_append]; have : ([x9] : List Str).length = 1 := rfl; omega, fun x hx => ?_, by rw [upd_ne ne]; exact hp9, hy9.mono (by decide)⟩
            · rw [upd_ne (ne_of_none e nL12)]
              exact But.fresh S8 np b9 _ _ e
            · rcases List.mem_append.mp hx with hx | hx
              · exact hzm x hx
              · rw [List.mem_singleton.mp hx]; exact hzm _ hx9
          · exact hK _ _ ⟨⟨_, rfl⟩, S8, z :: zr, y8, hL8, by omega, hzm, hp8, hy8.mono (by decide)⟩
      rintro σ' H7 ⟨⟨t1, rfl⟩, S7, zs, y7, hL7, hzl7, hzm7, hp7, hy7⟩
      try dsimp only
      have nL1p : L1 ≠ p := nL1p
      -- drawn
      refine seqAsg ⟨_, rfl, L1, rfl, ⟨_, SqL.of hL7⟩, fun D hD => ?_⟩
      have nDp : D ≠ p := fun z => by rw [z, hp7] at hD; cases hD
      have nDL : L1 ≠ D := fun z => by rw [← z, hL7] at hD; cases hD
      refine walkL (K := K) (a := L1) (xs := zs.map V.str) (fun i Hc => ∃ (rs : List RoleD) (vs ys : List V), (∀ c o, c ≠ p → c ≠ D → H7 c = some o → Hc c = some o) ∧ Hc D = some (.lst vs) ∧ Hc p = some (.lst ys) ∧ StL (180 + (5 - i) * 163) ys ∧ rs.length = i ∧ AtL (DrR p D) Hc rs vs) ⟨[], [], y7, fun c o _ hc e => by rw [upd_ne hc]; exact e, upd_same, by rw [upd_ne (Ne.symm nDp)]; exact hp7, hy7.mono (by omega), rfl, AtL.nil⟩ (fun i Hc _ ⟨_, _, _, off, _⟩ => SqL.of (off _ _ nL1p nDL hL7)) ?_ ?_
      · rintro i y Hc hy ⟨rs, vs, ys, off, hDc, hpc, hyc, hrl, hrs⟩
        have hlt := (List.getElem?_eq_some_iff.mp hy).1
        rw [List.length_map] at hlt
        refine gName_k ⟨rfl, ?_⟩
        refine tYes_k ?_
        refine ⟨_, rfl, EvTs.lst (ts := [KK]) (.cons .am .nil) (by decide) fun ka kv H8 s8 nka hka hkt => ?_⟩
        have nkap : ka ≠ p := fun z => by rw [z, hpc] at nka; cases nka
        refine ⟨p, ka, ys, kv, 180 + (5 - (i + 1)) * 163, rfl, s8 _ _ hpc, by rw [show 180 + (5 - (i + 1)) * 163 + 163 = 180 + (5 - i) * 163 by omega]; exact hyc, nkap, hka, hkt, fun r q ap ak af ar y9 H9 b9 nq nap nak naf nar hq hRF hp9 hy9 fr => ?_⟩
        have hD8 := s8 _ _ hDc
        have hD9 := b9 _ _ nDp hD8
        have hvl := hrs.len
        have off9 : ∀ c o, c ≠ p → c ≠ D → Hc c = some o → upd H9 D (.lst (vs ++ [.ref q])) c = some o := fun c o h1 h2 e => by rw [upd_ne h2]; exact b9 _ _ h1 (s8 _ _ e)
        have nof : ∀ {c : Addr}, H8 c = none → c ≠ p ∧ c ≠ D := fun {c} e => ⟨fun z => (by rw [z, s8 _ _ hpc] at e; cases e), fun z => (by rw [z, hD8] at e; cases e)⟩
        have nofA : ∀ c ∈ [ap, ak, af, ar], c ≠ p ∧ c ≠ D := fun c hc => by
          have : c = ap ∨ c = ak ∨ c = af ∨ c = ar := by simpa using hc
          rcases this with rfl | rfl | rfl | rfl
          · exact nof nap
          · exact nof nak
          · exact nof naf
          · exact nof nar
        have d9 : DrR p D H9 r (.ref q) := ⟨q, ap, ak, af, ar, rfl, hq, nofA, hRF, fr⟩
        refine ⟨vs, hD9, by omega, rs ++ [r], vs ++ [.ref q], y9, fun c o h1 h2 e => off9 c o h1 h2 (off c o h1 h2 e), upd_same, by rw [upd_ne (Ne.symm nDp)]; exact hp9, hy9, by rw [List.length_append, hrl]; rfl, ?_⟩
        exact (hrs.mp fun r v h => h.off hpc hDc off9).snoc (d9.off hp9 hD9 fun c o h1 h2 e => by rw [upd_ne h2]; exact e)
      rintro H8 ⟨rs, vs, y8, off8, hD8, hp8, hy8, hrl, hrs⟩
      rw [List.length_map] at hrl hy8
      refine gName_k ?_
      try dsimp only
      have b78 : ∀ c o, c ≠ p → H7 c = some o → H8 c = some o := fun c o hc e => off8 c o hc (ne_of_none e hD) e
      have S8 : Same H2 H8 := But.fresh S7 np b78
      have hL8 := b78 _ _ nL1p hL7
      have hy8 : StL 180 y8 := hy8.mono (by omega)
      -- atoms
      refine seqAsg (EvTs.lst (ts := ATS) (.cons .am (.cons .am (.cons .am .nil))) (by decide) fun ka kv H9 s9 nka hka hkt => ?_)
      have nkap : ka ≠ p := fun z => by rw [z, hp8] at nka; cases nka
      refine gName_k ?_
      try dsimp only
      refine seqJoin (fun σ' Hc => (∃ (t1 t5 : Option V), σ' = [some (.ref a), t1, some (.ref p), some (.ref L1), some (.ref D), t5, some (.ref ka), t7, t8, t9, t10, t11, t12, t13, t14, t15]) ∧ (∀ c o, c ≠ p → H8 c = some o → Hc c = some o) ∧ ∃ (A : List Tr) (av ys : List V), Hc ka = some (.lst av) ∧ TsAt Hc A av ∧ 0 < A.length ∧ A.length ≤ 10 ∧ (∀ u ∈ A, u ∈ ATS ∨ u ∈ BADL) ∧ Hc p = some (.lst ys) ∧ StL 170 ys) (fun KK hK => ?_) ?_
      · refine rd_draw (m := 4) (n := 179) (by rfl) (s9 _ _ hp8) hy8 (by decide) (by decide) fun d10 H10 y10 hd10 b10 hp10 hy10 => ?_
        have hka10 := b10 _ _ nkap hka
        have hkt10 := hkt.mono (C := 0) (b10.kp (s9 _ _ hp8))
        refine ⟨rfl, _, rfl, ite2 (fun h => ?_) (fun h => ?_)⟩
        · refine ⟨_, rfl, .inl ⟨rfl, _, SqL.of hka10⟩, _, rfl, EvTs.lst (ts := BADL) (.cons .am (.cons .am .nil)) (by decide) fun kb bv H11 s11 nkb hkb hbt => ?_⟩
          have nkbp : kb ≠ p := fun z => by rw [z, hp10] at nkb; cases nkb
          have nkbk : kb ≠ ka := fun z => by rw [z, hka10] at nkb; cases nkb
          have lbv := hbt.len
          have lbv : bv.length = 2 := lbv
          refine pick_of (E := E0) (n := 178) (s11 _ _ hp10) hy10 nkbp hkb (by omega) (by omega) fun v12 H12 y12 hv12 b12 hp12 hy12 => ?_
          obtain ⟨u, hu, iu⟩ := hbt.mem hv12
          have hka12 := b12 _ _ nkap (s11 _ _ hka10)
          have k12 : Kp 0 H11 H12 := b12.kp (s11 _ _ hp10)
          have lkv := hkt10.len
          have lkv : kv.length = 3 := lkv
          refine ⟨ka, _, _, rfl, rfl, hka12, by omega, ?_⟩
          have kp := Kp.upd_lst (C := 0) (ys := kv ++ [v12]) hka12
          refine hK _ _ ⟨⟨_, _, rfl⟩, fun c o hc e => ?_, ATS ++ [u], kv ++ [v12], y12, upd_same, (((hkt10.same s11).mono k12).mono kp).app (TsAt.one ((iu.mono k12).mono kp)), by rw [List.length_append]; omega, by show 3 + 1 ≤ 10; decide, fun x hx => ?_, by rw [upd_ne (Ne.symm nkap)]; exact hp12, hy12.mono (by decide)⟩
          · rw [upd_ne (ne_of_none e nka)]
            exact b12 _ _ hc (s11 _ _ (b10 _ _ hc (s9 _ _ e)))
          · rcases List.mem_append.mp hx with hx | hx
            · exact .inl hx
            · rw [List.mem_singleton.mp hx]; exact .inr hu
        · exact hK _ _ ⟨⟨_, _, rfl⟩, fun c o hc e => b10 _ _ hc (s9 _ _ e), ATS, kv, y10, hka10, hkt10, by decide, by decide, fun x hx => .inl hx, hp10, hy10.mono (by decide)⟩
      rintro σ' H13 ⟨⟨t1, t5, rfl⟩, b13, AA, av, y13, hka13, hkt13, hA0, hA10, hAm, hp13, hy13⟩
      try dsimp only
      have S13 : Same H2 H13 := But.fresh S8 np b13
      have hL13 := b13 _ _ nL1p hL8
      have hD13 := b13 _ _ nDp hD8
      have hrs13 := hrs.mp fun r v (h : DrR p D H8 r v) => h.off hp8 hD8 fun c o h1 h2 e => b13 _ _ h1 e
      have hAw : ∀ t ∈ AA, Wf t ∧ ∃ k x, t = .am k x := fun t ht => by
        have : t = .am "name" "K" ∨ t = .am "word" "a" ∨ t = .am "name" "S" ∨ t = .am "unknown" "x" ∨ t = .am "name" "N0" := by
          rcases hAm t ht with h | h
          · have h : t = .am "name" "K" ∨ t = .am "word" "a" ∨ t = .am "name" "S" := by simpa [ATS] using h
            rcases h with h | h | h
            · exact .inl h
            · exact .inr (.inl h)
            · exact .inr (.inr (.inl h))
          · have h : t = .am "unknown" "x" ∨ t = .am "name" "N0" := by simpa [BADL] using h
            rcases h with h | h
            · exact .inr (.inr (.inr (.inl h)))
            · exact .inr (.inr (.inr (.inr h)))
        rcases this with rfl | rfl | rfl | rfl | rfl
        · exact ⟨.am (.inr (.inl ⟨rfl, by decide +kernel⟩)), _, _, rfl⟩
        · exact ⟨.am (.inl ⟨rfl, by decide +kernel⟩), _, _, rfl⟩
        · exact ⟨.am (.inr (.inl ⟨rfl, by decide +kernel⟩)), _, _, rfl⟩
        · exact ⟨.am (.inr (.inr ⟨rfl, by decide +kernel⟩)), _, _, rfl⟩
        · exact ⟨.am (.inr (.inl ⟨rfl, by decide +kernel⟩)), _, _, rfl⟩
      -- forms
      refine seqAsg ?_
      refine rd_draw (m := 5) (n := 169) (by rfl) hp13 hy13 (by decide) (by decide) fun d14 H14 y14 hd14 b14 hp14 hy14 => ?_
      have off14 : ∀ {c o}, c ≠ p → H13 c = some o → H14 c = some o := fun {c o} hc e => b14 _ _ hc e
      have hka14 := b14 _ _ nkap hka13
      have hkt14 := hkt13.mono (C := 0) (b14.kp hp13)
      have nkap' := nkap
      refine ⟨_, rfl, by omega, by omega, fun D2 hD2 => ?_⟩
      have nD2p : D2 ≠ p := fun z => by rw [z, hp14] at hD2; cases hD2
      have nD2k : ka ≠ D2 := fun z => by rw [← z, hka14] at hD2; cases hD2
      refine lc_range (n := d14) (fun i Hc => ∃ (ts : List Tr) (us ys : List V), But p H14 Hc ∧ Hc D2 = some (.lst us) ∧ Hc p = some (.lst ys) ∧ StL (20 + (d14 - i) * 36) ys ∧ ts.length = i ∧ TsAt Hc ts us ∧ ∀ t ∈ ts, Wf t ∧ t.dep ≤ 4 ∧ t.leafIn AA) ⟨[], [], y14, But.new hD2, upd_same, by rw [upd_ne (Ne.symm nD2p)]; exact hp14, hy14.mono (by omega), rfl, ⟨rfl, fun i t v h => by simp at h⟩, fun t ht => by cases ht⟩ ?_ ?_
      · rintro i Hc hi ⟨ts, us, ys, bt, hDc, hpc, hyc, htl, hts, htw⟩
        refine gName_k ⟨rfl, ?_⟩
        refine tYes_k ?_
        refine ⟨_, rfl, _, rfl, 2, Nat.le_refl _, p, ka, ys, av, AA, 20 + (d14 - (i + 1)) * 36, rfl, hpc, by rw [show 20 + (d14 - (i + 1)) * 36 + dS 2 = 20 + (d14 - i) * 36 by have : dS 2 = 36 := rfl; omega]; exact hyc, nkap, bt _ _ nkap hka14, hkt14.mono (C := 0) (bt.kp hp14), hA0, by omega, hAw, fun t v y9 H9 b9 hp9 hy9 sm it => ?_⟩
        have hD9 := b9 _ _ nD2p hDc
        have hul := hts.len
        have kp := Kp.upd_lst (C := 0) (ys := us ++ [v]) hD9
        refine ⟨us, hD9, by omega, ts ++ [t], us ++ [v], y9, fun c o hc e => ?_, upd_same, by rw [upd_ne (Ne.symm nD2p)]; exact hp9, hy9, by rw [List.length_append, htl]; rfl, ((hts.mono (C := 0) (b9.kp hpc)).mono kp).app (TsAt.one (it.mono kp)), fun x hx => ?_⟩
        · rw [upd_ne (ne_of_none e hD2)]
          exact b9 _ _ hc (bt _ _ hc e)
        · rcases List.mem_append.mp hx with hx | hx
          · exact htw x hx
          · rw [List.mem_singleton.mp hx]; exact ⟨sm.wf, sm.dp, sm.lf⟩
      rintro H15 ⟨ts, us, y15, b15, hDt, hp15, hy15, htl, hts, htw⟩
      refine gName_k ?_
      try dsimp only
      have b815 : ∀ c o, c ≠ p → H8 c = some o → H15 c = some o := fun c o hc e => b15 _ _ hc (b14 _ _ hc (b13 _ _ hc e))
      have S15 : Same H2 H15 := But.fresh S8 np b815
      have hL15 := b815 _ _ nL1p hL8
      have hD15 := b815 _ _ nDp hD8
      have hrs15 := hrs.mp (H' := H15) fun r v (h : DrR p D H8 r v) => h.off hp8 hD8 fun c o h1 h2 e => b815 _ _ h1 e
      have htl4 : ts.length ≤ 4 := by omega
      clear hrs hrs13 off8 hkt hkt13 hkt14 hy13 hy14
      -- roles
      refine seqAsg ⟨_, rfl, _, rfl, L1, D, _, _, rfl, SqL.of hL15, SqL.of hD15, fun D3 hD3 => ?_⟩
      have hvl := hrs15.len
      refine walkZ (K := K) (a := L1) (b := D) (xs := zs.map V.str) (ys := vs) (fun i Hc => ∃ (ws : List V), Same H15 Hc ∧ Hc D3 = some (.lst ws) ∧ AtL (IsRoleV K) Hc ((bookOf zs rs ts).roles.take i) ws) ⟨[], Rd.Same.upd hD3, upd_same, AtL.nil⟩ (by rw [List.length_map]; omega) (fun i Hc _ ⟨_, sc, _⟩ => ⟨SqL.of (sc _ _ hL15), SqL.of (sc _ _ hD15)⟩) ?_ ?_
      · rintro i x y Tq Hc hx hy ⟨ws, sc, hDc, hws⟩ nTq
        rw [List.getElem?_map] at hx
        obtain ⟨z, hz, rfl⟩ := Option.map_eq_some_iff.mp hx
        have hlt := (List.getElem?_eq_some_iff.mp hz).1
        have hr : rs[i]? = some rs[i] := List.getElem?_eq_getElem (by omega)
        have hbi : (bookOf zs rs ts).roles[i]? = some (rs[i].wt z) := by
          unfold bookOf
          show ((zs.zip rs).map fun q => q.2.wt q.1)[i]? = _
          rw [List.getElem?_map, List.getElem?_zip_eq_some (z := (z, rs[i])) |>.mpr ⟨hz, hr⟩]
          rfl
        have etk : (bookOf zs rs ts).roles.take (i + 1) = (bookOf zs rs ts).roles.take i ++ [rs[i].wt z] := by rw [List.take_succ, hbi]; rfl
        obtain ⟨q, ap, ak, af, ar, rfl, hq, _, hRF, fr⟩ := hrs15.get i _ y hr hy
        generalize rs[i] = r at etk hRF fr
        have sT := Rd.Same.upd (o := .tup [.str z, .ref q]) nTq
        have hT : upd Hc Tq (.tup [.str z, .ref q]) Tq = some (.tup [.str z, .ref q]) := upd_same
        generalize upd Hc Tq (.tup [.str z, .ref q]) = H9 at sT hT ⊢
        have S9 := sc.trans sT
        obtain ⟨wz, lz, _⟩ := t4_ok z (hzm7 z (List.mem_of_getElem? hz))
        refine ⟨Tq, _, rfl, SqT.of hT, rfl, _, _, rfl, _, _, rfl, rfl, rfl, ?_⟩
        refine tYes_k ?_
        have frz := fr.ti z
        have hbad : (r.wt z).bad = none := frz.bad wz
        refine ⟨_, rfl, _, rfl, q, ap, ak, af, ar, r.wt z, 16, rfl, S9 _ _ hq, (hRF z lz).same S9, fun _ _ xr H10 s10 hR => ?_, (fun f eb => by rw [hbad] at eb; cases eb), fun i2 _ ef => absurd (Fit.det frz.fit ef) (by simp)⟩
        have hD10 := s10 _ _ (sT _ _ hDc)
        have hwl := hws.len
        have kn : KN H10 (upd H10 D3 (.lst (ws ++ [.ref xr]))) := KN.upd hD10
        have hwl2 : ws.length ≤ i := by rw [hwl, List.length_take]; omega
        refine ⟨ws, hD10, by omega, ws ++ [.ref xr], fun c o e => ?_, upd_same, ?_⟩
        · rw [upd_ne (ne_of_none e hD3)]
          exact s10 _ _ (S9 _ _ e)
        · rw [etk]
          exact (hws.mp fun r v h => (h.same (sT.trans s10)).kn kn).snoc ⟨xr, rfl, hR.kn kn⟩
      rintro H16 ⟨ws, s16, hDr, hws⟩
      have hbl : (bookOf zs rs ts).roles.length = zs.length := by
        unfold bookOf
        show ((zs.zip rs).map fun q => q.2.wt q.1).length = _
        rw [List.length_map, List.length_zip]
        omega
      rw [List.length_map, ← hbl, List.take_length] at hws
      refine gName_k ?_
      try dsimp only
      -- heap
      refine seqAsg ⟨_, rfl, D2, rfl, ⟨_, SqL.of (s16 _ _ hDt)⟩, fun D4 hD4 => ?_⟩
      have hul := hts.len
      refine lcg (C := He.ga K "Letter") (R := IsLet K) (ds := ts) (fun _ => true) id (fun _ _ _ _ kp h => h.mono kp) (SqL.of (s16 _ _ hDt)) hul (by omega) hD4 (fun i x y H2 Q2 hx hy s2 k2 => k2 _ (Same.refl _)) (fun i x y H17 Q17 hx hy _ s17 k17 => ?_) fun lv H17 s17 hDl hlv => ?_
      · obtain ⟨wy, dy, _⟩ := htw y (List.mem_of_getElem? hy)
        exact ⟨_, rfl, x, y, rfl, (hts.get i y x hy hx).same (s16.trans s17), wy, by omega, fun v' H5 s5 il => k17 v' H5 s5 il⟩
      have efk : (ts.filter (fun _ => true)).map id = ts := by rw [List.filter_eq_self.mpr (fun _ _ => rfl), List.map_id]
      rw [efk] at hlv
      refine gName_k ?_
      try dsimp only
      have S17 := s16.trans s17
      -- due
      refine seqAsg ⟨_, rfl, _, rfl, D, rfl, ⟨_, SqL.of (S17 _ _ hD15)⟩, fun D5 hD5 => ?_⟩
      refine lcg (C := 0) (R := fun _ r v => RowRf H15 r v) (ds := rs) (fun _ => true) id (fun _ _ _ _ _ h => h) (SqL.of (S17 _ _ hD15)) hvl (by omega) hD5 (fun i x y H2 Q2 hx hy s2 k2 => k2 _ (Same.refl _)) (fun i x y H18 Q18 hx hy _ s18 k18 => ?_) fun rv H18 s18 hDv hrv => ?_
      · obtain ⟨q, ap, ak, af, ar, rfl, hq, _, hRF, fr⟩ := hrs15.get i y x hy hx
        have hRF := hRF "a" (by decide)
        obtain ⟨ur, har, hrs⟩ := hRF.hr
        exact ⟨_, rfl, q, _, _, _, rfl, rfl, SqT.of ((S17.trans s18) _ _ hq), at_of (j := 3) rfl rfl, k18 _ _ (Same.refl _) ⟨ar, ur, rfl, har, hrs⟩⟩
      have efr : (rs.filter (fun _ => true)).map id = rs := by rw [List.filter_eq_self.mpr (fun _ _ => rfl), List.map_id]
      rw [efr] at hrv
      have S18 := S17.trans s18
      refine ⟨_, rfl, (by show 3 ≤ sizeLine; decide), fun q19 hq19 => ⟨(by show 2 ≤ sizeLine; decide), fun q20 hq20 => ?_⟩⟩
      have s19 := Rd.Same.upd (o := .tup [.ref L1, .ref D5, .ref D2]) hq19
      have h19 : upd H18 q19 (.tup [.ref L1, .ref D5, .ref D2]) q19 = some (.tup [.ref L1, .ref D5, .ref D2]) := upd_same
      generalize upd H18 q19 (.tup [.ref L1, .ref D5, .ref D2]) = H19 at s19 h19 hq20 ⊢
      have s20 := Rd.Same.upd (o := .tup [.ref q19, .str ""]) hq20
      have h20 : upd H19 q20 (.tup [.ref q19, .str ""]) q20 = some (.tup [.ref q19, .str ""]) := upd_same
      generalize upd H19 q20 (.tup [.ref q19, .str ""]) = H20 at s20 h20 ⊢
      refine gName_k ?_
      try dsimp only
      have s1820 := s19.trans s20
      have S20 := S18.trans s1820
      have hdpF : ∀ Hf, Same H15 Hf → Hf D5 = some (.lst rv) → Hf q19 = some (.tup [.ref L1, .ref D5, .ref D2]) → Dp K Hf (.ref q19) (bdat (bookOf zs rs ts)) := by
        intro Hf sf h5 h9
        unfold bdat
        rw [bo_rs hrl, show ((bookOf zs rs ts).roles.map fun r => PyData.str r.ti) = ((bookOf zs rs ts).roles.map (·.ti)).map PyData.str by rw [List.map_map]; rfl, bo_ti hrl]
        refine .tup (SqT.of h9) (.cons (.lst (SqL.of (sf _ _ hL15)) (dpAll_str _)) (.cons (.lst (SqL.of h5) ?_) (.cons (.lst (SqL.of (sf _ _ hDt)) (dpAll_ts (hts.same sf))) .nil)))
        refine dpAll_at (R := RowRf) (fun r v h => ?_) (hrv.mp fun r v h => h.same sf)
        obtain ⟨q, ws, rfl, h1, h2⟩ := h
        exact .lst (SqL.of h1) (dpAll_at (R := IsRowF) (fun b v h => h.dpt) h2.atl)
      have h5_20 := s1820 _ _ hDv
      have h19_20 := s20 _ _ h19
      have n53 : D5 ≠ D3 := fun z => by rw [z, s17 _ _ hDr] at hD5; cases hD5
      have n54 : D5 ≠ D4 := fun z => by rw [z, hDl] at hD5; cases hD5
      have nDr15 : H15 D3 = none := hD3
      have nDl15 : H15 D4 = none := s16.free hD4
      have n34 : D4 ≠ D3 := fun z => by rw [z, hDr] at hD4; cases hD4
      have bkO : BookOk (bookOf zs rs ts) := by
        refine ⟨by rw [hbl]; omega, by show ts.length ≤ 100; omega, fun r hr => ?_⟩
        obtain ⟨q, hq, rfl⟩ := List.mem_map.mp (show r ∈ (zs.zip rs).map fun q => q.2.wt q.1 from hr)
        have hm : q.2 ∈ rs := (List.of_mem_zip hq).2
        obtain ⟨j, hj⟩ := List.mem_iff_getElem?.mp hm
        have hjl := (List.getElem?_eq_some_iff.mp hj).1
        obtain ⟨_, _, _, _, _, _, _, _, _, fr⟩ := hrs15.get j _ _ hj (List.getElem?_eq_getElem (by omega))
        exact ⟨by show q.2.rs.length ≤ 1000; have := fr.rl; omega, fun y hy => (fr.rows y hy).ok⟩
      have bkF : BookF (bookOf zs rs ts) := by
        refine ⟨fun r hr => ?_, fun r hr => ?_, fun t ht => ?_⟩
        · obtain ⟨q, hq, rfl⟩ := List.mem_map.mp (show r ∈ (zs.zip rs).map fun q => q.2.wt q.1 from hr)
          exact (t4_ok q.1 (hzm7 _ (List.of_mem_zip hq).1)).2.2
        · obtain ⟨q, hq, rfl⟩ := List.mem_map.mp (show r ∈ (zs.zip rs).map fun q => q.2.wt q.1 from hr)
          have hm : q.2 ∈ rs := (List.of_mem_zip hq).2
          obtain ⟨j, hj⟩ := List.mem_iff_getElem?.mp hm
          have hjl := (List.getElem?_eq_some_iff.mp hj).1
          obtain ⟨_, _, _, _, _, _, _, _, _, fr⟩ := hrs15.get j _ _ hj (List.getElem?_eq_getElem (by omega))
          exact fun y hy => fr.rows y hy
        · obtain ⟨w1, w2, _⟩ := htw t ht
          exact ⟨w1, by omega⟩
      have etis := bo_ti (ts := ts) hrl
      have eknown : (bookOf zs rs ts).known = ts := rfl
      have hdr20 := (s17.trans (s18.trans s1820)) _ _ hDr
      have hws20 := hws.mp (H' := H20) fun r v h => h.same (s17.trans (s18.trans s1820))
      have hdl20 := (s18.trans s1820) _ _ hDl
      have hlv20 : LsAt K H20 ts lv := (LsAt.mk hlv.len hlv.get).same (s18.trans s1820)
      have hDt20 := S20 _ _ hDt
      have hts20 := hts.same S20
      have hL20 := S20 _ _ hL15
      have S220 := S15.trans S20
      generalize bookOf zs rs ts = bk at hdpF bkO bkF etis eknown hws20
      -- is one of them bad
      refine seqJoin (fun σ' Hc => ∃ (t1 t5 t8 t12 t14 : Option V) (dv : V), σ' = [some (.ref a), t1, some (.ref p), some (.ref L1), some (.ref D), t5, some (.ref ka), some (.ref D2), t8, some (.ref D3), t10, some (.ref D4), t12, some dv, t14, t15] ∧ Same H20 Hc ∧ DueV Hc (if bk.known.any badLet = true then some "known" else none) (.ref q19) dv) (fun KK hK => ?_) ?_
      · refine oneIf (b := ts.any badLet) (fun Q2 kq => ?_) fun H21 s21 => ?_
        · refine ⟨(by show 1 ≤ sizeLine; decide), fun q1 hq1 => ⟨_, rfl, D2, _, rfl, .inl ⟨SqL.of (Rd.Same.upd hq1 _ _ hDt20), fun q2 hq2 => ?_⟩⟩⟩
          have sa := Rd.Same.upd (o := .tup [.str "heap"]) hq1
          have sb := Rd.Same.upd (o := .tup us) hq2
          refine rd_catH (sb _ _ upd_same) upd_same (by omega) fun q Hq sq hq => ?_
          have Sq := (sa.trans sb).trans sq
          refine ⟨q, us, ts, rfl, hq, hts20.same Sq, fun t ht => ⟨(htw t ht).1, by have := (htw t ht).2.1; omega⟩, by omega, fun pL ws H22 s22 npL hpL hwL => ⟨pL, rfl, ⟨_, SqL.of hpL⟩, fun D9 hD9 => ?_⟩⟩
          have hwl := hwL.len
          have hsz : (allOf ts).length ≤ 4 * 128 := by
            have h3 : ∀ t ∈ ts, t.all.length ≤ 128 := fun t ht => by
              have hl1 := all_len t
              have hpw : 2 ^ (t.dep + 1) ≤ 2 ^ 7 := Nat.pow_le_pow_right (by decide) (by have := (htw t ht).2.1; omega)
              omega
            have h5 := szs_le (l := ts) (S := 128) h3
            rw [← allOf_len] at h5
            have h6 : ts.length * 128 ≤ 4 * 128 := Nat.mul_le_mul_right _ (by omega)
            omega
          refine lclB (ds := none :: (allOf ts).map some) gB (SqL.of hpL) (by rw [List.length_cons, List.length_cons, List.length_map]; omega) (by rw [List.length_cons]; omega) hD9 (fun i x d H23 Q3 hx hd s23 k3 => ?_) fun H23 s23 hD3' => ?_
          · refine ⟨_, rfl, EvTs.lst (ts := BADL) (.cons .am (.cons .am .nil)) (by decide) fun kb bv H24 s24 nkb hkb hbt => ?_⟩
            cases i with
            | zero =>
              cases hx
              cases hd
              have hts24 := hts20.same (((Sq.trans s22).trans s23).trans s24)
              have hsp : Shp 10 (.tuple (.str "heap" :: ts.map dat)) := by
                refine Shp.tup (n := 9) fun y hy => ?_
                rcases List.mem_cons.mp hy with rfl | hy
                · exact Shp.str (okS_of (l := ["heap"]) (by decide +kernel) List.mem_cons_self)
                · obtain ⟨t, ht, rfl⟩ := List.mem_map.mp hy
                  exact Shp.tr (htw t ht).1 (by have := (htw t ht).2.1; omega)
              refine ⟨.tuple (.str "heap" :: ts.map dat), BADL.map dat, .tup (SqT.of ((s22.trans (s23.trans s24)) _ _ hq)) (.cons (.str _) (dpAll_ts hts24)), .lst (SqL.of hkb) (dpAll_ts hbt), hsp.shaped (by decide), ts_shaped BADL_fine, ?_⟩
              rw [isBad_eqv]
              exact k3 _ s24
            | succ i =>
              have hx : ws[i]? = some x := hx
              have hd : ((allOf ts).map some)[i]? = some d := hd
              rw [List.getElem?_map] at hd
              obtain ⟨u, hu, rfl⟩ := Option.map_eq_some_iff.mp hd
              have iu := (hwL.get i u x hu hx).same (s23.trans s24)
              obtain ⟨tt, htt, hut⟩ := List.mem_flatMap.mp (show u ∈ ts.flatMap Tr.all from List.mem_of_getElem? hu)
              obtain ⟨wu, du⟩ := all_wf (htw tt htt).1 u hut
              exact rd_inTs iu ⟨wu.fine, by have := (htw tt htt).2.1; omega⟩ hkb hbt BADL_fine (k3 _ s24)
          · refine ⟨D9, _, rfl, SqL.of hD3', _, rfl, ?_⟩
            rw [anyMap, List.any_cons, any_bad hAm fun t ht => (htw t ht).2.2]
            exact kq _ ((Sq.trans s22).trans s23)
        · cases eb : ts.any badLet with
          | true =>
            refine iteT ⟨(by show 2 ≤ sizeLine; decide), fun q hq => ?_⟩
            refine gName_k ?_
            exact hK _ _ ⟨_, _, _, _, _, _, rfl, s21.trans (Rd.Same.upd hq), q, _, _, rfl, upd_same, .inr ⟨by rw [eknown, eb]; rfl, rfl⟩⟩
          | false => exact iteF (hK _ _ ⟨_, _, _, _, _, _, rfl, s21, q20, _, _, rfl, s21 _ _ h20, .inl ⟨by rw [eknown, eb]; rfl, rfl, rfl⟩⟩)
      rintro σ' H21 ⟨t1, t5, t8, t12, t14, dv, rfl, s21, hdv⟩
      try dsimp only
      -- equal titles
      refine seqJoin (fun σ' Hc => ∃ (t1 t5 t8 t12 t14 : Option V) (dv : V), σ' = [some (.ref a), t1, some (.ref p), some (.ref L1), some (.ref D), t5, some (.ref ka), some (.ref D2), t8, some (.ref D3), t10, some (.ref D4), t12, some dv, t14, t15] ∧ Same H20 Hc ∧ DueV Hc bk.bad (.ref q19) dv) (fun KK hK => ?_) ?_
      · refine oneIf (b := !decide zs.Nodup) (fun Q2 kq => ?_) fun H22 s22 => ?_
        · have hb : 2000 < scanBound := by decide
          refine ⟨_, rfl, L1, zs, rfl, SqL.of (s21 _ _ hL20), by omega, fun q hq => ⟨q, putS [] zs, rfl, upd_same, _, rfl, L1, _, rfl, .inl (SqL.of (Rd.Same.upd hq _ _ (s21 _ _ hL20))), _, _, rfl, rfl, _, rfl, ?_⟩⟩
          rw [putS_lt]
          exact kq _ (Rd.Same.upd hq)
        · cases eb : !decide zs.Nodup with
          | true =>
            refine iteT ⟨(by show 2 ≤ sizeLine; decide), fun q hq => ?_⟩
            refine gName_k ?_
            exact hK _ _ ⟨_, _, _, _, _, _, rfl, (s21.trans s22).trans (Rd.Same.upd hq), q, _, _, rfl, upd_same, .inr ⟨by unfold BookD.bad; rw [etis, if_pos eb], rfl⟩⟩
          | false =>
            refine iteF (hK _ _ ⟨_, _, _, _, _, _, rfl, s21.trans s22, ?_⟩)
            have e : bk.bad = (if bk.known.any badLet = true then some "known" else none : Option Str) := by
              unfold BookD.bad
              rw [etis, if_neg (by rw [eb]; decide)]
            rw [e]
            exact hdv.same s22
      rintro σ' H22 ⟨t1, t5, t8, t12, t14, dv, rfl, s22, hdv⟩
      try dsimp only
      have hd22 := hdpF H22 (S20.trans s22) (s22 _ _ h5_20) (s22 _ _ h19_20)
      have hkw : ∀ t ∈ bk.known, Wf t ∧ t.dep ≤ 6 := by rw [eknown]; exact fun t ht => ⟨(htw t ht).1, by have := (htw t ht).2.1; omega⟩
      have hlvb : LsAt K H20 bk.known lv := by rw [eknown]; exact hlv20
      -- tried
      refine seqIf (b := false) (fun Q2 kq => ?_) fun H23 s23 => iteF (nxt ?_)
      · refine ⟨_, rfl, _, rfl, D3, D4, bk, ws, lv, rfl, s22 _ _ hdr20, hws20.mp fun r v h => h.same s22, s22 _ _ hdl20, hlvb.same s22, bkO, hkw, fun eb q H' s' dp => ⟨_, rfl, ?_⟩, fun f eb q H' s' dp => ⟨_, rfl, ?_⟩⟩
        · have dp : Dp K H' (.ref q) (dueP bk) := by unfold dueP; rw [eb]; exact dp
          exact rd_neDat dp (DueV.dp (dp_same s' _ _ hd22) (hdv.same s')) bkF.shp (by decide) ⟨_, rfl, kq _ s'⟩
        · have dp : Dp K H' (.ref q) (dueP bk) := by unfold dueP; rw [eb]; exact dp
          exact rd_neDat dp (DueV.dp (dp_same s' _ _ hd22) (hdv.same s')) bkF.shp (by decide) ⟨_, rfl, kq _ s'⟩
      try dsimp only
      have S23 := s22.trans s23
      have hdv := hdv.same s23
      obtain ⟨qv, xv, zv, rfl, hqv, hdv⟩ := hdv
      refine oneIf (b := decide (zv = "")) (fun Q2 kq => ?_) fun H24 s24 => ?_
      · refine ⟨_, rfl, qv, _, _, _, rfl, rfl, SqT.of hqv, at_of (j := 1) rfl rfl, rfl, _, rfl, ?_⟩
        rw [decS]
        exact kq _ (Same.refl _)
      have S24 := S23.trans s24
      have S224 := S220.trans S24
      rcases hdv with ⟨eb, rfl, rfl⟩ | ⟨eb, rfl⟩
      case inr =>
        refine iteN (fun z => ?_) ?_
        · have z := of_decide_eq_true z
          subst z
          rcases bad_cases (b := bk) with e | e | e
          · rw [e] at eb; cases eb
          · rw [e] at eb; exact absurd (Option.some.inj eb) (by decide +kernel)
          · rw [e] at eb; exact absurd (Option.some.inj eb) (by decide +kernel)
        · exact ⟨SqL.kept hS2 S224, _, _, _, _, _, _, _, _, _, _, _, _, _, _, _, rfl⟩
      refine iteP (by decide +kernel) ?_
      refine seqAsg ⟨_, rfl, _, rfl, fun x dx hx hdx ne => ?_⟩
      have sx : Same H24 (upd (upd H24 dx (.own x)) x (.ins (He.ga K "Book") dx [])) := (Rd.Same.upd hdx).trans (Rd.Same.upd (by rw [upd_ne (Ne.symm ne)]; exact hx))
      have hx1 : upd (upd H24 dx (.own x)) x (.ins (He.ga K "Book") dx []) x = some (.ins (He.ga K "Book") dx []) := upd_same
      have S25 := S24.trans sx
      refine ⟨x, dx, D3, D4, bk, ws, lv, rfl, hx1, S25 _ _ hdr20, hws20.mp fun r v h => h.same S25, bkO.rl, S25 _ _ hdl20, hlvb.same S25, bkO.kl, hkw, by decide, fun _ H26 bt hB => ⟨rfl, ?_⟩, fun f e => by rw [e] at eb; cases eb⟩
      have S26 : Same H20 H26 := fun c o e => bt c o (ne_of_none (S24 _ _ e) hx) (S25 _ _ e)
      obtain ⟨dx', q', tr, tk, vr0, vk0, hxB, _⟩ := id hB
      refine gName_k ?_
      try dsimp only
      have nxr : D3 ≠ x := fun z => by rw [z, ] at hdr20; rw [S24 _ _ hdr20] at hx; cases hx
      have hr26 := S26 _ _ hdr20
      have hl26 := S26 _ _ hdl20
      refine ⟨_, rfl, .inl ⟨rfl, _, SqL.of hr26⟩, D3, _, rfl, rfl, hr26, ?_⟩
      have k27 : KN H26 (upd H26 D3 (.lst [])) := KN.upd hr26
      have S27 : Same H15 (upd H26 D3 (.lst [])) := fun c o e => by rw [upd_ne (ne_of_none e nDr15)]; exact S26 _ _ (S20 _ _ e)
      have a27 : upd H26 D3 (.lst []) D5 = some (.lst rv) := by rw [upd_ne n53]; exact S26 _ _ h5_20
      have b27 : upd H26 D3 (.lst []) q19 = some (.tup [.ref L1, .ref D5, .ref D2]) := k27 _ _ (fun l z => by cases z) (S26 _ _ h19_20)
      have c27 : upd H26 D3 (.lst []) D4 = some (.lst lv) := by rw [upd_ne n34]; exact hl26
      have d27 : upd H26 D3 (.lst []) qv = some (.tup [.ref q19, .str ""]) := k27 _ _ (fun l z => by cases z) (bt _ _ (fun z => by rw [← z, s24 _ _ hqv] at hx; cases hx) (sx _ _ (s24 _ _ hqv)))
      have hB27 := hB.kn k27
      generalize upd H26 D3 (.lst []) = H27 at k27 S27 a27 b27 c27 d27 hB27 ⊢
      try dsimp only
      refine ⟨_, rfl, .inl ⟨rfl, _, SqL.of c27⟩, D4, _, rfl, rfl, c27, ?_⟩
      have k28 : KN H27 (upd H27 D4 (.lst [])) := KN.upd c27
      have S28 : Same H15 (upd H27 D4 (.lst [])) := fun c o e => by rw [upd_ne (ne_of_none e nDl15)]; exact S27 _ _ e
      have a28 : upd H27 D4 (.lst []) D5 = some (.lst rv) := by rw [upd_ne n54]; exact a27
      have b28 : upd H27 D4 (.lst []) q19 = some (.tup [.ref L1, .ref D5, .ref D2]) := k28 _ _ (fun l z => by cases z) b27
      have d28 := k28 _ _ (fun l z => by cases z) d27
      have hB28 := hB27.kn k28
      have hx28 : upd H27 D4 (.lst []) x = some (.ins (He.ga K "Book") dx' [("kept", .ref q')]) := k28 _ _ (fun l z => by cases z) (k27 _ _ (fun l z => by cases z) hxB)
      generalize upd H27 D4 (.lst []) = H28 at k28 S28 a28 b28 d28 hB28 hx28 ⊢
      try dsimp only
      refine ⟨_, rfl, x, dx', _, rfl, hx28, x, bk, rfl, hB28, fun q9 u9 H29 s29 nq9 hq9 _ => ⟨.inl ⟨rfl, _, SqL.of hq9⟩, q9, _, rfl, rfl, hq9, ?_⟩⟩
      have S30 : Same H28 (upd H29 q9 (.lst [])) := fun c o e => by rw [upd_ne (ne_of_none e nq9)]; exact s29 _ _ e
      generalize upd H29 q9 (.lst []) = H30 at S30 ⊢
      try dsimp only
      refine ⟨_, rfl, x, dx', _, rfl, S30 _ _ hx28, x, bk, rfl, hB28.same S30, fun q6 u6 H31 s31 nq6 hq6 hk6 => ⟨.inl ⟨rfl, _, SqL.of hq6⟩, ?_⟩⟩
      have lk6 := hk6.len
      have hkl := bkO.kl
      refine rd_mkC (k := "word") (y := "a") (by decide +kernel) (atomOf_word (by decide +kernel)) fun xl H32 s32 il => ⟨q6, _, _, rfl, rfl, s32 _ _ hq6, by omega, ?_⟩
      have S33 : Same H28 (upd H32 q6 (.lst (u6 ++ [.ref xl]))) := fun c o e => by
        rw [upd_ne (ne_of_none e (S30.free nq6))]
        exact s32 _ _ (s31 _ _ (S30 _ _ e))
      generalize upd H32 q6 (.lst (u6 ++ [.ref xl])) = H33 at S33 ⊢
      try dsimp only
      refine oneIf (b := false) (fun Q2 kq => ?_) fun H34 s34 => iteF ?_
      · refine ⟨_, rfl, x, bk, rfl, hB28.same S33, bkO, fun q H' s' dp => ?_⟩
        have sh : Shp 13 (bdat bk) := by
          have := bkF.shp
          unfold dueP at this
          rw [eb] at this
          exact ((Shp.untup this) _ (by simp)).mono (by decide)
        refine ⟨_, rfl, qv, _, _, _, rfl, rfl, SqT.of (s' _ _ (S33 _ _ d28)), at_of (j := 0) rfl rfl, ?_⟩
        exact rd_neDat dp (hdpF H' (S28.trans (S33.trans s')) ((S33.trans s') _ _ a28) ((S33.trans s') _ _ b28)) sh (by decide) ⟨_, rfl, kq _ s'⟩
      · exact ⟨SqL.kept hS2 (S15.trans (S28.trans (S33.trans s34))), _, _, _, _, _, _, _, _, _, _, _, _, _, _, _, rfl⟩
    · rintro σ H2 _
      exact k _
end
end Rd
set_option maxHeartbeats 0
namespace Rd
open PySem L2
theorem tx_ok {w : World} {K : PySem.W.Frag} {h : Heap} {mg : Str → Option Value} (X : K.In h) (G : h.Ns mainGlobals mg) (ct : He.SaysT fa fn ts w K) (cc : He.SaysD fa fn K) (cz : He5.SaysA [] fs K) (hx : exq K = true) : Tx w K mg where
  z_len := He.free_ok X G (cc.fact 0 rfl)
  z_all := He.free_ok X G (cc.fact 1 rfl)
  z_any := He.free_ok X G (cc.fact 2 rfl)
  z_abs := He.free_ok X G (cc.fact 3 rfl)
  z_int := He.free_ok X G (cc.fact 4 rfl)
  z_list := He.free_ok X G (cc.fact 5 rfl)
  z_tuple := He.free_ok X G (cc.fact 6 rfl)
  z_range := He.free_ok X G (cc.fact 7 rfl)
  z_max := He.free_ok X G (cc.fact 8 rfl)
  z_min := He.free_ok X G (cc.fact 9 rfl)
  z_isinstance := He.free_ok X G (cc.fact 10 rfl)
  z_sorted := He.free_ok X G (cc.fact 11 rfl)
  z_str := He.free_ok X G (cc.fact 12 rfl)
  z_set := He.free_ok X G (cc.fact 13 rfl)
  z_dict := He.free_ok X G (cc.fact 14 rfl)
  z_enumerate := He.free_ok X G (cc.fact 15 rfl)
  z_zip := He.free_ok X G (cc.fact 16 rfl)
  z_ValueError := He.free_ok X G (cc.fact 17 rfl)
  z_NotImplemented := He.free_ok X G (cc.fact 18 rfl)
  z_sum := He.free_ok X G (cc.fact 19 rfl)
  z_bool := He.free_ok X G (cc.fact 20 rfl)
  c_SMALL := He.str_ok X G (cc.fact 21 rfl)
  c_GREAT := He.str_ok X G (cc.fact 22 rfl)
  c_DIGITS := He.str_ok X G (cc.fact 23 rfl)
  D_SIGNS := kd_ok (He.glo_ok X G (cc.fact 24 rfl)) (ct.tab 0 rfl) (exl_ok hx 0 rfl)
  U_MAKEABLE := ktB_ok (He.glo_ok X G (cc.fact 25 rfl)) (exl_ok hx 1 rfl)
  U_SHUT := ktB_ok (He.glo_ok X G (cc.fact 26 rfl)) (exl_ok hx 2 rfl)
  F_is_word := ⟨(cc.def_ 0 (d := d0) rfl), He.glo_ok X G (cc.fact 27 rfl)⟩
  F_is_unknown := ⟨(cc.def_ 1 (d := d1) rfl), He.glo_ok X G (cc.fact 28 rfl)⟩
  F_is_name := ⟨(cc.def_ 2 (d := d2) rfl), He.glo_ok X G (cc.fact 29 rfl)⟩
  F_atom_tree := ⟨(cc.def_ 3 (d := d3) rfl), He.glo_ok X G (cc.fact 30 rfl)⟩
  F_is_atom_form := ⟨(cc.def_ 4 (d := d4) rfl), He.glo_ok X G (cc.fact 31 rfl)⟩
  F_check_form := ⟨(cc.def_ 5 (d := d5) rfl), He.glo_ok X G (cc.fact 32 rfl)⟩
  F_parts_of := ⟨(cc.def_ 6 (d := d6) rfl), He.glo_ok X G (cc.fact 33 rfl)⟩
  F_atoms_of := ⟨(cc.def_ 7 (d := d7) rfl), He.glo_ok X G (cc.fact 34 rfl)⟩
  F_tree_text := ⟨(cc.def_ 8 (d := d8) rfl), He.glo_ok X G (cc.fact 35 rfl)⟩
  F_made_tree := ⟨(cc.def_ 9 (d := d9) rfl), He.glo_ok X G (cc.fact 36 rfl)⟩
  F_is_plain := ⟨(cc.def_ 10 (d := d10) rfl), He.glo_ok X G (cc.fact 37 rfl)⟩
  F_has_digits := ⟨(cc.def_ 11 (d := d11) rfl), He.glo_ok X G (cc.fact 38 rfl)⟩
  F_partner := ⟨(cc.def_ 12 (d := d12) rfl), He.glo_ok X G (cc.fact 39 rfl)⟩
  F_undoing_key := ⟨(cc.def_ 13 (d := d13) rfl), He.glo_ok X G (cc.fact 40 rfl)⟩
  F_is_made := ⟨(cc.def_ 14 (d := d14) rfl), He.glo_ok X G (cc.fact 41 rfl)⟩
  F_halves_of := ⟨(cc.def_ 15 (d := d15) rfl), He.glo_ok X G (cc.fact 42 rfl)⟩
  F_opened_parts := ⟨(cc.def_ 16 (d := d16) rfl), He.glo_ok X G (cc.fact 43 rfl)⟩
  F_are_unlike := ⟨(cc.def_ 17 (d := d17) rfl), He.glo_ok X G (cc.fact 44 rfl)⟩
  F_is_fresh := ⟨(cc.def_ 18 (d := d18) rfl), He.glo_ok X G (cc.fact 45 rfl)⟩
  F_check_role := ⟨(cc.def_ 19 (d := d19) rfl), He.glo_ok X G (cc.fact 46 rfl)⟩
  F_is_seen_through := ⟨(cc.def_ 20 (d := d20) rfl), He.glo_ok X G (cc.fact 47 rfl)⟩
  F_check_fit := ⟨(cc.def_ 21 (d := d21) rfl), He.glo_ok X G (cc.fact 48 rfl)⟩
  F__law_stream := ⟨(cc.def_ 22 (d := d22) rfl), He.glo_ok X G (cc.fact 49 rfl)⟩
  F__law_draw := ⟨(cc.def_ 23 (d := d23) rfl), He.glo_ok X G (cc.fact 50 rfl)⟩
  F__law_pick := ⟨(cc.def_ 24 (d := d24) rfl), He.glo_ok X G (cc.fact 51 rfl)⟩
  F__law_letter := ⟨(cc.def_ 25 (d := d25) rfl), He.glo_ok X G (cc.fact 52 rfl)⟩
  F__law_parts := ⟨(cc.def_ 26 (d := d26) rfl), He.glo_ok X G (cc.fact 53 rfl)⟩
  F__law_built := ⟨(cc.def_ 27 (d := d27) rfl), He.glo_ok X G (cc.fact 54 rfl)⟩
  F__law_wanted := ⟨(cc.def_ 28 (d := d28) rfl), He.glo_ok X G (cc.fact 55 rfl)⟩
  F__law_fit_role := ⟨(cc.def_ 29 (d := d29) rfl), He.glo_ok X G (cc.fact 56 rfl)⟩
  F__law_small := ⟨(cc.def_ 30 (d := d30) rfl), He.glo_ok X G (cc.fact 57 rfl)⟩
  F__law_role := ⟨(cc.def_ 31 (d := d31) rfl), He.glo_ok X G (cc.fact 58 rfl)⟩
  F__law_told := ⟨(cc.def_ 32 (d := d32) rfl), He.glo_ok X G (cc.fact 59 rfl)⟩
  F__law_tried := ⟨(cc.def_ 33 (d := d33) rfl), He.glo_ok X G (cc.fact 60 rfl)⟩
  g_RoadError := He.glo_ok X G (cc.fact 62 rfl)
  r_RoadError := rexB_ok (exl_ok hx 5 rfl)
  X_BadAtom := ⟨He.glo_ok X G (cc.fact 64 rfl), oexB_ok (exl_ok hx 6 rfl), He.noat_ok (cc.fact 67 rfl), ⟨(cc.def_ 35 (d := d35) rfl), He.meth_ok (cc.fact 66 rfl)⟩, xfB_ok (exl_ok hx 7 rfl), He.exm_ok (cc.fact 65 rfl)⟩
  X_BadForm := ⟨He.glo_ok X G (cc.fact 68 rfl), oexB_ok (exl_ok hx 8 rfl), He.noat_ok (cc.fact 71 rfl), ⟨(cc.def_ 36 (d := d36) rfl), He.meth_ok (cc.fact 70 rfl)⟩, xfB_ok (exl_ok hx 9 rfl), He.exm_ok (cc.fact 69 rfl)⟩
  X_BadKey := ⟨He.glo_ok X G (cc.fact 72 rfl), oexB_ok (exl_ok hx 10 rfl), He.noat_ok (cc.fact 75 rfl), ⟨(cc.def_ 37 (d := d37) rfl), He.meth_ok (cc.fact 74 rfl)⟩, xfB_ok (exl_ok hx 11 rfl), He.exm_ok (cc.fact 73 rfl)⟩
  X_BadText := ⟨He.glo_ok X G (cc.fact 76 rfl), oexB_ok (exl_ok hx 12 rfl), He.noat_ok (cc.fact 79 rfl), ⟨(cc.def_ 38 (d := d38) rfl), He.meth_ok (cc.fact 78 rfl)⟩, xfB_ok (exl_ok hx 13 rfl), He.exm_ok (cc.fact 77 rfl)⟩
  X_BadRole := ⟨He.glo_ok X G (cc.fact 80 rfl), oexB_ok (exl_ok hx 14 rfl), He.noat_ok (cc.fact 83 rfl), ⟨(cc.def_ 39 (d := d39) rfl), He.meth_ok (cc.fact 82 rfl)⟩, xfB_ok (exl_ok hx 15 rfl), He.exm_ok (cc.fact 81 rfl)⟩
  X_NotFit := ⟨He.glo_ok X G (cc.fact 84 rfl), oexB_ok (exl_ok hx 16 rfl), He.noat_ok (cc.fact 87 rfl), ⟨(cc.def_ 40 (d := d40) rfl), He.meth_ok (cc.fact 86 rfl)⟩, xfB_ok (exl_ok hx 17 rfl), He.exm_ok (cc.fact 85 rfl)⟩
  X_BadBook := ⟨He.glo_ok X G (cc.fact 88 rfl), oexB_ok (exl_ok hx 18 rfl), He.noat_ok (cc.fact 91 rfl), ⟨(cc.def_ 41 (d := d41) rfl), He.meth_ok (cc.fact 90 rfl)⟩, xfB_ok (exl_ok hx 19 rfl), He.exm_ok (cc.fact 89 rfl)⟩
  f_Reader := (exl_ok hx 20 rfl)
  Y_Reader := isiB_ok (exl_ok hx 21 rfl)
  k_Reader := He.cls_ok (cc.fact 93 rfl)
  g_Reader := He.glo_ok X G (cc.fact 92 rfl)
  n_Reader_signs := He.noat_ok (cc.fact 94 rfl)
  n_Reader_at := He.noat_ok (cc.fact 95 rfl)
  n_Reader_begun := He.noat_ok (cc.fact 96 rfl)
  J_Reader := He.mkr_ok (cc.fact 98 rfl)
  M_Reader_init := ⟨(cc.def_ 42 (d := d42) rfl), He.meth_ok (cc.fact 97 rfl)⟩
  M_Reader_takes := ⟨(cc.def_ 43 (d := d43) rfl), He.meth_ok (cc.fact 99 rfl)⟩
  M_Reader_word_here := ⟨(cc.def_ 44 (d := d44) rfl), He.meth_ok (cc.fact 100 rfl)⟩
  M_Reader_next_atom := ⟨(cc.def_ 45 (d := d45) rfl), He.meth_ok (cc.fact 101 rfl)⟩
  M_Reader_closed := ⟨(cc.def_ 46 (d := d46) rfl), He.meth_ok (cc.fact 102 rfl)⟩
  M_Reader_whole := ⟨(cc.def_ 47 (d := d47) rfl), He.meth_ok (cc.fact 103 rfl)⟩
  f_Letter := (exl_ok hx 22 rfl)
  Y_Letter := isiB_ok (exl_ok hx 23 rfl)
  k_Letter := He.cls_ok (cc.fact 105 rfl)
  g_Letter := He.glo_ok X G (cc.fact 104 rfl)
  n_Letter_tree := He.noat_ok (cc.fact 106 rfl)
  I_Letter := ⟨(cc.def_ 48 (d := d48) rfl), He.mkr_ok (cc.fact 108 rfl), He.glo_ok X G (cc.fact 104 rfl), He.cls_ok (cc.fact 105 rfl)⟩
  S_Letter_of := sh_ok (cz.def_ 0 (d := e0) rfl) (He.glo_ok X G (cc.fact 104 rfl)) (exl_ok hx 24 rfl)
  S_Letter_read := sh_ok (cz.def_ 1 (d := e1) rfl) (He.glo_ok X G (cc.fact 104 rfl)) (exl_ok hx 25 rfl)
  M_Letter_form := ⟨(cc.def_ 49 (d := d49) rfl), He.meth_ok (cc.fact 109 rfl)⟩
  M_Letter_written := ⟨(cc.def_ 50 (d := d50) rfl), He.meth_ok (cc.fact 110 rfl)⟩
  M_Letter_unknowns := ⟨(cc.def_ 51 (d := d51) rfl), He.meth_ok (cc.fact 111 rfl)⟩
  M_Letter_names := ⟨(cc.def_ 52 (d := d52) rfl), He.meth_ok (cc.fact 112 rfl)⟩
  M_Letter_add := ⟨(cc.def_ 53 (d := d53) rfl), He.meth_ok (cc.fact 113 rfl)⟩
  M_Letter_mul := ⟨(cc.def_ 54 (d := d54) rfl), He.meth_ok (cc.fact 114 rfl)⟩
  M_Letter_xor := ⟨(cc.def_ 55 (d := d55) rfl), He.meth_ok (cc.fact 115 rfl)⟩
  M_Letter_invert := ⟨(cc.def_ 56 (d := d56) rfl), He.meth_ok (cc.fact 116 rfl)⟩
  M_Letter_pos := ⟨(cc.def_ 57 (d := d57) rfl), He.meth_ok (cc.fact 117 rfl)⟩
  M_Letter_neg := ⟨(cc.def_ 58 (d := d58) rfl), He.meth_ok (cc.fact 118 rfl)⟩
  M_Letter_eq := ⟨(cc.def_ 59 (d := d59) rfl), He.meth_ok (cc.fact 119 rfl)⟩
  M_Letter_lt := ⟨(cc.def_ 60 (d := d60) rfl), He.meth_ok (cc.fact 120 rfl)⟩
  M_Letter_le := ⟨(cc.def_ 61 (d := d61) rfl), He.meth_ok (cc.fact 121 rfl)⟩
  M_Letter_gt := ⟨(cc.def_ 62 (d := d62) rfl), He.meth_ok (cc.fact 122 rfl)⟩
  M_Letter_ge := ⟨(cc.def_ 63 (d := d63) rfl), He.meth_ok (cc.fact 123 rfl)⟩
  M_Letter_contains := ⟨(cc.def_ 64 (d := d64) rfl), He.meth_ok (cc.fact 124 rfl)⟩
  M_Letter_len := ⟨(cc.def_ 65 (d := d65) rfl), He.meth_ok (cc.fact 125 rfl)⟩
  f_Role := (exl_ok hx 26 rfl)
  Y_Role := isiB_ok (exl_ok hx 27 rfl)
  k_Role := He.cls_ok (cc.fact 127 rfl)
  g_Role := He.glo_ok X G (cc.fact 126 rfl)
  n_Role_title := He.noat_ok (cc.fact 128 rfl)
  n_Role_kept := He.noat_ok (cc.fact 129 rfl)
  J_Role := He.mkr_ok (cc.fact 131 rfl)
  M_Role_init := ⟨(cc.def_ 66 (d := d66) rfl), He.meth_ok (cc.fact 130 rfl)⟩
  P_Role_params := ph_ok (cz.def_ 2 (d := e2) rfl) (exl_ok hx 28 rfl)
  P_Role_knows := ph_ok (cz.def_ 3 (d := e3) rfl) (exl_ok hx 29 rfl)
  P_Role_fresh := ph_ok (cz.def_ 4 (d := e4) rfl) (exl_ok hx 30 rfl)
  P_Role_rows := ph_ok (cz.def_ 5 (d := e5) rfl) (exl_ok hx 31 rfl)
  f_Book := (exl_ok hx 32 rfl)
  Y_Book := isiB_ok (exl_ok hx 33 rfl)
  k_Book := He.cls_ok (cc.fact 133 rfl)
  g_Book := He.glo_ok X G (cc.fact 132 rfl)
  n_Book_kept := He.noat_ok (cc.fact 134 rfl)
  J_Book := He.mkr_ok (cc.fact 136 rfl)
  M_Book_init := ⟨(cc.def_ 67 (d := d67) rfl), He.meth_ok (cc.fact 135 rfl)⟩
  P_Book_roles := ph_ok (cz.def_ 6 (d := e6) rfl) (exl_ok hx 34 rfl)
  P_Book_known := ph_ok (cz.def_ 7 (d := e7) rfl) (exl_ok hx 35 rfl)
  ne_Role := of_decide_eq_true (exl_ok hx 36 rfl)
theorem facts {P : Program} {w : World} {K : PySem.W.Frag} {h : Heap} {mg : Str → Option Value} {f : Addr} (X : K.In h) (G : h.Ns mainGlobals mg) (hfa : mg ("law" : Str) = some (.ref f)) (c : SaysZ fa fn ts exq fs w K) :
    ∃ fd : FuncData, (∀ (s : Shared) (v : Value), BindsTo s fd ⟨[v], []⟩ [("_law_script", v)]) ∧ ∀ base : Heap, K.In base → base.Ns mainGlobals mg → FnOk P w K mg base CX0 20 f fd ["_law_script"] (spLaw K) := by
  have cc := c.y.t.d
  have T := tx_ok X G c.y.t cc c.s c.y.more
  obtain ⟨fd, F⟩ := cc.def_ 34 (d := d34) rfl
  have e := hfa.symm.trans (He.glo_ok X G (cc.fact 61 (f := .glo "law") rfl))
  cases e
  have b := FunD.bindsA (ps := ["_law_script"]) F fun _ _ _ _ _ _ us hl => match us, hl with | [_], _ => rfl
  exact ⟨fd, fun s v => b s [v] rfl, fun base _ _ => ok_law F T⟩
end Rd
open PySem PySem.W PySem.Calls PyProof.Rows
set_option maxRecDepth 100000 in
set_option maxHeartbeats 0 in
theorem PySem.Challenge.cw_openroads_k16_books_kept_holds : PySem.Challenge.rw_openroads_k16_books_kept.Holds := by
  w_on; o_law
  refine HandSHeadRun.head_any (r := OpenLaw.row PySem.Challenge.rw_openroads_k16_books_kept) (q := Rd.qv) (H := Rd.hk) (ob := Rd.ob) (M := 6000) (loose := Rd.loo) (d := HandSHeadRun.topDef (OpenLaw.row PySem.Challenge.rw_openroads_k16_books_kept).prog 58) (kwd := []) Rd.ob_eq
    (by kernel_rfl) (fun s => by kernel_rfl) Rd.run (by kernel_rfl) (by kernel_rfl) (by kernel_rfl) (by rfl) (by first | assumption | decide +kernel) (by decide +kernel) ⟨rfl, rfl, rfl, rfl, rfl, by decide +kernel⟩ ?hw ?hc
  case hw => w_witness2
  case hc =>
    refine L2.walk_ofE (l := PySem.Challenge.rw_openroads_k16_books_kept) (n := 63) (k := 20) (x := "_law_script") (CX := L2.CX0) rfl (by decide) (by kernel_rfl) ⟨rfl, by decide, by decide⟩ ?F (fun _ _ _ _ z => z)
    intro w mg fa h Y G hmg0
    obtain ⟨K, KX, c⟩ := Y
    have hmg : mg ("law" : PySem.Str) = some (.ref fa) := by
      have e : (HandSHeadRun.topDef (OpenLaw.row PySem.Challenge.rw_openroads_k16_books_kept).prog 58).name = ("law" : PySem.Str) := by kernel_rfl
      rw [← e]
      exact hmg0
    obtain ⟨fd, hb, hF⟩ := Rd.facts (P := (PySem.Challenge.rw_openroads_k16_books_kept).prog) (w := w) KX G hmg c
    exact ⟨K, fd, Rd.spLaw K, KX, hb, fun H a ns hl _ hS => ⟨a, ns, rfl, hS, hl, fun _ => rfl⟩, hF⟩
