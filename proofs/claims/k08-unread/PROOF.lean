import PyProof.Rows.All
import Wide.All
import OpenK.AllK
import Wide.FinOn
import KE.KStateDown
import Lean
import HandS.ForMost
import HandS.ForExc
import HandS.Flow
import HandS.StrMore
import HandS.Defaults
import HandS.ExcInit
import HandS.ExcField
import HandS.More
import HandS.HeadHook3
import PyProof.ListStr
import HandS.Head0
import HandS.Head1
import HandS.Head2
import HandS.HeadEnd
import HandS.Zip
import HandS.FStr
import HandS.StrMore
import HandS.HotCalls
import HandS.ExcInitHot
import PyProof.InstEq
import HandS.IsInst
import HandS.HeadNt
import HandS.Deep
import HandS.TupAny
import PySem.Challenge.RW_openroads_k08_letter_texts_refused
set_option Elab.async false
set_option linter.all false
set_option maxRecDepth 100000
set_option maxHeartbeats 4000000
/-! my common layer: functions by name -/
namespace Rd
open PySem PySem.Spec PyProof.Rows L2
/-- a function of the module by its name: promise, binding, place -/
structure Fk (P : Program) (w : World) (K : PySem.W.Frag) (mg : Str → Option Value) (base : Heap) (CX : CXT) (k : Nat) (x : Str) (ps : List Str) (sp : Sp) : Prop where
  ex : ∃ fd, FnOk P w K mg base CX k (He.ga K x) fd ps sp ∧ Binds K fd ps []
  g : mg x = some (.ref (He.ga K x))
  kp : PySem.W.keepIn K (.ref (He.ga K x)) = true
/-- what the head tells of a function of the module -/
structure Fh (K : PySem.W.Frag) (mg : Str → Option Value) (x : Str) (st : Stmt) : Prop where
  ex : ∃ fd, FunD K x x (defArgs st) (defBody st) (defScope st) [] [] (He.ga K x) fd
  g : mg x = some (.ref (He.ga K x))
section
variable {P : Program} {w : World} {K : PySem.W.Frag} {mg : Str → Option Value} {base : Heap} {CX : CXT} {k : Nat} {x : Str} {ps N : List Str} {sp : Sp} {st : Stmt}
theorem Fh.ok (F : Fh K mg x st) (S : FnScope N ps (defScope st))
    (hb : ∀ (kV doc pm : Value) (an : Option Addr) (cdv ct : Value) (us : List Value), us.length = ps.length → bindArgs (PySem.W.fnOf x x (defArgs st) (defBody st) (defScope st) .none kV doc pm an cdv ct) ⟨us, []⟩ = pure (ps.zip us))
    (len : ∀ vs H Q E, sp vs H Q E → vs.length = ps.length)
    (hbody : ∀ (cdv : Value) (A : Around) (outer : List Env) (s : Shared) (H : Hp) (vs : List V) (Q : VK) (E : XK), Room k (A.deeper (envOfC x (defScope st) s.heap.objs.size (He.ga K x) cdv)) → sp vs H Q E →
      ∃ t, PSs (cxOf CX P w K mg base N x (defScope st) (He.ga K x) cdv A outer s H E) (defBody st) t ∧ t { nx := fun _ H' => Q .non H', rt := Q } (start N vs) H) : Fk P w K mg base CX (k + 1) x ps sp := by
  obtain ⟨fd, F'⟩ := F.ex
  exact ⟨⟨fd, F'.ok S len hbody, F'.bindsN hb⟩, F.g, F'.kp⟩
/-- no exception leaves -/
theorem Fh.ok0 (F : Fh K mg x st) (S : FnScope N ps (defScope st))
    (hb : ∀ (kV doc pm : Value) (an : Option Addr) (cdv ct : Value) (us : List Value), us.length = ps.length → bindArgs (PySem.W.fnOf x x (defArgs st) (defBody st) (defScope st) .none kV doc pm an cdv ct) ⟨us, []⟩ = pure (ps.zip us))
    (len : ∀ vs H Q E, sp vs H Q E → vs.length = ps.length)
    (hbody : ∀ (cdv : Value) (A : Around) (outer : List Env) (s : Shared) (H : Hp) (vs : List V) (Q : VK) (E : XK), Room k (A.deeper (envOfC x (defScope st) s.heap.objs.size (He.ga K x) cdv)) → sp vs H Q E →
      ∃ t, PSs (cxOf CX0 P w K mg base N x (defScope st) (He.ga K x) cdv A outer s H E).nox (defBody st) t ∧ t { nx := fun _ H' => Q .non H', rt := Q } (start N vs) H) : Fk P w K mg base CX0 (k + 1) x ps sp :=
  F.ok S hb len fun cdv A outer s H vs Q E hr h => by
    obtain ⟨t, h1, h2⟩ := hbody cdv A outer s H vs Q E hr h
    exact ⟨t, h1.nox, h2⟩
theorem Fk.mono {j : Nat} (F : Fk P w K mg base CX j x ps sp) (h : j ≤ k) : Fk P w K mg base CX k x ps sp := by
  obtain ⟨⟨fd, a, b⟩, c, d⟩ := F
  exact ⟨⟨fd, a.mono h, b⟩, c, d⟩
end
section
variable {X : Cx} {CX : CXT} {k : Nat} {ps : List Str} {sp : Sp} {E : XK} {x : Str} {p pos : Pos} {e : Expr} {es : List Expr} {t : TA}
theorem pe_fk (F : Fk X.prog X.w X.K X.mg X.base CX k x ps sp) (hr : Room k X.A) (hg : Gl X x) (hx : Passes CX X E)
    (ha : PA X (e :: es) t) (hdb : (x == ("__debug__" : Str)) = false := by decide) (he : starEach (e :: es) X.env = (false, eval e X.env) :: starEach es X.env := by rfl) (hpl : (backTo pos (starEach es X.env)).any (·.1) = false := by rfl) :
    PE X (.Call (.Name x p) (e :: es) [] pos) (tCall sp [] E t) := by
  obtain ⟨⟨fd, a, b⟩, c, d⟩ := F
  exact pe_call a hr hg c d b .nil hx ha hdb he hpl
theorem pe_gstr {z : Str} (hm : ∃ t, X.mg x = some (.str z t)) (hg : Gl X x := by rfl) (hd : (x == ("__debug__" : Str)) = false := by decide) : PE X (.Name x pos) (tC (.str z)) := by
  obtain ⟨t, hm⟩ := hm
  exact pe_glob hg hm ⟨t, rfl⟩ hd
/-- list(text) -/
theorem call_list_text (hc : X.calm = true) : CallR X (.type "list") (fun xs H Q => ∃ z : Str, xs = [.str z] ∧ z.length ≤ sizeLine ∧ ∀ l, H l = none → Q (.ref l) (upd H l (.lst (z.cps.toList.map fun c => V.str ⟨#[c]⟩)))) := by
  intro pins s σ H xs us Q I r h
  obtain ⟨z, rfl, hz, q⟩ := h
  obtain ⟨u, rfl, t, rfl⟩ := vals1 r
  refine call_list_str (I.ok.hd hc) z t (fun h' tk acc' c' kp e it => ?_) hz
  have vv : ∀ (n : Nat) (l : List Nat) (m : List Value), l.length = m.length → (∀ (j : Nat) (v : Value), m[j]? = some v → ∃ (c : Nat) (u : Tok), l[j]? = some c ∧ v = Value.str ⟨#[c]⟩ u) → Vals (l.map fun c => V.str ⟨#[c]⟩) m := by
    intro n l
    induction l with
    | nil =>
      intro m hl _
      cases m with
      | nil => exact .nil
      | cons a b => cases hl
    | cons a l ih =>
      intro m hl hm
      cases m with
      | nil => cases hl
      | cons b m =>
        obtain ⟨c, u, e1, e2⟩ := hm 0 b rfl
        have e1' : a = c := Option.some.inj e1
        subst e1' e2
        exact .cons ⟨u, rfl⟩ (ih m (by simpa using hl) fun j v hj => hm (j + 1) v hj)
  have hv : Vals (z.cps.toList.map fun c => V.str ⟨#[c]⟩) acc'.toList := by
    refine vv 0 _ _ (by rw [Array.length_toList, Array.length_toList]; exact it.1.symm) fun j v hj => ?_
    obtain ⟨c, u, h1, h2⟩ := it.2 j v (by simpa using hj)
    exact ⟨c, u, by simpa using h1, h2⟩
  refine ⟨.ref s.heap.objs.size, _, I.laid (t' := tk) kp (Nat.le_refl _) (show ObjOk X.prog X.w _ h' _ (.lst (z.cps.toList.map fun c => V.str ⟨#[c]⟩)) from ⟨?_, acc'.toList, c', hv, by simpa using e⟩), rfl, q _ (I.hok.fresh (Nat.le_refl _))⟩
  rw [List.length_map]
  exact hz
end
end Rd
namespace Rd
open PySem PySem.Spec PyProof.Rows L2
/-- an exception class over ValueError, as OexC wants it -/
def oexB (K : PySem.W.Frag) (x : Str) : Bool := (match K.lookup (He.ga K x) with
  | some ⟨.type c, _, .cls cd, sl⟩ => decide (c = "type") && (match cd.mro, sl.toList with
    | .ref C' :: bm, [_, _, _, _, some (.builtin n), _] => decide (C' = He.ga K x) && (decide (n = "ValueError.__new__") && (!cd.hasDel && (cd.hasDict && PySem.HandSPX.refsVE bm)))
    | _, _ => false)
  | _ => false) && (He.eqO (PySem.W.findIn K (.ref (He.ga K x)) "__setattr__") (some (some (.builtin "object.__setattr__"))) && (decide (PySem.W.subIn K (.ref (He.ga K x)) (.type "BaseException") = some true) && (decide (PySem.W.typeIn K (.ref (He.ga K x)) = some (.type "type")) && PySem.W.keepIn K (.ref (He.ga K x)))))
theorem oexB_ok {K : PySem.W.Frag} {x : Str} (h : oexB K x = true) : OexC K (He.ga K x) := by
  obtain ⟨h1, h⟩ := He.ba h
  obtain ⟨h2, h⟩ := He.ba h
  obtain ⟨h3, h⟩ := He.ba h
  obtain ⟨h4, h5⟩ := He.ba h
  refine ⟨?_, He.eqO_ok h2, of_decide_eq_true h3, of_decide_eq_true h4, h5⟩
  cases e : K.lookup (He.ga K x) with
  | none => rw [e] at h1; cases h1
  | some o =>
    rw [e] at h1
    obtain ⟨oc, od, dt, sl⟩ := o
    cases oc with
    | type c =>
      cases dt with
      | cls cd =>
        obtain ⟨h6, h7⟩ := He.ba (show (decide (c = "type") && (match cd.mro, sl.toList with
          | .ref C' :: bm, [_, _, _, _, some (.builtin n), _] => decide (C' = He.ga K x) && (decide (n = "ValueError.__new__") && (!cd.hasDel && (cd.hasDict && PySem.HandSPX.refsVE bm)))
          | _, _ => false)) = true from h1)
        have ec : c = "type" := of_decide_eq_true h6
        subst ec
        obtain ⟨nm, bs, mro, ns, qn, hd, sn, sb, ab, col, del⟩ := cd
        obtain ⟨sl⟩ := sl
        simp only at h7
        split at h7
        · obtain ⟨h8, h9⟩ := He.ba h7
          obtain ⟨h10, h11⟩ := He.ba h9
          obtain ⟨h12, h13⟩ := He.ba h11
          obtain ⟨h14, h15⟩ := He.ba h13
          rename_i C' bm k0 k1 k2 k3 n k5
          have e1 : C' = He.ga K x := of_decide_eq_true h8
          have e2 : n = "ValueError.__new__" := of_decide_eq_true h10
          have e3 : del = false := by simpa using h12
          subst e2 e3
          have e4 : hd = true := h14
          subst e4
          rw [e1]
          exact ⟨_, _, _, _, bm, _, _, _, _, _, _, _, _, _, _, rfl, h15⟩
        · cases h7
      | _ => cases h1
    | _ => cases dt <;> cases h1
end Rd
namespace Rd
open PySem L2
/-- [f(c) for c in text], f pure -/
theorem lcs {x : Str} {te : TE} {i : Nat} {σ : St} {H1 : Hp} {D : Addr} {Qd : Hp → Prop} (f : Nat → V) (hx : x.length ≤ sizeLine)
    (hte : ∀ c (H : Hp) (Q : VK), c ∈ x.cps.toList → Q (f c) H → te ((wipe σ [i]).set i (some (.str ⟨#[c]⟩))) H Q) (hq : Qd (upd H1 D (.lst (x.cps.toList.map f)))) :
    ∃ W : Nat → Nat → Hp → Prop, (∃ m, W 0 m (upd H1 D (.lst []))) ∧ ∀ j m H, W j m H →
      ((Its x).stop j H ∧ Qd H) ∨ ((Its x).go j H ∧ ∃ Nx : Hp → Prop, (∀ H', Nx H' → ∃ m', m' < m ∧ W (j + 1) m' H') ∧ ∀ v H', (Its x).yld j H v H' → gName i v (wipe σ [i]) H' fun σ2 H2 => wipe σ2 [i] = wipe σ [i] ∧ tYes σ2 H2 fun b H3 =>
        if b = true then te σ2 H3 fun y H4 => ∃ acc, H4 D = some (.lst acc) ∧ acc.length < sizeLine ∧ Nx (upd H4 D (.lst (acc ++ [y]))) else Nx H3) := by
  have hs : x.cps.toList.length = x.cps.size := by simp
  refine ⟨fun j m H => m = x.cps.size - j ∧ j ≤ x.cps.size ∧ H = upd H1 D (.lst ((x.cps.toList.take j).map f)), ⟨_, rfl, Nat.zero_le _, rfl⟩, ?_⟩
  rintro j m H ⟨rfl, hj, rfl⟩
  by_cases hlt : j < x.cps.size
  · refine .inr ⟨hlt, fun H' => H' = upd H1 D (.lst ((x.cps.toList.take (j + 1)).map f)), fun H' e => ⟨x.cps.size - (j + 1), by omega, rfl, hlt, e⟩, ?_⟩
    rintro v H' ⟨rfl, c, hc, rfl⟩
    have hc2 : x.cps.toList[j]? = some c := by simpa using hc
    refine ⟨by simp [wipe], hte c _ _ (List.mem_of_getElem? hc2) ⟨_, upd_same, ?_, ?_⟩⟩
    · rw [List.length_map, List.length_take, hs]
      have : x.cps.size ≤ sizeLine := hx
      omega
    · show upd (upd H1 D _) D _ = _
      rw [upd_upd, List.take_succ, hc2]
      simp
  · have e : j = x.cps.size := by omega
    subst e
    refine .inl ⟨Nat.le_refl _, ?_⟩
    rw [← hs, List.take_length]
    exact hq
theorem Same.upd {H : Hp} {p : Addr} {o : HO} (h : H p = none) : Same H (L2.upd H p o) := fun a u e => by rw [upd_ne (ne_of_none e h)]; exact e
theorem Same.upd' {H H1 : Hp} {p : Addr} {o : HO} (x : Same H H1) (h : H1 p = none) : Same H (L2.upd H1 p o) := x.trans (Rd.Same.upd h)
end Rd
namespace Rd
open PySem L2
theorem seqAsg {te : TE} {g : TG} {u : TS} {D : Ends} {σ : St} {H : Hp} (h : te σ H fun x H1 => g x σ H1 (u D)) : tSeq (tAsg te g) u D σ H := h
theorem gName_k {i : Nat} {v : V} {σ : St} {H : Hp} {R : St → Hp → Prop} (h : R (σ.set i (some v)) H) : gName i v σ H R := h
theorem asgNx {te : TE} {g : TG} {D : Ends} {σ : St} {H : Hp} (h : te σ H fun x H1 => g x σ H1 D.nx) : tAsg te g D σ H := h
theorem retE {te : TE} {D : Ends} {σ : St} {H : Hp} (h : te σ H D.rt) : tRet te D σ H := h
end Rd
namespace Rd
open PySem L2
/-- a test that answers b, the heap may grow -/
def TB (t : TT) (σ : St) (H : Hp) (b : Bool) : Prop := ∀ Q : Bool → Hp → Prop, (∀ H', Same H H' → Q b H') → t σ H Q
theorem tb_and {t u : TT} {σ : St} {H : Hp} {b c : Bool} (h1 : TB t σ H b) (h2 : ∀ H', Same H H' → b = true → TB u σ H' c) : TB (tAnd t u) σ H (b && c) := fun Q k => h1 _ fun H' s => by
  cases b with
  | true => exact h2 H' s rfl Q fun H2 s2 => k H2 (s.trans s2)
  | false => exact k H' s
theorem tb_or {t u : TT} {σ : St} {H : Hp} {b c : Bool} (h1 : TB t σ H b) (h2 : ∀ H', Same H H' → b = false → TB u σ H' c) : TB (tOr t u) σ H (b || c) := fun Q k => h1 _ fun H' s => by
  cases b with
  | true => exact k H' s
  | false => exact h2 H' s rfl Q fun H2 s2 => k H2 (s.trans s2)
theorem tb_not {t : TT} {σ : St} {H : Hp} {b : Bool} (h1 : TB t σ H b) : TB (tNot t) σ H (!b) := fun Q k => h1 _ fun H' s => k H' s
theorem seqIf {c : TT} {t u v : TS} {D : Ends} {σ : St} {H : Hp} {b : Bool} (hc : TB c σ H b) (k : ∀ H', Same H H' → if b = true then t { D with nx := v D } σ H' else u { D with nx := v D } σ H') : tSeq (tIfS c t u) v D σ H := hc _ k
theorem oneIf {c : TT} {t u : TS} {D : Ends} {σ : St} {H : Hp} {b : Bool} (hc : TB c σ H b) (k : ∀ H', Same H H' → if b = true then t D σ H' else u D σ H') : tIfS c t u D σ H := hc _ k
end Rd
namespace Rd
open PySem L2
theorem nxt {D : Ends} {σ : St} {H : Hp} (h : D.nx σ H) : tNext D σ H := h
end Rd
namespace Rd
open PySem L2
/-! ### exceptions -/
/-- C0.__init__ read off the class C0 -/
structure REx (K : PySem.W.Frag) (C0 : Addr) : Prop where
  sga : PySem.W.specialIn K (.ref C0) "__getattribute__" = some (some (.builtin "type.__getattribute__"))
  ty : PySem.W.typeIn K (.ref C0) = some (.type "type")
  rd : PySem.W.readsIn K C0 (.type "type") = true
  fc : PySem.W.findCls K (.ref C0) (.type "type") "__init__" = some (.val (.builtin "ValueError.__init__"))
def rexB (K : PySem.W.Frag) (x : Str) : Bool := He.eqO (PySem.W.specialIn K (.ref (He.ga K x)) "__getattribute__") (some (some (.builtin "type.__getattribute__"))) && (decide (PySem.W.typeIn K (.ref (He.ga K x)) = some (.type "type")) && (PySem.W.readsIn K (He.ga K x) (.type "type") &&
  (match PySem.W.findCls K (.ref (He.ga K x)) (.type "type") "__init__" with
    | some (.val (.builtin n)) => decide (n = "ValueError.__init__")
    | _ => false)))
theorem rexB_ok {K : PySem.W.Frag} {x : Str} (h : rexB K x = true) : REx K (He.ga K x) := by
  obtain ⟨h1, h⟩ := He.ba h
  obtain ⟨h2, h⟩ := He.ba h
  obtain ⟨h3, h4⟩ := He.ba h
  refine ⟨He.eqO_ok h1, of_decide_eq_true h2, h3, ?_⟩
  split at h4
  · rename_i n e
    rw [e, of_decide_eq_true h4]
  · cases h4
section
variable {X : Cx} {e : Expr} {es : List Expr} {ta : TA} {p1 p2 pos : Pos}
theorem pe_reinit {pl : Sem Bool} {x : Str} {C0 : Addr} (hg : Gl X x) (hm : X.mg x = some (.ref C0)) (R0 : REx X.K C0) (ha : PA X (e :: es) ta) (hd : (x == ("__debug__" : Str)) = false := by decide)
    (hc : eval (.Call (.Attribute (.Name x p1) "__init__" p2) (e :: es) [] pos) X.env = (do
      let ov ← eval (.Name x p1) X.env
      standAt p2.atName
      let (f, first) ← holding [ov] (getMethod ov "__init__" pl)
      callWith pos f first (backTo pos (starEach (e :: es) X.env)) (backToKw pos (keywordEach [] X.env))) := by rfl)
    (he : starEach (e :: es) X.env = (false, eval e X.env) :: starEach es X.env := by rfl) (hpl : (backTo pos (starEach es X.env)).any (·.1) = false := by rfl) :
    PE X (.Call (.Attribute (.Name x p1) "__init__" p2) (e :: es) [] pos) (tVeI X.K ta) := by
  refine ⟨fun pins s σ H Q I h => ?_⟩
  refine PySem.W.methodCall_KW (ld_glob I hg hm ?_ hd) hc
  obtain ⟨m, fr⟩ := I.fr
  refine PySem.W.method_of_cls fr I.ok.mod.kin R0.sga (PySem.W.cls_val fr I.ok.mod.kin R0.ty R0.rd R0.fc (by decide +kernel) ?_)
  show wpAny _ _ (callWith pos (Value.builtin "ValueError.__init__") [] (backTo pos (starEach (e :: es) X.env)) []) _ _ _
  refine PyProof.Rows.callWith_method1 (thn (ha.run pos pins _ σ H _ (I.tok _) h) fun us s1 ⟨vs, H1, I1, r1, a, C, ws, ev, hl, T, ea, q⟩ => ?_) he hpl
  subst ev
  cases r1 with
  | @cons _ u0 _ ur ra rw' =>
    obtain rfl : u0 = Value.ref a := ra
    have hlen : ur.length ≤ sizeLine := by
      rw [← Paired.length rw', sizeLine_eq]
      omega
    exact oinit_ok T I1 ea hlen fun s' J => ⟨.non, H1, J, rfl, q⟩
end
/-- the __init__ of an exception with one field -/
def spX1 (K : PySem.W.Frag) (f : Str) : Sp := fun vs H Q _ => ∃ (a C : Addr) (v : V), vs = [.ref a, v] ∧ OexC K C ∧ PySem.W.findIn K (.ref C) f = some none ∧ H a = some (exo a C none) ∧
  ∀ dx, H dx = none → dx ≠ a → Q .non (upd (upd H dx (exd dx [(f, v)])) a (exo a C (some dx)))
/-- reading a raise of such an exception, behind its argument -/
theorem rd_raise1 {K : PySem.W.Frag} {C : Addr} {f : Str} {v : V} {H1 : Hp} {R : XK} (T : OexC K C) (no : PySem.W.findIn K (.ref C) f = some none)
    (k : ∀ d H', Same H1 H' → H1 d = none → H' d = some (.xd [(f, v)]) → R (.ref C) (some d) H') :
    ([v] : List V).length ≤ 1000 ∧ ∀ a, H1 a = none → spX1 K f (.ref a :: ([v] ++ [])) (upd H1 a (exo a C none)) (fun v' H2 => v' = .non ∧ ∃ (d : Addr) (fs : List (Str × V)), H2 a = some (exo a C (some d)) ∧ H2 d = some (exd d fs) ∧ H1 d = none ∧ R (.ref C) (some d) (upd (del H2 a) d (.xd fs))) (fun _ _ _ => False) := by
  refine ⟨by show 1 ≤ 1000; decide, fun a ha => ⟨a, C, v, rfl, T, no, upd_same, fun dx hdx ne => ⟨rfl, dx, [(f, v)], upd_same, ?_, ?_, ?_⟩⟩⟩
  · rw [upd_ne ne, upd_same]
  · rw [upd_ne ne] at hdx
    exact hdx
  · rw [upd_ne ne] at hdx
    refine k dx _ (fun b o e => ?_) hdx upd_same
    rw [upd_ne (ne_of_none e hdx), del_ne (ne_of_none e ha), upd_ne (ne_of_none e ha), upd_ne (ne_of_none e hdx), upd_ne (ne_of_none e ha)]
    exact e
/-! ### methods -/
structure Mh (K : PySem.W.Frag) (c m q : Str) (st : Stmt) : Prop where
  ex : ∃ fd, FunD K m q (defArgs st) (defBody st) (defScope st) [] [] (He.ma K (He.ga K c) m) fd
  me : Meth K (He.ga K c) m (He.ma K (He.ga K c) m)
structure Fm (P : Program) (w : World) (K : PySem.W.Frag) (mg : Str → Option Value) (base : Heap) (CX : CXT) (k : Nat) (c m : Str) (ps : List Str) (sp : Sp) : Prop where
  ex : ∃ fd, FnOk P w K mg base CX k (He.ma K (He.ga K c) m) fd ps sp ∧ Binds K fd ps []
  me : Meth K (He.ga K c) m (He.ma K (He.ga K c) m)
section
variable {P : Program} {w : World} {K : PySem.W.Frag} {mg : Str → Option Value} {base : Heap} {CX : CXT} {k : Nat} {c m q : Str} {ps N : List Str} {sp : Sp} {st : Stmt}
theorem Mh.ok (F : Mh K c m q st) (S : FnScope N ps (defScope st))
    (hb : ∀ (kV doc pm : Value) (an : Option Addr) (cdv ct : Value) (us : List Value), us.length = ps.length → bindArgs (PySem.W.fnOf m q (defArgs st) (defBody st) (defScope st) .none kV doc pm an cdv ct) ⟨us, []⟩ = pure (ps.zip us))
    (len : ∀ vs H Q E, sp vs H Q E → vs.length = ps.length)
    (hbody : ∀ (cdv : Value) (A : Around) (outer : List Env) (s : Shared) (H : Hp) (vs : List V) (Q : VK) (E : XK), Room k (A.deeper (PyProof.Rows.envOfC q (defScope st) s.heap.objs.size (He.ma K (He.ga K c) m) cdv)) → sp vs H Q E →
      ∃ t, PSs (cxOf CX P w K mg base N q (defScope st) (He.ma K (He.ga K c) m) cdv A outer s H E) (defBody st) t ∧ t { nx := fun _ H' => Q .non H', rt := Q } (start N vs) H) : Fm P w K mg base CX (k + 1) c m ps sp := by
  obtain ⟨fd, F'⟩ := F.ex
  exact ⟨⟨fd, F'.ok S len hbody, F'.bindsN hb⟩, F.me⟩
theorem Mh.ok0 (F : Mh K c m q st) (S : FnScope N ps (defScope st))
    (hb : ∀ (kV doc pm : Value) (an : Option Addr) (cdv ct : Value) (us : List Value), us.length = ps.length → bindArgs (PySem.W.fnOf m q (defArgs st) (defBody st) (defScope st) .none kV doc pm an cdv ct) ⟨us, []⟩ = pure (ps.zip us))
    (len : ∀ vs H Q E, sp vs H Q E → vs.length = ps.length)
    (hbody : ∀ (cdv : Value) (A : Around) (outer : List Env) (s : Shared) (H : Hp) (vs : List V) (Q : VK) (E : XK), Room k (A.deeper (PyProof.Rows.envOfC q (defScope st) s.heap.objs.size (He.ma K (He.ga K c) m) cdv)) → sp vs H Q E →
      ∃ t, PSs (cxOf CX0 P w K mg base N q (defScope st) (He.ma K (He.ga K c) m) cdv A outer s H E).nox (defBody st) t ∧ t { nx := fun _ H' => Q .non H', rt := Q } (start N vs) H) : Fm P w K mg base CX0 (k + 1) c m ps sp :=
  F.ok S hb len fun cdv A outer s H vs Q E hr h => by
    obtain ⟨t, h1, h2⟩ := hbody cdv A outer s H vs Q E hr h
    exact ⟨t, h1.nox, h2⟩
end
section
variable {X : Cx} {CX : CXT} {k : Nat} {ps : List Str} {sp : Sp} {E : XK} {x c m : Str} {p pos apos : Pos} {e o : Expr} {es : List Expr} {t : TA} {ta : TE}
theorem pe_fm {pl : Sem Bool} (he : PE X o ta) (cl : Cls X.K (He.ga X.K c)) (F : Fm X.prog X.w X.K X.mg X.base CX k c m ps sp) (hr : Room k X.A) (hx : Passes CX X E) (ha : PA X (e :: es) t)
    (hst : starEach (e :: es) X.env = (false, eval e X.env) :: starEach es X.env := by rfl) (hpl : (backTo pos (starEach es X.env)).any (·.1) = false := by rfl)
    (ht : eval (.Call (.Attribute o m apos) (e :: es) [] pos) X.env = (do
      let ov ← eval o X.env
      standAt apos.atName
      let (f, first) ← holding [ov] (getMethod ov m pl)
      callWith pos f first (backTo pos (starEach (e :: es) X.env)) (backToKw pos (keywordEach [] X.env))) := by rfl) :
    PE X (.Call (.Attribute o m apos) (e :: es) [] pos) (tMeth (He.ga X.K c) m sp [] E ta t) := by
  obtain ⟨⟨fd, a, b⟩, me⟩ := F
  exact pe_meth he cl me a hr b .nil hx ha hst hpl ht
theorem pe_fm0 {pl : Sem Bool} (he : PE X o ta) (cl : Cls X.K (He.ga X.K c)) (F : Fm X.prog X.w X.K X.mg X.base CX k c m ps sp) (hr : Room k X.A) (hx : Passes CX X E)
    (ht : eval (.Call (.Attribute o m apos) [] [] pos) X.env = (do
      let ov ← eval o X.env
      standAt apos.atName
      let (f, first) ← holding [ov] (getMethod ov m pl)
      callWith pos f first (backTo pos (starEach [] X.env)) (backToKw pos (keywordEach [] X.env))) := by rfl) :
    PE X (.Call (.Attribute o m apos) [] [] pos) (tMeth (He.ga X.K c) m sp [] E ta tNil) := by
  obtain ⟨⟨fd, a, b⟩, me⟩ := F
  exact pe_meth0 he cl me a hr b .nil hx ht
end
/-! ### an exception class with one field, as the head tells it -/
structure Xh (K : PySem.W.Frag) (mg : Str → Option Value) (x f q : Str) (st : Stmt) : Prop where
  g : mg x = some (.ref (He.ga K x))
  oex : OexC K (He.ga K x)
  no : PySem.W.findIn K (.ref (He.ga K x)) f = some none
  init : Mh K x "__init__" q st
  xf : XfC K (He.ga K x)
  em : PySem.W.exmOne K (.ref (He.ga K x)) (.ref (He.ga K x)) = some true
section
variable {X : Cx} {k : Nat} {x f : Str} {p pos : Pos} {e : Expr} {te : TE} {ps : List Str} {sp : Sp}
theorem pmk_x {ta : TA} {es : List Expr} {q : Str} {st : Stmt} (T : Xh X.K X.mg x f q st) (F : Fm X.prog X.w X.K X.mg X.base CX0 k x "__init__" ps sp) (hr : Room (k + 1) X.A) (hg : Gl X x) (ha : PA X (e :: es) ta)
    (hdb : (x == ("__debug__" : Str)) = false := by decide) (he : starEach (e :: es) X.env = (false, eval e X.env) :: starEach es X.env := by rfl) (hpl : (backTo pos (starEach es X.env)).any (·.1) = false := by rfl) :
    PMk X (.Call (.Name x p) (e :: es) [] pos) (tMkO (He.ga X.K x) sp [] ta) := by
  obtain ⟨⟨fd, a, b⟩, me⟩ := F
  exact pmk_oex T.oex me.at_ (beq_iff_eq.mp me.fn) a hr b .nil (fun _ _ _ _ _ _ _ h => h.elim) hg T.g ha hdb he hpl
end
/-! ### a class with one default in its __init__ -/
structure Ih (K : PySem.W.Frag) (mg : Str → Option Value) (c q : Str) (st : Stmt) (dvs : List V) : Prop where
  ex : ∃ fd, FunD K "__init__" q (defArgs st) (defBody st) (defScope st) dvs [] (He.ma K (He.ga K c) "__init__") fd
  mkr : Mk K (He.ga K c) (He.ma K (He.ga K c) "__init__")
  g : mg c = some (.ref (He.ga K c))
  cl : Cls K (He.ga K c)
structure Fi (P : Program) (w : World) (K : PySem.W.Frag) (mg : Str → Option Value) (base : Heap) (CX : CXT) (k : Nat) (c : Str) (ps : List Str) (sp : Sp) (v : V) : Prop where
  ex : ∃ fd, FnOk P w K mg base CX k (He.ma K (He.ga K c) "__init__") fd ps sp ∧ Binds K fd ps [] ∧ ∃ ds, Vals [v] ds ∧ Binds K fd ps ds
  mkr : Mk K (He.ga K c) (He.ma K (He.ga K c) "__init__")
  g : mg c = some (.ref (He.ga K c))
section
variable {P : Program} {w : World} {K : PySem.W.Frag} {mg : Str → Option Value} {base : Heap} {CX : CXT} {k : Nat} {c q : Str} {ps N : List Str} {sp : Sp} {st : Stmt} {v : V}
theorem Ih.ok {n : Nat} (F : Ih K mg c q st [v]) (S : FnScope N ps (defScope st)) (hn : ps.length = n + 1)
    (hb1 : ∀ (T : Addr) (kV doc pm : Value) (an : Option Addr) (cdv ct : Value) (us its : List Value), us.length = n → its.length = 1 →
      ∃ k, bindArgs (PySem.W.fnOf "__init__" q (defArgs st) (defBody st) (defScope st) (.ref T) kV doc pm an cdv ct) ⟨us, []⟩ = seqItems? (.ref T) >>= k ∧ k (some its.toArray) = pure (ps.zip (us ++ its.drop 0)))
    (hb2 : ∀ (T : Addr) (kV doc pm : Value) (an : Option Addr) (cdv ct : Value) (us its : List Value), us.length = n + 1 → its.length = 1 →
      ∃ k, bindArgs (PySem.W.fnOf "__init__" q (defArgs st) (defBody st) (defScope st) (.ref T) kV doc pm an cdv ct) ⟨us, []⟩ = seqItems? (.ref T) >>= k ∧ k (some its.toArray) = pure (ps.zip (us ++ its.drop 1)))
    (len : ∀ vs H Q E, sp vs H Q E → vs.length = ps.length)
    (hbody : ∀ (cdv : Value) (A : Around) (outer : List Env) (s : Shared) (H : Hp) (vs : List V) (Q : VK) (E : XK), Room k (A.deeper (PyProof.Rows.envOfC q (defScope st) s.heap.objs.size (He.ma K (He.ga K c) "__init__") cdv)) → sp vs H Q E →
      ∃ t, PSs (cxOf CX P w K mg base N q (defScope st) (He.ma K (He.ga K c) "__init__") cdv A outer s H E) (defBody st) t ∧ t { nx := fun _ H' => Q .non H', rt := Q } (start N vs) H) : Fi P w K mg base CX (k + 1) c ps sp v := by
  obtain ⟨fd, F'⟩ := F.ex
  have b1 := F'.binds1 (ps := ps) n 0 (List.cons_ne_nil _ _) (by rw [hn]; rfl) hb1
  obtain ⟨ds, e, b2⟩ := F'.binds1 (ps := ps) (n + 1) 1 (List.cons_ne_nil _ _) (by rw [hn]; rfl) hb2
  cases e
  exact ⟨⟨fd, F'.ok S len hbody, b2, b1⟩, F.mkr, F.g⟩
end
section
variable {X : Cx} {CX : CXT} {k : Nat} {ps : List Str} {sp : Sp} {E : XK} {c : Str} {p pos : Pos} {e : Expr} {es : List Expr} {t : TA} {v : V}
/-- C(.., ..), every argument written -/
theorem pe_mk2 (F : Fi X.prog X.w X.K X.mg X.base CX k c ps sp v) (hr : Room (k + 1) X.A) (hg : Gl X c) (hx : Passes CX X E)
    (ha : PA X (e :: es) t) (hdb : (c == ("__debug__" : Str)) = false := by decide) (he : starEach (e :: es) X.env = (false, eval e X.env) :: starEach es X.env := by rfl) (hpl : (backTo pos (starEach es X.env)).any (·.1) = false := by rfl) :
    PE X (.Call (.Name c p) (e :: es) [] pos) (tMake (He.ga X.K c) sp [] E t) := by
  obtain ⟨⟨fd, a, b, _⟩, M, g⟩ := F
  exact pe_make M a hr hg g b .nil hx ha hdb he hpl
/-- .. the last by its default -/
theorem pe_mk1 (F : Fi X.prog X.w X.K X.mg X.base CX k c ps sp v) (hr : Room (k + 1) X.A) (hg : Gl X c) (hx : Passes CX X E)
    (ha : PA X (e :: es) t) (hdb : (c == ("__debug__" : Str)) = false := by decide) (he : starEach (e :: es) X.env = (false, eval e X.env) :: starEach es X.env := by rfl) (hpl : (backTo pos (starEach es X.env)).any (·.1) = false := by rfl) :
    PE X (.Call (.Name c p) (e :: es) [] pos) (tMake (He.ga X.K c) sp [v] E t) := by
  obtain ⟨⟨fd, a, _, ds, e1, b⟩, M, g⟩ := F
  exact pe_make M a hr hg g b e1 hx ha hdb he hpl
end
end Rd
namespace Rd
open PySem L2
/-! ### the hook: as the library's, with the statics -/
def frY (n : Nat) (g : Addr → Option Obj) : PySem.W.Frag := He.frG g (cStatics :: He.asD g n)
abbrev AlY : Type := He.AlT × Bool
structure SaysY (fa : List He.Fa) (fn : List He.DefD) (ts : List He.Tab) (ex : PySem.W.Frag → Bool) (w : World) (K : PySem.W.Frag) : Prop where
  t : He.SaysT fa fn ts w K
  more : ex K = true
def obsY (n : Nat) (fa : List He.Fa) (fn : List He.DefD) (ts : List He.Tab) (ex : PySem.W.Frag → Bool) (g : Addr → Option Obj) : AlY := (He.obsT fa fn ts (frY n g), ex (frY n g))
def valY (fn : List He.DefD) (ts : List He.Tab) (w : World) : AlY := (He.valT fn ts w, true)
def hookY (n : Nat) (fa : List He.Fa) (fn : List He.DefD) (ts : List He.Tab) (ex : PySem.W.Frag → Bool) : PySem.W.Hook where
  α := AlY
  obs := fun s => obsY n fa fn ts ex s.heap.get?
  val := fun w => valY fn ts w
  says := fun w h => ∃ K : PySem.W.Frag, K.In h ∧ SaysY fa fn ts ex w K
  of := fun _ _ e => ⟨_, He.frG_in, ⟨congrArg (fun z : AlY => z.1) e, congrArg (fun z : AlY => z.2) e⟩⟩
  keeps := fun _ _ _ ⟨K, hK, c⟩ k => ⟨K, PySem.W.Frag.In.keeps hK k, c⟩
theorem obsY_eq {n : Nat} {fa : List He.Fa} {fn : List He.DefD} {ts : List He.Tab} {ex : PySem.W.Frag → Bool} {g : Addr → Option Obj} {s : Shared} (h : ∀ a, g a = s.heap.get? a) : obsY n fa fn ts ex g = (hookY n fa fn ts ex).obs s := by
  have e : g = s.heap.get? := funext h
  rw [e] <;> rfl
end Rd
namespace Rd
open PySem L2
/-! ### a written dict of the module: text keys, int values -/
structure Kd (w : World) (K : PySem.W.Frag) (mg : Str → Option Value) (x : Str) (kvs : List (Str × Int)) : Prop where
  g : mg x = some (.ref (He.ga K x))
  kd : ∃ es n, KDict K w (He.ga K x) es n
  no : ∀ z, z ∉ kvs.map (·.1) → PySem.W.nsIn K (He.ga K x) z = some none
  ys : ∀ p ∈ kvs, ∃ t, PySem.W.nsIn K (He.ga K x) p.1 = some (some (.int p.2 t))
def kdB (K : PySem.W.Frag) (a : Addr) (kvs : List (Str × Int)) : Bool := (match K.lookup a with
  | some ⟨_, _, .dict es _, _⟩ => es.toList.all fun e => (match e.key with
    | .str x _ => (kvs.map (·.1)).contains x
    | _ => false)
  | _ => false) && kvs.all fun p => (match PySem.W.nsIn K a p.1 with
    | some (some (.int i _)) => decide (i = p.2)
    | _ => false)
theorem kd_ok {w : World} {K : PySem.W.Frag} {mg : Str → Option Value} {x : Str} {kvs : List (Str × Int)} (g : mg x = some (.ref (He.ga K x))) (kd : ∃ es n, KDict K w (He.ga K x) es n) (h : kdB K (He.ga K x) kvs = true) : Kd w K mg x kvs := by
  obtain ⟨h1, h2⟩ := He.ba h
  refine ⟨g, kd, fun z hz => ?_, fun p hp => ?_⟩
  · obtain ⟨es, n, D⟩ := kd
    rw [D.at_] at h1
    have h3 : es.toList.all (fun e => (match e.key with
      | .str x _ => (kvs.map (·.1)).contains x
      | _ => false)) = true := h1
    have h4 := List.all_eq_true.mp h3
    unfold PySem.W.nsIn
    rw [D.at_]
    have e1 : es.toList.find? (·.key.isStr z) = none := by
      rw [List.find?_eq_none]
      intro e he q
      have h5 := h4 e he
      cases ek : e.key with
      | str y t =>
        rw [ek] at h5 q
        have e2 : y = z := eq_of_beq q
        subst e2
        exact hz (List.contains_iff_mem.mp h5)
      | _ =>
        rw [ek] at h5
        cases h5
    have e2 : es.toList.any (·.refKey) = false := by
      rw [List.any_eq_false]
      intro e he q
      have h5 := h4 e he
      unfold DictEntry.refKey at q
      cases ek : e.key with
      | str y t =>
        rw [ek] at q
        cases q
      | _ =>
        rw [ek] at h5
        cases h5
    show (match es.toList.find? (·.key.isStr z) with
      | some e => some (some e.val)
      | none => if es.toList.any (·.refKey) then none else some none) = some none
    rw [e1, e2]
    rfl
  · have h3 := List.all_eq_true.mp h2 p hp
    split at h3
    · rename_i i t e
      rw [e]
      exact ⟨t, by rw [of_decide_eq_true h3]⟩
    · cases h3
section
variable {X : Cx} {x : Str} {kvs : List (Str × Int)} {pos : Pos}
theorem pe_kd (D : Kd X.w X.K X.mg x kvs) (hg : Gl X x := by rfl) (hd : (x == ("__debug__" : Str)) = false := by decide) : PE X (.Name x pos) (tC (.ref (He.ga X.K x))) := pe_glob hg D.g rfl hd
def rInK (K : PySem.W.Frag) (x : Str) (kvs : List (Str × Int)) : R2 := fun a b H Q => ∃ z, a = .str z ∧ b = .ref (He.ga K x) ∧ Q (.bl (decide (z ∈ kvs.map (·.1)))) H
def rNotInK (K : PySem.W.Frag) (x : Str) (kvs : List (Str × Int)) : R2 := fun a b H Q => ∃ z, a = .str z ∧ b = .ref (He.ga K x) ∧ Q (.bl (!decide (z ∈ kvs.map (·.1)))) H
theorem Kd.look {w : World} {K : PySem.W.Frag} {mg : Str → Option Value} (D : Kd w K mg x kvs) (z : Str) : ∃ r, PySem.W.nsIn K (He.ga K x) z = some r ∧ r.isSome = decide (z ∈ kvs.map (·.1)) := by
  by_cases h : z ∈ kvs.map (·.1)
  · obtain ⟨p, hp, rfl⟩ := List.mem_map.mp h
    obtain ⟨t, e⟩ := D.ys p hp
    exact ⟨_, e, by rw [decide_eq_true h]; rfl⟩
  · exact ⟨_, D.no z h, by rw [decide_eq_false h]; rfl⟩
theorem op_inK (D : Kd X.w X.K X.mg x kvs) : OpR X (compareOp .In) (rInK X.K x kvs) := by
  intro pins s σ H a b v u Q I ra rb h
  obtain ⟨z, rfl, rfl, q⟩ := h
  obtain ⟨es, n, kd⟩ := D.kd
  obtain ⟨r, e1, e2⟩ := D.look z
  exact op_in_kd kd pins s σ H _ _ v u Q I ra rb ⟨z, r, rfl, rfl, e1, by rw [e2]; exact q⟩
theorem op_notInK (D : Kd X.w X.K X.mg x kvs) : OpR X (compareOp .NotIn) (rNotInK X.K x kvs) := by
  intro pins s σ H a b v u Q I ra rb h
  obtain ⟨z, rfl, rfl, q⟩ := h
  obtain ⟨es, n, kd⟩ := D.kd
  obtain ⟨r, e1, e2⟩ := D.look z
  exact op_notIn_kd kd pins s σ H _ _ v u Q I ra rb ⟨z, r, rfl, rfl, e1, by rw [e2]; exact q⟩
def rIxK (K : PySem.W.Frag) (x : Str) (kvs : List (Str × Int)) : R2 := fun a b H Q => ∃ p ∈ kvs, a = .ref (He.ga K x) ∧ b = .str p.1 ∧ Q (.int p.2) H
theorem ix_K (D : Kd X.w X.K X.mg x kvs) : IxR X (rIxK X.K x kvs) := by
  intro value slice pins s σ H a b v u Q I ra rb h hs
  obtain ⟨p, hp, rfl, rfl, q⟩ := h
  obtain ⟨es, n, kd⟩ := D.kd
  obtain ⟨t, e⟩ := D.ys p hp
  exact ix_kdict value slice pins s σ H _ _ v u Q I ra rb ⟨_, _, V.int p.2, rfl, rfl, ⟨es, n, _, kd.at_, kd.lit, e, ⟨t, rfl⟩⟩, q⟩ hs
end
end Rd
namespace Rd
open PySem L2
/-! ### calls whose raise is wished for at the caller's slots (in a try's body) -/
def tMakeS (C : Addr) (sp : Sp) (dvs : List V) (E : St → XK) (t : TA) : TE := fun σ H Q => t σ H fun vs H1 => ∀ x dx, H1 x = none → H1 dx = none → dx ≠ x →
  sp (.ref x :: (vs ++ dvs)) (upd (upd H1 dx (.own x)) x (.ins C dx [])) (fun v H2 => v = .non ∧ Q (.ref x) H2) (E σ)
def tMethS (C : Addr) (m : Str) (sp : Sp) (E : St → XK) (ta : TE) (t : TA) : TE := fun σ H Q => ta σ H fun x H1 => ∃ a dx fs, x = .ref a ∧ H1 a = some (.ins C dx fs) ∧ fs.lookup m = none ∧
  t σ H1 fun vs H2 => sp (x :: vs) H2 Q (E σ)
section
variable {X : Cx} {CX : CXT} {k : Nat} {ps : List Str} {sp : Sp} {E : St → XK} {x c m : Str} {p pos apos : Pos} {e o : Expr} {es : List Expr} {t : TA} {ta : TE} {v : V}
theorem run_makeS {C f : Addr} {fd : FuncData} {dvs : List V} {ds : List Value} {pins : List (Addr × Obj)} {σ : St} {H : Hp} {s : Shared} {Q : VK} {us : List Value} {vs : List V} (M : Mk X.K C f) (F : FnOk X.prog X.w X.K X.mg X.base CX k f fd ps sp) (hr : Room (k + 1) X.A) (hb : Binds X.K fd ps ds) (hd : Vals dvs ds)
    (hx : PassesAt CX X σ (E σ)) (I : Inv X pins σ H s) (r : Vals vs us)
    (h : ∀ x dx, H x = none → H dx = none → dx ≠ x → sp (.ref x :: (vs ++ dvs)) (upd (upd H dx (.own x)) x (.ins C dx [])) (fun v H2 => v = .non ∧ Q (.ref x) H2) (E σ)) :
    wpAny (model X.prog X.w) X.A (call (.ref C) us) (EP X pins σ Q) X.xe s := by
  have hq := h (s.heap.objs.size + 1) s.heap.objs.size (I.hok.fresh (Nat.le_succ _)) (I.hok.fresh (Nat.le_refl _)) (Nat.ne_of_lt (Nat.lt_succ_self _))
  have I2 := Inv.made (C := C) I
  have r2 : Vals (V.ref (s.heap.objs.size + 1) :: (vs ++ dvs)) (Value.ref (s.heap.objs.size + 1) :: (us ++ ds)) := .cons rfl (r.append hd)
  have hl : (Value.ref (s.heap.objs.size + 1) :: us ++ ds).length = ps.length := by
    have e := r2.length
    rw [F.len _ _ _ _ hq] at e
    exact e.symm
  refine wpAny_call (make_map (f := f) I.kIn M.makes M.init (beq_iff_eq.mp M.fn) (codeAny_mono (F.run _ X.stack _ _ ⟨Value.ref (s.heap.objs.size + 1) :: us, []⟩ (Value.ref (s.heap.objs.size + 1) :: (us ++ ds)) _ _ (E σ) (hr.make C us [])
    (I2.env0.make C us []) (hb _ (Value.ref (s.heap.objs.size + 1) :: us) I2.kIn hl) r2 hq) fun r s' hq' => ?_))
  cases r with
  | error e => exact hx pins _ _ e s' I2 hq'
  | ok fl =>
    cases fl with
    | ret u =>
      obtain ⟨v, H', I3, rv, ev, q3⟩ := I2.after hq'
      subst ev
      exact ⟨rv, ⟨V.ref (s.heap.objs.size + 1), H', I3, rfl, q3⟩⟩
    | next => exact False.elim hq'
    | brk => exact False.elim hq'
    | cont => exact False.elim hq'
theorem pe_mk1S (F : Fi X.prog X.w X.K X.mg X.base CX k c ps sp v) (hr : Room (k + 1) X.A) (hg : Gl X c) (hx : ∀ σ, PassesAt CX X σ (E σ))
    (ha : PA X (e :: es) t) (hdb : (c == ("__debug__" : Str)) = false := by decide) (he : starEach (e :: es) X.env = (false, eval e X.env) :: starEach es X.env := by rfl) (hpl : (backTo pos (starEach es X.env)).any (·.1) = false := by rfl) :
    PE X (.Call (.Name c p) (e :: es) [] pos) (tMakeS (He.ga X.K c) sp [v] E t) := by
  obtain ⟨⟨fd, a, _, ds, e1, b⟩, M, g⟩ := F
  refine ⟨fun pins s σ H Q I h => ?_⟩
  refine wpAny_Call_Name_kw (ld_glob I hg g ?_ hdb)
  refine PySem.W.callWith_K (h₀ := X.base) I.ok.mod.kin M.kp (thn (ha.run pos pins s σ H _ I h) fun us s1 ⟨vs, H1, I1, r, q⟩ => ⟨I1.kIn, ?_⟩) he hpl
  exact run_makeS M a hr b e1 (hx σ) I1 r q
theorem pe_fkS (F : Fk X.prog X.w X.K X.mg X.base CX k x ps sp) (hr : Room k X.A) (hg : Gl X x) (hx : ∀ σ, PassesAt CX X σ (E σ))
    (ha : PA X (e :: es) t) (hdb : (x == ("__debug__" : Str)) = false := by decide) (he : starEach (e :: es) X.env = (false, eval e X.env) :: starEach es X.env := by rfl) (hpl : (backTo pos (starEach es X.env)).any (·.1) = false := by rfl) :
    PE X (.Call (.Name x p) (e :: es) [] pos) (tCallS sp E t) := by
  obtain ⟨⟨fd, a, b⟩, c, d⟩ := F
  exact pe_callS a hr hg c d b hx ha hdb he hpl
end
end Rd
namespace Rd
open PySem L2
/-! ### own operators -/
theorem at0 {X : Cx} {σ : St} : PassesAt CX0 X σ E0 := fun _ _ _ _ _ _ h => h.elim
theorem back_of {X : Cx} {pins : List (Addr × Obj)} {σ : St} {Q : VK} {v : Value} {s : Shared} (h : EP X pins σ Q v s) : PySem.W.CmpBack (EP X pins σ Q) v s := by
  obtain ⟨x, H', I', r, q⟩ := id h
  cases v with
  | notImplemented =>
    cases x with
    | non => cases r
    | bl b => cases r
    | int i => obtain ⟨t, e⟩ := r; cases e
    | str z => obtain ⟨t, e⟩ := r; cases e
    | byt b => obtain ⟨t, e⟩ := r; cases e
    | flt b => obtain ⟨t, e⟩ := r; cases e
    | ref a => cases r
    | ty n => cases r
  | _ => exact h
def tBo (C : Addr) (sp : Sp) (E : St → XK) (ta tb : TE) : TE := fun σ H Q => ta σ H fun x H1 => tb σ H1 fun y H2 => ∃ a b dx dy fs gs, x = .ref a ∧ y = .ref b ∧ H2 a = some (.ins C dx fs) ∧ H2 b = some (.ins C dy gs) ∧ sp [.ref a, .ref b] H2 Q (E σ)
def tUo (C : Addr) (sp : Sp) (E : St → XK) (ta : TE) : TE := fun σ H Q => ta σ H fun x H1 => ∃ a dx fs, x = .ref a ∧ H1 a = some (.ins C dx fs) ∧ sp [.ref a] H1 Q (E σ)
section
variable {X : Cx} {CX : CXT} {k : Nat} {ps : List Str} {sp : Sp} {E : St → XK} {c m : Str} {pos : Pos} {a b : Expr} {ta tb : TE}
theorem pe_bo {op : Operator} (ha : PE X a ta) (hb : PE X b tb) (sf : PySem.W.selfFirst X.K (He.ga X.K c) = true) (F : Fm X.prog X.w X.K X.mg X.base CX k c m ps sp) (hr : Room k X.A) (hx : ∀ σ, PassesAt CX X σ (E σ)) (hm : PySem.dunder op.info.2 = m := by decide +kernel) :
    PE X (.BinOp a op b pos) (tBo (He.ga X.K c) sp E ta tb) := by
  obtain ⟨⟨fd, f1, b1⟩, me⟩ := F
  refine ⟨fun pins s σ H Q I h => ?_⟩
  refine wpAny_BinOp (binT ha hb I h fun v u s2 x y H2 I2 rx ry q => ?_)
  obtain ⟨p, r, dx, dy, fs, gs, rfl, rfl, hp, hr2, q⟩ := q
  cases rx
  cases ry
  obtain ⟨mA, J, _⟩ := ins_get I2.hok hp
  obtain ⟨mB, J', _⟩ := ins_get I2.hok hr2
  obtain ⟨od, J, _⟩ := J.look
  obtain ⟨od', J', _⟩ := J'.look
  obtain ⟨mm, hF⟩ := I2.fr
  refine PySem.W.binop_K hF I2.ok.mod.kin J J'.type sf (by rw [hm]; exact me.at_) me.fn (thn (run_fnS (vs := [.ref p, .ref r]) (E := E) f1 hr b1 (hx σ) I2 (.cons rfl (.cons rfl .nil)) q) fun v s' hq => back_of hq)
theorem pe_uo {op : UnaryOp} (ha : PE X a ta) (F : Fm X.prog X.w X.K X.mg X.base CX k c m ps sp) (hr : Room k X.A) (hx : ∀ σ, PassesAt CX X σ (E σ))
    (hm : (op = .Invert ∧ m = "__invert__") ∨ (op = .UAdd ∧ m = "__pos__") ∨ (op = .USub ∧ m = "__neg__")) : PE X (.UnaryOp op a pos) (tUo (He.ga X.K c) sp E ta) := by
  obtain ⟨⟨fd, f1, b1⟩, me⟩ := F
  refine ⟨fun pins s σ H Q I h => ?_⟩
  refine PyProof.Rows.UnaryOp_ (thn (ha.run pins s σ H _ I h) fun v s1 ⟨x, H1, I1, r1, q1⟩ => ?_)
  obtain ⟨p, dx, fs, rfl, hp, q⟩ := q1
  cases r1
  obtain ⟨mA, J, _⟩ := ins_get I1.hok hp
  obtain ⟨od, J, _⟩ := J.look
  have go : wpAny (model X.prog X.w) X.A (callSpecial? (.ref p) m) (fun r s' => ∃ v, r = some v ∧ EP X pins σ Q v s') X.xe s1 :=
    PySem.W.special_fn I1.kIn J me.at_ (beq_iff_eq.mp me.fn) (thn (run_fnS (vs := [.ref p]) (E := E) f1 hr b1 (hx σ) I1 (.cons rfl .nil) q) fun v s' hq => ⟨v, rfl, hq⟩)
  unfold unaryOp
  refine wpAny_holding ?_
  rcases hm with ⟨rfl, rfl⟩ | ⟨rfl, rfl⟩ | ⟨rfl, rfl⟩
  · refine wpAny_bind (thn go fun r s' ⟨v, e, hq⟩ => ?_)
    subst e
    exact wpAny_pure hq
  · refine wpAny_bind (thn go fun r s' ⟨v, e, hq⟩ => ?_)
    subst e
    exact wpAny_pure hq
  · refine wpAny_bind (thn go fun r s' ⟨v, e, hq⟩ => ?_)
    subst e
    exact wpAny_pure hq
end
end Rd
namespace Rd
open PySem L2
theorem in_strs (z : Str) : ∀ l : List Str, inV (.str z) (l.map V.str) = decide (z ∈ l)
  | [] => by simp [inV]
  | a :: r => by
    have ih := in_strs z r
    unfold inV at ih ⊢
    rw [List.map_cons, List.any_cons, ih]
    show ((a == z) || _) = _
    by_cases h : a = z
    · subst h
      simp
    · have e : (a == z) = false := by simpa using h
      rw [e, Bool.false_or]
      have h' : z ≠ a := fun q => h q.symm
      simp [h']
theorem flat_strs : ∀ l : List Str, (l.map V.str).all flatV = true
  | [] => rfl
  | a :: r => by rw [List.map_cons, List.all_cons, flat_strs r]; rfl
section
variable {X : Cx}
def rInT (K : PySem.W.Frag) : R2 := fun x y H Q => ∃ (z : Str) (p : Addr) (l : List Str), x = .str z ∧ y = .ref p ∧ SqT K H p (l.map V.str) ∧ Q (.bl (decide (z ∈ l))) H
def rNotInT (K : PySem.W.Frag) : R2 := fun x y H Q => ∃ (z : Str) (p : Addr) (l : List Str), x = .str z ∧ y = .ref p ∧ SqT K H p (l.map V.str) ∧ Q (.bl (!decide (z ∈ l))) H
theorem op_inT : OpR X (compareOp .In) (rInT X.K) := by
  intro pins s σ H x y v u Q I rx ry h
  obtain ⟨z, p, l, rfl, rfl, hs, q⟩ := h
  exact op_in_seq pins s σ H _ _ v u Q I rx ry ⟨p, _, rfl, .inr hs, rfl, flat_strs l, by show Q (.bl (inV _ _)) H; rw [in_strs]; exact q⟩
theorem op_notInT : OpR X (compareOp .NotIn) (rNotInT X.K) := by
  intro pins s σ H x y v u Q I rx ry h
  obtain ⟨z, p, l, rfl, rfl, hs, q⟩ := h
  exact op_notIn_seq pins s σ H _ _ v u Q I rx ry ⟨p, _, rfl, .inr hs, rfl, flat_strs l, by show Q (.bl (!inV _ _)) H; rw [in_strs]; exact q⟩
end
end Rd
namespace Rd
open PySem L2
/-! ### exceptions whose context is known, methods called where one is handled -/
theorem passN {X : Cx} : Passes (L2N.CX X.prog X.w) X E0 := fun _ _ _ _ _ _ _ h => by
  obtain ⟨_, _, _, _, _, _, _, _, _, _, _, _, z⟩ := h
  exact z.elim
theorem atN {X : Cx} {σ : St} : PassesAt (L2N.CX X.prog X.w) X σ E0 := fun _ _ _ _ _ I h => passN _ _ _ _ _ _ I h
theorem takes0N {X : Cx} : L2N.Takes X (fun _ _ _ _ => False) := fun _ _ x => by
  obtain ⟨_, _, _, _, _, _, _, _, _, _, _, _, _, _, _, _, z⟩ := x
  exact z.elim
section
variable {X : Cx} {k : Nat} {x f c m : Str} {p pos apos : Pos} {e o : Expr} {te : TE} {ta : TA} {ps : List Str} {sp : Sp} {CX : CXT} {to : TE}
theorem pmk_xN {es : List Expr} {q : Str} {st : Stmt} (T : Xh X.K X.mg x f q st) (Fq : Fm X.prog X.w X.K X.mg X.base CX0 k x "__init__" ps sp) (hr : Room (k + 1) X.A) (hg : Gl X x) (ha : PA X (e :: es) ta)
    (hdb : (x == ("__debug__" : Str)) = false := by decide) (he : starEach (e :: es) X.env = (false, eval e X.env) :: starEach es X.env := by rfl) (hpl : (backTo pos (starEach es X.env)).any (·.1) = false := by rfl) :
    L2N.PMk X (.Call (.Name x p) (e :: es) [] pos) (tMkO (He.ga X.K x) sp [] ta) := by
  obtain ⟨⟨fd, F1, hb⟩, me⟩ := Fq
  intro pins s σ H Q I h
  obtain ⟨nm, q', N, bs, bm, sn, sub, ab, col, dd, k0, k1, k2, k3, k5, hC, hbm⟩ := T.oex.cls
  refine wpAny_Call_Name_kw (ld_glob I hg T.g ?_ hdb)
  refine PySem.W.callWith_K (h₀ := X.base) I.ok.mod.kin T.oex.kC (thn (ha.run pos pins s σ H _ I h) fun us s1 ⟨vs, H1, I1, r1, hz, q1⟩ => ⟨I1.kIn, ?_⟩) he hpl
  show wpAny _ _ (call (.ref (He.ga X.K x)) us) _ _ _
  obtain ⟨hp, g, dr, tk, os⟩ := s1
  have hsz : hp.objs.size ≤ hp.objs.size + 1 := Nat.le_succ _
  have hn : H1 (hp.objs.size + 1) = none := I1.hok.fresh hsz
  have hq := q1 (hp.objs.size + 1) hn
  rw [List.append_nil] at hq
  have kk : ∀ b o, hp.get? b = some o → ((hp.push (PySem.W.kdv_tup us)).push (PySem.HandSPX.excO (He.ga X.K x) hp.objs.size)).get? b = some o := fun b o e => Heap.get?_push_of_some _ (Heap.get?_push_of_some _ e)
  have hget : ((hp.push (PySem.W.kdv_tup us)).push (PySem.HandSPX.excO (He.ga X.K x) hp.objs.size)).get? (hp.objs.size + 1) = some (PySem.HandSPX.excO (He.ga X.K x) hp.objs.size) := by heap_get
  have I2 : Inv X pins σ (upd H1 (hp.objs.size + 1) (exo (hp.objs.size + 1) (He.ga X.K x) none)) ⟨(hp.push (PySem.W.kdv_tup us)).push (PySem.HandSPX.excO (He.ga X.K x) hp.objs.size), g, dr, tk, os⟩ :=
    I1.laid (t' := tk) (a := hp.objs.size + 1) (o := exo (hp.objs.size + 1) (He.ga X.K x) none) (h' := (hp.push (PySem.W.kdv_tup us)).push (PySem.HandSPX.excO (He.ga X.K x) hp.objs.size)) kk hsz (exo_ok hget)
  have r2 : Vals (V.ref (hp.objs.size + 1) :: vs) (Value.ref (hp.objs.size + 1) :: us) := .cons rfl r1
  have hl : (Value.ref (hp.objs.size + 1) :: us).length = ps.length := by
    have e := r2.length
    rw [F1.len _ _ _ _ hq] at e
    exact e.symm
  have hus : us.length ≤ sizeLine := by
    rw [← Paired.length r1, sizeLine_eq]
    omega
  have hbt := hb ⟨(hp.push (PySem.W.kdv_tup us)).push (PySem.HandSPX.excO (He.ga X.K x) hp.objs.size), g, dr, tk, os⟩ (Value.ref (hp.objs.size + 1) :: us) I2.kIn (by rw [List.append_nil]; exact hl)
  rw [List.append_nil] at hbt
  refine wpAny_call (PySem.HandSPX.call_own PySem.F.excBase_ValueError (fun Y => PySem.HandSPX.refsVE_contains Y bm hbm) (I1.kIn _ _ hC) (PySem.W.looks_findIn I1.kIn me.at_) (fun self => PySem.W.bind_fn I1.kIn self (beq_iff_eq.mp me.fn)) hus
    (codeAny_mono (F1.run _ X.stack _ _ ⟨Value.ref (hp.objs.size + 1) :: us, []⟩ (Value.ref (hp.objs.size + 1) :: us) _ _ (fun _ _ _ => False) (hr.make (He.ga X.K x) us []) (I2.env0.make (He.ga X.K x) us []) hbt r2 hq) fun r s' hq' => ?_))
  cases r with
  | error er => exact hq'.elim
  | ok fl =>
    cases fl with
    | ret u =>
      obtain ⟨v, H2, os2, bare2, un2, hok2, rv, ev, d, fs, ea, ed, hd1, q2⟩ := hq'
      subst ev
      obtain ⟨h2, g2, d2, t2, os'⟩ := s'
      obtain ⟨t0, G, J, kG, ge, hoe, na⟩ := mk_end0 (d2 := d2) (t2 := t2) I1 hsz kk un2 hok2 os2 bare2 ea ed hd1
      exact ⟨rv, _, _, _, ⟨G, g2, d2, t2, os'⟩, _, .ref (He.ga X.K x), some d, rfl, J, kG, ge, hoe, ⟨rfl, rfl, fun vs e => by cases e; rfl⟩, rfl, rfl, na, rfl, bare2, raises_own T.oex.exC T.oex.tyC, q2⟩
    | next => exact False.elim hq'
    | brk => exact False.elim hq'
    | cont => exact False.elim hq'
/-- a method, called where an exception is handled -/
structure FmH (P : Program) (w : World) (K : PySem.W.Frag) (mg : Str → Option Value) (base : Heap) (CX : CXT) (k : Nat) (c m : Str) (ps : List Str) (sp : Sp) : Prop where
  ex : ∃ fd, L2H.FnH P w K mg base CX k (He.ma K (He.ga K c) m) fd ps sp ∧ Binds K fd ps []
  me : Meth K (He.ga K c) m (He.ma K (He.ga K c) m)
theorem Mh.okH {P : Program} {w : World} {K : PySem.W.Frag} {mg : Str → Option Value} {base : Heap} {N : List Str} {q : Str} {st : Stmt} (F : Mh K c m q st) (S : FnScope N ps (defScope st))
    (hb : ∀ (kV doc pm : Value) (an : Option Addr) (cdv ct : Value) (us : List Value), us.length = ps.length → bindArgs (PySem.W.fnOf m q (defArgs st) (defBody st) (defScope st) .none kV doc pm an cdv ct) ⟨us, []⟩ = pure (ps.zip us))
    (len : ∀ vs H Q E, sp vs H Q E → vs.length = ps.length)
    (hbody : ∀ (cdv : Value) (A : Around) (outer : List Env) (s : Shared) (H : Hp) (vs : List V) (Q : VK) (E : XK) (p : Addr × Obj), L2H.Hot1 A p → L2H.RoomH k (A.deeper (PyProof.Rows.envOfC q (defScope st) s.heap.objs.size (He.ma K (He.ga K c) m) cdv)) → sp vs H Q E →
      ∃ t, PSs (L2H.cxH CX P w K mg base N q (defScope st) (He.ma K (He.ga K c) m) cdv A outer s H E p) (defBody st) t ∧ t { nx := fun _ H' => Q .non H', rt := Q } (start N vs) H) : FmH P w K mg base CX (k + 1) c m ps sp := by
  obtain ⟨fd, F'⟩ := F.ex
  have hbn := F'.bindsN hb
  obtain ⟨oc, od, dV, kV, doc, pm, an, cdv, ct, osl, rfl, lk, hcd, _, _⟩ := F'.ex
  exact ⟨⟨_, L2H.fn_ofH lk hcd S len fun A outer s H vs Q E p hp hr hsp => hbody cdv A outer s H vs Q E p hp hr hsp, hbn⟩, F.me⟩
theorem pe_fmH0 {pl : Sem Bool} {E : St → XK} (he : PE X o te) (cl : Cls X.K (He.ga X.K c)) (F : FmH X.prog X.w X.K X.mg X.base CX k c m ps sp) (hr : L2H.RoomH k X.A) (hc : L2H.HotC X) (hx : ∀ σ, PassesAt CX X σ (E σ))
    (ht : eval (.Call (.Attribute o m apos) [] [] pos) X.env = (do
      let ov ← eval o X.env
      standAt apos.atName
      let (f, first) ← holding [ov] (getMethod ov m pl)
      callWith pos f first (backTo pos (starEach [] X.env)) (backToKw pos (keywordEach [] X.env))) := by rfl) :
    PE X (.Call (.Attribute o m apos) [] [] pos) (L2H.tMethH (He.ga X.K c) m sp E te tNil) := by
  obtain ⟨⟨fd, a, b⟩, me⟩ := F
  refine ⟨fun pins s σ H Q I h => ?_⟩
  refine PySem.W.methodCall_KW (pl := pl) (thn (he.run pins s σ H _ I h) fun u s1 ⟨y, H1, I1, rx, i, dx, fs, ex, ea, l, q⟩ => ?_) ht
  subst ex
  obtain rfl : u = Value.ref i := rx
  refine getmeth_ok I1 ea cl me l ?_
  exact PySem.W.callWith_K0 (first := [.ref i]) I1.kIn me.kp (L2H.run_fnH (us := [.ref i]) (vs := [.ref i]) a hr hc b (hx σ) I1 (.cons rfl .nil) q)
theorem hotC {X : Cx} {a : Addr} {oe : Obj} {cls : Value} {d : Option Addr} {pn : List (Addr × Obj)} (hz : L2N.Zn cls d oe) (hf : ∃ vs, oe.data = .fields vs) : L2H.HotC (X.suite a ((a, oe) :: pn)) := by
  obtain ⟨vs, e⟩ := hf
  exact ⟨(a, oe), ⟨rfl, vs, e, hz.2.2 vs e⟩, List.mem_cons_self⟩
end
end Rd
namespace Rd
open PySem L2
/-! ### own comparisons, isinstance of an own class -/
structure IsiC (K : PySem.W.Frag) (C : Addr) : Prop where
  ha : PySem.W.findIn K (.ref C) "__class__" = some (some (.builtin "object.__class__"))
  hn : PySem.W.specialIn K (.builtin "object.__class__") "__get__" = some (some (.builtin "getset_descriptor.__get__"))
  htk : PySem.W.takesIn K (.builtin "object.__class__") = some true
  hm : PySem.W.mroIn K C (.type "object") = some true
  ne : PySem.W.findIn K (.ref C) "__ne__" = some (some (.builtin "object.__ne__"))
def isiB (K : PySem.W.Frag) (C : Addr) : Bool := He.eqO (PySem.W.findIn K (.ref C) "__class__") (some (some (.builtin "object.__class__"))) && (He.eqO (PySem.W.specialIn K (.builtin "object.__class__") "__get__") (some (some (.builtin "getset_descriptor.__get__"))) &&
  (decide (PySem.W.takesIn K (.builtin "object.__class__") = some true) && (decide (PySem.W.mroIn K C (.type "object") = some true) && He.eqO (PySem.W.findIn K (.ref C) "__ne__") (some (some (.builtin "object.__ne__"))))))
theorem isiB_ok {K : PySem.W.Frag} {C : Addr} (h : isiB K C = true) : IsiC K C := by
  obtain ⟨h1, h⟩ := He.ba h
  obtain ⟨h2, h⟩ := He.ba h
  obtain ⟨h3, h⟩ := He.ba h
  obtain ⟨h4, h5⟩ := He.ba h
  exact ⟨He.eqO_ok h1, He.eqO_ok h2, of_decide_eq_true h3, of_decide_eq_true h4, He.eqO_ok h5⟩
theorem IsiC.ty {K : PySem.W.Frag} {C : Addr} (h : IsiC K C) (cl : Cls K C) {H : Hp} {a dx : Addr} {fs : List (Str × V)} (e : H a = some (.ins C dx fs)) : TyX K H (.ref a) (.ref C) := .base (.ins e cl h.ha h.hn h.htk h.hm)
theorem kit_self {K : PySem.W.Frag} {C : Addr} : PySem.W.kitOne K (.ref C) (.ref C) = some true := by
  unfold PySem.W.kitOne
  rw [if_pos (by simp)]
theorem pe_gcls {X : Cx} {x : Str} {pos : Pos} (hg : Gl X x) (hm : X.mg x = some (.ref (He.ga X.K x))) (hd : (x == ("__debug__" : Str)) = false := by decide) : PE X (.Name x pos) (tC (.ref (He.ga X.K x))) := pe_glob hg hm rfl hd
/-- x op y, both of the class at C, its def for op keeps sp -/
def rCmp (C : Addr) (sp : Sp) : R2 := fun x y H Q => ∃ a b dx dy fs gs, x = .ref a ∧ y = .ref b ∧ H a = some (.ins C dx fs) ∧ H b = some (.ins C dy gs) ∧ sp [.ref a, .ref b] H Q E0
/-- x != y, by __eq__'s def -/
def rNeO (C : Addr) (sp : Sp) : R2 := fun x y H Q => ∃ a b dx dy fs gs, x = .ref a ∧ y = .ref b ∧ H a = some (.ins C dx fs) ∧ H b = some (.ins C dy gs) ∧ sp [.ref a, .ref b] H (fun v H' => ∃ k, v = .bl k ∧ Q (.bl (!k)) H') E0
section
variable {X : Cx} {k : Nat} {ps : List Str} {sp : Sp} {c m : Str}
theorem op_cmp {op : CmpOp} (F : Fm X.prog X.w X.K X.mg X.base CX0 k c m ps sp) (hr : Room k X.A) (hop : ∀ a b, compareOp op a b = richCompare op a b) (hm : (cmpInfo op).2.1 = m := by rfl) : OpR X (compareOp op) (rCmp (He.ga X.K c) sp) := by
  obtain ⟨⟨fd, f1, b1⟩, me⟩ := F
  intro pins s σ H x y v u Q I rx ry h
  obtain ⟨a, b, dx, dy, fs, gs, rfl, rfl, ha, hb, q⟩ := h
  cases (show v = Value.ref a from rx)
  cases (show u = Value.ref b from ry)
  obtain ⟨mA, J, _⟩ := ins_get I.hok ha
  obtain ⟨mB, J', _⟩ := ins_get I.hok hb
  obtain ⟨od, J, _⟩ := J.look
  obtain ⟨od', J', _⟩ := J'.look
  obtain ⟨mm, hF⟩ := I.fr
  rw [hop]
  refine PySem.W.cmp_K (op := op) (tb := .ref (He.ga X.K c)) hr.units0 hF I.ok.mod.kin J J'.type (by simp [PySem.W.notFirst]) (by rw [hm]; exact me.at_) me.fn ?_
  exact thn (run_fnS (vs := [.ref a, .ref b]) (E := fun _ => E0) f1 hr b1 at0 I (.cons rfl (.cons rfl .nil)) q) fun v s' hq => back_of hq
theorem op_neO (T : IsiC X.K (He.ga X.K c)) (F : Fm X.prog X.w X.K X.mg X.base CX0 k c "__eq__" ps sp) (hr : Room (k + 1) X.A) : OpR X (compareOp .NotEq) (rNeO (He.ga X.K c) sp) := by
  obtain ⟨⟨fd, f1, b1⟩, me⟩ := F
  intro pins s σ H x y v u Q I rx ry h
  obtain ⟨a, b, dx, dy, fs, gs, rfl, rfl, ha, hb, q⟩ := h
  cases (show v = Value.ref a from rx)
  cases (show u = Value.ref b from ry)
  obtain ⟨mA, J, _⟩ := ins_get I.hok ha
  obtain ⟨mB, J', _⟩ := ins_get I.hok hb
  obtain ⟨od, J, _⟩ := J.look
  obtain ⟨od', J', _⟩ := J'.look
  have hl := f1.len _ _ _ _ q
  have r2 : Vals [V.ref a, V.ref b] [Value.ref a, Value.ref b] := .cons rfl (.cons rfl .nil)
  have bb := b1 s [.ref a, .ref b] I.kIn (by simpa using hl)
  have call : wpAny (model X.prog X.w) X.A.in1 (call (.ref (He.ma X.K (He.ga X.K c) "__eq__")) [.ref a, .ref b]) (fun r s' => ∃ kk : Bool, r = .bool kk ∧ EP X pins σ Q (.bool (!kk)) s') X.xe s := by
    refine wpAny_call (codeAny_mono (f1.run X.A.in1 X.stack s H ⟨[.ref a, .ref b], []⟩ [.ref a, .ref b] [.ref a, .ref b] _ E0 hr.in1 I.env0.in1 (by simpa using bb) r2 q) fun r s' hq => ?_)
    cases r with
    | error e => exact hq.elim
    | ok fl =>
      cases fl with
      | ret u =>
        obtain ⟨v, H', I', rv, kk, rfl, q'⟩ := I.after hq
        cases rv
        exact ⟨kk, rfl, .bl (!kk), H', I', rfl, q'⟩
      | next => exact False.elim hq
      | brk => exact False.elim hq
      | cont => exact False.elim hq
  have hu1 : X.A.in1.units < cLine := (hr.in1).units0
  have body : wpAny (model X.prog X.w) X.A.in1 (Builtin.«object.__ne__» ⟨[.ref a, .ref b], []⟩) (fun fin s' => ∃ v, fin = .done (.ret v) ∧ v ≠ .notImplemented ∧ EP X pins σ Q v s') X.xe s := by
    unfold Builtin.«object.__ne__»
    repeat (first
      | with_reducible refine wpAny_cRoomFor hu1 ?_
      | (refine wpAny_bind (m := callSpecialIfBound? (.ref a) (Str.ofString "__eq__") [.ref b]) (PySem.W.ifBound_K I.kIn J me.at_ me.fn (wpAny_mono call (fun r s' hr => by
          obtain ⟨kk, rfl, hq⟩ := hr
          exact wpAny_bind (wpAny_truthy_bool (wpAny_pure ⟨_, rfl, (fun z => nomatch z), hq⟩))) fun _ _ e => e)))
      | wp_step)
  have nec : wpAny (model X.prog X.w) X.A (PySem.call (.builtin "object.__ne__") [.ref a, .ref b]) (fun v s' => v ≠ .notImplemented ∧ EP X pins σ Q v s') X.xe s := by
    have hi : PySem.W.Looks (model X.prog X.w) s.heap (isInstance (.ref a) (.type "object")) true := J.type.andThen (PySem.W.looks_mroIn I.kIn T.hm)
    refine wpAny_call (codeAny_call_builtin F.cmp_object.ne.plain F.cmpEntry_ne (PySem.W.check_slot F.cmpKind_ne F.cmpSplit_ne hi (F.cmpArgs_ne _ _) (wpAny_mono body (fun fin s' hf => ?_) fun _ _ e => e)))
    obtain ⟨v, rfl, hv⟩ := hf
    exact hv
  have one : wpAny (model X.prog X.w) X.A (tryCompare (.ref a) "__ne__" (.ref b)) (fun r s' => ∃ v, r = some v ∧ EP X pins σ Q v s') X.xe s := by
    have fin : wpAny (model X.prog X.w) X.A (callSpecialIfBound? (.ref a) "__ne__" [.ref b]) (fun r s' => ∃ v, r = some v ∧ v ≠ .notImplemented ∧ EP X pins σ Q v s') X.xe s := by
      simp only [callSpecialIfBound?, bindSpecialIfBound?]
      refine wpAny_holding (wpAny_bind (wpAny_bind (wpAny_bind (J.type.here ((PySem.W.looks_findIn I.kIn T.ne).here ?_)))))
      refine wpAny_bind (wpAny_askSetting (wpAny_ite ?_))
      have e : wpAny (model X.prog X.w) X.A (PySem.call (.builtin "object.__ne__") ([.ref a] ++ [.ref b]) >>= fun v => pure (some v)) (fun r s' => ∃ v, r = some v ∧ v ≠ .notImplemented ∧ EP X pins σ Q v s') X.xe s :=
        wpAny_bind (wpAny_mono nec (fun v s' h' => wpAny_pure ⟨v, rfl, h'⟩) fun _ _ h' => h')
      have bd : PySem.W.Looks (model X.prog X.w) s.heap (bindSpecial (.builtin "object.__ne__") (.ref a)) (.builtin "object.__ne__", [.ref a]) := PySem.W.Looks.of_pure (F.cmp_object.ne.bind _)
      split
      · exact wpAny_bind (bd.here (wpAny_pure (by exact e)))
      · exact wpAny_tryCatch (wpAny_bind (bd.here (wpAny_pure (by exact e))))
    unfold tryCompare
    refine wpAny_bind (wpAny_mono fin (fun r s' hr => ?_) fun _ _ e => e)
    obtain ⟨v, rfl, hv, hq⟩ := hr
    cases v <;> first | exact absurd rfl hv | exact wpAny_pure ⟨_, rfl, hq⟩
  show wpAny _ _ (richCompare .NotEq (.ref a) (.ref b)) _ _ _
  unfold richCompare
  simp only [oneThing_ref]
  refine wpAny_holding (wpAny_bind (wpAny_cRoomFor hr.units0 ?_))
  refine wpAny_bind (J.type.here (wpAny_bind (J'.type.here ?_)))
  rw [show (Value.ref (He.ga X.K c) != Value.ref (He.ga X.K c)) = false from by simp]
  simp only [Bool.false_eq_true, if_false]
  refine wpAny_bind (wpAny_pure ?_)
  simp only [Bool.false_eq_true, if_false]
  refine wpAny_bind (wpAny_mono one (fun r s' z => ?_) fun _ _ e => e)
  obtain ⟨v, rfl, hq⟩ := z
  exact wpAny_pure hq
end
end Rd
namespace Rd
open PySem L2
/-! ### static methods -/
def sfn (K : PySem.W.Frag) (c m : Str) : Addr := He5.wf K (He.ga K c) "staticmethod" m
structure Sh (K : PySem.W.Frag) (mg : Str → Option Value) (c m q : Str) (st : Stmt) : Prop where
  ex : ∃ fd, FunD K m q (defArgs st) (defBody st) (defScope st) [] [] (sfn K c m) fd
  g : mg c = some (.ref (He.ga K c))
  at_ : PySem.W.findCls K (.ref (He.ga K c)) (.type "type") m = some (.get (.builtin "staticmethod.__get__") (.ref (He.ma K (He.ga K c) m)) .none (.ref (He.ga K c)))
  rc : ∃ rest, PySem.W.recIn K (He.ma K (He.ga K c) m) "staticmethod" = some (.ref (sfn K c m) :: rest)
  sga : PySem.W.specialIn K (.ref (He.ga K c)) "__getattribute__" = some (some (.builtin "type.__getattribute__"))
  ty : PySem.W.typeIn K (.ref (He.ga K c)) = some (.type "type")
  rd : PySem.W.readsIn K (He.ga K c) (.type "type") = true
def statB (K : PySem.W.Frag) (c m : Str) : Bool := He5.wrapB K (He.ga K c) "staticmethod" "staticmethod.__get__" m && (He.eqO (PySem.W.specialIn K (.ref (He.ga K c)) "__getattribute__") (some (some (.builtin "type.__getattribute__"))) &&
  (decide (PySem.W.typeIn K (.ref (He.ga K c)) = some (.type "type")) && PySem.W.readsIn K (He.ga K c) (.type "type")))
theorem sh_ok {K : PySem.W.Frag} {mg : Str → Option Value} {c m q : Str} {st : Stmt} (ex : ∃ fd, FunD K m q (defArgs st) (defBody st) (defScope st) [] [] (sfn K c m) fd) (g : mg c = some (.ref (He.ga K c))) (h : statB K c m = true) : Sh K mg c m q st := by
  obtain ⟨h1, h⟩ := He.ba h
  obtain ⟨h2, h⟩ := He.ba h
  obtain ⟨h3, h4⟩ := He.ba h
  obtain ⟨a, b⟩ := He5.wrapB_ok h1
  exact ⟨ex, g, a, b, He.eqO_ok h2, of_decide_eq_true h3, h4⟩
structure Fs (P : Program) (w : World) (K : PySem.W.Frag) (mg : Str → Option Value) (base : Heap) (CX : CXT) (k : Nat) (c m q : Str) (st : Stmt) (ps : List Str) (sp : Sp) : Prop where
  ex : ∃ fd, FnOk P w K mg base CX k (sfn K c m) fd ps sp ∧ Binds K fd ps [] ∧ PySem.W.keepIn K (.ref (sfn K c m)) = true
  sh : Sh K mg c m q st
section
variable {P : Program} {w : World} {K : PySem.W.Frag} {mg : Str → Option Value} {base : Heap} {CX : CXT} {k : Nat} {c m q : Str} {ps N : List Str} {sp : Sp} {st : Stmt}
theorem Sh.ok (F : Sh K mg c m q st) (S : FnScope N ps (defScope st))
    (hb : ∀ (kV doc pm : Value) (an : Option Addr) (cdv ct : Value) (us : List Value), us.length = ps.length → bindArgs (PySem.W.fnOf m q (defArgs st) (defBody st) (defScope st) .none kV doc pm an cdv ct) ⟨us, []⟩ = pure (ps.zip us))
    (len : ∀ vs H Q E, sp vs H Q E → vs.length = ps.length)
    (hbody : ∀ (cdv : Value) (A : Around) (outer : List Env) (s : Shared) (H : Hp) (vs : List V) (Q : VK) (E : XK), Room k (A.deeper (PyProof.Rows.envOfC q (defScope st) s.heap.objs.size (sfn K c m) cdv)) → sp vs H Q E →
      ∃ t, PSs (cxOf CX P w K mg base N q (defScope st) (sfn K c m) cdv A outer s H E) (defBody st) t ∧ t { nx := fun _ H' => Q .non H', rt := Q } (start N vs) H) : Fs P w K mg base CX (k + 1) c m q st ps sp := by
  obtain ⟨fd, F'⟩ := F.ex
  exact ⟨⟨fd, F'.ok S len hbody, F'.bindsN hb, F'.kp⟩, F⟩
end
section
variable {X : Cx} {CX : CXT} {k : Nat} {c m q : Str} {ps : List Str} {sp : Sp} {st : Stmt} {e : Expr} {es : List Expr} {ta : TA} {p1 p2 pos : Pos} {E : St → XK}
theorem pe_fs {pl : Sem Bool} (F : Fs X.prog X.w X.K X.mg X.base CX k c m q st ps sp) (hr : Room k X.A) (hg : Gl X c) (hx : ∀ σ, PassesAt CX X σ (E σ)) (ha : PA X (e :: es) ta) (hd : (c == ("__debug__" : Str)) = false := by decide)
    (hc : eval (.Call (.Attribute (.Name c p1) m p2) (e :: es) [] pos) X.env = (do
      let ov ← eval (.Name c p1) X.env
      standAt p2.atName
      let (f, first) ← holding [ov] (getMethod ov m pl)
      callWith pos f first (backTo pos (starEach (e :: es) X.env)) (backToKw pos (keywordEach [] X.env))) := by rfl)
    (he : starEach (e :: es) X.env = (false, eval e X.env) :: starEach es X.env := by rfl) (hpl : (backTo pos (starEach es X.env)).any (·.1) = false := by rfl) :
    PE X (.Call (.Attribute (.Name c p1) m p2) (e :: es) [] pos) (tCallS sp E ta) := by
  obtain ⟨⟨fd, f1, b1, kp⟩, S⟩ := F
  refine ⟨fun pins s σ H Q I h => ?_⟩
  refine PySem.W.methodCall_KW (ld_glob I hg S.g ?_ hd) hc
  obtain ⟨mm, fr⟩ := I.fr
  obtain ⟨rest, rc⟩ := S.rc
  refine PySem.W.method_of_cls fr I.ok.mod.kin S.sga (PySem.W.cls_sm fr I.ok.mod.kin S.ty S.rd S.at_ rc rfl ?_)
  refine PySem.W.callWith_K (first := []) (h₀ := X.base) I.ok.mod.kin kp (thn (ha.run pos pins _ σ H _ (I.tok _) h) fun us s1 ⟨vs, H1, I1, r1, q1⟩ => ⟨I1.kIn, ?_⟩) he hpl
  exact run_fnS (E := E) f1 hr b1 (hx σ) I1 r1 q1
end
/-! ### the hook, with defs at any address -/
abbrev AlZ : Type := AlY × He.AlD
structure SaysZ (fa : List He.Fa) (fn : List He.DefD) (ts : List He.Tab) (ex : PySem.W.Frag → Bool) (fs : List He5.DefA) (w : World) (K : PySem.W.Frag) : Prop where
  y : SaysY fa fn ts ex w K
  s : He5.SaysA [] fs K
def obsZ (n : Nat) (fa : List He.Fa) (fn : List He.DefD) (ts : List He.Tab) (ex : PySem.W.Frag → Bool) (fs : List He5.DefA) (g : Addr → Option Obj) : AlZ := (obsY n fa fn ts ex g, He5.obsA [] fs (frY n g))
def valZ (fn : List He.DefD) (ts : List He.Tab) (fs : List He5.DefA) (w : World) : AlZ := (valY fn ts w, He5.valA fs)
def hookZ (n : Nat) (fa : List He.Fa) (fn : List He.DefD) (ts : List He.Tab) (ex : PySem.W.Frag → Bool) (fs : List He5.DefA) : PySem.W.Hook where
  α := AlZ
  obs := fun s => obsZ n fa fn ts ex fs s.heap.get?
  val := fun w => valZ fn ts fs w
  says := fun w h => ∃ K : PySem.W.Frag, K.In h ∧ SaysZ fa fn ts ex fs w K
  of := fun _ _ e => ⟨_, He.frG_in, ⟨⟨congrArg (fun z : AlZ => z.1.1) e, congrArg (fun z : AlZ => z.1.2) e⟩, congrArg (fun z : AlZ => z.2) e⟩⟩
  keeps := fun _ _ _ ⟨K, hK, c⟩ k => ⟨K, PySem.W.Frag.In.keeps hK k, c⟩
theorem obsZ_eq {n : Nat} {fa : List He.Fa} {fn : List He.DefD} {ts : List He.Tab} {ex : PySem.W.Frag → Bool} {fs : List He5.DefA} {g : Addr → Option Obj} {s : Shared} (h : ∀ a, g a = s.heap.get? a) : obsZ n fa fn ts ex fs g = (hookZ n fa fn ts ex fs).obs s := by
  have e : g = s.heap.get? := funext h
  rw [e] <;> rfl
end Rd
namespace Rd
open PySem L2
/-! ### own in, own len -/
def rInO (C : Addr) (sp : Sp) (f : Bool → Bool) : R2 := fun x y H Q => ∃ b dy gs, y = .ref b ∧ H b = some (.ins C dy gs) ∧ sp [.ref b, x] H (fun v H' => ∃ k, v = .bl k ∧ Q (.bl (f k)) H') E0
def rLenO (C : Addr) (sp : Sp) : List V → Hp → VK → Prop := fun vs H Q => ∃ a dx fs, vs = [.ref a] ∧ H a = some (.ins C dx fs) ∧ sp [.ref a] H (fun v H' => ∃ n : Nat, v = .int n ∧ n < 2 ^ 62 ∧ Q (.int n) H') E0
section
variable {X : Cx} {k : Nat} {ps : List Str} {sp : Sp} {c : Str}
theorem op_inO (F : Fm X.prog X.w X.K X.mg X.base CX0 k c "__contains__" ps sp) (hr : Room k X.A) : OpR X (compareOp .In) (rInO (He.ga X.K c) sp id) := by
  obtain ⟨⟨fd, f1, b1⟩, me⟩ := F
  intro pins s σ H x y v u Q I rx ry h
  obtain ⟨b, dy, gs, rfl, hb, q⟩ := h
  cases (show u = Value.ref b from ry)
  obtain ⟨mA, J, _⟩ := ins_get I.hok hb
  obtain ⟨od, J, _⟩ := J.look
  obtain ⟨mm, hF⟩ := I.fr
  refine PySem.W.in_K hF I.ok.mod.kin J me.at_ me.fn (thn (run_fnS (vs := [.ref b, x]) (E := fun _ => E0) f1 hr b1 at0 I (.cons rfl (.cons rx .nil)) q) fun r s' hq => ?_)
  obtain ⟨z, H', I', rz, kk, rfl, q'⟩ := hq
  cases rz
  exact wpAny_truthy_bool ⟨.bl kk, H', I', rfl, q'⟩
theorem op_notInO (F : Fm X.prog X.w X.K X.mg X.base CX0 k c "__contains__" ps sp) (hr : Room k X.A) : OpR X (compareOp .NotIn) (rInO (He.ga X.K c) sp not) := by
  obtain ⟨⟨fd, f1, b1⟩, me⟩ := F
  intro pins s σ H x y v u Q I rx ry h
  obtain ⟨b, dy, gs, rfl, hb, q⟩ := h
  cases (show u = Value.ref b from ry)
  obtain ⟨mA, J, _⟩ := ins_get I.hok hb
  obtain ⟨od, J, _⟩ := J.look
  obtain ⟨mm, hF⟩ := I.fr
  refine PySem.W.notIn_K hF I.ok.mod.kin J me.at_ me.fn (thn (run_fnS (vs := [.ref b, x]) (E := fun _ => E0) f1 hr b1 at0 I (.cons rfl (.cons rx .nil)) q) fun r s' hq => ?_)
  obtain ⟨z, H', I', rz, kk, rfl, q'⟩ := hq
  cases rz
  exact wpAny_truthy_bool ⟨.bl (!kk), H', I', rfl, q'⟩
theorem call_lenO (F : Fm X.prog X.w X.K X.mg X.base CX0 k c "__len__" ps sp) (hr : Room (k + 1) X.A) : CallR X (.builtin "len") (rLenO (He.ga X.K c) sp) := by
  obtain ⟨⟨fd, f1, b1⟩, me⟩ := F
  intro pins s σ H vs us Q I r h
  obtain ⟨a, dx, fs, rfl, ha, q⟩ := h
  rw [Vals.ref1 r]
  obtain ⟨mA, J, _⟩ := ins_get I.hok ha
  obtain ⟨od, J, _⟩ := J.look
  obtain ⟨mm, hF⟩ := I.fr
  have hl := f1.len _ _ _ _ q
  have r2 : Vals [V.ref a] [Value.ref a] := .cons rfl .nil
  have bb := b1 s [.ref a] I.kIn (by simpa using hl)
  refine PySem.W.len_K hF I.ok.mod.kin J me.at_ me.fn (wpAny_call (codeAny_mono (f1.run X.A.in1 X.stack s H ⟨[.ref a], []⟩ [.ref a] [.ref a] _ E0 hr.in1 I.env0.in1 (by simpa using bb) r2 q) fun r s' hq => ?_))
  cases r with
  | error e => exact hq.elim
  | ok fl =>
    cases fl with
    | ret u =>
      obtain ⟨v, H', I', rv, n, rfl, hn, q'⟩ := I.after hq
      obtain ⟨t, rfl⟩ := rv
      exact ⟨⟨by omega, by omega⟩, .int n, H', I'.tok _, ⟨_, rfl⟩, q'⟩
    | next => exact False.elim hq
    | brk => exact False.elim hq
    | cont => exact False.elim hq
end
end Rd
namespace Rd
open PySem L2
theorem _root_.L2.Room.units65 {k : Nat} {A : Around} (r : Room k A) : A.units + 65 < cLine := by have := r.un; omega
end Rd
namespace Rd
open PySem L2
/-! ### rules with the written part named: for comprehensions -/
section
variable {X : Cx} {K : PySem.W.Frag}
theorem kIx {r : PySem.W.Frag → R2} (hK : X.K = K) (h : IxR X (r X.K)) : IxR X (r K) := hK ▸ h
theorem kOp {o : Value → Value → Sem Value} {r : PySem.W.Frag → R2} (hK : X.K = K) (h : OpR X o (r X.K)) : OpR X o (r K) := hK ▸ h
theorem kE {e : Expr} {t : PySem.W.Frag → TE} (hK : X.K = K) (h : PE X e (t X.K)) : PE X e (t K) := hK ▸ h
theorem kSl {r : PySem.W.Frag → _} (hK : X.K = K) (h : SlR X (r X.K)) : SlR X (r K) := hK ▸ h
theorem kCall {f : Value} {r : PySem.W.Frag → List V → Hp → VK → Prop} (hK : X.K = K) (h : CallR X f (r X.K)) : CallR X f (r K) := hK ▸ h
def rLenSq (K : PySem.W.Frag) : List V → Hp → VK → Prop := fun xs H Q => ∃ p ys, xs = [.ref p] ∧ (SqL K H p ys ∨ SqT K H p ys) ∧ Q (.int ys.length) H
theorem call_lenk (hK : X.K = K) : CallR X (.builtin "len") (rLenSq K) := by subst hK; exact call_len_seq
theorem pe_kdk {x : Str} {kvs : List (Str × Int)} {pos : Pos} (hK : X.K = K) (D : Kd X.w X.K X.mg x kvs) (hg : Gl X x := by rfl) (hd : (x == ("__debug__" : Str)) = false := by decide) : PE X (.Name x pos) (tC (.ref (He.ga K x))) := by subst hK; exact pe_kd D hg hd
theorem op_inKk {x : Str} {kvs : List (Str × Int)} (hK : X.K = K) (D : Kd X.w X.K X.mg x kvs) : OpR X (compareOp .In) (rInK K x kvs) := by subst hK; exact op_inK D
theorem op_notInKk {x : Str} {kvs : List (Str × Int)} (hK : X.K = K) (D : Kd X.w X.K X.mg x kvs) : OpR X (compareOp .NotIn) (rNotInK K x kvs) := by subst hK; exact op_notInK D
theorem op_inOk {k : Nat} {ps : List Str} {sp : Sp} {c : Str} (hK : X.K = K) (F : Fm X.prog X.w X.K X.mg X.base CX0 k c "__contains__" ps sp) (hr : Room k X.A) : OpR X (compareOp .In) (rInO (He.ga K c) sp id) := by subst hK; exact op_inO F hr
end
end Rd
namespace Rd
open PySem L2
/-! ### e(..): what e tells is one of some functions of the module -/
def tCallE (K : PySem.W.Frag) (L : List (Str × Sp)) (tf : TE) (t : TA) : TE := fun σ H Q => tf σ H fun x H1 => ∃ p ∈ L, x = .ref (He.ga K p.1) ∧ t σ H1 fun vs H2 => p.2 vs H2 Q E0
section
variable {X : Cx} {k : Nat} {e f : Expr} {es : List Expr} {tf : TE} {t : TA} {pos : Pos}
theorem pe_callE (L : List (Str × Sp)) (hL : ∀ p ∈ L, ∃ ps, Fk X.prog X.w X.K X.mg X.base CX0 k p.1 ps p.2) (hr : Room k X.A) (hf : PE X f tf) (ha : PA X (e :: es) t)
    (hc : eval (.Call f (e :: es) [] pos) X.env = (do callWith pos (← eval f X.env) [] (backTo pos (starEach (e :: es) X.env)) (backToKw pos (keywordEach [] X.env))) := by rfl)
    (he : starEach (e :: es) X.env = (false, eval e X.env) :: starEach es X.env := by rfl) (hpl : (backTo pos (starEach es X.env)).any (·.1) = false := by rfl) :
    PE X (.Call f (e :: es) [] pos) (tCallE X.K L tf t) := by
  refine ⟨fun pins s σ H Q I h => ?_⟩
  rw [hc]
  refine wpAny_bind (thn (hf.run pins s σ H _ I h) fun u s1 ⟨x, H1, I1, rx, p, hp, ex, q⟩ => ?_)
  subst ex
  obtain rfl : u = Value.ref (He.ga X.K p.1) := rx
  obtain ⟨ps, ⟨fd, F, b⟩, g, kp⟩ := hL p hp
  refine PySem.W.callWith_K (first := []) (h₀ := X.base) I1.ok.mod.kin kp (thn (ha.run pos pins _ σ H1 _ I1 q) fun us s2 ⟨vs, H2, I2, r2, q2⟩ => ⟨I2.kIn, ?_⟩) he hpl
  exact run_fnS (E := fun _ => E0) F hr b at0 I2 r2 q2
end
end Rd
namespace Rd
open PySem L2
section
variable {X : Cx}
/-- x in a tuple, data of any depth -/
def rInDT (K : PySem.W.Frag) : R2 := fun x y H Q => ∃ d ds, Dp K H x d ∧ Dp K H y (.tuple ds) ∧ SeqAt.shaped d = true ∧ SeqAt.shaped (.tuple ds) = true ∧ Q (.bl (ds.any fun z => PyData.eqv z d)) H
theorem op_inDT (hu : X.A.units + 65 < cLine) : OpR X (compareOp .In) (rInDT X.K) := by
  intro pins s σ H x y v u Q I rx ry h
  obtain ⟨d, ds, hd, he, sd, se, q⟩ := h
  obtain ⟨as, r1⟩ := Dp.reads I d x v hd rx
  obtain ⟨bs, r2⟩ := Dp.reads I (.tuple ds) y u he ry
  exact SeqAt.in_tuple_reads r2 r1 (SeqAt.canLay_of_shaped se) (SeqAt.canLay_of_shaped sd) (PyProof.Rows.room_in_shaped sd hu) ⟨.bl _, H, I, rfl, q⟩
end
end Rd
namespace Rd
open PySem L2
def top (i : Nat) : Stmt := PySem.Challenge.pw_openroads_k08_letter_texts_refused.main.body.getD i (.Pass ⟨0, 0, 0, 0⟩)
structure Tx (w : World) (K : PySem.W.Frag) (mg : Str → Option Value) : Prop where
  z_len : mg "len" = none
  z_all : mg "all" = none
  z_any : mg "any" = none
  z_abs : mg "abs" = none
  z_int : mg "int" = none
  z_list : mg "list" = none
  z_tuple : mg "tuple" = none
  z_range : mg "range" = none
  z_max : mg "max" = none
  z_min : mg "min" = none
  z_isinstance : mg "isinstance" = none
  z_sorted : mg "sorted" = none
  z_str : mg "str" = none
  z_set : mg "set" = none
  z_dict : mg "dict" = none
  z_enumerate : mg "enumerate" = none
  z_zip : mg "zip" = none
  z_ValueError : mg "ValueError" = none
  z_NotImplemented : mg "NotImplemented" = none
  z_sum : mg "sum" = none
  z_bool : mg "bool" = none
  c_SMALL : ∃ t, mg "SMALL" = some (.str "abcdefghijklmnopqrstuvwxyz" t)
  c_GREAT : ∃ t, mg "GREAT" = some (.str "ABCDEFGHIJKLMNOPQRSTUVWXYZ" t)
  c_DIGITS : ∃ t, mg "DIGITS" = some (.str "0123456789" t)
  D_SIGNS : Kd w K mg "SIGNS" [("pair", 2), ("seal", 2), ("lock", 2), ("mark", 1), ("open", 1), ("own", 1)]
  F_is_word : Fh K mg "is_word" (top 12)
  F_is_unknown : Fh K mg "is_unknown" (top 13)
  F_is_name : Fh K mg "is_name" (top 14)
  F_atom_tree : Fh K mg "atom_tree" (top 15)
  F_is_atom_form : Fh K mg "is_atom_form" (top 16)
  F_check_form : Fh K mg "check_form" (top 17)
  F_parts_of : Fh K mg "parts_of" (top 18)
  F_tree_text : Fh K mg "tree_text" (top 19)
  F_made_tree : Fh K mg "made_tree" (top 20)
  F__law_stream : Fh K mg "_law_stream" (top 24)
  F__law_draw : Fh K mg "_law_draw" (top 25)
  F__law_pick : Fh K mg "_law_pick" (top 26)
  F__law_word : Fh K mg "_law_word" (top 27)
  F__law_name : Fh K mg "_law_name" (top 28)
  F__law_atom : Fh K mg "_law_atom" (top 29)
  F__law_form : Fh K mg "_law_form" (top 30)
  F__law_text : Fh K mg "_law_text" (top 31)
  F__law_kind : Fh K mg "_law_kind" (top 32)
  F__law_read_at : Fh K mg "_law_read_at" (top 33)
  F__law_read : Fh K mg "_law_read" (top 34)
  F__law_spoilt : Fh K mg "_law_spoilt" (top 35)
  F__law_told : Fh K mg "_law_told" (top 36)
  g_RoadError : mg "RoadError" = some (.ref (He.ga K "RoadError"))
  r_RoadError : REx K (He.ga K "RoadError")
  X_BadAtom : Xh K mg "BadAtom" "text" "BadAtom.__init__" (inClass (top 3) 0)
  X_BadForm : Xh K mg "BadForm" "path" "BadForm.__init__" (inClass (top 4) 0)
  X_BadKey : Xh K mg "BadKey" "key" "BadKey.__init__" (inClass (top 5) 0)
  X_BadText : Xh K mg "BadText" "line" "BadText.__init__" (inClass (top 6) 0)
  f_Reader : PySem.W.selfFirst K (He.ga K "Reader") = true
  Y_Reader : IsiC K (He.ga K "Reader")
  k_Reader : Cls K (He.ga K "Reader")
  g_Reader : mg "Reader" = some (.ref (He.ga K "Reader"))
  n_Reader_signs : NoAttr K (He.ga K "Reader") "signs"
  n_Reader_at : NoAttr K (He.ga K "Reader") "at"
  n_Reader_begun : NoAttr K (He.ga K "Reader") "begun"
  J_Reader : Mk K (He.ga K "Reader") (He.ma K (He.ga K "Reader") "__init__")
  M_Reader_init : Mh K "Reader" "__init__" "Reader.__init__" (inClass (top 21) 0)
  M_Reader_takes : Mh K "Reader" "takes" "Reader.takes" (inClass (top 21) 1)
  M_Reader_word_here : Mh K "Reader" "word_here" "Reader.word_here" (inClass (top 21) 2)
  M_Reader_next_atom : Mh K "Reader" "next_atom" "Reader.next_atom" (inClass (top 21) 3)
  M_Reader_closed : Mh K "Reader" "closed" "Reader.closed" (inClass (top 21) 4)
  M_Reader_whole : Mh K "Reader" "whole" "Reader.whole" (inClass (top 21) 5)
  f_Letter : PySem.W.selfFirst K (He.ga K "Letter") = true
  Y_Letter : IsiC K (He.ga K "Letter")
  k_Letter : Cls K (He.ga K "Letter")
  g_Letter : mg "Letter" = some (.ref (He.ga K "Letter"))
  n_Letter_tree : NoAttr K (He.ga K "Letter") "tree"
  I_Letter : Ih K mg "Letter" "Letter.__init__" (inClass (top 22) 0) [.non]
  S_Letter_of : Sh K mg "Letter" "of" "Letter.of" (inClass (top 22) 1)
  S_Letter_read : Sh K mg "Letter" "read" "Letter.read" (inClass (top 22) 2)
  M_Letter_form : Mh K "Letter" "form" "Letter.form" (inClass (top 22) 3)
  M_Letter_written : Mh K "Letter" "written" "Letter.written" (inClass (top 22) 4)
  M_Letter_add : Mh K "Letter" "__add__" "Letter.__add__" (inClass (top 22) 8)
  M_Letter_mul : Mh K "Letter" "__mul__" "Letter.__mul__" (inClass (top 22) 9)
  M_Letter_xor : Mh K "Letter" "__xor__" "Letter.__xor__" (inClass (top 22) 10)
  M_Letter_invert : Mh K "Letter" "__invert__" "Letter.__invert__" (inClass (top 22) 11)
  M_Letter_pos : Mh K "Letter" "__pos__" "Letter.__pos__" (inClass (top 22) 12)
  M_Letter_neg : Mh K "Letter" "__neg__" "Letter.__neg__" (inClass (top 22) 13)
  M_Letter_eq : Mh K "Letter" "__eq__" "Letter.__eq__" (inClass (top 22) 14)
  M_Letter_lt : Mh K "Letter" "__lt__" "Letter.__lt__" (inClass (top 22) 15)
  M_Letter_le : Mh K "Letter" "__le__" "Letter.__le__" (inClass (top 22) 16)
  M_Letter_gt : Mh K "Letter" "__gt__" "Letter.__gt__" (inClass (top 22) 17)
  M_Letter_ge : Mh K "Letter" "__ge__" "Letter.__ge__" (inClass (top 22) 18)
  M_Letter_contains : Mh K "Letter" "__contains__" "Letter.__contains__" (inClass (top 22) 19)
  M_Letter_len : Mh K "Letter" "__len__" "Letter.__len__" (inClass (top 22) 20)
end Rd
namespace Rd
open PySem L2
def SMALL : Str := "abcdefghijklmnopqrstuvwxyz"
def GREAT : Str := "ABCDEFGHIJKLMNOPQRSTUVWXYZ"
def DIGITS : Str := "0123456789"
def inS (s : Str) (c : Nat) : Bool := decide (c ∈ s.cps.toList)
def isWord (z : Str) : Bool := decide (1 ≤ z.length) && (decide (z.length ≤ 8) && z.cps.toList.all (inS SMALL))
def isUnk (z : Str) : Bool := isWord z && decide (z.length ≤ 7)
def isName (z : Str) : Bool := decide (1 ≤ (Txt.rstripChars z DIGITS).length) && (decide (z.length ≤ 8) && (Txt.rstripChars z DIGITS).cps.toList.all (inS GREAT))
theorem lineBig : 200000 ≤ sizeLine := by decide
theorem allId (l : List Nat) (p : Nat → Bool) : (l.map p).all id = l.all p := by simp [List.all_map]
theorem decNat {a b : Nat} : decide ((a : Int) ≤ (b : Int)) = decide (a ≤ b) := by
  by_cases h : a ≤ b
  · rw [decide_eq_true h, decide_eq_true (by omega)]
  · rw [decide_eq_false h, decide_eq_false (by omega)]
def spTB (f : Str → Bool) : Sp := fun vs H Q _ => ∃ z : Str, vs = [.str z] ∧ z.length ≤ 200000 ∧ ∀ H', Same H H' → Q (.bl (f z)) H'
section
variable {P : Program} {w : World} {K : PySem.W.Frag} {mg : Str → Option Value} {base : Heap}
abbrev s_is_word : Stmt := top 12
theorem sc_is_word : FnScope ["text", "sign"] ["text"] (defScope s_is_word) := ⟨rfl, rfl, rfl, by decide +kernel, rfl, by decide +kernel, by decide +kernel⟩
theorem ok_is_word (T : Tx w K mg) : Fk P w K mg base CX0 1 "is_word" ["text"] (spTB isWord) := by
  refine T.F_is_word.ok0 sc_is_word (fun _ _ _ _ _ _ us hl => match us, hl with | [_], _ => rfl)
    (fun vs H Q E h => ?_) (fun cdv A outer s H vs Q E hr h => ?_)
  · obtain ⟨z, rfl, _⟩ := h
    rfl
  · obtain ⟨z, rfl, hz, k⟩ := h
    have hl : z.length ≤ sizeLine := Nat.le_trans hz lineBig
    refine ⟨_, (pss_one (ps_ret (pe_and (pe_chain op_le op_le pe_int (pe_callB call_len_str (by rfl) T.z_len (by decide +kernel) (pa_cons (pv 0) pa_nil)) pe_int) (pe_one (pe_callB (cr_all rfl) (by rfl) T.z_all (by decide +kernel) (pa_cons (pe_lc (own := [("sign", 1)]) (g := gName 1) (tt := tYes) (by rfl) sc_is_word.nd (pi_str (pv 0)) (blkOk_by (own := [("sign", 1)]) (N := ["text", "sign"]) (sc := defScope s_is_word) (by decide +kernel)) (fun _ _ _ _ _ => (pg_name (i := 1) sc_is_word.nd rfl (Or.inl rfl))) (fun _ _ _ _ _ => pts_nil) (fun _ _ _ _ _ => (pe_cmpR op_in_sign (pv 1) (pe_gstr T.c_SMALL) (by rfl)))) pa_nil)))))), ?_⟩
    refine ⟨_, rfl, z, rfl, hl, _, _, rfl, rfl, _, rfl, ?_⟩
    refine ite2 (fun h1 => ?_) (fun h1 => ⟨false, rfl, ?_⟩)
    · refine ⟨_, _, rfl, rfl, _, rfl, ?_⟩
      refine ite2 (fun h2 => ?_) (fun h2 => ?_)
      · refine ⟨_, rfl, z, rfl, fun D hD => lcs (f := fun c => V.bl (inS SMALL c)) hl (fun c H Q hc q => ⟨_, rfl, _, _, rfl, rfl, q⟩) ?_⟩
        refine ⟨D, z.cps.toList.map (inS SMALL), rfl, SqL.of (by rw [upd_same, List.map_map]; rfl), ?_⟩
        have e : isWord z = (z.cps.toList.map (inS SMALL)).all id := by
          have a1 : decide (1 ≤ z.length) = true := decide_eq_true (by have := of_decide_eq_true h1; omega)
          have a2 : decide (z.length ≤ 8) = true := decide_eq_true (by have := of_decide_eq_true h2; omega)
          rw [isWord, a1, a2, allId] <;> rfl
        show Q (V.bl ((z.cps.toList.map (inS SMALL)).all id)) _
        rw [← e]
        exact k _ (Rd.Same.upd hD)
      · have e : isWord z = false := by
          have a2 : decide (z.length ≤ 8) = false := decide_eq_false (fun q => h2 (decide_eq_true (by omega)))
          rw [isWord, a2] <;> simp
        show Q (V.bl false) _
        rw [← e]
        exact k _ (Same.refl _)
    · have e : isWord z = false := by
        have a1 : decide (1 ≤ z.length) = false := decide_eq_false (fun q => h1 (decide_eq_true (by omega)))
        rw [isWord, a1] <;> rfl
      show Q (V.bl false) _
      rw [← e]
      exact k _ (Same.refl _)
abbrev s_is_unknown : Stmt := top 13
theorem sc_is_unknown : FnScope ["text"] ["text"] (defScope s_is_unknown) := ⟨rfl, rfl, rfl, by decide +kernel, rfl, by decide +kernel, by decide +kernel⟩
theorem ok_is_unknown (T : Tx w K mg) : Fk P w K mg base CX0 2 "is_unknown" ["text"] (spTB isUnk) := by
  refine T.F_is_unknown.ok0 sc_is_unknown (fun _ _ _ _ _ _ us hl => match us, hl with | [_], _ => rfl)
    (fun vs H Q E h => ?_) (fun cdv A outer s H vs Q E hr h => ?_)
  · obtain ⟨z, rfl, _⟩ := h
    rfl
  · obtain ⟨z, rfl, hz, k⟩ := h
    have hl : z.length ≤ sizeLine := Nat.le_trans hz lineBig
    refine ⟨_, (pss_one (ps_ret (pe_and (pe_fk (ok_is_word T) (hr.mono (by omega)) rfl pass0 (pa_cons (pv 0) pa_nil)) (pe_one (pe_cmpR op_le (pe_callB call_len_str (by rfl) T.z_len (by decide +kernel) (pa_cons (pv 0) pa_nil)) pe_int (nomark _)))))), ?_⟩
    refine ⟨_, rfl, z, rfl, hz, fun H1 s1 => ⟨_, rfl, ?_⟩⟩
    refine ite2 (fun h1 => ?_) (fun h1 => ?_)
    · refine ⟨_, rfl, z, rfl, hl, _, _, rfl, rfl, ?_⟩
      have e : isUnk z = decide ((z.length : Int) ≤ 7) := by
        rw [isUnk, h1]
        exact (decNat (b := 7)).symm
      show Q (V.bl (decide ((z.length : Int) ≤ 7))) _
      rw [← e]
      exact k _ s1
    · have e : isUnk z = false := by
        rw [isUnk, Bool.eq_false_iff.mpr h1] <;> rfl
      show Q (V.bl false) _
      rw [← e]
      exact k _ s1
abbrev s_is_name : Stmt := top 14
theorem sc_is_name : FnScope ["text", "letters", "sign"] ["text"] (defScope s_is_name) := ⟨rfl, rfl, rfl, by decide +kernel, rfl, by decide +kernel, by decide +kernel⟩
theorem ok_is_name (T : Tx w K mg) : Fk P w K mg base CX0 1 "is_name" ["text"] (spTB isName) := by
  refine T.F_is_name.ok0 sc_is_name (fun _ _ _ _ _ _ us hl => match us, hl with | [_], _ => rfl)
    (fun vs H Q E h => ?_) (fun cdv A outer s H vs Q E hr h => ?_)
  · obtain ⟨z, rfl, _⟩ := h
    rfl
  · obtain ⟨z, rfl, hz, k⟩ := h
    have hl : z.length ≤ sizeLine := Nat.le_trans hz lineBig
    refine ⟨_, (pss_cons (ps_set (i := 1) sc_is_name.nd rfl (Or.inl rfl) (pe_bm PySem.F.plainAttrs_str PySem.F.slot_str_rstrip PySem.F.type_str_rstrip mt_rstripChars (pv 0) (pa_cons (pe_gstr T.c_DIGITS) pa_nil)))
  (pss_one (ps_ret (pe_and (pe_cmpR op_le pe_int (pe_callB call_len_str (by rfl) T.z_len (by decide +kernel) (pa_cons (pv 1) pa_nil)) (nomark _)) (pe_and (pe_cmpR op_le (pe_callB call_len_str (by rfl) T.z_len (by decide +kernel) (pa_cons (pv 0) pa_nil)) pe_int (nomark _)) (pe_one (pe_callB (cr_all rfl) (by rfl) T.z_all (by decide +kernel) (pa_cons (pe_lc (own := [("sign", 2)]) (g := gName 2) (tt := tYes) (by rfl) sc_is_name.nd (pi_str (pv 1)) (blkOk_by (own := [("sign", 2)]) (N := ["text", "letters", "sign"]) (sc := defScope s_is_name) (by decide +kernel)) (fun _ _ _ _ _ => (pg_name (i := 2) sc_is_name.nd rfl (Or.inl rfl))) (fun _ _ _ _ _ => pts_nil) (fun _ _ _ _ _ => (pe_cmpR op_in_sign (pv 2) (pe_gstr T.c_GREAT) (by rfl)))) pa_nil)))))))), ?_⟩
    have hl2 : (Txt.rstripChars z DIGITS).length ≤ sizeLine := Nat.le_trans (PyProof.Rows.len_rstripChars z DIGITS) hl
    refine ⟨_, rfl, rfl, z, DIGITS, rfl, rfl, hl, ?_⟩
    refine ⟨_, rfl, _, rfl, hl2, _, _, rfl, rfl, _, rfl, ?_⟩
    refine ite2 (fun h1 => ?_) (fun h1 => ?_)
    · refine ⟨_, rfl, z, rfl, hl, _, _, rfl, rfl, _, rfl, ?_⟩
      refine ite2 (fun h2 => ?_) (fun h2 => ?_)
      · refine ⟨_, rfl, _, rfl, fun D hD => lcs (f := fun c => V.bl (inS GREAT c)) hl2 (fun c H Q hc q => ⟨_, rfl, _, _, rfl, rfl, q⟩) ?_⟩
        refine ⟨D, (Txt.rstripChars z DIGITS).cps.toList.map (inS GREAT), rfl, SqL.of (by rw [upd_same, List.map_map]; rfl), ?_⟩
        have e : isName z = ((Txt.rstripChars z DIGITS).cps.toList.map (inS GREAT)).all id := by
          have a1 : decide (1 ≤ (Txt.rstripChars z DIGITS).length) = true := decide_eq_true (by have := of_decide_eq_true h1; omega)
          have a2 : decide (z.length ≤ 8) = true := decide_eq_true (by have := of_decide_eq_true h2; omega)
          rw [isName, a1, a2, allId] <;> rfl
        show Q (V.bl (((Txt.rstripChars z DIGITS).cps.toList.map (inS GREAT)).all id)) _
        rw [← e]
        exact k _ (Rd.Same.upd hD)
      · have e : isName z = false := by
          have a2 : decide (z.length ≤ 8) = false := decide_eq_false (fun q => h2 (decide_eq_true (by omega)))
          rw [isName, a2] <;> simp
        show Q (V.bl false) _
        rw [← e]
        exact k _ (Same.refl _)
    · have e : isName z = false := by
        have a1 : decide (1 ≤ (Txt.rstripChars z DIGITS).length) = false := decide_eq_false (fun q => h1 (decide_eq_true (by omega)))
        rw [isName, a1] <;> rfl
      show Q (V.bl false) _
      rw [← e]
      exact k _ (Same.refl _)
/-- text[1:] -/
def tailS (z : Str) : Str := cutS z (some 1) none
theorem cutS_nat (z : Str) (a b : Nat) (ha : a ≤ z.length) (hb : b ≤ z.length) : (cutS z (some (a : Int)) (some (b : Int))).cps.toList = (z.cps.toList.take b).drop a := by
  show ((z.cps.toList.drop (HT.sIx z.length 0 (some (a : Int)))).take (HT.sIx z.length z.length (some (b : Int)) - HT.sIx z.length 0 (some (a : Int)))) = _
  rw [HT.sIx_nat, HT.sIx_nat, Nat.min_eq_left ha, Nat.min_eq_left hb, List.drop_take]
theorem cutS_from (z : Str) (a : Nat) : (cutS z (some (a : Int)) none).cps.toList = z.cps.toList.drop a := by
  show ((z.cps.toList.drop (HT.sIx z.length 0 (some (a : Int)))).take (z.length - HT.sIx z.length 0 (some (a : Int)))) = _
  have hs : z.cps.toList.length = z.length := by rw [Array.length_toList]; rfl
  rw [HT.sIx_nat, List.take_of_length_le (by rw [List.length_drop, hs]; exact Nat.le_refl _)]
  rcases Nat.le_total a z.length with h | h
  · rw [Nat.min_eq_left h]
  · rw [Nat.min_eq_right h, List.drop_of_length_le (by omega), List.drop_of_length_le (by omega)]
theorem cutS_to (z : Str) (b : Nat) : (cutS z none (some (b : Int))).cps.toList = z.cps.toList.take b := by
  show ((z.cps.toList.drop 0).take (HT.sIx z.length z.length (some (b : Int)) - 0)) = _
  have hs : z.cps.toList.length = z.length := by rw [Array.length_toList]; rfl
  rw [HT.sIx_nat, List.drop_zero, Nat.sub_zero]
  rcases Nat.le_total b z.length with h | h
  · rw [Nat.min_eq_left h]
  · rw [Nat.min_eq_right h, List.take_of_length_le (by omega), List.take_of_length_le (by omega)]
theorem len_list (z : Str) : z.length = z.cps.toList.length := by rw [Array.length_toList]; rfl
theorem tailS_list (z : Str) : (tailS z).cps.toList = z.cps.toList.drop 1 := cutS_from z 1
theorem tailS_len (z : Str) : (tailS z).length ≤ z.length := by
  rw [len_list, len_list, tailS_list, List.length_drop]
  omega
def atomOf (z : Str) : Option (Str × Str) := if isWord z = true then some ("word", z) else if isName z = true then some ("name", z) else if (Txt.startswith z "?" && isUnk (tailS z)) = true then some ("unknown", tailS z) else none
def sp_atom_tree : Sp := fun vs H Q _ => ∃ z : Str, vs = [.str z] ∧ z.length ≤ 200000 ∧ (∀ H', Same H H' → atomOf z = none → Q .non H') ∧ ∀ k x p H', Same H H' → atomOf z = some (k, x) → H p = none → H' p = some (.tup [.str k, .str x]) → Q (.ref p) H'
abbrev s_atom_tree : Stmt := top 15
theorem sc_atom_tree : FnScope ["text"] ["text"] (defScope s_atom_tree) := ⟨rfl, rfl, rfl, by decide +kernel, rfl, by decide +kernel, by decide +kernel⟩
theorem ok_atom_tree (T : Tx w K mg) : Fk P w K mg base CX0 3 "atom_tree" ["text"] sp_atom_tree := by
  refine T.F_atom_tree.ok0 sc_atom_tree (fun _ _ _ _ _ _ us hl => match us, hl with | [_], _ => rfl)
    (fun vs H Q E h => ?_) (fun cdv A outer s H vs Q E hr h => ?_)
  · obtain ⟨z, rfl, _⟩ := h
    rfl
  · obtain ⟨z, rfl, hz, k0, k1⟩ := h
    have hl : z.length ≤ sizeLine := Nat.le_trans hz lineBig
    have hz2 : (tailS z).length ≤ 200000 := Nat.le_trans (tailS_len z) hz
    refine ⟨_, (pss_cons (ps_if (pt_val (pe_fk (ok_is_word T) (hr.mono (by omega)) rfl pass0 (pa_cons (pv 0) pa_nil)))
  (pss_one (ps_ret (pe_tup (pa_cons pe_str (pa_cons (pv 0) pa_nil)))))
  pss_nil)
  (pss_cons (ps_if (pt_val (pe_fk (ok_is_name T) (hr.mono (by omega)) rfl pass0 (pa_cons (pv 0) pa_nil)))
  (pss_one (ps_ret (pe_tup (pa_cons pe_str (pa_cons (pv 0) pa_nil)))))
  pss_nil)
  (pss_cons (ps_if (PW.pt (pw_and (pt_val (pe_bm PySem.F.plainAttrs_str PySem.F.slot_str_startswith PySem.F.type_str_startswith mt_startswith (pv 0) (pa_cons pe_str pa_nil))) (pw_and1 (pt_val (pe_fk (ok_is_unknown T) (hr.mono (by omega)) rfl pass0 (pa_cons (pe_slice sl_str (pv 0) (po_some pe_int) po_none) pa_nil))))))
  (pss_one (ps_ret (pe_tup (pa_cons pe_str (pa_cons (pe_slice sl_str (pv 0) (po_some pe_int) po_none) pa_nil)))))
  pss_nil)
  (pss_one (ps_ret pe_non))))), ?_⟩
    refine ⟨_, rfl, z, rfl, hz, fun H1 s1 => ⟨_, rfl, ite2 (fun h1 => ?_) (fun h1 => ?_)⟩⟩
    · refine ⟨_, rfl, (by show 2 ≤ sizeLine; decide), fun p hp => ?_⟩
      exact k1 _ _ p _ (Rd.Same.upd' s1 hp) (by rw [atomOf, if_pos h1]) (s1.free hp) upd_same
    · refine ⟨_, rfl, z, rfl, hz, fun H2 s2 => ⟨_, rfl, ite2 (fun h2 => ?_) (fun h2 => ?_)⟩⟩
      · refine ⟨_, rfl, (by show 2 ≤ sizeLine; decide), fun p hp => ?_⟩
        exact k1 _ _ p _ (Rd.Same.upd' (s1.trans s2) hp) (by rw [atomOf, if_neg h1, if_pos h2]) ((s1.trans s2).free hp) upd_same
      · refine ⟨_, rfl, rfl, z, "?", rfl, rfl, _, rfl, ite2 (fun h3 => ?_) (fun h3 => ?_)⟩
        · refine ⟨_, rfl, _, rfl, z, rfl, hl, tailS z, rfl, hz2, fun H3 s3 => ⟨_, rfl, ite2 (fun h4 => ?_) (fun h4 => ?_)⟩⟩
          · refine ⟨_, rfl, _, rfl, z, rfl, hl, (by show 2 ≤ sizeLine; decide), fun p hp => ?_⟩
            exact k1 _ _ p _ (Rd.Same.upd' ((s1.trans s2).trans s3) hp) (by rw [atomOf, if_neg h1, if_neg h2, if_pos (by rw [h3, h4]; rfl)]; rfl) (((s1.trans s2).trans s3).free hp) upd_same
          · exact k0 _ ((s1.trans s2).trans s3) (by rw [atomOf, if_neg h1, if_neg h2, if_neg (by rw [Bool.eq_false_iff.mpr h4]; simp)])
        · exact k0 _ (s1.trans s2) (by rw [atomOf, if_neg h1, if_neg h2, if_neg (by rw [Bool.eq_false_iff.mpr h3]; simp)])
end
end Rd
namespace Rd
open PySem L2
theorem str_ext {a b : Str} (h : a.cps.toList = b.cps.toList) : a = b := by
  obtain ⟨⟨a⟩⟩ := a
  obtain ⟨⟨b⟩⟩ := b
  have e : a = b := h
  rw [e]
theorem app_list (a b : Str) : (a ++ b).cps.toList = a.cps.toList ++ b.cps.toList := by
  show (a.cps ++ b.cps).toList = _
  rw [Array.toList_append]
theorem contains_in (s : Str) (c : Nat) : s.cps.contains c = inS s c := by
  unfold inS
  rw [Bool.eq_iff_iff, decide_eq_true_iff, Array.contains_iff_mem]
  exact Array.mem_def
theorem rstrip_list (z s : Str) : (Txt.rstripChars z s).cps.toList = (z.cps.toList.reverse.dropWhile (inS s)).reverse := by
  have e0 : s.cps.contains = inS s := funext (contains_in s)
  show (Txt.stripBy s.cps.contains false true z).cps.toList = _
  rw [PyProof.Rows.stripBy_eq, e0]
  show (z.cps.extract 0 (z.length - ((z.cps.toList.drop 0).reverse.takeWhile (inS s)).length)).toList = _
  rw [List.drop_zero, len_list]
  generalize z.cps = a
  obtain ⟨l⟩ := a
  rw [List.extract_toArray]
  show (l.extract 0 (l.length - (l.reverse.takeWhile (inS s)).length)) = (l.reverse.dropWhile (inS s)).reverse
  rw [List.extract_eq_drop_take, List.drop_zero, Nat.sub_zero]
  have e1 : l.reverse = l.reverse.takeWhile (inS s) ++ l.reverse.dropWhile (inS s) := (List.takeWhile_append_dropWhile).symm
  have e2 : l = (l.reverse.dropWhile (inS s)).reverse ++ (l.reverse.takeWhile (inS s)).reverse := by
    have := congrArg List.reverse e1
    rw [List.reverse_reverse, List.reverse_append] at this
    exact this
  have e3 : l.length = (l.reverse.dropWhile (inS s)).length + (l.reverse.takeWhile (inS s)).length := by
    have := congrArg List.length e2
    rw [List.length_append, List.length_reverse, List.length_reverse] at this
    exact this
  rw [e3, Nat.add_sub_cancel]
  have key : ∀ (A B : List Nat), l = A.reverse ++ B.reverse → l.take A.length = A.reverse := fun A B q => by
    rw [q, List.take_append_of_le_length (by rw [List.length_reverse]; exact Nat.le_refl _), List.take_of_length_le (by rw [List.length_reverse]; exact Nat.le_refl _)]
  exact key _ _ e2
theorem starts_q (z : Str) : Txt.startswith z "?" = true ↔ ∃ r, z.cps.toList = 63 :: r := by
  show (decide (0 + ("?" : Str).length ≤ z.length) && (z.cps.extract 0 (0 + ("?" : Str).length) == ("?" : Str).cps)) = true ↔ _
  have e1 : ("?" : Str).length = 1 := by decide
  have e2 : ("?" : Str).cps = #[63] := by decide +kernel
  rw [e1, e2, len_list]
  generalize z.cps = a
  obtain ⟨l⟩ := a
  cases l with
  | nil => simp
  | cons c r =>
    constructor
    · intro h
      obtain ⟨_, h2⟩ := He.ba h
      have h3 : (⟨c :: r⟩ : Array Nat).extract 0 1 = #[63] := eq_of_beq h2
      have h4 := congrArg Array.toList h3
      simp at h4
      exact ⟨r, by rw [h4]⟩
    · rintro ⟨r', e⟩
      have e' : c :: r = 63 :: r' := e
      injection e' with e3 e4
      subst e3
      simp
theorem q_tail {z : Str} (h : Txt.startswith z "?" = true) : "?" ++ tailS z = z := by
  obtain ⟨r, e⟩ := (starts_q z).mp h
  refine str_ext ?_
  rw [app_list, tailS_list, e]
  have e2 : ("?" : Str).cps.toList = [63] := by decide +kernel
  rw [e2]
  rfl
theorem disj {c : Nat} (h : inS GREAT c = true) : inS DIGITS c = false := by
  have h1 : c ∈ GREAT.cps.toList := of_decide_eq_true h
  have h2 : GREAT.cps.toList.all (fun c => !inS DIGITS c) = true := by decide +kernel
  have h3 := List.all_eq_true.mp h2 c h1
  simpa using h3
theorem disj2 {c : Nat} (h : inS DIGITS c = true) : inS GREAT c = false := by
  cases e : inS GREAT c with
  | false => rfl
  | true => rw [disj e] at h; cases h
theorem dropAll {p : Nat → Bool} : ∀ (l : List Nat), (∀ c ∈ l, p c = true) → l.dropWhile p = []
  | [], _ => rfl
  | a :: r, h => by
    rw [List.dropWhile_cons, if_pos (h a List.mem_cons_self)]
    exact dropAll r fun c hc => h c (List.mem_cons_of_mem _ hc)
theorem name_iff (l : List Nat) : (1 ≤ ((l.reverse.dropWhile (inS DIGITS)).reverse).length ∧ ((l.reverse.dropWhile (inS DIGITS)).reverse).all (inS GREAT) = true) ↔
    ((0 < (l.filter (inS GREAT)).length ∧ (l.take (l.filter (inS GREAT)).length).all (inS GREAT) = true) ∧ (l.drop (l.filter (inS GREAT)).length).all (inS DIGITS) = true) := by
  have e1 : l.reverse = l.reverse.takeWhile (inS DIGITS) ++ l.reverse.dropWhile (inS DIGITS) := (List.takeWhile_append_dropWhile).symm
  have e2 : l = (l.reverse.dropWhile (inS DIGITS)).reverse ++ (l.reverse.takeWhile (inS DIGITS)).reverse := by
    have := congrArg List.reverse e1
    rw [List.reverse_reverse, List.reverse_append] at this
    exact this
  have hD : ∀ c ∈ (l.reverse.takeWhile (inS DIGITS)).reverse, inS DIGITS c = true := fun c hc => by
    rw [List.mem_reverse] at hc
    have := List.all_takeWhile (p := inS DIGITS) (l := l.reverse)
    exact List.all_eq_true.mp this c hc
  constructor
  · rintro ⟨h1, h2⟩
    generalize (l.reverse.dropWhile (inS DIGITS)).reverse = A at e2 h1 h2
    generalize (l.reverse.takeWhile (inS DIGITS)).reverse = B at e2 hD
    subst e2
    have fA : A.filter (inS GREAT) = A := List.filter_eq_self.mpr fun c hc => List.all_eq_true.mp h2 c hc
    have fB : B.filter (inS GREAT) = [] := List.filter_eq_nil_iff.mpr fun c hc q => by rw [disj2 (hD c hc)] at q; cases q
    rw [List.filter_append, fA, fB, List.append_nil]
    refine ⟨⟨h1, ?_⟩, ?_⟩
    · rw [List.take_append_of_le_length (Nat.le_refl _), List.take_length]
      exact h2
    · rw [List.drop_append_of_le_length (Nat.le_refl _), List.drop_length, List.nil_append]
      exact List.all_eq_true.mpr hD
  · rintro ⟨⟨h1, h2⟩, h3⟩
    have hle := List.length_filter_le (inS GREAT) l
    generalize (l.filter (inS GREAT)).length = n at h1 h2 h3 hle
    have el : l = l.take n ++ l.drop n := (List.take_append_drop n l).symm
    have key : l.reverse.dropWhile (inS DIGITS) = (l.take n).reverse := by
      conv => lhs; rw [el]
      rw [List.reverse_append, List.dropWhile_append]
      have z1 : (l.drop n).reverse.dropWhile (inS DIGITS) = [] := by
        exact dropAll _ fun c hc => by
          rw [List.mem_reverse] at hc
          exact List.all_eq_true.mp h3 c hc
      rw [z1]
      simp only [List.isEmpty_nil, if_true]
      cases hr : (l.take n).reverse with
      | nil => rfl
      | cons c r =>
        have hc : c ∈ l.take n := by
          rw [← List.mem_reverse, hr]
          exact List.mem_cons_self
        rw [List.dropWhile_cons, if_neg]
        rw [disj (List.all_eq_true.mp h2 c hc)]
        decide
    rw [key, List.reverse_reverse, List.length_take]
    exact ⟨by omega, h2⟩
theorem isName_first {z : Str} (h : isName z = true) (q : Txt.startswith z "?" = true) : False := by
  obtain ⟨h1, h2⟩ := He.ba h
  obtain ⟨h3, h4⟩ := He.ba h2
  obtain ⟨r, e⟩ := (starts_q z).mp q
  have h1' := of_decide_eq_true h1
  rw [len_list, rstrip_list] at h1'
  rw [rstrip_list] at h4
  obtain ⟨⟨a1, a2⟩, a3⟩ := (name_iff z.cps.toList).mp ⟨h1', h4⟩
  rw [e] at a1 a2
  have hg : inS GREAT 63 = false := by decide +kernel
  generalize ((63 :: r).filter (inS GREAT)).length = n at a1 a2
  cases n with
  | zero => cases a1
  | succ n =>
    have := List.all_eq_true.mp a2 63 (by rw [List.take_succ_cons]; exact List.mem_cons_self)
    rw [hg] at this
    cases this
end Rd
namespace Rd
open PySem L2
/-- a stream's list, with n draws still in the bound -/
def StL (n : Nat) (xs : List V) : Prop := ∃ a b c : Int, xs = [.int a, .int b, .int c] ∧ 0 ≤ a ∧ 0 ≤ b ∧ b ≤ 1099511627776 ∧ 0 ≤ c ∧ c + n ≤ 1099511627776
theorem StL.mono {n m : Nat} {xs : List V} (h : StL n xs) (hm : m ≤ n) : StL m xs := by
  obtain ⟨a, b, c, e, h1, h2, h3, h4, h5⟩ := h
  exact ⟨a, b, c, e, h1, h2, h3, h4, by omega⟩
def sp_stream (K : PySem.W.Frag) : Sp := fun vs H Q _ => ∃ (a : Addr) (ns : List Int) (k : Int), vs = [.ref a, .int k] ∧ SqL K H a (ns.map V.int) ∧ ns.length ≤ 63 ∧ 0 ≤ k ∧ k ≤ 100 ∧
  ∀ p xs H', Same H H' → H p = none → H' p = some (.lst xs) → StL 1000000000 xs → Q (.ref p) H'
def sp_draw : Sp := fun vs H Q _ => ∃ (p : Addr) (xs : List V) (n : Nat) (m : Int), vs = [.ref p, .int m] ∧ H p = some (.lst xs) ∧ StL (n + 1) xs ∧ 0 < m ∧ m < 1073741824 ∧
  ∀ d ys, 0 ≤ d → d < m → StL n ys → Q (.int d) (upd H p (.lst ys))
def sp_pick (K : PySem.W.Frag) : Sp := fun vs H Q _ => ∃ (p a : Addr) (xs us : List V) (n : Nat), vs = [.ref p, .ref a] ∧ H p = some (.lst xs) ∧ StL (n + 1) xs ∧ SqL K H a us ∧ SqL K (upd H p (.lst [])) a us ∧ 0 < us.length ∧ us.length < 1073741824 ∧
  ∀ (j : Nat) v ys, us[j]? = some v → StL n ys → Q v (upd H p (.lst ys))
section
variable {P : Program} {w : World} {K : PySem.W.Frag} {mg : Str → Option Value} {base : Heap}
abbrev s__law_stream : Stmt := top 24
theorem sc__law_stream : FnScope ["_law_script", "_law_k", "_law_cell"] ["_law_script", "_law_k"] (defScope s__law_stream) := ⟨rfl, rfl, rfl, by decide +kernel, rfl, by decide +kernel, by decide +kernel⟩
theorem ok__law_stream (T : Tx w K mg) : Fk P w K mg base CX0 1 "_law_stream" ["_law_script", "_law_k"] (sp_stream K) := by
  refine T.F__law_stream.ok0 sc__law_stream (fun _ _ _ _ _ _ us hl => match us, hl with | [_, _], _ => rfl)
    (fun vs H Q E h => ?_) (fun cdv A outer s H vs Q E hr h => ?_)
  · obtain ⟨a, ns, k, rfl, _⟩ := h
    rfl
  · obtain ⟨a, ns, k, rfl, hS, hn, hk0, hk1, kk⟩ := h
    have fin : ∀ a0 cell : Int, 0 ≤ a0 → ∀ p, H p = none → Q (.ref p) (upd H p (.lst [.int a0, .int (cell % 2147483647 + 31 * k), .int 0])) := fun a0 cell hc p hp => by
      refine kk p _ _ (Rd.Same.upd hp) hp upd_same ⟨_, _, _, rfl, hc, ?_, ?_, by omega, by omega⟩
      · have := Int.emod_nonneg cell (show (2147483647 : Int) ≠ 0 by decide)
        omega
      · have := Int.emod_lt_of_pos cell (show (0 : Int) < 2147483647 by decide)
        omega
    refine ⟨_, (pss_cons (ps_set (i := 2) sc__law_stream.nd rfl (Or.inl rfl) (pe_ifExp (pt_cmpR op_lt (pv 1) (pe_callB call_len_seq (by rfl) T.z_len (by decide +kernel) (pa_cons (pv 0) pa_nil)) (nomark _)) (pe_callB call_abs (by rfl) T.z_abs (by decide +kernel) (pa_cons (pe_ix ix_list (pv 0) (pv 1) (fun _ _ => rfl)) pa_nil)) pe_int))
  (pss_one (ps_ret (pe_lst (pa_cons (pe_ifExp (pt_cmpR op_ge (pv 2) (pe_op op_pow pe_int pe_int) (nomark _)) (pv 2) pe_int) (pa_cons (pe_op op_add (pe_op op_mod (pe_callTy call_int1 (by rfl) T.z_int (by decide +kernel) (pa_cons (pv 2) pa_nil)) pe_int) (pe_op op_mul pe_int (pv 1))) (pa_cons pe_int pa_nil))))))), ?_⟩
    refine ⟨_, rfl, _, rfl, a, _, rfl, .inl hS, _, _, rfl, rfl, _, rfl, ite2 (fun h1 => ?_) (fun h1 => ?_)⟩
    · have hk : k.toNat < ns.length := by
        have := of_decide_eq_true h1
        rw [List.length_map] at this
        omega
      have ea : atI (ns.map V.int) k = some (V.int (ns[k.toNat]'hk)) := at_of (j := k.toNat) (by omega) (by rw [List.getElem?_map, List.getElem?_eq_getElem hk]; rfl)
      refine ⟨_, rfl, _, rfl, a, _, _, _, rfl, rfl, hS, ea, _, rfl, ?_⟩
      refine ⟨_, rfl, _, _, rfl, rfl, ⟨by decide, by decide, by decide⟩, _, _, rfl, rfl, _, rfl, ?_⟩
      refine ite2 (fun h2 => ?_) (fun h2 => ?_)
      · refine ⟨_, rfl, _, rfl, .inl ⟨_, rfl, _, _, rfl, rfl, (by show (0 : Int) < 2147483647; decide), _, rfl, _, _, rfl, rfl, .inl ⟨by decide, by decide⟩, _, _, rfl, rfl, (by show 3 ≤ sizeLine; decide), fun p hp => ?_⟩⟩
        exact fin _ _ (by split <;> omega) p hp
      · refine ⟨_, rfl, .inl ⟨_, rfl, _, _, rfl, rfl, (by show (0 : Int) < 2147483647; decide), _, rfl, _, _, rfl, rfl, .inl ⟨by decide, by decide⟩, _, _, rfl, rfl, (by show 3 ≤ sizeLine; decide), fun p hp => ?_⟩⟩
        exact fin _ _ (Int.le_refl 0) p hp
    · refine ⟨_, rfl, _, _, rfl, rfl, ⟨by decide, by decide, by decide⟩, _, _, rfl, rfl, _, rfl, ?_⟩
      refine ite2 (fun h2 => ?_) (fun h2 => ?_)
      · refine ⟨_, rfl, _, rfl, .inl ⟨_, rfl, _, _, rfl, rfl, (by show (0 : Int) < 2147483647; decide), _, rfl, _, _, rfl, rfl, .inl ⟨by decide, by decide⟩, _, _, rfl, rfl, (by show 3 ≤ sizeLine; decide), fun p hp => ?_⟩⟩
        exact fin _ _ (Int.le_refl 0) p hp
      · refine ⟨_, rfl, .inl ⟨_, rfl, _, _, rfl, rfl, (by show (0 : Int) < 2147483647; decide), _, rfl, _, _, rfl, rfl, .inl ⟨by decide, by decide⟩, _, _, rfl, rfl, (by show 3 ≤ sizeLine; decide), fun p hp => ?_⟩⟩
        exact fin _ _ (Int.le_refl 0) p hp
abbrev s__law_draw : Stmt := top 25
theorem sc__law_draw : FnScope ["_law_stream_here", "_law_many", "_law_digit", "_law_spread"] ["_law_stream_here", "_law_many"] (defScope s__law_draw) := ⟨rfl, rfl, rfl, by decide +kernel, rfl, by decide +kernel, by decide +kernel⟩
theorem ok__law_draw (T : Tx w K mg) : Fk P w K mg base CX0 1 "_law_draw" ["_law_stream_here", "_law_many"] sp_draw := by
  refine T.F__law_draw.ok0 sc__law_draw (fun _ _ _ _ _ _ us hl => match us, hl with | [_, _], _ => rfl)
    (fun vs H Q E h => ?_) (fun cdv A outer s H vs Q E hr h => ?_)
  · obtain ⟨p, xs, n, m, rfl, _⟩ := h
    rfl
  · obtain ⟨p, xs, n, m, rfl, hp, ⟨a, b, c, rfl, ha, hb0, hb1, hc0, hc1⟩, hm0, hm1, k⟩ := h
    refine ⟨_, (pss_cons (ps_if (pt_cmpR op_gt (pe_ix ix_list (pv 0) pe_int (fun _ _ => rfl)) pe_int (nomark _))
  (pss_cons (ps_set (i := 2) sc__law_draw.nd rfl (Or.inl rfl) (pe_op op_mod (pe_callTy call_int1 (by rfl) T.z_int (by decide +kernel) (pa_cons (pe_ix ix_list (pv 0) pe_int (fun _ _ => rfl)) pa_nil)) (pv 1)))
  (pss_cons (ps_asg (pe_op op_fdiv (pe_ix ix_list (pv 0) pe_int (fun _ _ => rfl)) (pv 1)) (pg_sub (pv 0) pe_int set_list))
  (pss_one (ps_ret (pv 2)))))
  pss_nil)
  (pss_cons (ps_asg (pe_op op_add (pe_ix ix_list (pv 0) pe_int (fun _ _ => rfl)) pe_int) (pg_sub (pv 0) pe_int set_list))
  (pss_cons (ps_set (i := 3) sc__law_draw.nd rfl (Or.inl rfl) (pe_op op_mod (pe_op op_pow (pe_callTy call_int1 (by rfl) T.z_int (by decide +kernel) (pa_cons (pe_op op_add (pe_op op_add (pe_ix ix_list (pv 0) pe_int (fun _ _ => rfl)) (pe_op op_mul pe_int (pe_ix ix_list (pv 0) pe_int (fun _ _ => rfl)))) pe_int) pa_nil)) pe_int) pe_int))
  (pss_one (ps_ret (pe_op op_mod (pe_op op_fdiv (pe_op op_mod (pe_callTy call_int1 (by rfl) T.z_int (by decide +kernel) (pa_cons (pe_op op_mul (pe_op op_add (pv 3) (pe_ix ix_list (pv 0) pe_int (fun _ _ => rfl))) pe_int) pa_nil)) pe_int) pe_int) (pv 1))))))), ?_⟩
    refine ⟨_, rfl, p, _, _, _, rfl, rfl, SqL.of hp, at_of (j := 0) rfl rfl, _, _, rfl, rfl, _, rfl, ?_⟩
    refine ite2 (fun h1 => ?_) (fun h1 => ?_)
    · refine ⟨_, rfl, p, _, _, _, rfl, rfl, SqL.of hp, at_of (j := 0) rfl rfl, .inl ⟨_, rfl, _, rfl, _, _, rfl, rfl, hm0, ?_⟩⟩
      refine ⟨_, rfl, p, _, _, _, rfl, rfl, SqL.of hp, at_of (j := 0) rfl rfl, _, rfl, _, _, rfl, rfl, ⟨hm0, hm1⟩, ?_⟩
      refine ⟨_, rfl, p, _, _, 0, rfl, rfl, hp, rfl, _, rfl, ?_⟩
      refine k _ _ (Int.emod_nonneg _ (by omega)) (Int.emod_lt_of_pos _ hm0) ⟨_, _, _, rfl, ?_, hb0, hb1, hc0, by omega⟩
      exact Int.ediv_nonneg ha (by omega)
    · refine ⟨_, rfl, p, _, _, _, rfl, rfl, SqL.of hp, at_of (j := 2) rfl rfl, _, _, rfl, rfl, _, rfl, p, _, _, 2, rfl, rfl, hp, rfl, ?_⟩
      have hp2 : upd H p (.lst [.int a, .int b, .int (c + 1)]) p = some (.lst [.int a, .int b, .int (c + 1)]) := upd_same
      refine ⟨_, rfl, p, _, _, _, rfl, rfl, SqL.of hp2, at_of (j := 1) rfl rfl, _, rfl, p, _, _, _, rfl, rfl, SqL.of hp2, at_of (j := 2) rfl rfl, _, _, rfl, rfl, .inl ⟨by decide, by decide⟩, _, _, rfl, rfl, _, _, rfl, rfl, .inl ⟨_, rfl, _, _, rfl, rfl, ⟨by decide, by decide, ?_⟩, _, _, rfl, rfl, (by show (0 : Int) < 2147483647; decide), ?_⟩⟩
      · show (b + 7919 * (c + 1) + 104729).natAbs < 18446744073709551616
        omega
      · have s0 : 0 ≤ (b + 7919 * (c + 1) + 104729) ^ Int.toNat 5 % 2147483647 := Int.emod_nonneg _ (by decide)
        have s1 : (b + 7919 * (c + 1) + 104729) ^ Int.toNat 5 % 2147483647 < 2147483647 := Int.emod_lt_of_pos _ (by decide)
        refine ⟨_, rfl, _, rfl, p, _, _, _, rfl, rfl, SqL.of hp2, at_of (j := 2) rfl rfl, _, _, rfl, rfl, _, _, rfl, rfl, .inl ⟨?_, ?_⟩, .inl ⟨_, rfl, _, _, rfl, rfl, (by show (0 : Int) < 2147483629; decide), _, _, rfl, rfl, ⟨by decide, by decide⟩, _, rfl, _, _, rfl, rfl, hm0, ?_⟩⟩
        · show -(18446744073709551616 : Int) < (b + 7919 * (c + 1) + 104729) ^ Int.toNat 5 % 2147483647 + (c + 1)
          generalize (b + 7919 * (c + 1) + 104729) ^ Int.toNat 5 % 2147483647 = sp at s0 s1 ⊢
          omega
        · show (b + 7919 * (c + 1) + 104729) ^ Int.toNat 5 % 2147483647 + (c + 1) < (18446744073709551616 : Int)
          generalize (b + 7919 * (c + 1) + 104729) ^ Int.toNat 5 % 2147483647 = sp at s0 s1 ⊢
          omega
        · exact k _ _ (Int.emod_nonneg _ (by omega)) (Int.emod_lt_of_pos _ hm0) ⟨_, _, _, rfl, ha, hb0, hb1, by omega, by omega⟩
abbrev s__law_pick : Stmt := top 26
theorem sc__law_pick : FnScope ["_law_stream_here", "_law_things"] ["_law_stream_here", "_law_things"] (defScope s__law_pick) := ⟨rfl, rfl, rfl, by decide +kernel, rfl, by decide +kernel, by decide +kernel⟩
theorem ok__law_pick (T : Tx w K mg) : Fk P w K mg base CX0 2 "_law_pick" ["_law_stream_here", "_law_things"] (sp_pick K) := by
  refine T.F__law_pick.ok0 sc__law_pick (fun _ _ _ _ _ _ us hl => match us, hl with | [_, _], _ => rfl)
    (fun vs H Q E h => ?_) (fun cdv A outer s H vs Q E hr h => ?_)
  · obtain ⟨p, a, xs, us, n, rfl, _⟩ := h
    rfl
  · obtain ⟨p, a, xs, us, n, rfl, hp, hx, hS, hS2, hu0, hu1, k⟩ := h
    refine ⟨_, (pss_one (ps_ret (pe_ix ix_list (pv 1) (pe_fk (ok__law_draw T) (hr.mono (by omega)) rfl pass0 (pa_cons (pv 0) (pa_cons (pe_callB call_len_seq (by rfl) T.z_len (by decide +kernel) (pa_cons (pv 1) pa_nil)) pa_nil))) (fun _ _ => rfl)))), ?_⟩
    refine ⟨_, rfl, _, rfl, _, rfl, a, us, rfl, .inl hS, p, xs, n, _, rfl, hp, hx, by omega, by omega, fun d ys hd0 hd1 hy => ?_⟩
    have hj : d.toNat < us.length := by omega
    have hS3 : SqL K (upd H p (.lst ys)) a us := by
      by_cases e : a = p
      · subst e
        rcases hS2 with (h | ⟨o, h⟩) | h
        · rw [upd_same] at h
          cases h
          exact absurd hu0 (by decide)
        · rw [upd_same] at h
          cases h
        · exact .inr h
      · rcases hS2 with (h | ⟨o, h⟩) | h
        · rw [upd_ne e] at h
          exact .inl (.inl (by rw [upd_ne e]; exact h))
        · rw [upd_ne e] at h
          exact .inl (.inr ⟨o, by rw [upd_ne e]; exact h⟩)
        · exact .inr h
    exact ⟨a, us, _, _, rfl, rfl, hS3, at_of (j := d.toNat) (by omega) (List.getElem?_eq_getElem hj), k _ _ ys (List.getElem?_eq_getElem hj) hy⟩
end
end Rd
namespace Rd
open PySem L2
/-- all but p stays -/
def But (p : Addr) (H H' : Hp) : Prop := ∀ b o, b ≠ p → H b = some o → H' b = some o
theorem But.refl {p : Addr} {H : Hp} : But p H H := fun _ _ _ e => e
theorem But.trans {p : Addr} {H H1 H2 : Hp} (a : But p H H1) (b : But p H1 H2) : But p H H2 := fun c o hc h => b c o hc (a c o hc h)
theorem But.of_same {p : Addr} {H H' : Hp} (s : Same H H') : But p H H' := fun b o _ e => s b o e
theorem But.upd {p : Addr} {H : Hp} {o : HO} : But p H (L2.upd H p o) := fun b u hb e => by rw [upd_ne hb]; exact e
theorem But.new {p q : Addr} {H : Hp} {o : HO} (h : H q = none) : But p H (L2.upd H q o) := fun b u hb e => by rw [upd_ne (ne_of_none e h)]; exact e
theorem But.free {p q : Addr} {H H' : Hp} {xs : List V} (s : But p H H') (hp : H' p = some (.lst xs)) (h : H' q = none) : H q = none := by
  cases e : H q with
  | none => rfl
  | some o =>
    have hq : q ≠ p := fun z => by rw [z, hp] at h; cases h
    rw [s q o hq e] at h
    cases h
def imm (C : Addr) : HO → Bool
  | .tup _ => true
  | .ins C' _ _ => C' == C
  | _ => false
/-- tuples and instances of C stay -/
def Kp (C : Addr) (H H' : Hp) : Prop := ∀ b o, imm C o = true → H b = some o → H' b = some o
theorem Kp.refl {C : Addr} {H : Hp} : Kp C H H := fun _ _ _ e => e
theorem Kp.trans {C : Addr} {H H1 H2 : Hp} (a : Kp C H H1) (b : Kp C H1 H2) : Kp C H H2 := fun c o hc h => b c o hc (a c o hc h)
theorem Kp.of_same {C : Addr} {H H' : Hp} (s : Same H H') : Kp C H H' := fun b o _ e => s b o e
theorem But.kp {C p : Addr} {H H' : Hp} {xs : List V} (s : But p H H') (hp : H p = some (.lst xs)) : Kp C H H' := fun b o hi e => s b o (fun z => by
  rw [z, hp] at e
  cases e
  cases hi) e
theorem Kp.upd_lst {C D : Addr} {H : Hp} {xs ys : List V} (h : H D = some (.lst xs)) : Kp C H (L2.upd H D (.lst ys)) := fun b o hi e => by
  have hb : b ≠ D := fun z => by
    rw [z, h] at e
    cases e
    cases hi
  rw [upd_ne hb]
  exact e
/-- [.. for _ in range(..)] with draws -/
theorem lcr_draw {C p D : Addr} {σ : St} {i0 m r n : Nat} {lo : Int} {te : TE} {H1 : Hp} {xs0 : List V} {Qd : Hp → Prop} (good : Hp → V → Prop) (gm : ∀ H H' v, Kp C H H' → good H v → good H' v)
    (hp : H1 p = some (.lst xs0)) (hx : StL (n + r * m) xs0) (hD : H1 D = none) (hm : m ≤ 100000)
    (hte : ∀ (i : Nat) (H : Hp) (xs : List V) (n' : Nat) (Q : VK), i < m → But p H1 H → H p = some (.lst xs) → StL (n' + r) xs → (∀ v H' ys, But p H H' → H' p = some (.lst ys) → StL n' ys → good H' v → Q v H') → te ((wipe σ [i0]).set i0 (some (.int (lo + i)))) H Q)
    (hq : ∀ vs H' ys, But p H1 H' → H' p = some (.lst ys) → StL n ys → H' D = some (.lst vs) → vs.length = m → (∀ v ∈ vs, good H' v) → Qd H') :
    ∃ W : Nat → Nat → Hp → Prop, (∃ k, W 0 k (L2.upd H1 D (.lst []))) ∧ ∀ i k H, W i k H →
      ((Itr lo m).stop i H ∧ Qd H) ∨ ((Itr lo m).go i H ∧ ∃ Nx : Hp → Prop, (∀ H', Nx H' → ∃ k', k' < k ∧ W (i + 1) k' H') ∧ ∀ x H', (Itr lo m).yld i H x H' → gName i0 x (wipe σ [i0]) H' fun σ2 H2 => wipe σ2 [i0] = wipe σ [i0] ∧ tYes σ2 H2 fun b H3 =>
        if b = true then te σ2 H3 fun y H4 => ∃ acc, H4 D = some (.lst acc) ∧ acc.length < sizeLine ∧ Nx (L2.upd H4 D (.lst (acc ++ [y]))) else Nx H3) := by
  have nDp : D ≠ p := fun z => by rw [z, hp] at hD; cases hD
  refine lc_range (fun i H => ∃ vs ys, But p H1 H ∧ H p = some (.lst ys) ∧ StL (n + r * (m - i)) ys ∧ H D = some (.lst vs) ∧ vs.length = i ∧ (∀ v ∈ vs, good H v)) ?_ ?_ ?_
  · refine ⟨[], xs0, But.new hD, by rw [upd_ne (Ne.symm nDp)]; exact hp, hx, upd_same, rfl, fun v hv => by cases hv⟩
  · rintro i H hi ⟨vs, ys, b, hpy, hy, hDv, hl, hg⟩
    have hr : n + r * (m - i) = (n + r * (m - (i + 1))) + r := by
      rw [show m - i = (m - (i + 1)) + 1 by omega, Nat.mul_succ, Nat.add_assoc]
    rw [hr] at hy
    refine ⟨by simp [wipe], hte i H ys _ _ hi b hpy hy fun v H' zs b' hpz hz hv => ⟨vs, b' D _ nDp hDv, ?_, ?_⟩⟩
    · have : 100000 < sizeLine := by decide
      omega
    · have hDv' := b' D _ nDp hDv
      refine ⟨vs ++ [v], zs, fun c o hc e => ?_, by rw [upd_ne (Ne.symm nDp)]; exact hpz, hz, upd_same, by rw [List.length_append, hl]; rfl, fun v' hv' => ?_⟩
      · rw [upd_ne (ne_of_none e hD)]
        exact b' c o hc (b c o hc e)
      · rcases List.mem_append.mp hv' with q | q
        · exact gm _ _ _ ((b'.kp hpy).trans (Kp.upd_lst hDv')) (hg v' q)
        · rw [List.mem_singleton.mp q]
          exact gm _ _ _ (Kp.upd_lst hDv') hv
  · rintro H ⟨vs, ys, b, hpy, hy, hDv, hl, hg⟩
    exact hq vs H ys b hpy (by simpa using hy) hDv hl hg
/-- a table of ints at a drawn place -/
theorem atI_of {us : List V} {d : Int} {m : Nat} (h0 : 0 ≤ d) (h1 : d < m) (hm : m = us.length) : ∃ (j : Nat) (v : V), us[j]? = some v ∧ atI us d = some v := by
  have hj : d.toNat < us.length := by omega
  exact ⟨d.toNat, us[d.toNat], List.getElem?_eq_getElem hj, at_of (j := d.toNat) (by omega) (List.getElem?_eq_getElem hj)⟩
theorem atT_of {z : Str} {d : Int} {m : Nat} (h0 : 0 ≤ d) (h1 : d < m) (hm : m = z.cps.toList.length) : ∃ (c : Nat), c ∈ z.cps.toList ∧ atI z.cps.toList d = some c := by
  have hj : d.toNat < z.cps.toList.length := by omega
  refine ⟨z.cps.toList[d.toNat], List.getElem_mem hj, ?_⟩
  have e : d = ((d.toNat : Nat) : Int) := by omega
  have e2 := atI_nat (xs := z.cps.toList) (j := d.toNat) (List.getElem?_eq_getElem hj)
  rw [← e] at e2
  exact e2
/-- signs as Python has them -/
def okS (z : Str) : Prop := ∀ c ∈ z.cps.toList, c < 1114112
theorem okS_by {z : Str} (h : z.cps.toList.all (fun c => decide (c < 1114112)) = true) : okS z := fun c hc => of_decide_eq_true (List.all_eq_true.mp h c hc)
theorem okS_app {a b : Str} (ha : okS a) (hb : okS b) : okS (a ++ b) := fun c hc => by
  have e : (a ++ b).cps.toList = a.cps.toList ++ b.cps.toList := by
    show (a.cps ++ b.cps).toList = _
    rw [Array.toList_append]
  rw [e] at hc
  exact (List.mem_append.mp hc).elim (ha c) (hb c)
theorem strOk_of {z : Str} (h : okS z) : PySem.PyData.strOk z = true := by
  show z.cps.all (fun c => decide (c < 0x110000)) = true
  rw [Array.all_eq_true']
  intro c hc
  exact decide_eq_true (h c (Array.mem_toList_iff.mpr hc))
/-- a text of these codes -/
def ofC (cs : List Nat) : Str := ⟨cs.toArray⟩
theorem ofC_list (cs : List Nat) : (ofC cs).cps.toList = cs := by show cs.toArray.toList = cs; rw [List.toList_toArray]
def sg1 (c : Nat) : V := .str ⟨#[c]⟩
theorem join_signs : ∀ (cs : List Nat), (Str.join "" (cs.map fun c => (⟨#[c]⟩ : Str))).cps.toList = cs
  | [] => by decide +kernel
  | [a] => rfl
  | a :: b :: r => by
    have e := join_signs (b :: r)
    have e0 : ("" : Str).cps.toList = [] := by decide +kernel
    show (((⟨#[a]⟩ : Str) ++ ("" : Str)) ++ Str.join "" ((b :: r).map fun c => (⟨#[c]⟩ : Str))).cps.toList = _
    rw [app_list, app_list, e, e0]
    rfl
theorem glue_signs (cs : List Nat) : Txt.join "" (cs.map fun c => (⟨#[c]⟩ : Str)) = ofC cs := by
  show Builtin.Str.glued "" _ = _
  rw [PySem.StrLaws.glued_eq_join]
  exact str_ext (by rw [join_signs, ofC_list])
/-- a text drawn: at most r draws, of which Pz holds -/
def sp_tx (r : Nat) (Pz : Str → Prop) : Sp := fun vs H Q _ => ∃ (p : Addr) (xs : List V) (n : Nat), vs = [.ref p] ∧ H p = some (.lst xs) ∧ StL (n + r) xs ∧
  ∀ z ys H', But p H H' → H' p = some (.lst ys) → StL n ys → Pz z → Q (.str z) H'
theorem cods_of {z : Str} : ∀ (vs : List V), (∀ v ∈ vs, ∃ c ∈ z.cps.toList, v = sg1 c) → ∃ cs : List Nat, vs = cs.map sg1 ∧ ∀ c ∈ cs, c ∈ z.cps.toList
  | [], _ => ⟨[], rfl, fun c hc => nomatch hc⟩
  | v :: r, h => by
    obtain ⟨c, hc, rfl⟩ := h v List.mem_cons_self
    obtain ⟨cs, rfl, h2⟩ := cods_of r fun v hv => h v (List.mem_cons_of_mem _ hv)
    exact ⟨c :: cs, rfl, fun c' hc' => (List.mem_cons.mp hc').elim (fun e => e ▸ hc) (h2 c')⟩
theorem sum_signs (cs : List Nat) : ((cs.map fun c => (⟨#[c]⟩ : Str)).map (·.length)).sum = cs.length := by
  induction cs with
  | nil => rfl
  | cons a r ih =>
    rw [List.map_cons, List.map_cons, List.sum_cons, ih, List.length_cons]
    show 1 + r.length = _
    omega
def smallV (lo l : Nat) : V → Bool
  | .int i => decide ((lo : Int) ≤ i) && decide (i ≤ l)
  | _ => false
theorem small_of {us : List V} {v : V} {lo l : Nat} (h : v ∈ us) (ha : us.all (smallV lo l) = true) : ∃ m : Nat, v = V.int m ∧ lo ≤ m ∧ m ≤ l := by
  have h1 := List.all_eq_true.mp ha v h
  cases v with
  | int i =>
    obtain ⟨h2, h3⟩ := He.ba (show (decide ((lo : Int) ≤ i) && decide (i ≤ l)) = true from h1)
    have h4 := of_decide_eq_true h2
    have h5 := of_decide_eq_true h3
    exact ⟨i.toNat, by rw [Int.toNat_of_nonneg (by omega)], by omega, by omega⟩
  | _ => cases h1
/-- [..][draw] : an item of a written list at a drawn place -/
theorem rd_tab {K : PySem.W.Frag} {us : List V} {t : TA} {σ : St} {i m n : Nat} {p : Addr} {xs : List V} {H : Hp} {Q : VK} (ht : ∀ (H : Hp) (Q' : List V → Hp → Prop), Q' us H → t σ H Q') (hi : σ[i]? = some (some (.ref p))) (hp : H p = some (.lst xs)) (hx : StL (n + 1) xs)
    (hm : us.length = m) (h0 : 0 < m) (hb : m ≤ 1000) (k : ∀ v H' ys, v ∈ us → But p H H' → H' p = some (.lst ys) → StL n ys → Q v H') : tOp (rIxL K) (tLst t) (tCall sp_draw [] E0 (tCons (tVar i) (tCons (tC (V.int m)) tNil))) σ H Q := by
  have hl : 1000 ≤ sizeLine := by decide
  refine ht _ _ ⟨by omega, fun q hq => ⟨_, hi, p, xs, n, (m : Int), rfl, ?_, hx, by omega, by omega, fun d ys hd0 hd1 hy => ?_⟩⟩
  · rw [upd_ne (ne_of_none hp hq)]
    exact hp
  · obtain ⟨j, v, hv, ha⟩ := atI_of (us := us) (m := m) hd0 hd1 hm.symm
    refine ⟨q, us, d, v, rfl, rfl, SqL.of ?_, ha, k v _ ys (List.mem_of_getElem? hv) ((But.new hq).trans But.upd) upd_same hy⟩
    rw [upd_ne (Ne.symm (ne_of_none hp hq)), upd_same]
/-- draw(many) -/
theorem rd_draw {σ : St} {i m n : Nat} {p : Addr} {xs : List V} {H : Hp} {Q : VK} (hi : σ[i]? = some (some (.ref p))) (hp : H p = some (.lst xs)) (hx : StL (n + 1) xs) (h0 : 0 < m) (hb : m ≤ 1000)
    (k : ∀ (d : Nat) H' ys, d < m → But p H H' → H' p = some (.lst ys) → StL n ys → Q (.int d) H') : tCall sp_draw [] E0 (tCons (tVar i) (tCons (tC (V.int m)) tNil)) σ H Q := by
  refine ⟨_, hi, p, xs, n, (m : Int), rfl, hp, hx, by omega, by omega, fun d ys hd0 hd1 hy => ?_⟩
  obtain ⟨e, rfl⟩ := Int.eq_ofNat_of_zero_le hd0
  exact k e _ ys (by omega) But.upd upd_same hy
theorem rd_sign {σ : St} {i m n : Nat} {z : Str} {p : Addr} {xs : List V} {H : Hp} {Q : VK} (hi : σ[i]? = some (some (.ref p))) (hp : H p = some (.lst xs)) (hx : StL (n + 1) xs) (hm : z.cps.toList.length = m) (h0 : 0 < m) (hb : m ≤ 1000)
    (k : ∀ (c : Nat) H' ys, c ∈ z.cps.toList → But p H H' → H' p = some (.lst ys) → StL n ys → Q (.str ⟨#[c]⟩) H') : tOp rIxS (tC (.str z)) (tCall sp_draw [] E0 (tCons (tVar i) (tCons (tC (V.int m)) tNil))) σ H Q := by
  refine rd_draw hi hp hx h0 hb fun d H' ys hd b hp' hy => ?_
  obtain ⟨c, hc, ha⟩ := atT_of (z := z) (d := (d : Int)) (m := m) (by omega) (by omega) hm.symm
  have hl : 1000 ≤ sizeLine := by decide
  have hz : z.length = m := by rw [← hm, Array.length_toList]; rfl
  exact ⟨z, _, c, rfl, rfl, by omega, ha, k c H' ys hc b hp' hy⟩
/-- ['..'[draw(M)] for _ in range(m)] -/
theorem rd_signs {σ : St} {i i0 m M n : Nat} {lo : Int} {z : Str} {p D : Addr} {xs : List V} {H1 : Hp} {Qd : Hp → Prop} (hi : ∀ x, ((wipe σ [i0]).set i0 (some x))[i]? = some (some (.ref p))) (hp : H1 p = some (.lst xs)) (hx : StL (n + m) xs) (hD : H1 D = none) (hm : m ≤ 1000)
    (hM : z.cps.toList.length = M) (h0 : 0 < M) (hb : M ≤ 1000)
    (k : ∀ (cs : List Nat) H' ys, But p H1 H' → H' p = some (.lst ys) → StL n ys → H' D = some (.lst (cs.map sg1)) → cs.length = m → (∀ c ∈ cs, c ∈ z.cps.toList) → Qd H') :
    ∃ W : Nat → Nat → Hp → Prop, (∃ k, W 0 k (L2.upd H1 D (.lst []))) ∧ ∀ j k H, W j k H →
      ((Itr lo m).stop j H ∧ Qd H) ∨ ((Itr lo m).go j H ∧ ∃ Nx : Hp → Prop, (∀ H', Nx H' → ∃ k', k' < k ∧ W (j + 1) k' H') ∧ ∀ x H', (Itr lo m).yld j H x H' → gName i0 x (wipe σ [i0]) H' fun σ2 H2 => wipe σ2 [i0] = wipe σ [i0] ∧ tYes σ2 H2 fun b H3 =>
        if b = true then (tOp rIxS (tC (.str z)) (tCall sp_draw [] E0 (tCons (tVar i) (tCons (tC (V.int M)) tNil)))) σ2 H3 fun y H4 => ∃ acc, H4 D = some (.lst acc) ∧ acc.length < sizeLine ∧ Nx (L2.upd H4 D (.lst (acc ++ [y]))) else Nx H3) := by
  refine lcr_draw (C := 0) (r := 1) (n := n) (fun _ v => ∃ c ∈ z.cps.toList, v = sg1 c) (fun _ _ _ _ h => h) hp (by rw [Nat.one_mul]; exact hx) hD (by omega) (fun j H2 zs n' Q2 hj b hz hsz kq => ?_) (fun vs H2 zs b hz hsz hDv hl hg => ?_)
  · exact rd_sign (hi _) hz hsz hM h0 hb fun c H' ys hc b' hp' hy => kq _ _ ys b' hp' hy ⟨c, hc, rfl⟩
  · obtain ⟨cs, rfl, ho⟩ := cods_of vs hg
    rw [List.length_map] at hl
    exact k cs H2 zs b hz hsz hDv hl ho
theorem allIn {s : Str} {cs : List Nat} (h : ∀ c ∈ cs, c ∈ s.cps.toList) : cs.all (inS s) = true := List.all_eq_true.mpr fun c hc => decide_eq_true (h c hc)
theorem word_of {cs : List Nat} (h1 : 1 ≤ cs.length) (h8 : cs.length ≤ 8) (h : ∀ c ∈ cs, c ∈ SMALL.cps.toList) : isWord (ofC cs) = true := by
  have e : (ofC cs).length = cs.length := by rw [len_list, ofC_list]
  rw [isWord, e, ofC_list, allIn h, decide_eq_true h1, decide_eq_true h8]
  rfl
theorem name_of {as ds : List Nat} (h1 : 1 ≤ as.length) (h8 : as.length + ds.length ≤ 8) (ha : ∀ c ∈ as, c ∈ GREAT.cps.toList) (hd : ∀ c ∈ ds, c ∈ DIGITS.cps.toList) : isName (ofC (as ++ ds)) = true := by
  have e : (ofC (as ++ ds)).length = as.length + ds.length := by rw [len_list, ofC_list, List.length_append]
  have fA : as.filter (inS GREAT) = as := List.filter_eq_self.mpr fun c hc => decide_eq_true (ha c hc)
  have fB : ds.filter (inS GREAT) = [] := List.filter_eq_nil_iff.mpr fun c hc q => by rw [disj2 (decide_eq_true (hd c hc))] at q; cases q
  have key := (name_iff (as ++ ds)).mpr (by
    rw [List.filter_append, fA, fB, List.append_nil, List.take_append_of_le_length (Nat.le_refl _), List.take_length, List.drop_append_of_le_length (Nat.le_refl _), List.drop_length, List.nil_append]
    exact ⟨⟨h1, allIn ha⟩, allIn hd⟩)
  rw [isName, e, decide_eq_true h8, len_list, rstrip_list, ofC_list, key.2, decide_eq_true key.1]
  rfl
theorem word_noname {z : Str} (h : isName z = true) : isWord z = false := by
  cases e : isWord z with
  | false => rfl
  | true =>
    obtain ⟨h1, h2⟩ := He.ba h
    obtain ⟨h3, h4⟩ := He.ba h2
    have h1' := of_decide_eq_true h1
    rw [len_list, rstrip_list] at h1'
    rw [rstrip_list] at h4
    obtain ⟨⟨a1, a2⟩, a3⟩ := (name_iff z.cps.toList).mp ⟨h1', h4⟩
    obtain ⟨w1, w2⟩ := He.ba e
    obtain ⟨w3, w4⟩ := He.ba w2
    obtain ⟨c, hc⟩ := List.exists_mem_of_length_pos a1
    rw [List.mem_filter] at hc
    have s1 := List.all_eq_true.mp w4 c hc.1
    have dj : GREAT.cps.toList.all (fun c => !inS SMALL c) = true := by decide +kernel
    have s2 := List.all_eq_true.mp dj c (of_decide_eq_true hc.2)
    rw [s1] at s2
    cases s2
theorem word_len {z : Str} (h : isWord z = true) : 1 ≤ z.length ∧ z.length ≤ 8 ∧ okS z := by
  obtain ⟨h1, h2⟩ := He.ba h
  obtain ⟨h3, h4⟩ := He.ba h2
  have dj : SMALL.cps.toList.all (fun c => decide (c < 1114112)) = true := by decide +kernel
  exact ⟨of_decide_eq_true h1, of_decide_eq_true h3, fun c hc => of_decide_eq_true (List.all_eq_true.mp dj c (of_decide_eq_true (List.all_eq_true.mp h4 c hc)))⟩
theorem name_len {z : Str} (h : isName z = true) : z.length ≤ 8 ∧ okS z := by
  obtain ⟨h1, h2⟩ := He.ba h
  obtain ⟨h3, h4⟩ := He.ba h2
  have h1' := of_decide_eq_true h1
  rw [len_list, rstrip_list] at h1'
  rw [rstrip_list] at h4
  obtain ⟨⟨a1, a2⟩, a3⟩ := (name_iff z.cps.toList).mp ⟨h1', h4⟩
  have dj : GREAT.cps.toList.all (fun c => decide (c < 1114112)) = true := by decide +kernel
  have dk : DIGITS.cps.toList.all (fun c => decide (c < 1114112)) = true := by decide +kernel
  refine ⟨of_decide_eq_true h3, fun c hc => ?_⟩
  rw [← List.take_append_drop (z.cps.toList.filter (inS GREAT)).length z.cps.toList] at hc
  rcases List.mem_append.mp hc with q | q
  · exact of_decide_eq_true (List.all_eq_true.mp dj c (of_decide_eq_true (List.all_eq_true.mp a2 c q)))
  · exact of_decide_eq_true (List.all_eq_true.mp dk c (of_decide_eq_true (List.all_eq_true.mp a3 c q)))
section
variable {P : Program} {w : World} {K : PySem.W.Frag} {mg : Str → Option Value} {base : Heap}
abbrev s__law_word : Stmt := top 27
theorem sc__law_word : FnScope ["_law_stream_here", "_law_size", "_law_k"] ["_law_stream_here"] (defScope s__law_word) := ⟨rfl, rfl, rfl, by decide +kernel, rfl, by decide +kernel, by decide +kernel⟩
theorem ok__law_word (T : Tx w K mg) : Fk P w K mg base CX0 2 "_law_word" ["_law_stream_here"] (sp_tx 9 fun z => isWord z = true) := by
  refine T.F__law_word.ok0 sc__law_word (fun _ _ _ _ _ _ us hl => match us, hl with | [_], _ => rfl)
    (fun vs H Q E h => ?_) (fun cdv A outer s H vs Q E hr h => ?_)
  · obtain ⟨p, xs, n, rfl, _⟩ := h
    rfl
  · obtain ⟨p, xs, n, rfl, hp, hx, k⟩ := h
    refine ⟨_, (pss_cons (ps_set (i := 1) sc__law_word.nd rfl (Or.inl rfl) (pe_ix ix_list (pe_lst (pa_cons pe_int (pa_cons pe_int (pa_cons pe_int (pa_cons pe_int (pa_cons pe_int (pa_cons pe_int pa_nil))))))) (pe_fk (ok__law_draw T) (hr.mono (by omega)) rfl pass0 (pa_cons (pv 0) (pa_cons pe_int pa_nil))) (fun _ _ => rfl)))
  (pss_one (ps_ret (pe_join pe_str (pe_lc (own := [("_law_k", 2)]) (g := gName 2) (tt := tYes) (by rfl) sc__law_word.nd (pi_range1 rfl T.z_range (pa_cons (pv 1) pa_nil)) (blkOk_by (own := [("_law_k", 2)]) (N := ["_law_stream_here", "_law_size", "_law_k"]) (sc := defScope s__law_word) (by decide +kernel)) (fun _ _ _ _ _ => (pg_name (i := 2) sc__law_word.nd rfl (Or.inl rfl))) (fun _ _ _ _ _ => pts_nil) (fun _ _ _ _ _ => (pe_ix ix_str pe_str (pe_fk (ok__law_draw T) (hr.mono (by omega)) rfl pass0 (pa_cons (pv 0) (pa_cons pe_int pa_nil))) (fun _ _ => rfl)))))))), ?_⟩
    refine rd_tab (us := [.int 1, .int 1, .int 2, .int 3, .int 5, .int 8]) (m := 6) (n := n + 8) (by intro _ _ q; exact q) (by rfl) hp hx rfl (by decide) (by decide) fun v H1 ys hv b1 hp1 hy => ?_
    obtain ⟨m, rfl, hm1, hm⟩ : ∃ m : Nat, v = V.int m ∧ 1 ≤ m ∧ m ≤ 8 := small_of hv (by decide)
    refine ⟨⟨_, rfl⟩, _, rfl, (m : Int), rfl, by omega, by omega, fun D hD => ?_⟩
    refine rd_signs (n := n) (M := 26) (fun _ => by rfl) hp1 (hy.mono (by omega)) hD (by omega) rfl (by decide) (by decide) fun cs H2 zs b2 hp2 hz hDv hl hs => ?_
    refine ⟨_, D, cs.map fun c => (⟨#[c]⟩ : Str), rfl, rfl, .inl (SqL.of (by rw [hDv, List.map_map]; rfl)), ?_, k _ zs H2 (b1.trans b2) hp2 hz ?_⟩
    · rw [sum_signs, List.length_map]
      show cs.length + cs.length * 0 ≤ _
      omega
    · show isWord (Txt.join "" (cs.map fun c => (⟨#[c]⟩ : Str))) = true
      rw [glue_signs]
      exact word_of (by omega) (by omega) hs
abbrev s__law_name : Stmt := top 28
theorem sc__law_name : FnScope ["_law_stream_here", "_law_size", "_law_many", "_law_letters", "_law_k"] ["_law_stream_here"] (defScope s__law_name) := ⟨rfl, rfl, rfl, by decide +kernel, rfl, by decide +kernel, by decide +kernel⟩
theorem ok__law_name (T : Tx w K mg) : Fk P w K mg base CX0 2 "_law_name" ["_law_stream_here"] (sp_tx 20 fun z => isName z = true) := by
  refine T.F__law_name.ok0 sc__law_name (fun _ _ _ _ _ _ us hl => match us, hl with | [_], _ => rfl)
    (fun vs H Q E h => ?_) (fun cdv A outer s H vs Q E hr h => ?_)
  · obtain ⟨p, xs, n, rfl, _⟩ := h
    rfl
  · obtain ⟨p, xs, n, rfl, hp, hx, k⟩ := h
    refine ⟨_, (pss_cons (ps_set (i := 1) sc__law_name.nd rfl (Or.inl rfl) (pe_ix ix_list (pe_lst (pa_cons pe_int (pa_cons pe_int (pa_cons pe_int (pa_cons pe_int (pa_cons pe_int (pa_cons pe_int pa_nil))))))) (pe_fk (ok__law_draw T) (hr.mono (by omega)) rfl pass0 (pa_cons (pv 0) (pa_cons pe_int pa_nil))) (fun _ _ => rfl)))
  (pss_cons (ps_set (i := 2) sc__law_name.nd rfl (Or.inl rfl) (pe_ix ix_list (pe_lst (pa_cons pe_int (pa_cons pe_int (pa_cons pe_int (pa_cons pe_int (pa_cons pe_int pa_nil)))))) (pe_fk (ok__law_draw T) (hr.mono (by omega)) rfl pass0 (pa_cons (pv 0) (pa_cons pe_int pa_nil))) (fun _ _ => rfl)))
  (pss_cons (ps_setLc (i := 3) (own := [("_law_k", 4)]) (g := gName 4) (tt := tYes) (by rfl) sc__law_name.nd rfl rfl (sw_true rfl rfl rfl (by decide +kernel)) (pi_range1 rfl T.z_range (pa_cons (pe_callB (cr_max rfl) (by rfl) T.z_max (by decide +kernel) (pa_cons (pe_lst (pa_cons pe_int (pa_cons (pe_op op_sub (pv 1) (pv 2)) pa_nil))) pa_nil)) pa_nil)) (blkOk_by (own := [("_law_k", 4)]) (N := ["_law_stream_here", "_law_size", "_law_many", "_law_letters", "_law_k"]) (sc := defScope s__law_name) (by decide +kernel)) (fun _ _ _ _ _ => (pg_name (i := 4) sc__law_name.nd rfl (Or.inl rfl))) (fun _ _ _ _ _ => pts_nil) (fun _ _ _ _ _ => (pe_ix ix_str pe_str (pe_fk (ok__law_draw T) (hr.mono (by omega)) rfl pass0 (pa_cons (pv 0) (pa_cons pe_int pa_nil))) (fun _ _ => rfl))))
  (pss_one (ps_ret (pe_join pe_str (pe_op op_cat (pv 3) (pe_lc (own := [("_law_k", 4)]) (g := gName 4) (tt := tYes) (by rfl) sc__law_name.nd (pi_range1 rfl T.z_range (pa_cons (pe_op op_sub (pv 1) (pe_callB call_len_seq (by rfl) T.z_len (by decide +kernel) (pa_cons (pv 3) pa_nil))) pa_nil)) (blkOk_by (own := [("_law_k", 4)]) (N := ["_law_stream_here", "_law_size", "_law_many", "_law_letters", "_law_k"]) (sc := defScope s__law_name) (by decide +kernel)) (fun _ _ _ _ _ => (pg_name (i := 4) sc__law_name.nd rfl (Or.inl rfl))) (fun _ _ _ _ _ => pts_nil) (fun _ _ _ _ _ => (pe_ix ix_str pe_str (pe_fk (ok__law_draw T) (hr.mono (by omega)) rfl pass0 (pa_cons (pv 0) (pa_cons pe_int pa_nil))) (fun _ _ => rfl))))))))))), ?_⟩
    refine rd_tab (us := [.int 1, .int 1, .int 2, .int 3, .int 6, .int 8]) (m := 6) (n := n + 19) (by intro _ _ q; exact q) (by rfl) hp hx rfl (by decide) (by decide) fun v H1 ys hv b1 hp1 hy => ?_
    obtain ⟨m, rfl, hm1, hm⟩ : ∃ m : Nat, v = V.int m ∧ 1 ≤ m ∧ m ≤ 8 := small_of hv (by decide)
    refine gName_k ?_
    dsimp only
    refine seqAsg ?_
    refine rd_tab (us := [.int 0, .int 0, .int 0, .int 1, .int 2]) (m := 5) (n := n + 18) (by intro _ _ q; exact q) (by rfl) hp1 hy rfl (by decide) (by decide) fun v H2 zs hv b2 hp2 hz => ?_
    obtain ⟨l, rfl, _, hl⟩ : ∃ m : Nat, v = V.int m ∧ 0 ≤ m ∧ m ≤ 2 := small_of hv (by decide)
    refine ⟨_, rfl, _, rfl, _, _, rfl, rfl, (by show 2 ≤ sizeLine; decide), fun q hq => ?_⟩
    have nqp : p ≠ q := ne_of_none hp2 hq
    refine ⟨q, [1, (m : Int) - l], rfl, SqL.of upd_same, (by show 0 < 2; decide), fun u hu hle => ?_⟩
    obtain ⟨e, rfl, he1, he⟩ : ∃ e : Nat, u = (e : Int) ∧ 1 ≤ e ∧ e ≤ m := by
      have h1 := hle 1 List.mem_cons_self
      rcases List.mem_cons.mp hu with rfl | hu
      · exact ⟨1, rfl, by omega, by omega⟩
      · have h2 := List.mem_singleton.mp hu
        exact ⟨u.toNat, by omega, by omega, by omega⟩
    refine ⟨(e : Int), rfl, by omega, by omega, fun D hD => ?_⟩
    have hp3 : upd H2 q (.lst [.int 1, .int ((m : Int) - l)]) p = some (.lst zs) := by rw [upd_ne nqp]; exact hp2
    refine rd_signs (n := n + 8) (M := 26) (fun _ => by rfl) hp3 (hz.mono (by omega)) hD (by omega) rfl (by decide) (by decide) fun cs H4 ws b4 hp4 hw hDv hl4 hs => ?_
    have hlm : (cs.map sg1).length = e := by rw [List.length_map, hl4]; omega
    refine ⟨⟨_, rfl⟩, _, rfl, _, rfl, _, rfl, D, _, rfl, .inl (SqL.of hDv), _, _, rfl, rfl, _, rfl, by omega, by omega, fun D2 hD2 => ?_⟩
    refine rd_signs (n := n) (M := 10) (fun _ => by rfl) hp4 (hw.mono (by omega)) hD2 (by omega) rfl (by decide) (by decide) fun cs2 H5 vs5 b5 hp5 hv5 hDv2 hl5 hs2 => ?_
    have nDp : D ≠ p := fun z => by rw [z, hp3] at hD; cases hD
    have hDv5 : H5 D = some (.lst (cs.map sg1)) := b5 D _ nDp hDv
    have hl2 : (cs2.map sg1).length ≤ 8 := by rw [List.length_map, hl5]; omega
    refine ⟨D, D2, _, _, rfl, rfl, hDv5, hDv2, ?_, fun r hr5 => ?_⟩
    · have : 100 ≤ sizeLine := by decide
      omega
    · have hl6 : cs2.length = m - e := by rw [hl5]; omega
      rw [List.length_map] at hlm hl2
      refine ⟨_, r, (cs ++ cs2).map fun c => (⟨#[c]⟩ : Str), rfl, rfl, .inl (SqL.of (by rw [upd_same, List.map_map, List.map_append]; rfl)), ?_, k _ vs5 _ ?_ ?_ hv5 ?_⟩
      · rw [sum_signs, List.length_map, List.length_append]
        show cs.length + cs2.length + (cs.length + cs2.length) * 0 ≤ _
        omega
      · exact ((((b1.trans b2).trans (But.new hq)).trans b4).trans b5).trans (But.new hr5)
      · rw [upd_ne (ne_of_none hp5 hr5)]
        exact hp5
      · show isName (Txt.join "" ((cs ++ cs2).map fun c => (⟨#[c]⟩ : Str))) = true
        rw [glue_signs]
        exact name_of (by omega) (by omega) hs hs2
end
end Rd
namespace Rd
open PySem L2
/-! ### forms -/
inductive Tr where
  | am (k x : Str)
  | un (s : Str) (a : Tr)
  | bi (s : Str) (a b : Tr)
  deriving DecidableEq
def Tr.dep : Tr → Nat
  | .am _ _ => 0
  | .un _ a => a.dep + 1
  | .bi _ a b => max a.dep b.dep + 1
def Tr.nod : Tr → Nat
  | .am _ _ => 0
  | .un _ a => a.nod + 1
  | .bi _ a b => a.nod + b.nod + 1
/-- how large a drawn form is -/
def dpN (d : Nat) (t : Tr) : Prop := t.dep ≤ 2 * d ∧ t.nod + 2 ≤ 2 ^ (d + 1)
theorem dpN.am {d : Nat} {k x : Str} : dpN d (.am k x) := by
  refine ⟨Nat.zero_le _, ?_⟩
  show 0 + 2 ≤ 2 ^ (d + 1)
  rw [Nat.pow_succ]
  have := Nat.pow_pos (n := d) (show 0 < 2 by decide)
  omega
theorem dpN.un {d : Nat} {s : Str} {a : Tr} (h : dpN d a) : dpN (d + 1) (.un s a) := by
  obtain ⟨h1, h2⟩ := h
  have e : 2 ^ (d + 1 + 1) = 2 * 2 ^ (d + 1) := by rw [Nat.pow_succ]; omega
  refine ⟨?_, ?_⟩
  · show a.dep + 1 ≤ 2 * (d + 1)
    omega
  · show a.nod + 1 + 2 ≤ 2 ^ (d + 1 + 1)
    omega
theorem dpN.bi {d : Nat} {s : Str} {a b : Tr} (h : dpN d a) (g : dpN d b) : dpN (d + 1) (.bi s a b) := by
  obtain ⟨h1, h2⟩ := h
  obtain ⟨g1, g2⟩ := g
  have e : 2 ^ (d + 1 + 1) = 2 * 2 ^ (d + 1) := by rw [Nat.pow_succ]; omega
  refine ⟨?_, ?_⟩
  · show max a.dep b.dep + 1 ≤ 2 * (d + 1)
    omega
  · show a.nod + b.nod + 1 + 2 ≤ 2 ^ (d + 1 + 1)
    omega
theorem dpN.lk {d : Nat} {s s' : Str} {a b : Tr} (h : dpN d a) (g : dpN d b) : dpN (d + 1) (.bi s a (.un s' b)) := by
  obtain ⟨h1, h2⟩ := h
  obtain ⟨g1, g2⟩ := g
  have e : 2 ^ (d + 1 + 1) = 2 * 2 ^ (d + 1) := by rw [Nat.pow_succ]; omega
  refine ⟨?_, ?_⟩
  · show max a.dep (b.dep + 1) + 1 ≤ 2 * (d + 1)
    omega
  · show a.nod + (b.nod + 1) + 1 + 2 ≤ 2 ^ (d + 1 + 1)
    omega
def kindOk (k x : Str) : Prop := (k = "word" ∧ isWord x = true) ∨ (k = "name" ∧ isName x = true) ∨ (k = "unknown" ∧ isUnk x = true)
inductive Wf : Tr → Prop
  | am {k x : Str} : kindOk k x → Wf (.am k x)
  | un {s : Str} {a : Tr} : s ∈ (["mark", "open", "own"] : List Str) → Wf a → Wf (.un s a)
  | bi {s : Str} {a b : Tr} : s ∈ (["pair", "seal"] : List Str) → Wf a → Wf b → Wf (.bi s a b)
  | lk {s : Str} {a b : Tr} : s ∈ (["open", "own"] : List Str) → Wf a → Wf b → Wf (.bi "lock" a (.un s b))
def IsT (H : Hp) : Tr → V → Prop
  | .am k x, v => ∃ p, v = .ref p ∧ H p = some (.tup [.str k, .str x])
  | .un s a, v => ∃ p u, v = .ref p ∧ H p = some (.tup [.str s, u]) ∧ IsT H a u
  | .bi s a b, v => ∃ p u1 u2, v = .ref p ∧ H p = some (.tup [.str s, u1, u2]) ∧ IsT H a u1 ∧ IsT H b u2
theorem IsT.mono {C : Addr} {H H' : Hp} (k : Kp C H H') : ∀ {t : Tr} {v : V}, IsT H t v → IsT H' t v
  | .am _ _, _, ⟨p, e, h⟩ => ⟨p, e, k p _ rfl h⟩
  | .un _ _, _, ⟨p, u, e, h, h1⟩ => ⟨p, u, e, k p _ rfl h, IsT.mono k h1⟩
  | .bi _ _ _, _, ⟨p, u1, u2, e, h, h1, h2⟩ => ⟨p, u1, u2, e, k p _ rfl h, IsT.mono k h1, IsT.mono k h2⟩
theorem IsT.same {H H' : Hp} {t : Tr} {v : V} (s : Same H H') (h : IsT H t v) : IsT H' t v := h.mono (C := 0) (Kp.of_same s)
theorem IsT.but {p : Addr} {H H' : Hp} {xs : List V} {t : Tr} {v : V} (s : But p H H') (hp : H p = some (.lst xs)) (h : IsT H t v) : IsT H' t v := h.mono (C := 0) (s.kp hp)
theorem IsT.ref {H : Hp} {t : Tr} {v : V} (h : IsT H t v) : ∃ p, v = .ref p := by
  cases t with
  | am k x => obtain ⟨p, e, _⟩ := h; exact ⟨p, e⟩
  | un s a => obtain ⟨p, u, e, _⟩ := h; exact ⟨p, e⟩
  | bi s a b => obtain ⟨p, u, u2, e, _⟩ := h; exact ⟨p, e⟩
/-- a form drawn -/
def unkL (us : List V) : Prop := us.length ≤ 100 ∧ ∀ v ∈ us, ∃ z : Str, v = .str z ∧ isUnk z = true
theorem unk_len {z : Str} (h : isUnk z = true) : z.length ≤ 7 ∧ 1 ≤ z.length ∧ okS z := by
  obtain ⟨h1, h2⟩ := He.ba h
  obtain ⟨a, b, c⟩ := word_len h1
  exact ⟨of_decide_eq_true h2, a, c⟩
def unkB : V → Bool
  | .str z => isUnk z
  | _ => false
theorem unkL_by {us : List V} (hl : us.length ≤ 100) (h : us.all unkB = true) : unkL us := ⟨hl, fun v hv => by
  have h1 := List.all_eq_true.mp h v hv
  cases v with
  | str z => exact ⟨z, rfl, h1⟩
  | _ => cases h1⟩
theorem dpL {K : PySem.W.Frag} {H : Hp} : ∀ (us : List V), (∀ v ∈ us, ∃ z : Str, v = .str z ∧ isUnk z = true) → ∃ ds : List PyData, DpAll K H us ds ∧ ds.length = us.length ∧ PySem.PyData.canLayAll0 ds = true ∧ PySem.PyData.depthAll ds = 0
  | [], _ => ⟨[], .nil, rfl, rfl, rfl⟩
  | v :: r, h => by
    obtain ⟨z, rfl, hz⟩ := h v List.mem_cons_self
    obtain ⟨ds, h1, h2, h3, h4⟩ := dpL (K := K) (H := H) r fun v hv => h v (List.mem_cons_of_mem _ hv)
    refine ⟨.str z :: ds, .cons (.str z) h1, by rw [List.length_cons, h2]; rfl, ?_, ?_⟩
    · show (PySem.PyData.strOk z && PySem.PyData.canLayAll0 ds) = true
      rw [strOk_of (unk_len hz).2.2, h3]
      rfl
    · show max 0 (PySem.PyData.depthAll ds) = 0
      rw [h4]
      rfl
def sp_atom : Sp := fun vs H Q _ => ∃ (p u : Addr) (xs us : List V) (n : Nat), vs = [.ref p, .ref u] ∧ H p = some (.lst xs) ∧ StL (n + 30) xs ∧ u ≠ p ∧ H u = some (.lst us) ∧ unkL us ∧
  ∀ k x v ys H', But p H H' → H' p = some (.lst ys) → StL n ys → kindOk k x → IsT H' (.am k x) v → Q v H'
def dr (d : Nat) : Nat := 40 * 3 ^ d
def sp_drawnForm (d : Nat) : Sp := fun vs H Q _ => ∃ (p u : Addr) (xs us : List V) (n : Nat), vs = [.ref p, .ref u, .int d] ∧ H p = some (.lst xs) ∧ StL (n + dr d) xs ∧ u ≠ p ∧ H u = some (.lst us) ∧ unkL us ∧
  ∀ t v ys H', But p H H' → H' p = some (.lst ys) → StL n ys → Wf t → dpN d t → IsT H' t v → Q v H'
/-- the promise at recursive calls of a form at most d deep -/
def spR : Nat → Sp
  | 0 => fun _ _ _ _ => False
  | d + 1 => sp_drawnForm d
/-- pick(stream, [..]) -/
theorem rd_pick {K : PySem.W.Frag} {p a : Addr} {xs us : List V} {n : Nat} {H : Hp} {Q : VK} (hp : H p = some (.lst xs)) (hx : StL (n + 1) xs) (ha : H a = some (.lst us)) (ne : a ≠ p) (h0 : 0 < us.length) (h1 : us.length ≤ 1000)
    (k : ∀ v H' ys, v ∈ us → But p H H' → H' p = some (.lst ys) → StL n ys → Q v H') : sp_pick K [.ref p, .ref a] H Q E0 :=
  ⟨p, a, xs, us, n, rfl, hp, hx, SqL.of ha, SqL.of (by rw [upd_ne ne]; exact ha), h0, by omega, fun j v ys hv hy => k v _ ys (List.mem_of_getElem? hv) But.upd upd_same hy⟩
def strIn (l : List Str) : V → Bool
  | .str z => decide (z ∈ l)
  | _ => false
theorem str_of {us : List V} {v : V} {l : List Str} (h : v ∈ us) (ha : us.all (strIn l) = true) : ∃ z : Str, v = V.str z ∧ z ∈ l := by
  have h1 := List.all_eq_true.mp ha v h
  cases v with
  | str z => exact ⟨z, rfl, of_decide_eq_true h1⟩
  | _ => cases h1
theorem eqv_nil (ds : List PyData) : PyData.eqv (.list ds) (.list []) = ds.isEmpty := by cases ds <;> rfl
section
variable {P : Program} {w : World} {K : PySem.W.Frag} {mg : Str → Option Value} {base : Heap}
abbrev s__law_atom : Stmt := top 29
theorem sc__law_atom : FnScope ["_law_stream_here", "_law_unknowns", "_law_way"] ["_law_stream_here", "_law_unknowns"] (defScope s__law_atom) := ⟨rfl, rfl, rfl, by decide +kernel, rfl, by decide +kernel, by decide +kernel⟩
theorem ok__law_atom (T : Tx w K mg) : Fk P w K mg base CX0 3 "_law_atom" ["_law_stream_here", "_law_unknowns"] sp_atom := by
  refine T.F__law_atom.ok0 sc__law_atom (fun _ _ _ _ _ _ us hl => match us, hl with | [_, _], _ => rfl)
    (fun vs H Q E h => ?_) (fun cdv A outer s H vs Q E hr h => ?_)
  · obtain ⟨p, u, xs, us, n, rfl, _⟩ := h
    rfl
  · obtain ⟨p, u, xs, us, n, rfl, hp, hx, nup, hu, hU, k⟩ := h
    refine ⟨_, (pss_cons (ps_set (i := 2) sc__law_atom.nd rfl (Or.inl rfl) (pe_fk (ok__law_draw T) (hr.mono (by omega)) rfl pass0 (pa_cons (pv 0) (pa_cons pe_int pa_nil))))
  (pss_cons (ps_if (PW.pt (pw_and (pt_cmpR op_lt (pv 2) pe_int (nomark _)) (pw_and1 (pt_cmpR (op_neD hr.units) (pv 1) (pe_lst pa_nil) (nomark _)))))
  (pss_one (ps_ret (pe_tup (pa_cons pe_str (pa_cons (pe_fk (ok__law_pick T) (hr.mono (by omega)) rfl pass0 (pa_cons (pv 0) (pa_cons (pv 1) pa_nil))) pa_nil)))))
  pss_nil)
  (pss_cons (ps_if (pt_cmpR op_lt (pv 2) pe_int (nomark _))
  (pss_one (ps_ret (pe_tup (pa_cons pe_str (pa_cons (pe_fk (ok__law_pick T) (hr.mono (by omega)) rfl pass0 (pa_cons (pv 0) (pa_cons (pe_lst (pa_cons pe_str (pa_cons pe_str (pa_cons pe_str (pa_cons pe_str (pa_cons (pe_fk (ok__law_name T) (hr.mono (by omega)) rfl pass0 (pa_cons (pv 0) pa_nil)) pa_nil)))))) pa_nil))) pa_nil)))))
  pss_nil)
  (pss_one (ps_ret (pe_tup (pa_cons pe_str (pa_cons (pe_fk (ok__law_pick T) (hr.mono (by omega)) rfl pass0 (pa_cons (pv 0) (pa_cons (pe_lst (pa_cons pe_str (pa_cons pe_str (pa_cons pe_str (pa_cons pe_str (pa_cons (pe_fk (ok__law_word T) (hr.mono (by omega)) rfl pass0 (pa_cons (pv 0) pa_nil)) pa_nil)))))) pa_nil))) pa_nil)))))))), ?_⟩
    refine seqAsg (rd_draw (m := 6) (n := n + 29) (by rfl) hp hx (by decide) (by decide) fun d H1 y1 hd b1 hp1 hy1 => ?_)
    refine gName_k ?_
    try dsimp only
    have hu1 := b1 u _ nup hu
    obtain ⟨ds, hds, hdl, hdc, hdd⟩ := dpL (K := K) (H := H1) us hU.2
    have mono : ∀ {H' : Hp}, Same H1 H' → DpAll K H' us ds := fun {H'} s' => by
      obtain ⟨es, h1, _, _, _⟩ := dpL (K := K) (H := H') us hU.2
      have key : ∀ {l : List V} {a b : List PyData}, (∀ v ∈ l, ∃ z : Str, v = .str z ∧ isUnk z = true) → DpAll K H1 l a → DpAll K H' l b → DpAll K H' l a := by
        intro l
        induction l with
        | nil => intro a b _ ha _; cases ha; exact .nil
        | cons v r ih =>
          intro a b hv ha hb
          obtain ⟨z, rfl, hz⟩ := hv v List.mem_cons_self
          cases ha with
          | cons a1 a2 =>
            cases hb with
            | cons b1 b2 =>
              cases a1
              exact .cons (.str z) (ih (fun v hv' => hv v (List.mem_cons_of_mem _ hv')) a2 b2)
      exact key hU.2 hds h1
    have sd : SeqAt.shaped (.list ds) = true := by
      show (PySem.PyData.canLayAll0 ds && decide (PySem.PyData.depthAll ds + 1 ≤ 64)) = true
      rw [hdc, hdd]
      rfl
    refine seqIf (tb_and (fun R r => ⟨_, rfl, _, _, rfl, rfl, _, rfl, r _ (Same.refl _)⟩) fun H2 s2 _ R r => ⟨_, rfl, Nat.zero_le _, fun q hq => ⟨.list ds, .list [], .lst (SqL.of ((s2.trans (Rd.Same.upd hq)) _ _ hu1)) (mono (s2.trans (Rd.Same.upd hq))), .lst (SqL.of upd_same) .nil, sd, rfl, _, rfl, r _ (Rd.Same.upd hq)⟩⟩) fun H2 s2 => ?_
    rw [eqv_nil]
    have B2 : But p H H2 := b1.trans (But.of_same s2)
    have hp2 := s2 _ _ hp1
    have hu2 := s2 _ _ hu1
    refine ite2 (fun h1 => ?_) (fun h1 => ?_)
    · have h0 : 0 < us.length := by
        obtain ⟨_, h3⟩ := He.ba h1
        rw [← hdl]
        cases ds with
        | nil => cases h3
        | cons a b => exact Nat.succ_pos _
      refine ⟨_, rfl, _, rfl, rd_pick (n := n + 28) hp2 hy1 hu2 nup h0 (by have := hU.1; omega) fun v H3 y3 hv b3 hp3 hy3 => ⟨(by show 2 ≤ sizeLine; decide), fun q hq => ?_⟩⟩
      obtain ⟨z, rfl, hz⟩ := hU.2 v hv
      exact k "unknown" z _ y3 _ ((B2.trans b3).trans (But.new hq)) (by rw [upd_ne (ne_of_none hp3 hq)]; exact hp3) (hy3.mono (by omega)) (.inr (.inr ⟨rfl, hz⟩)) ⟨q, rfl, upd_same⟩
    refine nxt ?_
    try dsimp only
    refine seqIf (fun R r => ⟨_, rfl, _, _, rfl, rfl, _, rfl, r _ (Same.refl _)⟩) fun H3 s3 => ?_
    have B3 : But p H H3 := B2.trans (But.of_same s3)
    have hp3 := s3 _ _ hp2
    refine ite2 (fun h2 => ?_) (fun h2 => ?_)
    · refine ⟨_, rfl, _, rfl, p, y1, n + 9, rfl, hp3, hy1, fun z1 y4 H4 b4 hp4 hy4 hz1 => ⟨(by show 5 ≤ sizeLine; decide), fun q hq => ?_⟩⟩
      have nqp : q ≠ p := fun z => by rw [z, hp4] at hq; cases hq
      refine rd_pick (n := n + 8) (by rw [upd_ne (Ne.symm nqp)]; exact hp4) hy4 upd_same nqp (by show 0 < 5; decide) (by show 5 ≤ 1000; decide) fun v H5 y5 hv b5 hp5 hy5 => ⟨(by show 2 ≤ sizeLine; decide), fun q2 hq2 => ?_⟩
      obtain ⟨z, rfl, hz⟩ : ∃ z : Str, v = .str z ∧ isName z = true := by
        rcases List.mem_cons.mp hv with rfl | hv
        · exact ⟨_, rfl, by decide +kernel⟩
        rcases List.mem_cons.mp hv with rfl | hv
        · exact ⟨_, rfl, by decide +kernel⟩
        rcases List.mem_cons.mp hv with rfl | hv
        · exact ⟨_, rfl, by decide +kernel⟩
        rcases List.mem_cons.mp hv with rfl | hv
        · exact ⟨_, rfl, by decide +kernel⟩
        exact ⟨z1, List.mem_singleton.mp hv, hz1⟩
      exact k "name" z _ y5 _ ((((B3.trans b4).trans (But.new hq)).trans b5).trans (But.new hq2)) (by rw [upd_ne (ne_of_none hp5 hq2)]; exact hp5) (hy5.mono (by omega)) (.inr (.inl ⟨rfl, hz⟩)) ⟨q2, rfl, upd_same⟩
    · refine ⟨_, rfl, _, rfl, p, y1, n + 20, rfl, hp3, hy1, fun z1 y4 H4 b4 hp4 hy4 hz1 => ⟨(by show 5 ≤ sizeLine; decide), fun q hq => ?_⟩⟩
      have nqp : q ≠ p := fun z => by rw [z, hp4] at hq; cases hq
      refine rd_pick (n := n + 19) (by rw [upd_ne (Ne.symm nqp)]; exact hp4) hy4 upd_same nqp (by show 0 < 5; decide) (by show 5 ≤ 1000; decide) fun v H5 y5 hv b5 hp5 hy5 => ⟨(by show 2 ≤ sizeLine; decide), fun q2 hq2 => ?_⟩
      obtain ⟨z, rfl, hz⟩ : ∃ z : Str, v = .str z ∧ isWord z = true := by
        rcases List.mem_cons.mp hv with rfl | hv
        · exact ⟨_, rfl, by decide +kernel⟩
        rcases List.mem_cons.mp hv with rfl | hv
        · exact ⟨_, rfl, by decide +kernel⟩
        rcases List.mem_cons.mp hv with rfl | hv
        · exact ⟨_, rfl, by decide +kernel⟩
        rcases List.mem_cons.mp hv with rfl | hv
        · exact ⟨_, rfl, by decide +kernel⟩
        exact ⟨z1, List.mem_singleton.mp hv, hz1⟩
      exact k "word" z _ y5 _ ((((B3.trans b4).trans (But.new hq)).trans b5).trans (But.new hq2)) (by rw [upd_ne (ne_of_none hp5 hq2)]; exact hp5) (hy5.mono (by omega)) (.inl ⟨rfl, hz⟩) ⟨q2, rfl, upd_same⟩
abbrev s__law_form : Stmt := top 30
theorem sc__law_form : FnScope ["_law_stream_here", "_law_unknowns", "_law_deep", "_law_way", "_law_one", "_law_other"] ["_law_stream_here", "_law_unknowns", "_law_deep"] (defScope s__law_form) := ⟨rfl, rfl, rfl, by decide +kernel, rfl, by decide +kernel, by decide +kernel⟩
theorem form_step (T : Tx w K mg) (d : Nat) (ih : Fk P w K mg base CX0 (d + 4) "_law_form" ["_law_stream_here", "_law_unknowns", "_law_deep"] (spR d)) : Fk P w K mg base CX0 (d + 5) "_law_form" ["_law_stream_here", "_law_unknowns", "_law_deep"] (sp_drawnForm d) := by
  refine T.F__law_form.ok0 sc__law_form (fun _ _ _ _ _ _ us hl => match us, hl with | [_, _, _], _ => rfl)
    (fun vs H Q E h => ?_) (fun cdv A outer s H vs Q E hr h => ?_)
  · obtain ⟨p, u, xs, us, n, rfl, _⟩ := h
    rfl
  · obtain ⟨p, u, xs, us, n, rfl, hp, hx, nup, hu, hU, k⟩ := h
    refine ⟨_, (pss_cons (ps_set (i := 3) sc__law_form.nd rfl (Or.inl rfl) (pe_ifExp (pt_cmpR op_gt (pv 2) pe_int (nomark _)) (pe_fk (ok__law_draw T) (hr.mono (by omega)) rfl pass0 (pa_cons (pv 0) (pa_cons pe_int pa_nil))) pe_int))
  (pss_cons (ps_if (pt_cmpR op_lt (pv 3) pe_int (nomark _))
  (pss_one (ps_ret (pe_fk (ok__law_atom T) (hr.mono (by omega)) rfl pass0 (pa_cons (pv 0) (pa_cons (pv 1) pa_nil)))))
  pss_nil)
  (pss_cons (ps_set (i := 4) sc__law_form.nd rfl (Or.inl rfl) (pe_fk ih (hr.mono (by omega)) rfl pass0 (pa_cons (pv 0) (pa_cons (pv 1) (pa_cons (pe_op op_sub (pv 2) pe_int) pa_nil)))))
  (pss_cons (ps_if (pt_cmpR op_gt (pv 3) pe_int (nomark _))
  (pss_one (ps_ret (pe_tup (pa_cons (pe_ix ix_list (pe_lst (pa_cons pe_str (pa_cons pe_str (pa_cons pe_str pa_nil)))) (pe_fk (ok__law_draw T) (hr.mono (by omega)) rfl pass0 (pa_cons (pv 0) (pa_cons pe_int pa_nil))) (fun _ _ => rfl)) (pa_cons (pv 4) pa_nil)))))
  pss_nil)
  (pss_cons (ps_set (i := 5) sc__law_form.nd rfl (Or.inl rfl) (pe_fk ih (hr.mono (by omega)) rfl pass0 (pa_cons (pv 0) (pa_cons (pv 1) (pa_cons (pe_op op_sub (pv 2) pe_int) pa_nil)))))
  (pss_cons (ps_if (pt_cmpR op_gt (pv 3) pe_int (nomark _))
  (pss_one (ps_ret (pe_tup (pa_cons pe_str (pa_cons (pv 4) (pa_cons (pe_tup (pa_cons (pe_ix ix_list (pe_lst (pa_cons pe_str (pa_cons pe_str pa_nil))) (pe_fk (ok__law_draw T) (hr.mono (by omega)) rfl pass0 (pa_cons (pv 0) (pa_cons pe_int pa_nil))) (fun _ _ => rfl)) (pa_cons (pv 5) pa_nil))) pa_nil))))))
  pss_nil)
  (pss_one (ps_ret (pe_tup (pa_cons (pe_ix ix_list (pe_lst (pa_cons pe_str (pa_cons pe_str pa_nil))) (pe_op op_mod (pe_callTy call_int1 (by rfl) T.z_int (by decide +kernel) (pa_cons (pv 3) pa_nil)) pe_int) (fun _ _ => rfl)) (pa_cons (pv 4) (pa_cons (pv 5) pa_nil)))))))))))), ?_⟩
    have d40 : 40 ≤ dr d := by
      have := Nat.pow_pos (n := d) (show 0 < 3 by decide)
      unfold dr
      omega
    have atomc : ∀ {H1 : Hp} {y1 : List V}, But p H H1 → H1 p = some (.lst y1) → StL (n + 30) y1 → sp_atom [.ref p, .ref u] H1 Q E0 := fun {H1 y1} b hp1 hy =>
      ⟨p, u, y1, us, n, rfl, hp1, hy, nup, b u _ nup hu, hU, fun k' x v ys H' b' hp' hy' ko it => k (.am k' x) v ys H' (b.trans b') hp' hy' (.am ko) dpN.am it⟩
    refine ⟨_, rfl, _, _, rfl, rfl, _, rfl, ite2 (fun h1 => ?_) (fun h1 => ?_)⟩
    · cases d with
      | zero => exact absurd (of_decide_eq_true h1) (by decide)
      | succ d =>
        have hD : dr (d + 1) = 3 * dr d := by
          unfold dr
          rw [Nat.pow_succ]
          omega
        have dd40 : 40 ≤ dr d := by
          have := Nat.pow_pos (n := d) (show 0 < 3 by decide)
          unfold dr
          omega
        have ed : (((d + 1 : Nat) : Int) - 1) = (d : Int) := by omega
        refine rd_draw (m := 11) (n := n + 3 * dr d - 1) (by rfl) hp (hx.mono (by omega)) (by decide) (by decide) fun way H1 y1 hw b1 hp1 hy1 => ?_
        have hu1 := b1 u _ nup hu
        refine gName_k ?_
        try dsimp only
        refine ⟨_, rfl, _, _, rfl, rfl, _, rfl, ite2 (fun h2 => ?_) (fun h2 => ?_)⟩
        · exact ⟨_, rfl, _, rfl, atomc b1 hp1 (hy1.mono (by omega))⟩
        refine ⟨_, rfl, _, rfl, _, rfl, _, _, rfl, rfl, p, u, y1, us, n + 2 * dr d - 1, ?_, hp1, hy1.mono (by omega), nup, hu1, hU, fun t1 v1 y2 H2 b2 hp2 hy2 wf1 dp1 it1 => ?_⟩
        · show [V.ref p, V.ref u, V.int (((d + 1 : Nat) : Int) - 1)] = _
          rw [ed]
        have hu2 := b2 u _ nup hu1
        have B2 := b1.trans b2
        refine ⟨_, rfl, _, _, rfl, rfl, _, rfl, ite2 (fun h3 => ?_) (fun h3 => ?_)⟩
        · refine rd_tab (us := [.str "mark", .str "open", .str "own"]) (m := 3) (n := n) (by intro _ _ q; exact q) (by rfl) hp2 (hy2.mono (by omega)) rfl (by decide) (by decide) fun v H3 y3 hv b3 hp3 hy3 => ?_
          obtain ⟨s3, rfl, hs3⟩ : ∃ s3 : Str, v = .str s3 ∧ s3 ∈ (["mark", "open", "own"] : List Str) := str_of hv (by decide +kernel)
          refine ⟨_, rfl, (by show 2 ≤ sizeLine; decide), fun q hq => ?_⟩
          exact k (.un s3 t1) _ y3 _ ((B2.trans b3).trans (But.new hq)) (by rw [upd_ne (ne_of_none hp3 hq)]; exact hp3) hy3 (.un hs3 wf1) dp1.un ⟨q, v1, rfl, upd_same, (it1.but b3 hp2).same (Rd.Same.upd hq)⟩
        refine ⟨_, rfl, _, rfl, _, rfl, _, _, rfl, rfl, p, u, y2, us, n + dr d - 1, ?_, hp2, hy2.mono (by omega), nup, hu2, hU, fun t2 v2 y3 H3 b3 hp3 hy3 wf2 dp2 it2 => ?_⟩
        · show [V.ref p, V.ref u, V.int (((d + 1 : Nat) : Int) - 1)] = _
          rw [ed]
        have B3 := B2.trans b3
        have it1' := it1.but b3 hp2
        refine ⟨_, rfl, _, _, rfl, rfl, _, rfl, ite2 (fun h4 => ?_) (fun h4 => ?_)⟩
        · refine ⟨_, rfl, rd_tab (us := [.str "open", .str "own"]) (m := 2) (n := n) (by intro _ _ q; exact q) (by rfl) hp3 (hy3.mono (by omega)) rfl (by decide) (by decide) fun v H4 y4 hv b4 hp4 hy4 => ?_⟩
          obtain ⟨s4, rfl, hs4⟩ : ∃ s4 : Str, v = .str s4 ∧ s4 ∈ (["open", "own"] : List Str) := str_of hv (by decide +kernel)
          refine ⟨_, rfl, (by show 2 ≤ sizeLine; decide), fun q hq => ⟨(by show 3 ≤ sizeLine; decide), fun q2 hq2 => ?_⟩⟩
          have sq := Rd.Same.upd (o := .tup [.str s4, v2]) hq
          have sq2 := sq.trans (Rd.Same.upd (o := .tup [.str "lock", v1, .ref q]) hq2)
          refine k (.bi "lock" t1 (.un s4 t2)) _ y4 _ ((B3.trans b4).trans (But.of_same sq2)) (sq2 _ _ hp4) hy4 (.lk hs4 wf1 wf2) (dp1.lk dp2) ⟨q2, v1, _, rfl, upd_same, (it1'.but b4 hp3).same sq2, q, v2, rfl, ?_, (it2.but b4 hp3).same sq2⟩
          rw [upd_ne (fun z => by rw [← z, upd_same] at hq2; cases hq2), upd_same]
        · refine ⟨(by show 2 ≤ sizeLine; decide), fun q hq => ?_⟩
          have sq := Rd.Same.upd (o := .lst [.str "pair", .str "seal"]) hq
          have hj : ((way : Int) % 2).toNat < 2 := by omega
          obtain ⟨v, hv⟩ : ∃ v, ([.str "pair", .str "seal"] : List V)[((way : Int) % 2).toNat]? = some v := ⟨_, List.getElem?_eq_getElem (by show _ < 2; exact hj)⟩
          obtain ⟨s4, rfl, hs4⟩ : ∃ s4 : Str, v = .str s4 ∧ s4 ∈ (["pair", "seal"] : List Str) := str_of (List.mem_of_getElem? hv) (by decide +kernel)
          refine ⟨_, rfl, .inl ⟨_, rfl, _, _, rfl, rfl, (by show (0 : Int) < 2; decide), q, _, _, .str s4, rfl, rfl, SqL.of upd_same, at_of (j := ((way : Int) % 2).toNat) (by omega) hv, _, rfl, _, rfl, (by show 3 ≤ sizeLine; decide), fun q2 hq2 => ?_⟩⟩
          have sq2 := sq.trans (Rd.Same.upd (o := .tup [.str s4, v1, v2]) hq2)
          exact k (.bi s4 t1 t2) _ y3 _ (B3.trans (But.of_same sq2)) (sq2 _ _ hp3) (hy3.mono (by omega)) (.bi hs4 wf1 wf2) (dp1.bi dp2) ⟨q2, v1, v2, rfl, upd_same, it1'.same sq2, it2.same sq2⟩
    · refine gName_k ?_
      try dsimp only
      refine ⟨_, rfl, _, _, rfl, rfl, _, rfl, ite2 (fun h2 => ?_) (fun h2 => absurd (by decide) h2)⟩
      exact ⟨_, rfl, _, rfl, atomc But.refl hp (hx.mono (by omega))⟩
theorem form_none (T : Tx w K mg) : Fk P w K mg base CX0 1 "_law_form" ["_law_stream_here", "_law_unknowns", "_law_deep"] (spR 0) := by
  refine T.F__law_form.ok0 sc__law_form (fun _ _ _ _ _ _ us hl => match us, hl with | [_, _, _], _ => rfl) (fun vs H Q E h => h.elim) (fun cdv A outer s H vs Q E hr h => h.elim)
theorem ok__law_form (T : Tx w K mg) : ∀ d : Nat, Fk P w K mg base CX0 (d + 5) "_law_form" ["_law_stream_here", "_law_unknowns", "_law_deep"] (sp_drawnForm d)
  | 0 => form_step T 0 ((form_none T).mono (by decide))
  | d + 1 => form_step T (d + 1) (ok__law_form T d)
end
end Rd
namespace Rd
open PySem L2
section
variable {P : Program} {w : World} {K : PySem.W.Frag} {mg : Str → Option Value} {base : Heap}
abbrev s_BadAtom_init : Stmt := inClass (top 3) 0
theorem sc_BadAtom_init : FnScope ["self", "text"] ["self", "text"] (defScope s_BadAtom_init) := ⟨rfl, rfl, rfl, by decide +kernel, rfl, by decide +kernel, by decide +kernel⟩
theorem ok_BadAtom (T : Tx w K mg) : Fm P w K mg base CX0 1 "BadAtom" "__init__" ["self", "text"] (spX1 K "text") := by
  refine T.X_BadAtom.init.ok0 sc_BadAtom_init (fun _ _ _ _ _ _ us hl => match us, hl with | [_, _], _ => rfl)
    (fun vs H Q E h => ?_) (fun cdv A outer s H vs Q E hr h => ?_)
  · obtain ⟨a, C, v, rfl, _⟩ := h
    rfl
  · obtain ⟨a, C, v, rfl, TC, no, ha, k⟩ := h
    refine ⟨_, (pss_cons (ps_expr (pe_reinit rfl T.g_RoadError T.r_RoadError (pa_cons (pv 0) (pa_cons pe_str pa_nil))))
  (pss_one (ps_ost (pv 0) (pv 1)))), ?_⟩
    refine ⟨_, rfl, a, C, [.str "no atom"], rfl, (by show 1 ≤ 1000; decide), TC, ha, _, rfl, _, rfl, a, C, rfl, TC, no, .inl ⟨ha, fun dx hdx ne => k dx hdx ne⟩⟩
/-- Letter(text), Letter("", tree) -/
def sp_Linit (K : PySem.W.Frag) : Sp := fun vs H Q E => ∃ (x dx : Addr) (z : Str) (v : V), vs = [.ref x, .str z, v] ∧ H x = some (.ins (He.ga K "Letter") dx []) ∧
  ((v ≠ .non ∧ Q .non (upd H x (.ins (He.ga K "Letter") dx [("tree", v)]))) ∨
   (v = .non ∧ z.length ≤ 200000 ∧ (∀ k y p H', But x H H' → atomOf z = some (k, y) → H p = none → H' p = some (.tup [.str k, .str y]) → H' x = some (.ins (He.ga K "Letter") dx [("tree", .ref p)]) → Q .non H') ∧
     ∀ d H', But x H H' → atomOf z = none → H d = none → H' d = some (.xd [("text", .str z)]) → E (.ref (He.ga K "BadAtom")) (some d) H'))
theorem look1 (v : V) : ([("tree", v)] : List (Str × V)).lookup ("tree" : Str) = some v := by simp [List.lookup]
theorem putTree (v u : V) : putF "tree" u ([("tree", v)] : List (Str × V)) = ([("tree", u)] : List (Str × V)) := by
  show (if ("tree" : Str) = "tree" then ([(("tree" : Str), u)] : List (Str × V)) else _) = _
  rw [if_pos rfl]
abbrev s_Letter_init : Stmt := inClass (top 22) 0
theorem sc_Letter_init : FnScope ["self", "atom", "tree"] ["self", "atom", "tree"] (defScope s_Letter_init) := ⟨rfl, rfl, rfl, by decide +kernel, rfl, by decide +kernel, by decide +kernel⟩
theorem ok_Letter (T : Tx w K mg) : Fi P w K mg base (L2N.CX P w) 4 "Letter" ["self", "atom", "tree"] (sp_Linit K) .non := by
  refine T.I_Letter.ok (n := 2) sc_Letter_init rfl (fun _ _ _ _ _ _ _ us its hu hi => match us, its, hu, hi with | [_, _], [_], _, _ => ⟨_, rfl, rfl⟩) (fun _ _ _ _ _ _ _ us its hu hi => match us, its, hu, hi with | [_, _, _], [_], _, _ => ⟨_, rfl, rfl⟩)
    (fun vs H Q E h => ?_) (fun cdv A outer s H vs Q E hr h => ?_)
  · obtain ⟨x, dx, z, v, rfl, _⟩ := h
    rfl
  · obtain ⟨x, dx, z, v, rfl, hx, hv⟩ := h
    refine ⟨_, (pss_cons (ps_fld (pv 0) (pv 2) rfl)
  (pss_one (ps_if (pt_cmpR op_isN (pv 2) pe_non (nomark _))
  (pss_cons (ps_fld (pv 0) (pe_fk (ok_atom_tree T) (hr.mono (by omega)) rfl pass0 (pa_cons (pv 1) pa_nil)) rfl)
  (pss_one (ps_if (pt_cmpR op_isN (pe_fld (pv 0) rfl) pe_non (nomark _))
  (pss_one (L2N.ps_raise rfl (L2N.takes_of rfl rfl rfl rfl) (pmk_xN T.X_BadAtom (ok_BadAtom T) (hr.mono (by omega)) rfl (pa_cons (pv 1) pa_nil))))
  pss_nil)))
  pss_nil))), ?_⟩
    refine ⟨_, rfl, _, rfl, x, _, dx, [], rfl, hx, T.k_Letter, T.n_Letter_tree, (by show 0 < 1000; decide), ?_⟩
    refine ⟨_, rfl, rfl, _, rfl, ?_⟩
    rcases hv with ⟨hne, q⟩ | ⟨rfl, hz, k1, k0⟩
    · exact ite2 (fun h => absurd (of_decide_eq_true h) hne) (fun _ => q)
    refine ite2 (fun _ => ?_) (fun h => absurd (decide_eq_true rfl) h)
    have b0 : But x H (upd H x (.ins (He.ga K "Letter") dx [("tree", .non)])) := But.upd
    refine ⟨_, rfl, z, rfl, hz, fun H1 s1 en => ?_, fun k y p H1 s1 es hp hp1 => ?_⟩
    · have hx1 : H1 x = some (.ins (He.ga K "Letter") dx [("tree", .non)]) := s1 x _ upd_same
      refine ⟨_, rfl, x, _, dx, _, rfl, hx1, T.k_Letter, T.n_Letter_tree, (by show 1 < 1000; decide), ?_⟩
      refine ⟨_, rfl, x, _, dx, _, .non, rfl, upd_same, T.k_Letter, T.n_Letter_tree, (by rw [putTree]; exact look1 _), rfl, _, rfl, ite2 (fun _ => ?_) (fun h => absurd (decide_eq_true rfl) h)⟩
      refine ⟨_, rfl, rd_raise1 T.X_BadAtom.oex T.X_BadAtom.no fun d H' s' nd hd => k0 d H' ?_ en ?_ hd⟩
      · exact ((b0.trans (But.of_same s1)).trans But.upd).trans (But.of_same s')
      · have nx : d ≠ x := fun e => by rw [e, upd_same] at nd; cases nd
        rw [upd_ne nx] at nd
        have n2 := s1.free nd
        rw [upd_ne nx] at n2
        exact n2
    · have hx1 : H1 x = some (.ins (He.ga K "Letter") dx [("tree", .non)]) := s1 x _ upd_same
      have npx : p ≠ x := fun e => by rw [e, hx1] at hp1; cases hp1
      refine ⟨_, rfl, x, _, dx, _, rfl, hx1, T.k_Letter, T.n_Letter_tree, (by show 1 < 1000; decide), ?_⟩
      refine ⟨_, rfl, x, _, dx, _, .ref p, rfl, upd_same, T.k_Letter, T.n_Letter_tree, (by rw [putTree]; exact look1 _), rfl, _, rfl, ite2 (fun h => absurd (of_decide_eq_true h) (fun e => by cases e)) (fun _ => ?_)⟩
      refine k1 k y p _ ((b0.trans (But.of_same s1)).trans But.upd) es ?_ (by rw [upd_ne npx]; exact hp1) (by rw [upd_same, putTree])
      rw [upd_ne npx] at hp
      exact hp
/-- an atom's form -/
def IsAtm (H : Hp) (v : V) (k x : Str) : Prop := ∃ p, v = .ref p ∧ H p = some (.tup [.str k, .str x])
abbrev s_Letter_form : Stmt := inClass (top 22) 3
theorem sc_Letter_form : FnScope ["self"] ["self"] (defScope s_Letter_form) := ⟨rfl, rfl, rfl, by decide +kernel, rfl, by decide +kernel, by decide +kernel⟩
/-- a letter at a: its field -/
def IsL (K : PySem.W.Frag) (H : Hp) (a : Addr) (v : V) : Prop := ∃ dx, H a = some (.ins (He.ga K "Letter") dx [("tree", v)])
def sp_form (K : PySem.W.Frag) : Sp := fun vs H Q _ => ∃ (a : Addr) (v : V), vs = [.ref a] ∧ IsL K H a v ∧ Q v H
theorem ok_form (T : Tx w K mg) : Fm P w K mg base CX0 1 "Letter" "form" ["self"] (sp_form K) := by
  refine T.M_Letter_form.ok0 sc_Letter_form (fun _ _ _ _ _ _ us hl => match us, hl with | [_], _ => rfl)
    (fun vs H Q E h => ?_) (fun cdv A outer s H vs Q E hr h => ?_)
  · obtain ⟨a, v, rfl, _⟩ := h
    rfl
  · obtain ⟨a, v, rfl, ⟨dx, ha⟩, k⟩ := h
    refine ⟨_, (pss_one (ps_ret (pe_fld (pv 0) rfl))), ?_⟩
    exact ⟨_, rfl, a, _, dx, _, v, rfl, ha, T.k_Letter, T.n_Letter_tree, look1 _, k⟩
end
end Rd
namespace Rd
open PySem L2
theorem lookT {m : Str} {v : V} (h : (m == ("tree" : Str)) = false) : ([("tree", v)] : List (Str × V)).lookup m = none := by simp [List.lookup, h]
theorem lookX {f : Str} (v : V) : ([(f, v)] : List (Str × V)).lookup f = some v := by simp [List.lookup]
theorem IsL.mono {K : PySem.W.Frag} {H H' : Hp} {a : Addr} {v : V} (k : Kp (He.ga K "Letter") H H') (h : IsL K H a v) : IsL K H' a v := by
  obtain ⟨dx, e⟩ := h
  exact ⟨dx, k a _ (by show ((He.ga K "Letter") == (He.ga K "Letter")) = true; exact beq_self_eq_true _) e⟩
theorem IsL.same {K : PySem.W.Frag} {H H' : Hp} {a : Addr} {v : V} (k : Same H H') (h : IsL K H a v) : IsL K H' a v := h.mono (Kp.of_same k)
/-- a letter with a form -/
def IsLet (K : PySem.W.Frag) (H : Hp) (t : Tr) (v : V) : Prop := ∃ a u, v = .ref a ∧ IsL K H a u ∧ IsT H t u
theorem IsLet.mono {K : PySem.W.Frag} {H H' : Hp} {t : Tr} {v : V} (k : Kp (He.ga K "Letter") H H') (h : IsLet K H t v) : IsLet K H' t v := by
  obtain ⟨a, u, e, h1, h2⟩ := h
  exact ⟨a, u, e, h1.mono k, h2.mono k⟩
theorem IsLet.same {K : PySem.W.Frag} {H H' : Hp} {t : Tr} {v : V} (k : Same H H') (h : IsLet K H t v) : IsLet K H' t v := h.mono (Kp.of_same k)
def Tr.head : Tr → Str
  | .am k _ => k
  | .un s _ => s
  | .bi s _ _ => s
def isKey (t : Tr) : Bool := decide (t.head ∈ (["open", "own"] : List Str))
theorem IsT.hd {H : Hp} {t : Tr} {v : V} (h : IsT H t v) : ∃ p us, v = .ref p ∧ H p = some (.tup (.str t.head :: us)) := by
  cases t with
  | am k x => obtain ⟨p, e, h⟩ := h; exact ⟨p, _, e, h⟩
  | un s a => obtain ⟨p, u, e, h, _⟩ := h; exact ⟨p, _, e, h⟩
  | bi s a b => obtain ⟨p, u, u2, e, h, _⟩ := h; exact ⟨p, _, e, h⟩
/-- a sign of two letters, of one -/
def sp_bin (K : PySem.W.Frag) (s : Str) : Sp := fun vs H Q _ => ∃ (a b : Addr) (u1 u2 : V), vs = [.ref a, .ref b] ∧ IsL K H a u1 ∧ IsL K H b u2 ∧
  ∀ x q H', Same H H' → IsL K H' x (.ref q) → H' q = some (.tup [.str s, u1, u2]) → Q (.ref x) H'
def sp_one (K : PySem.W.Frag) (s : Str) : Sp := fun vs H Q _ => ∃ (a : Addr) (u1 : V), vs = [.ref a] ∧ IsL K H a u1 ∧
  ∀ x q H', Same H H' → IsL K H' x (.ref q) → H' q = some (.tup [.str s, u1]) → Q (.ref x) H'
def sp_xor (K : PySem.W.Frag) : Sp := fun vs H Q E => ∃ (a b : Addr) (u1 u2 : V) (t2 : Tr), vs = [.ref a, .ref b] ∧ IsL K H a u1 ∧ IsL K H b u2 ∧ IsT H t2 u2 ∧
  (isKey t2 = true → ∀ x q H', Same H H' → IsL K H' x (.ref q) → H' q = some (.tup [.str "lock", u1, u2]) → Q (.ref x) H') ∧
  (isKey t2 = false → ∀ d H', Same H H' → H' d = some (.xd [("key", .ref b)]) → E (.ref (He.ga K "BadKey")) (some d) H')
/-- Letter("", tree) behind its arguments -/
theorem rd_mkL {K : PySem.W.Frag} {H1 : Hp} {q : Addr} {Q : VK} {E : XK} {xs : List V} (hq : H1 q = some (.tup xs))
    (k : ∀ x H', Same H1 H' → IsL K H' x (.ref q) → Q (.ref x) H') :
    ∀ x dx, H1 x = none → H1 dx = none → dx ≠ x → sp_Linit K (.ref x :: ([.str "", .ref q] ++ [])) (upd (upd H1 dx (.own x)) x (.ins (He.ga K "Letter") dx [])) (fun v H2 => v = .non ∧ Q (.ref x) H2) E := fun x dx nx ndx ne => by
  refine ⟨x, dx, "", .ref q, rfl, upd_same, .inl ⟨(fun e => by cases e), rfl, k x _ (fun b o e => ?_) ⟨dx, upd_same⟩⟩⟩
  rw [upd_ne (ne_of_none e nx), upd_ne (ne_of_none e nx), upd_ne (ne_of_none e ndx)]
  exact e
section
variable {P : Program} {w : World} {K : PySem.W.Frag} {mg : Str → Option Value} {base : Heap}
abbrev s_Letter_add : Stmt := inClass (top 22) 8
theorem sc_Letter_add : FnScope ["self", "other"] ["self", "other"] (defScope s_Letter_add) := ⟨rfl, rfl, rfl, by decide +kernel, rfl, by decide +kernel, by decide +kernel⟩
theorem ok_Ladd (T : Tx w K mg) : Fm P w K mg base CX0 6 "Letter" "__add__" ["self", "other"] (sp_bin K "pair") := by
  refine T.M_Letter_add.ok0 sc_Letter_add (fun _ _ _ _ _ _ us hl => match us, hl with | [_, _], _ => rfl)
    (fun vs H Q E h => ?_) (fun cdv A outer s H vs Q E hr h => ?_)
  · obtain ⟨a, b, u1, u2, rfl, _⟩ := h
    rfl
  · obtain ⟨a, b, u1, u2, rfl, ⟨dx, ha⟩, ⟨dy, hb⟩, k⟩ := h
    refine ⟨_, (pss_one (ps_ret (pe_mk2 (ok_Letter T) (hr.mono (by omega)) (by rfl) passN (pa_cons pe_str (pa_cons (pe_tup (pa_cons pe_str (pa_cons (pe_fld (pv 0) rfl) (pa_cons (pe_fld (pv 1) rfl) pa_nil)))) pa_nil))))), ?_⟩
    refine ⟨_, rfl, a, _, dx, _, _, rfl, ha, T.k_Letter, T.n_Letter_tree, look1 _, _, rfl, b, _, dy, _, _, rfl, hb, T.k_Letter, T.n_Letter_tree, look1 _, (by show 3 ≤ sizeLine; decide), fun q hq => ?_⟩
    exact rd_mkL upd_same fun x H' s' hx => k x q H' ((Rd.Same.upd hq).trans s') hx (s' _ _ upd_same)
abbrev s_Letter_mul : Stmt := inClass (top 22) 9
theorem sc_Letter_mul : FnScope ["self", "key"] ["self", "key"] (defScope s_Letter_mul) := ⟨rfl, rfl, rfl, by decide +kernel, rfl, by decide +kernel, by decide +kernel⟩
theorem ok_Lmul (T : Tx w K mg) : Fm P w K mg base CX0 6 "Letter" "__mul__" ["self", "key"] (sp_bin K "seal") := by
  refine T.M_Letter_mul.ok0 sc_Letter_mul (fun _ _ _ _ _ _ us hl => match us, hl with | [_, _], _ => rfl)
    (fun vs H Q E h => ?_) (fun cdv A outer s H vs Q E hr h => ?_)
  · obtain ⟨a, b, u1, u2, rfl, _⟩ := h
    rfl
  · obtain ⟨a, b, u1, u2, rfl, ⟨dx, ha⟩, ⟨dy, hb⟩, k⟩ := h
    refine ⟨_, (pss_one (ps_ret (pe_mk2 (ok_Letter T) (hr.mono (by omega)) (by rfl) passN (pa_cons pe_str (pa_cons (pe_tup (pa_cons pe_str (pa_cons (pe_fld (pv 0) rfl) (pa_cons (pe_fld (pv 1) rfl) pa_nil)))) pa_nil))))), ?_⟩
    refine ⟨_, rfl, a, _, dx, _, _, rfl, ha, T.k_Letter, T.n_Letter_tree, look1 _, _, rfl, b, _, dy, _, _, rfl, hb, T.k_Letter, T.n_Letter_tree, look1 _, (by show 3 ≤ sizeLine; decide), fun q hq => ?_⟩
    exact rd_mkL upd_same fun x H' s' hx => k x q H' ((Rd.Same.upd hq).trans s') hx (s' _ _ upd_same)
abbrev s_Letter_invert : Stmt := inClass (top 22) 11
theorem sc_Letter_invert : FnScope ["self"] ["self"] (defScope s_Letter_invert) := ⟨rfl, rfl, rfl, by decide +kernel, rfl, by decide +kernel, by decide +kernel⟩
theorem ok_Linvert (T : Tx w K mg) : Fm P w K mg base CX0 6 "Letter" "__invert__" ["self"] (sp_one K "mark") := by
  refine T.M_Letter_invert.ok0 sc_Letter_invert (fun _ _ _ _ _ _ us hl => match us, hl with | [_], _ => rfl)
    (fun vs H Q E h => ?_) (fun cdv A outer s H vs Q E hr h => ?_)
  · obtain ⟨a, u1, rfl, _⟩ := h
    rfl
  · obtain ⟨a, u1, rfl, ⟨dx, ha⟩, k⟩ := h
    refine ⟨_, (pss_one (ps_ret (pe_mk2 (ok_Letter T) (hr.mono (by omega)) (by rfl) passN (pa_cons pe_str (pa_cons (pe_tup (pa_cons pe_str (pa_cons (pe_fld (pv 0) rfl) pa_nil))) pa_nil))))), ?_⟩
    refine ⟨_, rfl, a, _, dx, _, _, rfl, ha, T.k_Letter, T.n_Letter_tree, look1 _, (by show 2 ≤ sizeLine; decide), fun q hq => ?_⟩
    exact rd_mkL upd_same fun x H' s' hx => k x q H' ((Rd.Same.upd hq).trans s') hx (s' _ _ upd_same)
abbrev s_Letter_pos : Stmt := inClass (top 22) 12
theorem sc_Letter_pos : FnScope ["self"] ["self"] (defScope s_Letter_pos) := ⟨rfl, rfl, rfl, by decide +kernel, rfl, by decide +kernel, by decide +kernel⟩
theorem ok_Lpos (T : Tx w K mg) : Fm P w K mg base CX0 6 "Letter" "__pos__" ["self"] (sp_one K "open") := by
  refine T.M_Letter_pos.ok0 sc_Letter_pos (fun _ _ _ _ _ _ us hl => match us, hl with | [_], _ => rfl)
    (fun vs H Q E h => ?_) (fun cdv A outer s H vs Q E hr h => ?_)
  · obtain ⟨a, u1, rfl, _⟩ := h
    rfl
  · obtain ⟨a, u1, rfl, ⟨dx, ha⟩, k⟩ := h
    refine ⟨_, (pss_one (ps_ret (pe_mk2 (ok_Letter T) (hr.mono (by omega)) (by rfl) passN (pa_cons pe_str (pa_cons (pe_tup (pa_cons pe_str (pa_cons (pe_fld (pv 0) rfl) pa_nil))) pa_nil))))), ?_⟩
    refine ⟨_, rfl, a, _, dx, _, _, rfl, ha, T.k_Letter, T.n_Letter_tree, look1 _, (by show 2 ≤ sizeLine; decide), fun q hq => ?_⟩
    exact rd_mkL upd_same fun x H' s' hx => k x q H' ((Rd.Same.upd hq).trans s') hx (s' _ _ upd_same)
abbrev s_Letter_neg : Stmt := inClass (top 22) 13
theorem sc_Letter_neg : FnScope ["self"] ["self"] (defScope s_Letter_neg) := ⟨rfl, rfl, rfl, by decide +kernel, rfl, by decide +kernel, by decide +kernel⟩
theorem ok_Lneg (T : Tx w K mg) : Fm P w K mg base CX0 6 "Letter" "__neg__" ["self"] (sp_one K "own") := by
  refine T.M_Letter_neg.ok0 sc_Letter_neg (fun _ _ _ _ _ _ us hl => match us, hl with | [_], _ => rfl)
    (fun vs H Q E h => ?_) (fun cdv A outer s H vs Q E hr h => ?_)
  · obtain ⟨a, u1, rfl, _⟩ := h
    rfl
  · obtain ⟨a, u1, rfl, ⟨dx, ha⟩, k⟩ := h
    refine ⟨_, (pss_one (ps_ret (pe_mk2 (ok_Letter T) (hr.mono (by omega)) (by rfl) passN (pa_cons pe_str (pa_cons (pe_tup (pa_cons pe_str (pa_cons (pe_fld (pv 0) rfl) pa_nil))) pa_nil))))), ?_⟩
    refine ⟨_, rfl, a, _, dx, _, _, rfl, ha, T.k_Letter, T.n_Letter_tree, look1 _, (by show 2 ≤ sizeLine; decide), fun q hq => ?_⟩
    exact rd_mkL upd_same fun x H' s' hx => k x q H' ((Rd.Same.upd hq).trans s') hx (s' _ _ upd_same)
abbrev s_BadKey_init : Stmt := inClass (top 5) 0
theorem sc_BadKey_init : FnScope ["self", "key"] ["self", "key"] (defScope s_BadKey_init) := ⟨rfl, rfl, rfl, by decide +kernel, rfl, by decide +kernel, by decide +kernel⟩
theorem ok_BadKey (T : Tx w K mg) : Fm P w K mg base CX0 1 "BadKey" "__init__" ["self", "key"] (spX1 K "key") := by
  refine T.X_BadKey.init.ok0 sc_BadKey_init (fun _ _ _ _ _ _ us hl => match us, hl with | [_, _], _ => rfl)
    (fun vs H Q E h => ?_) (fun cdv A outer s H vs Q E hr h => ?_)
  · obtain ⟨a, C, v, rfl, _⟩ := h
    rfl
  · obtain ⟨a, C, v, rfl, TC, no, ha, k⟩ := h
    refine ⟨_, (pss_cons (ps_expr (pe_reinit rfl T.g_RoadError T.r_RoadError (pa_cons (pv 0) (pa_cons pe_str pa_nil))))
  (pss_one (ps_ost (pv 0) (pv 1)))), ?_⟩
    refine ⟨_, rfl, a, C, [.str "no key of a pair"], rfl, (by show 1 ≤ 1000; decide), TC, ha, _, rfl, _, rfl, a, C, rfl, TC, no, .inl ⟨ha, fun dx hdx ne => k dx hdx ne⟩⟩
abbrev s_Letter_xor : Stmt := inClass (top 22) 10
theorem sc_Letter_xor : FnScope ["self", "key"] ["self", "key"] (defScope s_Letter_xor) := ⟨rfl, rfl, rfl, by decide +kernel, rfl, by decide +kernel, by decide +kernel⟩
theorem ok_Lxor (T : Tx w K mg) : Fm P w K mg base (L2N.CX P w) 6 "Letter" "__xor__" ["self", "key"] (sp_xor K) := by
  refine T.M_Letter_xor.ok sc_Letter_xor (fun _ _ _ _ _ _ us hl => match us, hl with | [_, _], _ => rfl)
    (fun vs H Q E h => ?_) (fun cdv A outer s H vs Q E hr h => ?_)
  · obtain ⟨a, b, u1, u2, t2, rfl, _⟩ := h
    rfl
  · obtain ⟨a, b, u1, u2, t2, rfl, ⟨dx, ha⟩, ⟨dy, hb⟩, it, k1, k0⟩ := h
    obtain ⟨p2, us, rfl, hp2⟩ := it.hd
    refine ⟨_, (pss_cons (ps_if (pt_cmpR op_notInT (pe_ix ix_tup (pe_fld (pv 1) rfl) pe_int (fun _ _ => rfl)) (pe_tup (pa_cons pe_str (pa_cons pe_str pa_nil))) (by rfl))
  (pss_one (L2N.ps_raise rfl (L2N.takes_of rfl rfl rfl rfl) (pmk_xN T.X_BadKey (ok_BadKey T) (hr.mono (by omega)) rfl (pa_cons (pv 1) pa_nil))))
  pss_nil)
  (pss_one (ps_ret (pe_mk2 (ok_Letter T) (hr.mono (by omega)) (by rfl) passN (pa_cons pe_str (pa_cons (pe_tup (pa_cons pe_str (pa_cons (pe_fld (pv 0) rfl) (pa_cons (pe_fld (pv 1) rfl) pa_nil)))) pa_nil)))))), ?_⟩
    refine ⟨_, rfl, b, _, dy, _, _, rfl, hb, T.k_Letter, T.n_Letter_tree, look1 _, p2, _, _, _, rfl, rfl, SqT.of hp2, at_of (j := 0) rfl rfl, (by show 2 ≤ sizeLine; decide), fun q hq => ?_⟩
    have sq := Rd.Same.upd (o := .tup [.str "open", .str "own"]) hq
    refine ⟨_, q, ["open", "own"], rfl, rfl, SqT.of upd_same, _, rfl, ?_⟩
    show if (!isKey t2) = true then _ else _
    cases hk : isKey t2 with
    | false =>
      refine iteT ?_
      exact ⟨_, rfl, rd_raise1 T.X_BadKey.oex T.X_BadKey.no fun d H' s' nd hd => k0 hk d H' (sq.trans s') hd⟩
    | true =>
      refine iteF ?_
      refine ⟨_, rfl, a, _, dx, _, _, rfl, sq _ _ ha, T.k_Letter, T.n_Letter_tree, look1 _, _, rfl, b, _, dy, _, _, rfl, sq _ _ hb, T.k_Letter, T.n_Letter_tree, look1 _, (by show 3 ≤ sizeLine; decide), fun q2 hq2 => ?_⟩
      exact rd_mkL upd_same fun x H' s' hx => k1 hk x q2 H' ((sq.trans (Rd.Same.upd hq2)).trans s') hx (s' _ _ upd_same)
end
end Rd
namespace Rd
open PySem L2
theorem SqT.kept {K : PySem.W.Frag} {H H' : Hp} {a : Addr} {xs : List V} (h : SqT K H a xs) (s : Same H H') : SqT K H' a xs := by
  rcases h with (h | ⟨n, h⟩) | h
  · exact .inl (.inl (s _ _ h))
  · exact .inl (.inr ⟨n, s _ _ h⟩)
  · exact .inr h
theorem iteN {c A B : Prop} [Decidable c] (h : ¬ c) (b : B) : if c then A else B := ite2 (fun q => absurd q h) fun _ => b
theorem iteP {c A B : Prop} [Decidable c] (h : c) (a : A) : if c then A else B := ite2 (fun _ => a) fun q => absurd h q
def Tr.parts : Tr → List Tr
  | .am _ _ => []
  | .un _ a => [a]
  | .bi _ a b => [a, b]
theorem mem_to {l m : List Str} {z : Str} (h : l.all (fun y => decide (y ∈ m)) = true) (hz : z ∈ l) : z ∈ m := of_decide_eq_true (List.all_eq_true.mp h z hz)
theorem Wf.sign {t : Tr} (h : Wf t) (hn : t.parts ≠ []) : t.head ∈ (["mark", "open", "own", "pair", "seal", "lock"] : List Str) ∧ (∀ u ∈ t.parts, Wf u ∧ u.dep + 1 ≤ t.dep) := by
  cases h with
  | am => exact absurd rfl hn
  | @un s a hs w =>
    refine ⟨mem_to (by decide +kernel) hs, fun u hu => ?_⟩
    rw [List.mem_singleton.mp hu]
    exact ⟨w, Nat.le_refl _⟩
  | @bi s a b hs wa wb =>
    refine ⟨mem_to (by decide +kernel) hs, fun u hu => ?_⟩
    have e : (Tr.bi s a b).dep = max a.dep b.dep + 1 := rfl
    rcases List.mem_cons.mp hu with rfl | hu
    · exact ⟨wa, by omega⟩
    · rw [List.mem_singleton.mp hu]
      exact ⟨wb, by omega⟩
  | @lk s a b hs wa wb =>
    have hs' : s ∈ (["mark", "open", "own"] : List Str) := List.mem_cons_of_mem _ hs
    refine ⟨mem_to (l := ["lock"]) (by decide +kernel) List.mem_cons_self, fun u hu => ?_⟩
    have e : (Tr.bi "lock" a (.un s b)).dep = max a.dep (Tr.un s b).dep + 1 := rfl
    rcases List.mem_cons.mp hu with rfl | hu
    · exact ⟨wa, by omega⟩
    · rw [List.mem_singleton.mp hu]
      exact ⟨.un hs' wb, by omega⟩
theorem IsT.parts {H : Hp} {t : Tr} {v : V} (h : IsT H t v) (hn : t.parts ≠ []) : ∃ p us, v = .ref p ∧ H p = some (.tup (.str t.head :: us)) ∧ us.length = t.parts.length ∧ us.length ≤ 2 ∧ us ≠ [] ∧ ∀ (i : Nat) u, us[i]? = some u → ∃ r, t.parts[i]? = some r ∧ IsT H r u := by
  cases t with
  | am k x => exact absurd rfl hn
  | un s a =>
    obtain ⟨p, u, e, h, h1⟩ := h
    refine ⟨p, [u], e, h, rfl, (by show 1 ≤ 2; decide), (fun e => by cases e), fun i v hv => ?_⟩
    cases i with
    | zero => cases hv; exact ⟨a, rfl, h1⟩
    | succ i => cases i <;> cases hv
  | bi s a b =>
    obtain ⟨p, u, u2, e, h, h1, h2⟩ := h
    refine ⟨p, [u, u2], e, h, rfl, Nat.le_refl _, (fun e => by cases e), fun i v hv => ?_⟩
    cases i with
    | zero => cases hv; exact ⟨a, rfl, h1⟩
    | succ i =>
      cases i with
      | zero => cases hv; exact ⟨b, rfl, h2⟩
      | succ i => cases i <;> cases hv
theorem cut1 {x : V} {us : List V} : cutV (x :: us) (some 1) none = us := by
  unfold cutV
  have e : HT.sIx (x :: us).length 0 (some 1) = 1 := by
    rw [show (1 : Int) = ((1 : Nat) : Int) from rfl, HT.sIx_nat, List.length_cons]
    omega
  have e2 : HT.sIx (x :: us).length (x :: us).length none = us.length + 1 := rfl
  rw [e, e2]
  show us.take (us.length + 1 - 1) = us
  rw [Nat.add_sub_cancel, List.take_length]
/-- [e for x in a tuple], each item's value by R -/
theorem lct {K : PySem.W.Frag} {C a D : Addr} {xs : List V} {te : TE} {i0 : Nat} {σ : St} {H1 : Hp} {Qd : Hp → Prop} (R : Nat → Hp → V → Prop) (rm : ∀ i H H' v, Kp C H H' → R i H v → R i H' v) (hS : SqT K H1 a xs) (hl : xs.length ≤ 100000) (hD : H1 D = none)
    (hte : ∀ (i : Nat) (x : V) (H : Hp) (Q : VK), xs[i]? = some x → Same H1 H → (∀ v H', Same H H' → R i H' v → Q v H') → te ((wipe σ [i0]).set i0 (some x)) H Q)
    (hq : ∀ vs H', Same H1 H' → H' D = some (.lst vs) → vs.length = xs.length → (∀ (i : Nat) v, vs[i]? = some v → R i H' v) → Qd H') :
    ∃ W : Nat → Nat → Hp → Prop, (∃ m, W 0 m (L2.upd H1 D (.lst []))) ∧ ∀ i m H, W i m H →
      ((Itt K a).stop i H ∧ Qd H) ∨ ((Itt K a).go i H ∧ ∃ Nx : Hp → Prop, (∀ H', Nx H' → ∃ m', m' < m ∧ W (i + 1) m' H') ∧ ∀ x H', (Itt K a).yld i H x H' → gName i0 x (wipe σ [i0]) H' fun σ2 H2 => wipe σ2 [i0] = wipe σ [i0] ∧ tYes σ2 H2 fun b H3 =>
        if b = true then te σ2 H3 fun y H4 => ∃ acc, H4 D = some (.lst acc) ∧ acc.length < sizeLine ∧ Nx (L2.upd H4 D (.lst (acc ++ [y]))) else Nx H3) := by
  refine lc_tup (K := K) (a := a) (xs := xs) (fun i H => ∃ vs, Same H1 H ∧ H D = some (.lst vs) ∧ vs.length = i ∧ (∀ (j : Nat) v, vs[j]? = some v → R j H v)) ?_ ?_ ?_ ?_
  · exact ⟨[], Rd.Same.upd hD, upd_same, rfl, fun j v h => by simp at h⟩
  · rintro i H hi ⟨vs, s, _⟩
    exact SqT.kept hS s
  · rintro i x H hx ⟨vs, s, hDv, hlv, hg⟩
    refine ⟨by simp [wipe], hte i x H _ hx s fun v H' s' hv => ⟨vs, s' _ _ hDv, ?_, ?_⟩⟩
    · have : 100000 < sizeLine := by decide
      have := (List.getElem?_eq_some_iff.mp hx).1
      omega
    · have hDv' := s' _ _ hDv
      refine ⟨vs ++ [v], fun c o e => ?_, upd_same, by rw [List.length_append, hlv]; rfl, fun j v' hv' => ?_⟩
      · rw [upd_ne (ne_of_none e hD)]
        exact s' c o (s c o e)
      · have kp := Kp.upd_lst (C := C) (ys := vs ++ [v]) hDv'
        by_cases hj : j < vs.length
        · rw [List.getElem?_append_left hj] at hv'
          exact rm _ _ _ _ kp (rm _ _ _ _ (Kp.of_same s') (hg j v' hv'))
        · have e : j = vs.length := by
            have := (List.getElem?_eq_some_iff.mp hv').1
            rw [List.length_append, List.length_singleton] at this
            omega
          subst e
          rw [List.getElem?_append_right (Nat.le_refl _), Nat.sub_self] at hv'
          have e2 : v = v' := Option.some.inj hv'
          rw [← e2, hlv]
          exact rm _ _ _ _ kp hv
  · rintro H ⟨vs, s, hDv, hlv, hg⟩
    exact hq vs H s hDv hlv hg
theorem q_starts (x : Str) : Txt.startswith ("?" ++ x) "?" = true := by
  rw [starts_q, app_list]
  have e2 : ("?" : Str).cps.toList = [63] := by decide +kernel
  exact ⟨_, by rw [e2]; rfl⟩
theorem q_tail2 (x : Str) : tailS ("?" ++ x) = x := by
  refine str_ext ?_
  rw [tailS_list, app_list]
  have e2 : ("?" : Str).cps.toList = [63] := by decide +kernel
  rw [e2]
  rfl
theorem atomOf_word {x : Str} (h : isWord x = true) : atomOf x = some (("word" : Str), x) := by rw [atomOf, if_pos h]
theorem atomOf_name {x : Str} (h : isName x = true) : atomOf x = some (("name" : Str), x) := by rw [atomOf, if_neg (by rw [word_noname h]; decide), if_pos h]
theorem atomOf_unk {x : Str} (h : isUnk x = true) : atomOf ("?" ++ x) = some (("unknown" : Str), x) := by
  have hw : ¬ isWord ("?" ++ x) = true := fun q => by
    obtain ⟨_, h2⟩ := He.ba q
    obtain ⟨_, h4⟩ := He.ba h2
    have e2 : ("?" : Str).cps.toList = [63] := by decide +kernel
    have := List.all_eq_true.mp h4 63 (by rw [app_list, e2]; exact List.mem_cons_self)
    have e3 : inS SMALL 63 = false := by decide +kernel
    rw [e3] at this
    cases this
  rw [atomOf, if_neg hw, if_neg (fun q => isName_first q (q_starts x)), q_starts, q_tail2, h]
  rfl
/-- Letter(text) of an atom's text -/
theorem rd_mkA {K : PySem.W.Frag} {H1 : Hp} {z k y : Str} {Q : VK} {E : XK} (hz : z.length ≤ 200000) (ha : atomOf z = some (k, y)) (kk : ∀ x H', Same H1 H' → IsLet K H' (.am k y) (.ref x) → Q (.ref x) H') :
    ∀ x dx, H1 x = none → H1 dx = none → dx ≠ x → sp_Linit K (.ref x :: ([.str z] ++ [.non])) (upd (upd H1 dx (.own x)) x (.ins (He.ga K "Letter") dx [])) (fun v H2 => v = .non ∧ Q (.ref x) H2) E := fun x dx nx ndx ne => by
  refine ⟨x, dx, z, .non, rfl, upd_same, .inr ⟨rfl, hz, fun k' y' p H' b' es np hp hx => ⟨rfl, ?_⟩, fun d H' b' en _ _ => ?_⟩⟩
  · rw [ha] at es
    cases es
    refine kk x H' (fun b o e => b' b o (ne_of_none e nx) ?_) ⟨x, .ref p, rfl, ⟨dx, hx⟩, p, rfl, hp⟩
    rw [upd_ne (ne_of_none e nx), upd_ne (ne_of_none e ndx)]
    exact e
  · rw [ha] at en
    cases en
def sp_letter (K : PySem.W.Frag) (d : Nat) : Sp := fun vs H Q _ => ∃ (v : V) (t : Tr), vs = [v] ∧ IsT H t v ∧ Wf t ∧ t.dep ≤ d ∧ ∀ v' H', Same H H' → IsLet K H' t v' → Q v' H'
def spLR (K : PySem.W.Frag) : Nat → Sp
  | 0 => fun _ _ _ _ => False
  | d + 1 => sp_letter K d
end Rd
namespace Rd
open PySem L2
/-! ### forms as plain data -/
def dat : Tr → PyData
  | .am k x => .tuple [.str k, .str x]
  | .un s a => .tuple [.str s, dat a]
  | .bi s a b => .tuple [.str s, dat a, dat b]
theorem IsT.dp {K : PySem.W.Frag} {H : Hp} : ∀ {t : Tr} {v : V}, IsT H t v → Dp K H v (dat t)
  | .am _ _, _, ⟨p, e, h⟩ => by subst e; exact .tup (SqT.of h) (.cons (.str _) (.cons (.str _) .nil))
  | .un _ _, _, ⟨p, u, e, h, h1⟩ => by subst e; exact .tup (SqT.of h) (.cons (.str _) (.cons (IsT.dp h1) .nil))
  | .bi _ _ _, _, ⟨p, u1, u2, e, h, h1, h2⟩ => by subst e; exact .tup (SqT.of h) (.cons (.str _) (.cons (IsT.dp h1) (.cons (IsT.dp h2) .nil)))
def Tr.fine : Tr → Prop
  | .am k x => okS k ∧ okS x
  | .un s a => okS s ∧ a.fine
  | .bi s a b => okS s ∧ a.fine ∧ b.fine
theorem okS_of {l : List Str} {z : Str} (h : l.all (fun y => y.cps.toList.all (fun c => decide (c < 1114112))) = true) (hz : z ∈ l) : okS z := by
  exact okS_by (List.all_eq_true.mp h z hz)
theorem dat_lay : ∀ {t : Tr}, t.fine → (dat t).canLay0 = true
  | .am k x, ⟨h1, h2⟩ => by
    show (PySem.PyData.strOk k && (PySem.PyData.strOk x && true)) = true
    rw [strOk_of h1, strOk_of h2]
    rfl
  | .un s a, ⟨h1, h2⟩ => by
    show (PySem.PyData.strOk s && ((dat a).canLay0 && true)) = true
    rw [strOk_of h1, dat_lay h2]
    rfl
  | .bi s a b, ⟨h1, h2, h3⟩ => by
    show (PySem.PyData.strOk s && ((dat a).canLay0 && ((dat b).canLay0 && true))) = true
    rw [strOk_of h1, dat_lay h2, dat_lay h3]
    rfl
theorem dat_dep : ∀ {t : Tr}, (dat t).depth ≤ t.dep + 1
  | .am k x => by show max 0 (max 0 0) + 1 ≤ 0 + 1; decide
  | .un s a => by
    show max 0 (max (dat a).depth 0) + 1 ≤ a.dep + 1 + 1
    have := dat_dep (t := a)
    omega
  | .bi s a b => by
    show max 0 (max (dat a).depth (max (dat b).depth 0)) + 1 ≤ max a.dep b.dep + 1 + 1
    have := dat_dep (t := a)
    have := dat_dep (t := b)
    omega
theorem dat_shaped {t : Tr} (h : t.fine) (hd : t.dep ≤ 60) : SeqAt.shaped (dat t) = true := by
  have := dat_dep (t := t)
  show ((dat t).canLay0 && decide ((dat t).depth ≤ 64)) = true
  rw [dat_lay h, decide_eq_true (by omega)]
  rfl
theorem kindOk.fine {k x : Str} (h : kindOk k x) : okS k ∧ okS x := by
  rcases h with ⟨rfl, h⟩ | ⟨rfl, h⟩ | ⟨rfl, h⟩
  · exact ⟨okS_of (l := ["word"]) (by decide +kernel) List.mem_cons_self, (word_len h).2.2⟩
  · exact ⟨okS_of (l := ["name"]) (by decide +kernel) List.mem_cons_self, (name_len h).2⟩
  · exact ⟨okS_of (l := ["unknown"]) (by decide +kernel) List.mem_cons_self, (unk_len h).2.2⟩
theorem Wf.fine {t : Tr} (h : Wf t) : t.fine := by
  induction h with
  | am h => exact h.fine
  | un hs _ ih => exact ⟨okS_of (by decide +kernel) hs, ih⟩
  | bi hs _ _ ih1 ih2 => exact ⟨okS_of (by decide +kernel) hs, ih1, ih2⟩
  | lk hs _ _ ih1 ih2 => exact ⟨okS_of (l := ["lock"]) (by decide +kernel) List.mem_cons_self, ih1, okS_of (by decide +kernel) hs, ih2⟩
/-- x != y of equal forms -/
theorem rd_neT {K : PySem.W.Frag} {H : Hp} {t : Tr} {v u : V} {Q : VK} (ht : t.fine) (hd : t.dep ≤ 60) (h1 : IsT H t v) (h2 : IsT H t u) (q : Q (.bl false) H) : rNeD K v u H Q := by
  refine ⟨dat t, dat t, h1.dp, h2.dp, dat_shaped ht hd, dat_shaped ht hd, ?_⟩
  rw [SeqAt.eqv_refl _ (dat_lay ht)]
  exact q
/-- a form drawn over a written list of unknowns -/
theorem rd_form {d n : Nat} {p : Addr} {H : Hp} {xs us : List V} {Q : VK} (hp : H p = some (.lst xs)) (hx : StL (n + dr d) xs) (hU : unkL us)
    (k : ∀ t v ys H', But p H H' → H' p = some (.lst ys) → StL n ys → Wf t → dpN d t → IsT H' t v → Q v H') : us.length ≤ sizeLine ∧ ∀ q, H q = none → sp_drawnForm d [.ref p, .ref q, .int d] (upd H q (.lst us)) Q E0 := by
  refine ⟨?_, fun q hq => ?_⟩
  · have := hU.1
    have : 100 ≤ sizeLine := by decide
    omega
  · have nqp : q ≠ p := fun z => by rw [z, hp] at hq; cases hq
    exact ⟨p, q, xs, us, n, rfl, by rw [upd_ne (Ne.symm nqp)]; exact hp, hx, nqp, upd_same, hU, fun t v ys H' b h1 h2 h3 h4 h5 => k t v ys H' ((But.new hq).trans b) h1 h2 h3 h4 h5⟩
theorem unkOk {l : List Str} (h : l.all isUnk = true) (hl : l.length ≤ 100) : unkL (l.map V.str) := by
  refine ⟨by rw [List.length_map]; exact hl, fun v hv => ?_⟩
  obtain ⟨z, hz, rfl⟩ := List.mem_map.mp hv
  exact ⟨z, rfl, List.all_eq_true.mp h z hz⟩
theorem seqJoin {s1 rest : TS} {D : Ends} {σ : St} {H : Hp} (R : St → Hp → Prop) (h : ∀ K : St → Hp → Prop, (∀ σ' H', R σ' H' → K σ' H') → s1 { D with nx := K } σ H) (hR : ∀ σ' H', R σ' H' → rest D σ' H') : tSeq s1 rest D σ H := h _ hR
theorem But.fresh {p : Addr} {H0 H H' : Hp} (s : Same H0 H) (n : H0 p = none) (b : But p H H') : Same H0 H' := fun c o e => b c o (ne_of_none e n) (s c o e)
theorem SqL.kept {K : PySem.W.Frag} {H H' : Hp} {a : Addr} {xs : List V} (h : SqL K H a xs) (s : Same H H') : SqL K H' a xs := by
  rcases h with (h | ⟨n, h⟩) | h
  · exact .inl (.inl (s _ _ h))
  · exact .inl (.inr ⟨n, s _ _ h⟩)
  · exact .inr h
section
variable {P : Program} {w : World} {K : PySem.W.Frag} {mg : Str → Option Value} {base : Heap}
theorem ok_formH (T : Tx w K mg) : FmH P w K mg base CX0 1 "Letter" "form" ["self"] (sp_form K) := by
  refine T.M_Letter_form.okH sc_Letter_form (fun _ _ _ _ _ _ us hl => match us, hl with | [_], _ => rfl)
    (fun vs H Q E h => ?_) (fun cdv A outer s H vs Q E pp hp hr h => ?_)
  · obtain ⟨a, v, rfl, _⟩ := h
    rfl
  · obtain ⟨a, v, rfl, ⟨dx, ha⟩, k⟩ := h
    refine ⟨_, (pss_one (ps_ret (pe_fld (pv 0) rfl))), ?_⟩
    exact ⟨_, rfl, a, _, dx, _, v, rfl, ha, T.k_Letter, T.n_Letter_tree, look1 _, k⟩
end
end Rd
namespace Rd
open PySem L2
theorem Wf.parts_wf {t : Tr} (h : Wf t) : ∀ u ∈ t.parts, Wf u := by
  by_cases hp : t.parts ≠ []
  · exact fun u hu => ((h.sign hp).2 u hu).1
  · intro u hu
    cases t with
    | am => cases hu
    | un => exact absurd (fun e => by cases e) hp
    | bi => exact absurd (fun e => by cases e) hp
/-! ### all parts of a form -/
def Tr.all : Tr → List Tr
  | .am k x => [.am k x]
  | .un s a => .un s a :: a.all
  | .bi s a b => .bi s a b :: (a.all ++ b.all)
theorem all_len : ∀ t : Tr, t.all.length + 1 ≤ 2 ^ (t.dep + 1)
  | .am k x => by show 1 + 1 ≤ 2 ^ 1; decide
  | .un s a => by
    have := all_len a
    show a.all.length + 1 + 1 ≤ 2 ^ (a.dep + 1 + 1)
    rw [Nat.pow_succ]
    have : 1 ≤ 2 ^ (a.dep + 1) := Nat.one_le_two_pow
    omega
  | .bi s a b => by
    have h1 := all_len a
    have h2 := all_len b
    show (a.all ++ b.all).length + 1 + 1 ≤ 2 ^ (max a.dep b.dep + 1 + 1)
    rw [List.length_append, Nat.pow_succ]
    have e1 : 2 ^ (a.dep + 1) ≤ 2 ^ (max a.dep b.dep + 1) := Nat.pow_le_pow_right (by decide) (by omega)
    have e2 : 2 ^ (b.dep + 1) ≤ 2 ^ (max a.dep b.dep + 1) := Nat.pow_le_pow_right (by decide) (by omega)
    omega
theorem all_parts (t : Tr) : t.all = t :: t.parts.flatMap Tr.all := by
  cases t with
  | am k x => rfl
  | un s a => show _ :: a.all = _ :: (a.all ++ []); rw [List.append_nil]
  | bi s a b => show _ :: (a.all ++ b.all) = _ :: (a.all ++ (b.all ++ [])); rw [List.append_nil]
theorem all_wf {t : Tr} (h : Wf t) : ∀ u ∈ t.all, Wf u ∧ u.dep ≤ t.dep := by
  induction t with
  | am k x => intro u hu; rw [List.mem_singleton.mp hu]; exact ⟨h, Nat.le_refl _⟩
  | un s a ih =>
    intro u hu
    rcases List.mem_cons.mp hu with rfl | hu
    · exact ⟨h, Nat.le_refl _⟩
    · have := ih (h.parts_wf a List.mem_cons_self) u hu
      exact ⟨this.1, by show _ ≤ a.dep + 1; omega⟩
  | bi s a b iha ihb =>
    intro u hu
    rcases List.mem_cons.mp hu with rfl | hu
    · exact ⟨h, Nat.le_refl _⟩
    · rcases List.mem_append.mp hu with hu | hu
      · have := iha (h.parts_wf a List.mem_cons_self) u hu
        exact ⟨this.1, by show _ ≤ max a.dep b.dep + 1; omega⟩
      · have := ihb (h.parts_wf b (List.mem_cons_of_mem _ List.mem_cons_self)) u hu
        exact ⟨this.1, by show _ ≤ max a.dep b.dep + 1; omega⟩
/-- values that are the forms ts, one behind another -/
structure TsAt (H : Hp) (ts : List Tr) (vs : List V) : Prop where
  len : vs.length = ts.length
  get : ∀ (i : Nat) t v, ts[i]? = some t → vs[i]? = some v → IsT H t v
theorem TsAt.mono {C : Addr} {H H' : Hp} {ts : List Tr} {vs : List V} (k : Kp C H H') (h : TsAt H ts vs) : TsAt H' ts vs := ⟨h.len, fun i t v h1 h2 => (h.get i t v h1 h2).mono k⟩
theorem TsAt.same {H H' : Hp} {ts : List Tr} {vs : List V} (s : Same H H') (h : TsAt H ts vs) : TsAt H' ts vs := h.mono (C := 0) (Kp.of_same s)
theorem TsAt.one {H : Hp} {t : Tr} {v : V} (h : IsT H t v) : TsAt H [t] [v] := ⟨rfl, fun i t' v' h1 h2 => by
  cases i with
  | zero => cases h1; cases h2; exact h
  | succ i => cases i <;> cases h1⟩
theorem TsAt.app {H : Hp} {ts us : List Tr} {vs ws : List V} (h : TsAt H ts vs) (g : TsAt H us ws) : TsAt H (ts ++ us) (vs ++ ws) := ⟨by rw [List.length_append, List.length_append, h.len, g.len], fun i t v h1 h2 => by
  by_cases hi : i < ts.length
  · rw [List.getElem?_append_left hi] at h1
    rw [List.getElem?_append_left (by rw [h.len]; exact hi)] at h2
    exact h.get i t v h1 h2
  · rw [List.getElem?_append_right (by omega)] at h1
    rw [List.getElem?_append_right (by rw [h.len]; omega), h.len] at h2
    exact g.get _ t v h1 h2⟩
theorem TsAt.mem {H : Hp} {ts : List Tr} {vs : List V} (h : TsAt H ts vs) {v : V} (hv : v ∈ vs) : ∃ t ∈ ts, IsT H t v := by
  obtain ⟨i, hi⟩ := List.mem_iff_getElem?.mp hv
  have hl := (List.getElem?_eq_some_iff.mp hi).1
  rw [h.len] at hl
  exact ⟨_, List.getElem_mem hl, h.get i _ v (List.getElem?_eq_getElem hl) hi⟩
theorem TsAt.at_ {H : Hp} {ts : List Tr} {vs : List V} (h : TsAt H ts vs) {i : Nat} {v : V} (hv : vs[i]? = some v) : ∃ t, ts[i]? = some t ∧ IsT H t v := by
  have hl := (List.getElem?_eq_some_iff.mp hv).1
  rw [h.len] at hl
  exact ⟨_, List.getElem?_eq_getElem hl, h.get i _ v (List.getElem?_eq_getElem hl) hv⟩
def sp_parts (d : Nat) : Sp := fun vs H Q _ => ∃ (v : V) (t : Tr), vs = [v] ∧ IsT H t v ∧ Wf t ∧ t.dep ≤ d ∧ d ≤ 12 ∧ ∀ p ws H', Same H H' → H p = none → H' p = some (.lst ws) → TsAt H' t.all ws → Q (.ref p) H'
def spPR : Nat → Sp
  | 0 => fun _ _ _ _ => False
  | d + 1 => sp_parts d
/-- the loop over a form's parts: p holds what is found, p2 the parts -/
structure PInv (H0 : Hp) (p p2 : Addr) (us : List V) (t : Tr) (i : Nat) (H : Hp) : Prop where
  same : Same H0 H
  free : H0 p = none
  tup : H p2 = some (.tup us)
  found : ∃ ws, H p = some (.lst ws) ∧ TsAt H (t :: (t.parts.take i).flatMap Tr.all) ws
theorem take_flat {l : List Tr} {i : Nat} {r : Tr} (h : l[i]? = some r) : (l.take (i + 1)).flatMap Tr.all = (l.take i).flatMap Tr.all ++ r.all := by
  rw [List.take_add_one, h, List.flatMap_append]
  simp
theorem flat_le {t : Tr} (i : Nat) : ((t.parts.take i).flatMap Tr.all).length + 1 ≤ t.all.length := by
  rw [all_parts t, List.length_cons]
  have e : t.parts.flatMap Tr.all = (t.parts.take i).flatMap Tr.all ++ (t.parts.drop i).flatMap Tr.all := by rw [← List.flatMap_append, List.take_append_drop]
  rw [e, List.length_append]
  omega
/-- [e for x in a list], each item's value by R -/
theorem lcl {K : PySem.W.Frag} {C a D : Addr} {xs : List V} {te : TE} {i0 : Nat} {σ : St} {H1 : Hp} {Qd : Hp → Prop} (R : Nat → Hp → V → Prop) (rm : ∀ i H H' v, Kp C H H' → R i H v → R i H' v) (hS : SqL K H1 a xs) (hl : xs.length ≤ 100000) (hD : H1 D = none)
    (hte : ∀ (i : Nat) (x : V) (H : Hp) (Q : VK), xs[i]? = some x → Same H1 H → (∀ v H', Same H H' → R i H' v → Q v H') → te ((wipe σ [i0]).set i0 (some x)) H Q)
    (hq : ∀ vs H', Same H1 H' → H' D = some (.lst vs) → vs.length = xs.length → (∀ (i : Nat) v, vs[i]? = some v → R i H' v) → Qd H') :
    ∃ W : Nat → Nat → Hp → Prop, (∃ m, W 0 m (L2.upd H1 D (.lst []))) ∧ ∀ i m H, W i m H →
      ((Itl K a).stop i H ∧ Qd H) ∨ ((Itl K a).go i H ∧ ∃ Nx : Hp → Prop, (∀ H', Nx H' → ∃ m', m' < m ∧ W (i + 1) m' H') ∧ ∀ x H', (Itl K a).yld i H x H' → gName i0 x (wipe σ [i0]) H' fun σ2 H2 => wipe σ2 [i0] = wipe σ [i0] ∧ tYes σ2 H2 fun b H3 =>
        if b = true then te σ2 H3 fun y H4 => ∃ acc, H4 D = some (.lst acc) ∧ acc.length < sizeLine ∧ Nx (L2.upd H4 D (.lst (acc ++ [y]))) else Nx H3) := by
  refine lc_list (K := K) (a := a) (xs := xs) (fun i H => ∃ vs, Same H1 H ∧ H D = some (.lst vs) ∧ vs.length = i ∧ (∀ (j : Nat) v, vs[j]? = some v → R j H v)) ?_ ?_ ?_ ?_
  · exact ⟨[], Rd.Same.upd hD, upd_same, rfl, fun j v h => by simp at h⟩
  · rintro i H hi ⟨vs, s, _⟩
    exact SqL.kept hS s
  · rintro i x H hx ⟨vs, s, hDv, hlv, hg⟩
    refine ⟨by simp [wipe], hte i x H _ hx s fun v H' s' hv => ⟨vs, s' _ _ hDv, ?_, ?_⟩⟩
    · have : 100000 < sizeLine := by decide
      have := (List.getElem?_eq_some_iff.mp hx).1
      omega
    · have hDv' := s' _ _ hDv
      refine ⟨vs ++ [v], fun c o e => ?_, upd_same, by rw [List.length_append, hlv]; rfl, fun j v' hv' => ?_⟩
      · rw [upd_ne (ne_of_none e hD)]
        exact s' c o (s c o e)
      · have kp := Kp.upd_lst (C := C) (ys := vs ++ [v]) hDv'
        by_cases hj : j < vs.length
        · rw [List.getElem?_append_left hj] at hv'
          exact rm _ _ _ _ kp (rm _ _ _ _ (Kp.of_same s') (hg j v' hv'))
        · have e : j = vs.length := by
            have := (List.getElem?_eq_some_iff.mp hv').1
            rw [List.length_append, List.length_singleton] at this
            omega
          subst e
          rw [List.getElem?_append_right (Nat.le_refl _), Nat.sub_self] at hv'
          have e2 : v = v' := Option.some.inj hv'
          rw [← e2, hlv]
          exact rm _ _ _ _ kp hv
  · rintro H ⟨vs, s, hDv, hlv, hg⟩
    exact hq vs H s hDv hlv hg
/-- (a, b) != (c, d) of truths, all four known -/
theorem tb_pair {K : PySem.W.Frag} {e1 e2 e3 e4 : TE} {σ : St} {H : Hp} {b1 b2 : Bool} (h1 : ∀ H' Q, Same H H' → Q (.bl b1) H' → e1 σ H' Q) (h2 : ∀ H' Q, Same H H' → Q (.bl b2) H' → e2 σ H' Q) (h3 : ∀ H' Q, Same H H' → Q (.bl b1) H' → e3 σ H' Q) (h4 : ∀ H' Q, Same H H' → Q (.bl b2) H' → e4 σ H' Q) :
    TB (tTest (tOp (rNeD K) (tTup (tCons e1 (tCons e2 tNil))) (tTup (tCons e3 (tCons e4 tNil))))) σ H false := by
  intro Q k
  refine h1 H _ (Same.refl _) (h2 H _ (Same.refl _) ⟨(by show 2 ≤ sizeLine; decide), fun q hq => ?_⟩)
  have sq := Rd.Same.upd (o := .tup [.bl b1, .bl b2]) hq
  refine h3 _ _ sq (h4 _ _ sq ⟨(by show 2 ≤ sizeLine; decide), fun q2 hq2 => ?_⟩)
  have sq2 := Rd.Same.upd (o := .tup [.bl b1, .bl b2]) hq2
  have hd : SeqAt.shaped (.tuple [.bool b1, .bool b2]) = true := rfl
  refine ⟨.tuple [.bool b1, .bool b2], .tuple [.bool b1, .bool b2], .tup (SqT.of (sq2 _ _ upd_same)) (.cons (.bl _) (.cons (.bl _) .nil)), .tup (SqT.of upd_same) (.cons (.bl _) (.cons (.bl _) .nil)), hd, hd, _, rfl, ?_⟩
  rw [SeqAt.eqv_refl _ (SeqAt.canLay_of_shaped hd)]
  exact k _ (sq.trans sq2)
theorem at_end {xs : List V} {v : V} : atI (xs ++ [v]) (-1) = some v := by
  have e : ixN (xs ++ [v]).length (-1) = some xs.length := by
    unfold ixN
    rw [if_neg (by decide), List.length_append, List.length_singleton]
    rw [if_pos (by omega)]
    exact congrArg some (by omega)
  unfold atI
  rw [e]
  show (xs ++ [v])[xs.length]? = some v
  rw [List.getElem?_append_right (Nat.le_refl _), Nat.sub_self]
  rfl
end Rd
namespace Rd
open PySem L2
/-! ### the text of a form -/
def txt : Tr → List Nat
  | .am k x => if k = "unknown" then 63 :: x.cps.toList else x.cps.toList
  | .un s a => s.cps.toList ++ 40 :: (txt a ++ [41])
  | .bi s a b => s.cps.toList ++ 40 :: (txt a ++ 44 :: 32 :: (txt b ++ [41]))
def textOf (t : Tr) : Str := ofC (txt t)
theorem sign_len {s : Str} (h : s ∈ (["mark", "open", "own", "pair", "seal", "lock"] : List Str)) : s.cps.toList.length ≤ 4 := by
  have : ∀ z ∈ (["mark", "open", "own", "pair", "seal", "lock"] : List Str), z.cps.toList.length ≤ 4 := by decide +kernel
  exact this s h
theorem txt_len {t : Tr} (h : Wf t) : (txt t).length ≤ 16 * t.all.length := by
  induction t with
  | am k x =>
    cases h with
    | am ko =>
      have hx : x.length ≤ 8 := by
        rcases ko with ⟨rfl, h⟩ | ⟨rfl, h⟩ | ⟨rfl, h⟩
        · exact (word_len h).2.1
        · exact (name_len h).1
        · have := (unk_len h).1; omega
      have e := len_list x
      show (if k = "unknown" then 63 :: x.cps.toList else x.cps.toList).length ≤ 16 * 1
      split
      · rw [List.length_cons]; omega
      · omega
  | un s a ih =>
    have hs := sign_len (h.sign (fun e => by cases e)).1
    have hs : s.cps.toList.length ≤ 4 := hs
    have := ih (h.parts_wf a List.mem_cons_self)
    show (s.cps.toList ++ 40 :: (txt a ++ [41])).length ≤ 16 * (a.all.length + 1)
    rw [List.length_append, List.length_cons, List.length_append, List.length_singleton]
    omega
  | bi s a b iha ihb =>
    have hs := sign_len (h.sign (fun e => by cases e)).1
    have hs : s.cps.toList.length ≤ 4 := hs
    have h1 := iha (h.parts_wf a List.mem_cons_self)
    have h2 := ihb (h.parts_wf b (List.mem_cons_of_mem _ List.mem_cons_self))
    show (s.cps.toList ++ 40 :: (txt a ++ 44 :: 32 :: (txt b ++ [41]))).length ≤ 16 * ((a.all ++ b.all).length + 1)
    rw [List.length_append, List.length_cons, List.length_append, List.length_cons, List.length_cons, List.length_append, List.length_singleton, List.length_append]
    omega
theorem txt_small {t : Tr} (h : Wf t) (hd : t.dep ≤ 12) : (txt t).length ≤ 131072 := by
  have h1 := txt_len h
  have h2 := all_len t
  have h3 : 2 ^ (t.dep + 1) ≤ 2 ^ 13 := Nat.pow_le_pow_right (by decide) (by omega)
  have h4 : 2 ^ 13 = 8192 := by decide
  omega
theorem text_len {t : Tr} : (textOf t).length = (txt t).length := by rw [len_list, textOf, ofC_list]
def sp_text (d : Nat) : Sp := fun vs H Q _ => ∃ (v : V) (t : Tr), vs = [v] ∧ IsT H t v ∧ Wf t ∧ t.dep ≤ d ∧ d ≤ 12 ∧ ∀ H', Same H H' → Q (.str (textOf t)) H'
def spTR : Nat → Sp
  | 0 => fun _ _ _ _ => False
  | d + 1 => sp_text d
theorem join1 (a : Str) : Txt.join ", " [a] = a := by
  show Builtin.Str.glued ", " [a] = a
  rw [PySem.StrLaws.glued_eq_join]
  rfl
theorem join2 (a b : Str) : Txt.join ", " [a, b] = a ++ ", " ++ b := by
  show Builtin.Str.glued ", " [a, b] = a ++ ", " ++ b
  rw [PySem.StrLaws.glued_eq_join]
  rfl
end Rd
namespace Rd
open PySem L2
theorem texts_eq {ts : List Tr} {vs : List V} (hl : vs.length = ts.length) (h : ∀ (i : Nat) v, vs[i]? = some v → ∃ r, ts[i]? = some r ∧ v = .str (textOf r)) : vs = (ts.map textOf).map V.str := by
  refine List.ext_getElem? fun i => ?_
  rw [List.getElem?_map, List.getElem?_map]
  cases e : vs[i]? with
  | none =>
    have := List.getElem?_eq_none_iff.mp e
    rw [List.getElem?_eq_none (by omega)]
    rfl
  | some v =>
    obtain ⟨r, h1, h2⟩ := h i v e
    rw [h1, h2]
    rfl
theorem parts_text {t : Tr} (hp : t.parts ≠ []) : (txt t) = t.head.cps.toList ++ 40 :: ((Txt.join ", " (t.parts.map textOf)).cps.toList ++ [41]) := by
  cases t with
  | am k x => exact absurd rfl hp
  | un s a =>
    show s.cps.toList ++ 40 :: (txt a ++ [41]) = s.cps.toList ++ 40 :: ((Txt.join ", " [textOf a]).cps.toList ++ [41])
    rw [join1, textOf, ofC_list]
  | bi s a b =>
    show s.cps.toList ++ 40 :: (txt a ++ 44 :: 32 :: (txt b ++ [41])) = s.cps.toList ++ 40 :: ((Txt.join ", " [textOf a, textOf b]).cps.toList ++ [41])
    have e : (", " : Str).cps.toList = [44, 32] := by decide +kernel
    rw [join2, app_list, app_list, textOf, textOf, ofC_list, ofC_list, e]
    simp
theorem join_sum {t : Tr} (wf : Wf t) (hd : t.dep ≤ 12) : ((t.parts.map textOf).map (·.length)).sum + (t.parts.map textOf).length * (", " : Str).length ≤ 16777216 := by
  have e : (", " : Str).length = 2 := by decide +kernel
  rw [e]
  cases t with
  | am k x => show 0 + 0 * 2 ≤ 16777216; decide
  | un s a =>
    have h1 := txt_small (wf.parts_wf a List.mem_cons_self) (by have : a.dep + 1 ≤ 12 := hd; omega)
    show (textOf a).length + 0 + 1 * 2 ≤ 16777216
    rw [text_len]
    omega
  | bi s a b =>
    have hd : max a.dep b.dep + 1 ≤ 12 := hd
    have h1 := txt_small (wf.parts_wf a List.mem_cons_self) (by omega)
    have h2 := txt_small (wf.parts_wf b (List.mem_cons_of_mem _ List.mem_cons_self)) (by omega)
    show (textOf a).length + ((textOf b).length + 0) + 2 * 2 ≤ 16777216
    rw [text_len, text_len]
    omega
theorem join_len {t : Tr} (hp : t.parts ≠ []) : (Txt.join ", " (t.parts.map textOf)).length + 2 + t.head.length = (txt t).length := by
  rw [parts_text hp, List.length_append, List.length_cons, List.length_append, List.length_singleton, len_list, len_list]
  omega
theorem text_parts {t : Tr} (hp : t.parts ≠ []) {a : Str} (h : a.cps.toList = t.head.cps.toList ++ 40 :: ((Txt.join ", " (t.parts.map textOf)).cps.toList ++ [41])) : a = textOf t := str_ext (by rw [h, ← parts_text hp, textOf, ofC_list])
theorem text_am {k x : Str} (h : k ≠ "unknown") : textOf (.am k x) = x := str_ext (by rw [textOf, ofC_list]; show (if k = "unknown" then _ else _) = _; rw [if_neg h])
theorem text_unk {x : Str} : textOf (.am "unknown" x) = "?" ++ x := by
  refine str_ext ?_
  have e : ("?" : Str).cps.toList = [63] := by decide +kernel
  rw [textOf, ofC_list, app_list, e]
  show (if ("unknown" : Str) = "unknown" then _ else _) = _
  rw [if_pos rfl]
  rfl
def SIGNL : List Str := ["pair", "seal", "lock", "mark", "open", "own"]
section
variable {P : Program} {w : World} {K : PySem.W.Frag} {mg : Str → Option Value} {base : Heap}
abbrev s_tree_text : Stmt := top 19
theorem sc_tree_text : FnScope ["tree", "inner", "part"] ["tree"] (defScope s_tree_text) := ⟨rfl, rfl, rfl, by decide +kernel, rfl, by decide +kernel, by decide +kernel⟩
theorem tt_step (T : Tx w K mg) (d : Nat) (ih : Fk P w K mg base CX0 (d + 1) "tree_text" ["tree"] (spTR d)) : Fk P w K mg base CX0 (d + 2) "tree_text" ["tree"] (sp_text d) := by
  refine T.F_tree_text.ok0 sc_tree_text (fun _ _ _ _ _ _ us hl => match us, hl with | [_], _ => rfl)
    (fun vs H Q E h => ?_) (fun cdv A outer s H vs Q E hr h => ?_)
  · obtain ⟨v, t, rfl, _⟩ := h
    rfl
  · obtain ⟨v, t, rfl, it, wf, dp, d12, k⟩ := h
    refine ⟨_, (pss_cons (ps_if (pt_cmpR op_eq (pe_ix ix_tup (pv 0) pe_int (fun _ _ => rfl)) pe_str (nomark _))
  (pss_one (ps_ret (pe_op op_add_str pe_str (pe_ix ix_tup (pv 0) pe_int (fun _ _ => rfl)))))
  pss_nil)
  (pss_cons (ps_if (pt_cmpR (op_inK T.D_SIGNS) (pe_ix ix_tup (pv 0) pe_int (fun _ _ => rfl)) (pe_kd T.D_SIGNS) (by rfl))
  (pss_cons (ps_set (i := 1) sc_tree_text.nd rfl (Or.inl rfl) (pe_join pe_str (pe_lc (own := [("part", 2)]) (g := gName 2) (tt := tYes) (by rfl) sc_tree_text.nd (pi_tup (pe_slice sl_tup (pv 0) (po_some pe_int) po_none)) (blkOk_by (own := [("part", 2)]) (N := ["tree", "inner", "part"]) (sc := defScope s_tree_text) (by decide +kernel)) (fun _ _ _ _ _ => (pg_name (i := 2) sc_tree_text.nd rfl (Or.inl rfl))) (fun _ _ _ _ _ => pts_nil) (fun _ _ _ _ _ => (pe_fk ih (hr.mono (by omega)) rfl pass0 (pa_cons (pv 2) pa_nil))))))
  (pss_one (ps_ret (pe_joined (.cons (pe_fmt (pe_ix ix_tup (pv 0) pe_int (fun _ _ => rfl))) (.cons pe_str (.cons (pe_fmt (pv 1)) (.cons pe_str .nil))))))))
  pss_nil)
  (pss_one (ps_ret (pe_ix ix_tup (pv 0) pe_int (fun _ _ => rfl)))))), ?_⟩
    have big : 16777216 ≤ sizeLine := by decide
    by_cases hpt : t.parts ≠ []
    · obtain ⟨hsg, hws⟩ := wf.sign hpt
      obtain ⟨pf, us, rfl, hp, hlu, hl2, hne, hus⟩ := it.parts hpt
      have h4 : ¬ decide (V.str t.head = V.str "unknown") = true := by
        have : ∀ z ∈ (["mark", "open", "own", "pair", "seal", "lock"] : List Str), ¬ decide (V.str z = V.str "unknown") = true := by decide +kernel
        exact this _ hsg
      refine ⟨_, rfl, pf, _, _, _, rfl, rfl, SqT.of hp, at_of (j := 0) rfl rfl, rfl, _, rfl, iteN h4 ?_⟩
      refine ⟨_, rfl, pf, _, _, _, rfl, rfl, SqT.of hp, at_of (j := 0) rfl rfl, _, rfl, rfl, _, rfl, iteP (decide_eq_true (mem_to (by decide +kernel) hsg)) ?_⟩
      refine ⟨⟨_, rfl⟩, _, rfl, _, rfl, pf, _, rfl, SqT.of hp, ?_, fun p2 hp2 => ?_⟩
      · rintro ⟨z, _⟩
        rw [show (1 : Int) = ((1 : Nat) : Int) from rfl, HT.sIx_nat, List.length_cons] at z
        omega
      rw [cut1]
      have s2 := Rd.Same.upd (o := .tup us) hp2
      refine ⟨p2, rfl, ⟨_, SqT.of upd_same⟩, fun D hD => ?_⟩
      refine lct (C := 0) (fun i H v => ∃ r, t.parts[i]? = some r ∧ v = .str (textOf r)) (fun i H H' v _ h => h) (SqT.of upd_same) (by omega) hD (fun i x H1 Q1 hx s1 k1 => ?_) fun vs H1 s1 hD1 hlv hvs => ?_
      · obtain ⟨r, hr1, hr2⟩ := hus i x hx
        obtain ⟨w1, w2⟩ := hws r (List.mem_of_getElem? hr1)
        cases d with
        | zero => exact absurd dp (by omega)
        | succ d => exact ⟨_, rfl, x, r, rfl, hr2.same (s2.trans s1), w1, (by omega), (by omega), fun H' s' => k1 _ H' s' ⟨r, hr1, rfl⟩⟩
      have ev := texts_eq (hlv.trans hlu) hvs
      have hj := join_len hpt
      have hts := txt_small wf (by omega)
      refine ⟨_, D, t.parts.map textOf, rfl, rfl, .inl (SqL.of (by rw [← ev]; exact hD1)), join_sum wf (by omega), ?_⟩
      refine gName_k ?_
      try dsimp only
      have hp1 := s1 _ _ (s2 _ _ hp)
      have e0 : Str.empty.cps.toList = [] := by decide +kernel
      have e1 : ("(" : Str).cps.toList = [40] := by decide +kernel
      have e2 : (")" : Str).cps.toList = [41] := by decide +kernel
      have l0 : ∀ z : Str, Str.empty ++ z = z := fun z => str_ext (by rw [app_list, e0]; rfl)
      have la : ∀ a b : Str, (a ++ b).length = a.length + b.length := fun a b => by rw [len_list, app_list, List.length_append, ← len_list, ← len_list]
      have l1 : ("(" : Str).length = 1 := by decide +kernel
      have l2 : (")" : Str).length = 1 := by decide +kernel
      refine ⟨_, rfl, pf, _, _, _, rfl, rfl, SqT.of hp1, at_of (j := 0) rfl rfl, .inl ⟨t.head, rfl, (by omega), _, rfl, ?_, ?_⟩⟩
      · rw [l0]; omega
      rw [l0]
      refine ⟨"(", rfl, (by rw [la, l1]; omega), ?_⟩
      refine ⟨_, rfl, .inl ⟨_, rfl, (by omega), _, rfl, (by rw [la, la, l1]; omega), ?_⟩⟩
      refine ⟨")", rfl, (by rw [la, la, la, l1, l2]; omega), ?_⟩
      have ez : t.head ++ "(" ++ Txt.join ", " (t.parts.map textOf) ++ ")" = textOf t := text_parts hpt (by rw [app_list, app_list, app_list, e1, e2]; simp)
      show Q (.str (t.head ++ "(" ++ Txt.join ", " (t.parts.map textOf) ++ ")")) H1
      rw [ez]
      exact k _ (s2.trans s1)
    · cases wf with
      | @am k0 x0 ko =>
        obtain ⟨pf, rfl, hp⟩ := it
        refine ⟨_, rfl, pf, _, _, _, rfl, rfl, SqT.of hp, at_of (j := 0) rfl rfl, rfl, _, rfl, ?_⟩
        rcases ko with ⟨rfl, hx⟩ | ⟨rfl, hx⟩ | ⟨rfl, hx⟩
        · refine iteN (by decide +kernel) ?_
          refine ⟨_, rfl, pf, _, _, _, rfl, rfl, SqT.of hp, at_of (j := 0) rfl rfl, _, rfl, rfl, _, rfl, iteN (by decide +kernel) ?_⟩
          refine ⟨_, rfl, pf, _, _, _, rfl, rfl, SqT.of hp, at_of (j := 1) rfl rfl, ?_⟩
          have := k H (Same.refl _)
          rw [text_am (by decide +kernel)] at this
          exact this
        · refine iteN (by decide +kernel) ?_
          refine ⟨_, rfl, pf, _, _, _, rfl, rfl, SqT.of hp, at_of (j := 0) rfl rfl, _, rfl, rfl, _, rfl, iteN (by decide +kernel) ?_⟩
          refine ⟨_, rfl, pf, _, _, _, rfl, rfl, SqT.of hp, at_of (j := 1) rfl rfl, ?_⟩
          have := k H (Same.refl _)
          rw [text_am (by decide +kernel)] at this
          exact this
        · refine iteP (by decide +kernel) ?_
          have hl := unk_len hx
          have hq : ("?" : Str).length = 1 := by decide +kernel
          refine ⟨_, rfl, pf, _, _, _, rfl, rfl, SqT.of hp, at_of (j := 1) rfl rfl, _, _, rfl, rfl, (by omega), ?_⟩
          have := k H (Same.refl _)
          rw [text_unk] at this
          exact this
      | _ => exact absurd (fun e => by cases e) hpt
theorem tt_none (T : Tx w K mg) : Fk P w K mg base CX0 1 "tree_text" ["tree"] (spTR 0) := by
  refine T.F_tree_text.ok0 sc_tree_text (fun _ _ _ _ _ _ us hl => match us, hl with | [_], _ => rfl) (fun vs H Q E h => h.elim) (fun cdv A outer s H vs Q E hr h => h.elim)
theorem ok_tree_text (T : Tx w K mg) : ∀ d : Nat, Fk P w K mg base CX0 (d + 2) "tree_text" ["tree"] (sp_text d)
  | 0 => tt_step T 0 (tt_none T)
  | d + 1 => tt_step T (d + 1) (ok_tree_text T d)
end
end Rd
namespace Rd
open PySem L2
section
variable {P : Program} {w : World} {K : PySem.W.Frag} {mg : Str → Option Value} {base : Heap}
abbrev s__law_text : Stmt := top 31
theorem sc__law_text : FnScope ["_law_form_here", "_law_part"] ["_law_form_here"] (defScope s__law_text) := ⟨rfl, rfl, rfl, by decide +kernel, rfl, by decide +kernel, by decide +kernel⟩
theorem ltx_step (T : Tx w K mg) (d : Nat) (ih : Fk P w K mg base CX0 (d + 1) "_law_text" ["_law_form_here"] (spTR d)) : Fk P w K mg base CX0 (d + 2) "_law_text" ["_law_form_here"] (sp_text d) := by
  refine T.F__law_text.ok0 sc__law_text (fun _ _ _ _ _ _ us hl => match us, hl with | [_], _ => rfl)
    (fun vs H Q E h => ?_) (fun cdv A outer s H vs Q E hr h => ?_)
  · obtain ⟨v, t, rfl, _⟩ := h
    rfl
  · obtain ⟨v, t, rfl, it, wf, dp, d12, k⟩ := h
    refine ⟨_, (pss_cons (ps_if (pt_cmpR op_eq (pe_ix ix_tup (pv 0) pe_int (fun _ _ => rfl)) pe_str (nomark _))
  (pss_one (ps_ret (pe_op op_add_str pe_str (pe_ix ix_tup (pv 0) pe_int (fun _ _ => rfl)))))
  pss_nil)
  (pss_cons (ps_if (pt_cmpR op_inT (pe_ix ix_tup (pv 0) pe_int (fun _ _ => rfl)) (pe_tup (pa_cons pe_str (pa_cons pe_str pa_nil))) (by rfl))
  (pss_one (ps_ret (pe_ix ix_tup (pv 0) pe_int (fun _ _ => rfl))))
  pss_nil)
  (pss_one (ps_ret (pe_op op_add_str (pe_op op_add_str (pe_op op_add_str (pe_ix ix_tup (pv 0) pe_int (fun _ _ => rfl)) pe_str) (pe_join pe_str (pe_lc (own := [("_law_part", 1)]) (g := gName 1) (tt := tYes) (by rfl) sc__law_text.nd (pi_tup (pe_slice sl_tup (pv 0) (po_some pe_int) po_none)) (blkOk_by (own := [("_law_part", 1)]) (N := ["_law_form_here", "_law_part"]) (sc := defScope s__law_text) (by decide +kernel)) (fun _ _ _ _ _ => (pg_name (i := 1) sc__law_text.nd rfl (Or.inl rfl))) (fun _ _ _ _ _ => pts_nil) (fun _ _ _ _ _ => (pe_fk ih (hr.mono (by omega)) rfl pass0 (pa_cons (pv 1) pa_nil)))))) pe_str))))), ?_⟩
    have big : 16777216 ≤ sizeLine := by decide
    by_cases hpt : t.parts ≠ []
    · obtain ⟨hsg, hws⟩ := wf.sign hpt
      obtain ⟨pf, us, rfl, hp, hlu, hl2, hne, hus⟩ := it.parts hpt
      have h4 : ¬ decide (V.str t.head = V.str "unknown") = true := by
        have : ∀ z ∈ (["mark", "open", "own", "pair", "seal", "lock"] : List Str), ¬ decide (V.str z = V.str "unknown") = true := by decide +kernel
        exact this _ hsg
      have h3 : ¬ decide (t.head ∈ (["word", "name"] : List Str)) = true := by
        have : ∀ z ∈ (["mark", "open", "own", "pair", "seal", "lock"] : List Str), ¬ decide (z ∈ (["word", "name"] : List Str)) = true := by decide +kernel
        exact this _ hsg
      refine ⟨_, rfl, pf, _, _, _, rfl, rfl, SqT.of hp, at_of (j := 0) rfl rfl, rfl, _, rfl, iteN h4 ?_⟩
      refine ⟨_, rfl, pf, _, _, _, rfl, rfl, SqT.of hp, at_of (j := 0) rfl rfl, (by show 2 ≤ sizeLine; decide), fun q hq => ?_⟩
      have sq := Rd.Same.upd (o := .tup [.str "word", .str "name"]) hq
      refine ⟨_, q, ["word", "name"], rfl, rfl, SqT.of upd_same, _, rfl, iteN h3 ?_⟩
      have hj := join_len hpt
      have hts := txt_small wf (by omega)
      have e1 : ("(" : Str).cps.toList = [40] := by decide +kernel
      have e2 : (")" : Str).cps.toList = [41] := by decide +kernel
      have la : ∀ a b : Str, (a ++ b).length = a.length + b.length := fun a b => by rw [len_list, app_list, List.length_append, ← len_list, ← len_list]
      have l1 : ("(" : Str).length = 1 := by decide +kernel
      have l2 : (")" : Str).length = 1 := by decide +kernel
      have hpq := sq _ _ hp
      refine ⟨_, rfl, pf, _, _, _, rfl, rfl, SqT.of hpq, at_of (j := 0) rfl rfl, _, _, rfl, rfl, (by rw [l1]; omega), ?_⟩
      refine ⟨⟨_, rfl⟩, _, rfl, _, rfl, pf, _, rfl, SqT.of hpq, ?_, fun p2 hp2 => ?_⟩
      · rintro ⟨z, _⟩
        rw [show (1 : Int) = ((1 : Nat) : Int) from rfl, HT.sIx_nat, List.length_cons] at z
        omega
      rw [cut1]
      have s2 := Rd.Same.upd (o := .tup us) hp2
      refine ⟨p2, rfl, ⟨_, SqT.of upd_same⟩, fun D hD => ?_⟩
      refine lct (C := 0) (fun i H v => ∃ r, t.parts[i]? = some r ∧ v = .str (textOf r)) (fun i H H' v _ h => h) (SqT.of upd_same) (by omega) hD (fun i x H1 Q1 hx s1 k1 => ?_) fun vs H1 s1 hD1 hlv hvs => ?_
      · obtain ⟨r, hr1, hr2⟩ := hus i x hx
        obtain ⟨w1, w2⟩ := hws r (List.mem_of_getElem? hr1)
        cases d with
        | zero => exact absurd dp (by omega)
        | succ d => exact ⟨_, rfl, x, r, rfl, hr2.same ((sq.trans s2).trans s1), w1, (by omega), (by omega), fun H' s' => k1 _ H' s' ⟨r, hr1, rfl⟩⟩
      have ev := texts_eq (hlv.trans hlu) hvs
      refine ⟨_, D, t.parts.map textOf, rfl, rfl, .inl (SqL.of (by rw [← ev]; exact hD1)), join_sum wf (by omega), _, _, rfl, rfl, (by rw [la, l1]; omega), _, _, rfl, rfl, (by rw [la, la, l1, l2]; omega), ?_⟩
      have ez : t.head ++ "(" ++ Txt.join ", " (t.parts.map textOf) ++ ")" = textOf t := text_parts hpt (by rw [app_list, app_list, app_list, e1, e2]; simp)
      show Q (.str (t.head ++ "(" ++ Txt.join ", " (t.parts.map textOf) ++ ")")) H1
      rw [ez]
      exact k _ ((sq.trans s2).trans s1)
    · cases wf with
      | @am k0 x0 ko =>
        obtain ⟨pf, rfl, hp⟩ := it
        refine ⟨_, rfl, pf, _, _, _, rfl, rfl, SqT.of hp, at_of (j := 0) rfl rfl, rfl, _, rfl, ?_⟩
        rcases ko with ⟨rfl, hx⟩ | ⟨rfl, hx⟩ | ⟨rfl, hx⟩
        · refine iteN (by decide +kernel) ?_
          refine ⟨_, rfl, pf, _, _, _, rfl, rfl, SqT.of hp, at_of (j := 0) rfl rfl, (by show 2 ≤ sizeLine; decide), fun q hq => ?_⟩
          have sq := Rd.Same.upd (o := .tup [.str "word", .str "name"]) hq
          refine ⟨_, q, ["word", "name"], rfl, rfl, SqT.of upd_same, _, rfl, iteP (by decide +kernel) ?_⟩
          refine ⟨_, rfl, pf, _, _, _, rfl, rfl, SqT.of (sq _ _ hp), at_of (j := 1) rfl rfl, ?_⟩
          have := k _ sq
          rw [text_am (by decide +kernel)] at this
          exact this
        · refine iteN (by decide +kernel) ?_
          refine ⟨_, rfl, pf, _, _, _, rfl, rfl, SqT.of hp, at_of (j := 0) rfl rfl, (by show 2 ≤ sizeLine; decide), fun q hq => ?_⟩
          have sq := Rd.Same.upd (o := .tup [.str "word", .str "name"]) hq
          refine ⟨_, q, ["word", "name"], rfl, rfl, SqT.of upd_same, _, rfl, iteP (by decide +kernel) ?_⟩
          refine ⟨_, rfl, pf, _, _, _, rfl, rfl, SqT.of (sq _ _ hp), at_of (j := 1) rfl rfl, ?_⟩
          have := k _ sq
          rw [text_am (by decide +kernel)] at this
          exact this
        · refine iteP (by decide +kernel) ?_
          have hl := unk_len hx
          have hq : ("?" : Str).length = 1 := by decide +kernel
          refine ⟨_, rfl, pf, _, _, _, rfl, rfl, SqT.of hp, at_of (j := 1) rfl rfl, _, _, rfl, rfl, (by omega), ?_⟩
          have := k H (Same.refl _)
          rw [text_unk] at this
          exact this
      | _ => exact absurd (fun e => by cases e) hpt
theorem ltx_none (T : Tx w K mg) : Fk P w K mg base CX0 1 "_law_text" ["_law_form_here"] (spTR 0) := by
  refine T.F__law_text.ok0 sc__law_text (fun _ _ _ _ _ _ us hl => match us, hl with | [_], _ => rfl) (fun vs H Q E h => h.elim) (fun cdv A outer s H vs Q E hr h => h.elim)
theorem ok__law_text (T : Tx w K mg) : ∀ d : Nat, Fk P w K mg base CX0 (d + 2) "_law_text" ["_law_form_here"] (sp_text d)
  | 0 => ltx_step T 0 (ltx_none T)
  | d + 1 => ltx_step T (d + 1) (ok__law_text T d)
/-- a letter written -/
def sp_written (K : PySem.W.Frag) (d : Nat) : Sp := fun vs H Q _ => ∃ (a : Addr) (u : V) (t : Tr), vs = [.ref a] ∧ IsL K H a u ∧ IsT H t u ∧ Wf t ∧ t.dep ≤ d ∧ d ≤ 12 ∧ ∀ H', Same H H' → Q (.str (textOf t)) H'
abbrev s_Letter_written : Stmt := inClass (top 22) 4
theorem sc_Letter_written : FnScope ["self"] ["self"] (defScope s_Letter_written) := ⟨rfl, rfl, rfl, by decide +kernel, rfl, by decide +kernel, by decide +kernel⟩
theorem ok_written (T : Tx w K mg) (d : Nat) : Fm P w K mg base CX0 (d + 3) "Letter" "written" ["self"] (sp_written K d) := by
  refine T.M_Letter_written.ok0 sc_Letter_written (fun _ _ _ _ _ _ us hl => match us, hl with | [_], _ => rfl)
    (fun vs H Q E h => ?_) (fun cdv A outer s H vs Q E hr h => ?_)
  · obtain ⟨a, u, t, rfl, _⟩ := h
    rfl
  · obtain ⟨a, u, t, rfl, ⟨dx, ha⟩, it, wf, dp, d12, k⟩ := h
    refine ⟨_, (pss_one (ps_ret (pe_fk (ok_tree_text T d) (hr.mono (by omega)) rfl pass0 (pa_cons (pe_fld (pv 0) rfl) pa_nil)))), ?_⟩
    exact ⟨_, rfl, a, _, dx, _, _, rfl, ha, T.k_Letter, T.n_Letter_tree, look1 _, u, t, rfl, it, wf, dp, d12, k⟩
end
end Rd
namespace Rd
open PySem L2
/-! ### the reader -/
def sw (cs y : List Nat) : Bool := decide (cs.take y.length = y)
theorem starts3 (z y : Str) (i : Nat) (hi : i ≤ z.length) : Txt.startswith3 z y (i : Int) = sw (z.cps.toList.drop i) y.cps.toList := by
  have e0 : PySem.fromIndex z.length (i : Int) = i := by
    unfold PySem.fromIndex
    rw [if_neg (by omega)]
    omega
  have ex : ∀ n, (z.cps.extract i (i + n)).toList = (z.cps.toList.drop i).take n := fun n => by
    rw [Array.toList_extract, List.extract_eq_take_drop]
    congr 1
    omega
  have l1 := len_list z
  have l2 := len_list y
  show (decide (PySem.fromIndex z.length (i : Int) + y.length ≤ z.length) && (z.cps.extract (PySem.fromIndex z.length (i : Int)) (PySem.fromIndex z.length (i : Int) + y.length) == y.cps)) = _
  rw [e0]
  unfold sw
  by_cases h : (z.cps.toList.drop i).take y.cps.toList.length = y.cps.toList
  · have hl := congrArg List.length h
    rw [List.length_take, List.length_drop] at hl
    rw [decide_eq_true h, decide_eq_true (by omega), Bool.true_and, beq_iff_eq]
    refine Array.toList_inj.mp ?_
    rw [ex, l2]
    exact h
  · rw [decide_eq_false h, Bool.and_eq_false_iff]
    refine .inr (beq_eq_false_iff_ne.mpr fun e => h ?_)
    have := congrArg Array.toList e
    rw [ex, l2] at this
    exact this
def rfs (z : Str) (i : Nat) (b : Addr) : List (Str × V) := [("signs", .str z), ("at", .int i), ("begun", .ref b)]
def RO (K : PySem.W.Frag) (dx : Addr) (z : Str) (i : Nat) (b : Addr) : HO := .ins (He.ga K "Reader") dx (rfs z i b)
theorem rf_signs (z : Str) (i : Nat) (b : Addr) : (rfs z i b).lookup ("signs" : Str) = some (.str z) := by
  simp [rfs, List.lookup]
theorem rf_at (z : Str) (i : Nat) (b : Addr) : (rfs z i b).lookup ("at" : Str) = some (.int i) := by
  have e : (("at" : Str) == ("signs" : Str)) = false := by decide +kernel
  simp [rfs, List.lookup, e]
theorem rf_begun (z : Str) (i : Nat) (b : Addr) : (rfs z i b).lookup ("begun" : Str) = some (.ref b) := by
  have e : (("begun" : Str) == ("signs" : Str)) = false := by decide +kernel
  have e2 : (("begun" : Str) == ("at" : Str)) = false := by decide +kernel
  simp [rfs, List.lookup, e, e2]
theorem put_at (z : Str) (i j : Nat) (b : Addr) : putF "at" (.int j) (rfs z i b) = rfs z j b := by
  show (if ("signs" : Str) = "at" then _ else (("signs" : Str), V.str z) :: (if ("at" : Str) = "at" then (("at" : Str), V.int j) :: [(("begun" : Str), V.ref b)] else _)) = _
  rw [if_neg (by decide +kernel), if_pos rfl]
  rfl
def nb (c : Nat) : Bool := !decide (c ∈ (("(), " : Str).cps.toList))
def sp_takes (K : PySem.W.Frag) : Sp := fun vs H Q _ => ∃ (x dx b : Addr) (z sg : Str) (i : Nat), vs = [.ref x, .str sg] ∧ H x = some (RO K dx z i b) ∧ i ≤ z.length ∧ z.length ≤ 200000 ∧ sg.length ≤ 10 ∧
  (sw (z.cps.toList.drop i) sg.cps.toList = false → Q (.bl false) H) ∧ (sw (z.cps.toList.drop i) sg.cps.toList = true → Q (.bl true) (upd H x (RO K dx z (i + sg.length) b)))
def sp_word (K : PySem.W.Frag) : Sp := fun vs H Q _ => ∃ (x dx b : Addr) (z : Str) (i : Nat), vs = [.ref x] ∧ H x = some (RO K dx z i b) ∧ i ≤ z.length ∧ z.length ≤ 200000 ∧
  Q (.str (ofC ((z.cps.toList.drop i).takeWhile nb))) (upd H x (RO K dx z (i + ((z.cps.toList.drop i).takeWhile nb).length) b))
section
variable {P : Program} {w : World} {K : PySem.W.Frag} {mg : Str → Option Value} {base : Heap}
abbrev s_Reader_takes : Stmt := inClass (top 21) 1
theorem sc_Reader_takes : FnScope ["self", "sign"] ["self", "sign"] (defScope s_Reader_takes) := ⟨rfl, rfl, rfl, by decide +kernel, rfl, by decide +kernel, by decide +kernel⟩
theorem ok_takes (T : Tx w K mg) : Fm P w K mg base CX0 1 "Reader" "takes" ["self", "sign"] (sp_takes K) := by
  refine T.M_Reader_takes.ok0 sc_Reader_takes (fun _ _ _ _ _ _ us hl => match us, hl with | [_, _], _ => rfl)
    (fun vs H Q E h => ?_) (fun cdv A outer s H vs Q E hr h => ?_)
  · obtain ⟨x, dx, b, z, sg, i, rfl, _⟩ := h
    rfl
  · obtain ⟨x, dx, b, z, sg, i, rfl, hx, hi, hz, hsg, k0, k1⟩ := h
    refine ⟨_, (pss_cons (ps_if (pt_not (pt_val (pe_bm PySem.F.plainAttrs_str PySem.F.slot_str_startswith PySem.F.type_str_startswith mt_startswith3 (pe_fld (pv 0) rfl) (pa_cons (pv 1) (pa_cons (pe_fld (pv 0) rfl) pa_nil)))))
  (pss_one (ps_ret pe_bl))
  pss_nil)
  (pss_cons (ps_fld (pv 0) (pe_op op_add (pe_fld (pv 0) rfl) (pe_callB call_len_str (by rfl) T.z_len (by decide +kernel) (pa_cons (pv 1) pa_nil))) rfl)
  (pss_one (ps_ret pe_bl)))), ?_⟩
    refine ⟨_, rfl, x, _, dx, _, _, rfl, hx, T.k_Reader, T.n_Reader_signs, rf_signs _ _ _, ?_⟩
    refine ⟨rfl, _, rfl, _, rfl, x, _, dx, _, _, rfl, hx, T.k_Reader, T.n_Reader_at, rf_at _ _ _, z, sg, i, rfl, rfl, _, rfl, ?_⟩
    rw [starts3 z sg i hi]
    cases hs : sw (z.cps.toList.drop i) sg.cps.toList with
    | false => exact iteT (k0 hs)
    | true =>
      refine iteF ?_
      have big : 200010 ≤ sizeLine := by decide
      refine ⟨_, rfl, x, _, dx, _, _, rfl, hx, T.k_Reader, T.n_Reader_at, rf_at _ _ _, _, rfl, sg, rfl, (by omega), _, _, rfl, rfl, _, rfl, x, _, dx, _, rfl, hx, T.k_Reader, T.n_Reader_at, (by show 3 < 1000; decide), ?_⟩
      have e : putF "at" (.int ((i : Int) + (sg.length : Int))) (rfs z i b) = rfs z (i + sg.length) b := put_at z i (i + sg.length) b
      show Q (.bl true) (upd H x (.ins (He.ga K "Reader") dx (putF "at" (.int ((i : Int) + (sg.length : Int))) (rfs z i b))))
      rw [e]
      exact k1 hs
theorem tw_step {cs : List Nat} {j c : Nat} (hj : j ≤ (cs.takeWhile nb).length) (hc : cs[j]? = some c) : (nb c = true → j + 1 ≤ (cs.takeWhile nb).length) ∧ (nb c = false → j = (cs.takeWhile nb).length) := by
  induction cs generalizing j with
  | nil => cases hc
  | cons a r ih =>
    cases ha : nb a with
    | false =>
      have e : (a :: r).takeWhile nb = [] := by simp [List.takeWhile, ha]
      rw [e] at hj ⊢
      have : j = 0 := Nat.le_zero.mp hj
      subst this
      cases hc
      exact ⟨(fun q => by rw [ha] at q; cases q), fun _ => rfl⟩
    | true =>
      have e : (a :: r).takeWhile nb = a :: r.takeWhile nb := by simp [List.takeWhile, ha]
      rw [e, List.length_cons] at hj ⊢
      cases j with
      | zero =>
        cases hc
        exact ⟨(fun _ => by omega), (fun q => by rw [ha] at q; cases q)⟩
      | succ j =>
        obtain ⟨h1, h2⟩ := ih (j := j) (by omega) hc
        exact ⟨fun q => by have := h1 q; omega, fun q => by have := h2 q; omega⟩
theorem tw_end {cs : List Nat} {j : Nat} (hj : j ≤ (cs.takeWhile nb).length) (hc : cs.length ≤ j) : j = (cs.takeWhile nb).length := by
  have := (List.takeWhile_sublist nb (l := cs)).length_le
  omega
theorem word_cut {z : Str} {i j : Nat} (hj : j = ((z.cps.toList.drop i).takeWhile nb).length) (hi : i + j ≤ z.length) : cutS z (some (i : Int)) (some ((i + j : Nat) : Int)) = ofC ((z.cps.toList.drop i).takeWhile nb) := by
  have e : (z.cps.toList.drop i).takeWhile nb = (z.cps.toList.drop i).take j := by
    rw [hj]
    exact List.prefix_iff_eq_take.mp (List.takeWhile_prefix nb)
  refine str_ext ?_
  rw [ofC_list, e]
  show ((z.cps.toList.drop (HT.sIx z.length 0 (some (i : Int)))).take (HT.sIx z.length z.length (some ((i + j : Nat) : Int)) - HT.sIx z.length 0 (some (i : Int)))).toArray.toList = _
  have e1 : min i z.length = i := Nat.min_eq_left (by omega)
  have e2 : min (i + j) z.length = i + j := Nat.min_eq_left hi
  rw [HT.sIx_nat, HT.sIx_nat, List.toList_toArray, e1, e2, Nat.add_sub_cancel_left]
abbrev s_Reader_word_here : Stmt := inClass (top 21) 2
theorem sc_Reader_word_here : FnScope ["self", "end", "word"] ["self"] (defScope s_Reader_word_here) := ⟨rfl, rfl, rfl, by decide +kernel, rfl, by decide +kernel, by decide +kernel⟩
theorem ok_word (T : Tx w K mg) : Fm P w K mg base CX0 1 "Reader" "word_here" ["self"] (sp_word K) := by
  refine T.M_Reader_word_here.ok0 sc_Reader_word_here (fun _ _ _ _ _ _ us hl => match us, hl with | [_], _ => rfl)
    (fun vs H Q E h => ?_) (fun cdv A outer s H vs Q E hr h => ?_)
  · obtain ⟨x, dx, b, z, i, rfl, _⟩ := h
    rfl
  · obtain ⟨x, dx, b, z, i, rfl, hx, hi, hz, k⟩ := h
    refine ⟨_, (pss_cons (ps_set (i := 1) sc_Reader_word_here.nd rfl (Or.inl rfl) (pe_fld (pv 0) rfl))
  (pss_cons (ps_while PassesOwn.never (PW.pt (pw_and (pt_cmpR op_lt (pv 1) (pe_callB call_len_str (by rfl) T.z_len (by decide +kernel) (pa_cons (pe_fld (pv 0) rfl) pa_nil)) (nomark _)) (pw_and1 (pt_cmpR op_notIn_sign (pe_ix ix_str (pe_fld (pv 0) rfl) (pv 1) (fun _ _ => rfl)) pe_str (by rfl)))))
  (pss_one (ps_aug (i := 1) sc_Reader_word_here.nd rfl (Or.inl rfl) pe_int ip_add)))
  (pss_cons (ps_set (i := 2) sc_Reader_word_here.nd rfl (Or.inl rfl) (pe_slice sl_str (pe_fld (pv 0) rfl) (po_some (pe_fld (pv 0) rfl)) (po_some (pv 1))))
  (pss_cons (ps_fld (pv 0) (pv 1) rfl)
  (pss_one (ps_ret (pv 2))))))), ?_⟩
    refine ⟨_, rfl, x, _, dx, _, _, rfl, hx, T.k_Reader, T.n_Reader_at, rf_at _ _ _, ?_⟩
    refine gName_k ?_
    try dsimp only
    have l1 := len_list z
    have hw := (List.takeWhile_sublist nb (l := z.cps.toList.drop i)).length_le
    rw [List.length_drop] at hw
    have big : 200010 ≤ sizeLine := by decide
    refine ⟨fun m σ H' => H' = H ∧ ∃ (j : Nat) (t2 : Option V), j ≤ ((z.cps.toList.drop i).takeWhile nb).length ∧ m = z.length - (i + j) ∧ σ = [some (.ref x), some (.int ((i + j : Nat) : Int)), t2], ⟨_, rfl, 0, _, Nat.zero_le _, rfl, rfl⟩, ?_⟩
    rintro m σ H' ⟨rfl, j, t2, hj, rfl, rfl⟩
    refine ⟨_, rfl, _, rfl, x, _, dx, _, _, rfl, hx, T.k_Reader, T.n_Reader_signs, rf_signs _ _ _, z, rfl, (by omega), _, _, rfl, rfl, _, rfl, ?_⟩
    by_cases hlt : i + j < z.length
    · have ec : ∃ c, (z.cps.toList.drop i)[j]? = some c := ⟨_, List.getElem?_eq_getElem (by rw [List.length_drop]; omega)⟩
      obtain ⟨c, hc⟩ := ec
      have hc2 : z.cps.toList[i + j]? = some c := by rw [← List.getElem?_drop]; exact hc
      refine iteP (decide_eq_true (by omega)) ?_
      refine ⟨_, rfl, x, _, dx, _, _, rfl, hx, T.k_Reader, T.n_Reader_signs, rf_signs _ _ _, _, rfl, z, _, c, rfl, rfl, (by omega), atI_nat hc2, c, _, rfl, rfl, _, rfl, ?_⟩
      obtain ⟨h1, h2⟩ := tw_step hj hc
      show if nb c = true then _ else _
      cases hnb : nb c with
      | true =>
        refine iteT ⟨_, fun σ' H1 h => h, ?_⟩
        have ej : ((i + j : Nat) : Int) + 1 = ((i + (j + 1) : Nat) : Int) := by omega
        refine ⟨_, rfl, _, _, rfl, rfl, z.length - (i + (j + 1)), (by omega), rfl, j + 1, t2, h1 hnb, rfl, ?_⟩
        show [some (V.ref x), some (V.int (((i + j : Nat) : Int) + 1)), t2] = _
        rw [ej]
      | false =>
        refine iteF ?_
        have hj2 := h2 hnb
        refine ⟨_, rfl, x, _, dx, _, _, rfl, hx, T.k_Reader, T.n_Reader_signs, rf_signs _ _ _, _, rfl, x, _, dx, _, _, rfl, hx, T.k_Reader, T.n_Reader_at, rf_at _ _ _, _, rfl, _, rfl, _, rfl, z, rfl, (by omega), ?_⟩
        refine gName_k ?_
        try dsimp only
        refine ⟨_, rfl, _, rfl, x, _, dx, _, rfl, hx, T.k_Reader, T.n_Reader_at, (by show 3 < 1000; decide), ?_⟩
        refine ⟨_, rfl, ?_⟩
        rw [word_cut hj2 (by omega), put_at z i (i + j) b, hj2]
        exact k
    · refine iteN (fun h => hlt (by have := of_decide_eq_true h; omega)) ?_
      have hj2 := tw_end hj (by rw [List.length_drop]; omega)
      refine ⟨_, rfl, x, _, dx, _, _, rfl, hx, T.k_Reader, T.n_Reader_signs, rf_signs _ _ _, _, rfl, x, _, dx, _, _, rfl, hx, T.k_Reader, T.n_Reader_at, rf_at _ _ _, _, rfl, _, rfl, _, rfl, z, rfl, (by omega), ?_⟩
      refine gName_k ?_
      try dsimp only
      refine ⟨_, rfl, _, rfl, x, _, dx, _, rfl, hx, T.k_Reader, T.n_Reader_at, (by show 3 < 1000; decide), ?_⟩
      refine ⟨_, rfl, ?_⟩
      rw [word_cut hj2 (by omega), put_at z i (i + j) b, hj2]
      exact k
end
end Rd
namespace Rd
open PySem L2
/-- tuples stay -/
def Kt (H H' : Hp) : Prop := ∀ b xs, H b = some (.tup xs) → H' b = some (.tup xs)
theorem Kt.refl {H : Hp} : Kt H H := fun _ _ e => e
theorem Kt.trans {H H1 H2 : Hp} (a : Kt H H1) (b : Kt H1 H2) : Kt H H2 := fun c o h => b c o (a c o h)
theorem Kt.same {H H' : Hp} (s : Same H H') : Kt H H' := fun b o e => s b _ e
theorem Kt.upd {H : Hp} {p : Addr} {o o' : HO} (h : H p = some o) (ho : ∀ xs, o ≠ .tup xs) : Kt H (L2.upd H p o') := fun b xs e => by
  rw [upd_ne (fun z => by rw [z, h] at e; exact ho xs (Option.some.inj e))]
  exact e
theorem IsT.kt {H H' : Hp} (k : Kt H H') : ∀ {t : Tr} {v : V}, IsT H t v → IsT H' t v
  | .am _ _, _, ⟨p, e, h⟩ => ⟨p, e, k p _ h⟩
  | .un _ _, _, ⟨p, u, e, h, h1⟩ => ⟨p, u, e, k p _ h, IsT.kt k h1⟩
  | .bi _ _ _, _, ⟨p, u1, u2, e, h, h1, h2⟩ => ⟨p, u1, u2, e, k p _ h, IsT.kt k h1, IsT.kt k h2⟩
theorem TsAt.kt {H H' : Hp} {ts : List Tr} {vs : List V} (k : Kt H H') (h : TsAt H ts vs) : TsAt H' ts vs := ⟨h.len, fun i t v h1 h2 => (h.get i t v h1 h2).kt k⟩
abbrev Sk : Type := List (Str × List Tr)
/-- what is begun, the last first -/
inductive Stk (H : Hp) : List V → Sk → List Addr → Prop
  | nil : Stk H [] [] []
  | cons {rb : List V} {st : Sk} {ls : List Addr} {q l : Addr} {s : Str} {vs : List V} {ts : List Tr} : Stk H rb st ls → H q = some (.tup [.str s, .ref l]) → H l = some (.lst vs) → TsAt H ts vs → l ∉ ls → Stk H (.ref q :: rb) ((s, ts) :: st) (l :: ls)
theorem Stk.mono {H H' : Hp} (k : Kt H H') {rb : List V} {st : Sk} {ls : List Addr} (h : Stk H rb st ls) (hl : ∀ l ∈ ls, H' l = H l) : Stk H' rb st ls := by
  induction h with
  | nil => exact .nil
  | @cons rb st ls q l s vs ts _ h1 h2 h3 h4 ih => exact .cons (ih fun l' hl' => hl l' (List.mem_cons_of_mem _ hl')) (k _ _ h1) ((hl l List.mem_cons_self).trans h2) (h3.kt k) h4
theorem Stk.len {H : Hp} {rb : List V} {st : Sk} {ls : List Addr} (h : Stk H rb st ls) : rb.length = st.length ∧ ls.length = st.length := by
  induction h with
  | nil => exact ⟨rfl, rfl⟩
  | cons _ _ _ _ _ ih => exact ⟨by rw [List.length_cons, List.length_cons, ih.1], by rw [List.length_cons, List.length_cons, ih.2]⟩
/-- a reader amid its work; H0: ahead of it -/
structure RS (K : PySem.W.Frag) (H0 H : Hp) (x dx b : Addr) (z : Str) (i : Nat) (rb : List V) (st : Sk) (ls : List Addr) : Prop where
  same : Same H0 H
  nx : H0 x = none
  nb : H0 b = none
  nl : ∀ l ∈ ls, H0 l = none
  rd : H x = some (RO K dx z i b)
  lst : H b = some (.lst rb.reverse)
  stk : Stk H rb st ls
  bl : b ∉ ls
  le : i ≤ z.length
  zl : z.length ≤ 200000
  sl : st.length ≤ i
theorem Stk.has {H : Hp} {rb : List V} {st : Sk} {ls : List Addr} (h : Stk H rb st ls) : ∀ l ∈ ls, ∃ vs, H l = some (.lst vs) := by
  induction h with
  | nil => intro l hl; cases hl
  | cons _ _ h2 _ _ ih =>
    intro l hl
    rcases List.mem_cons.mp hl with rfl | hl
    · exact ⟨_, h2⟩
    · exact ih l hl
theorem RS.xl {K : PySem.W.Frag} {H0 H : Hp} {x dx b : Addr} {z : Str} {i : Nat} {rb : List V} {st : Sk} {ls : List Addr} (h : RS K H0 H x dx b z i rb st ls) : x ∉ ls := fun hx => by
  obtain ⟨vs, e⟩ := h.stk.has x hx
  rw [h.rd] at e
  cases e
theorem RS.xb {K : PySem.W.Frag} {H0 H : Hp} {x dx b : Addr} {z : Str} {i : Nat} {rb : List V} {st : Sk} {ls : List Addr} (h : RS K H0 H x dx b z i rb st ls) : b ≠ x := fun e => by
  have := h.lst
  rw [e, h.rd] at this
  cases this
/-- the place moves -/
theorem RS.move {K : PySem.W.Frag} {H0 H : Hp} {x dx b : Addr} {z : Str} {i j : Nat} {rb : List V} {st : Sk} {ls : List Addr} (h : RS K H0 H x dx b z i rb st ls) (hij : i ≤ j) (hj : j ≤ z.length) : RS K H0 (upd H x (RO K dx z j b)) x dx b z j rb st ls := by
  have kt : Kt H (upd H x (RO K dx z j b)) := Kt.upd h.rd (fun xs e => by cases e)
  refine ⟨fun c o e => ?_, h.nx, h.nb, h.nl, upd_same, ?_, h.stk.mono kt (fun l hl => upd_ne (fun e => h.xl (e ▸ hl))), h.bl, hj, h.zl, by have := h.sl; omega⟩
  · rw [upd_ne (ne_of_none e h.nx)]
    exact h.same c o e
  · rw [upd_ne h.xb]
    exact h.lst
/-- heaps that only grow -/
theorem RS.grow {K : PySem.W.Frag} {H0 H H' : Hp} {x dx b : Addr} {z : Str} {i : Nat} {rb : List V} {st : Sk} {ls : List Addr} (h : RS K H0 H x dx b z i rb st ls) (s : Same H H') : RS K H0 H' x dx b z i rb st ls := by
  have this : ∀ l ∈ ls, H' l = H l := fun l hl => by
    obtain ⟨vs, e⟩ := h.stk.has l hl
    rw [e, s _ _ e]
  exact ⟨h.same.trans s, h.nx, h.nb, h.nl, s _ _ h.rd, s _ _ h.lst, h.stk.mono (Kt.same s) this, h.bl, h.le, h.zl, h.sl⟩
theorem sw_pos {cs : List Nat} {c : Nat} {r : List Nat} (h : sw cs (c :: r) = true) : 0 < cs.length := by
  have h1 := congrArg List.length (of_decide_eq_true h)
  rw [List.length_take, List.length_cons] at h1
  omega
theorem rf_no {z : Str} {i : Nat} {b : Addr} {m : Str} (h1 : (m == ("signs" : Str)) = false) (h2 : (m == ("at" : Str)) = false) (h3 : (m == ("begun" : Str)) = false) : (rfs z i b).lookup m = none := by simp [rfs, List.lookup, h1, h2, h3]
/-- a sign is begun -/
theorem RS.push {K : PySem.W.Frag} {H0 H : Hp} {x dx b q l : Addr} {z s : Str} {i : Nat} {rb : List V} {st : Sk} {ls : List Addr} (h : RS K H0 H x dx b z i rb st ls) (hq : H q = some (.tup [.str s, .ref l])) (hl : H l = some (.lst [])) (nl : H0 l = none) (ne : l ≠ b) (nm : l ∉ ls) (hs : st.length < i) :
    RS K H0 (upd H b (.lst (rb.reverse ++ [.ref q]))) x dx b z i (.ref q :: rb) ((s, []) :: st) (l :: ls) := by
  have kt : Kt H (upd H b (.lst (rb.reverse ++ [.ref q]))) := Kt.upd h.lst (fun xs e => by cases e)
  refine ⟨fun c o e => ?_, h.nx, h.nb, fun l' hl' => ?_, ?_, ?_, ?_, ?_, h.le, h.zl, hs⟩
  · rw [upd_ne (ne_of_none e h.nb)]
    exact h.same c o e
  · rcases List.mem_cons.mp hl' with rfl | hl'
    · exact nl
    · exact h.nl l' hl'
  · rw [upd_ne (Ne.symm h.xb)]
    exact h.rd
  · rw [upd_same, List.reverse_cons]
  · refine Stk.cons (vs := []) (h.stk.mono kt fun l' hl' => upd_ne (fun e => h.bl (e ▸ hl'))) (kt _ _ hq) ?_ ⟨rfl, fun i t v h1 => by cases h1⟩ nm
    rw [upd_ne ne]
    exact hl
  · intro hb
    rcases List.mem_cons.mp hb with e | hb
    · exact ne e.symm
    · exact h.bl hb
def SG : List Str := ["pair", "seal", "lock", "mark", "open", "own"]
def wd (cs : List Nat) : List Nat := cs.takeWhile nb
/-- signs begun up to an atom -/
inductive Nx : List Nat → Sk → Option (Str × Str) → List Nat → Sk → Nat → Prop
  | stop {cs : List Nat} {st : Sk} : (ofC (wd cs) ∈ SG → sw (cs.drop (wd cs).length) [40] = false) → Nx cs st (atomOf (ofC (wd cs))) (cs.drop (wd cs).length) st 0
  | go {cs cs' : List Nat} {st st' : Sk} {a : Option (Str × Str)} {n : Nat} : ofC (wd cs) ∈ SG → sw (cs.drop (wd cs).length) [40] = true → Nx (cs.drop ((wd cs).length + 1)) ((ofC (wd cs), []) :: st) a cs' st' n → Nx cs st a cs' st' (n + 1)
def sp_next (K : PySem.W.Frag) : Sp := fun vs H Q _ => ∃ (H0 : Hp) (x dx b : Addr) (z : Str) (i n : Nat) (rb : List V) (st st' : Sk) (ls : List Addr) (a : Option (Str × Str)) (cs' : List Nat), vs = [.ref x] ∧ RS K H0 H x dx b z i rb st ls ∧ Nx (z.cps.toList.drop i) st a cs' st' n ∧
  ∀ v H' i' rb' ls', RS K H0 H' x dx b z i' rb' st' ls' → z.cps.toList.drop i' = cs' → (a = none → v = .non) → (∀ k y, a = some (k, y) → IsT H' (.am k y) v) → Q v H'
section
variable {P : Program} {w : World} {K : PySem.W.Frag} {mg : Str → Option Value} {base : Heap}
abbrev s_Reader_next_atom : Stmt := inClass (top 21) 3
theorem sc_Reader_next_atom : FnScope ["self", "word"] ["self"] (defScope s_Reader_next_atom) := ⟨rfl, rfl, rfl, by decide +kernel, rfl, by decide +kernel, by decide +kernel⟩
theorem ok_next (T : Tx w K mg) : Fm P w K mg base CX0 4 "Reader" "next_atom" ["self"] (sp_next K) := by
  refine T.M_Reader_next_atom.ok0 sc_Reader_next_atom (fun _ _ _ _ _ _ us hl => match us, hl with | [_], _ => rfl)
    (fun vs H Q E h => ?_) (fun cdv A outer s H vs Q E hr h => ?_)
  · obtain ⟨H0, x, dx, b, z, i, n, rb, st, st', ls, a, cs', rfl, _⟩ := h
    rfl
  · obtain ⟨H0, x, dx, b, z, i, n, rb, st, st', ls, a, cs', rfl, hR, hN, k⟩ := h
    refine ⟨_, (pss_cons (ps_set (i := 1) sc_Reader_next_atom.nd rfl (Or.inl rfl) (pe_fm0 (pv 0) T.k_Reader (ok_word T) (hr.mono (by omega)) pass0))
  (pss_cons (ps_while PassesOwn.never (PW.pt (pw_and (pt_cmpR (op_inK T.D_SIGNS) (pv 1) (pe_kd T.D_SIGNS) (by rfl)) (pw_and1 (pt_val (pe_fm (pv 0) T.k_Reader (ok_takes T) (hr.mono (by omega)) pass0 (pa_cons pe_str pa_nil))))))
  (pss_cons (ps_expr (pe_bm PySem.F.plainAttrs_list PySem.F.slot_list_append PySem.F.type_list_append mt_append (pe_fld (pv 0) rfl) (pa_cons (pe_tup (pa_cons (pv 1) (pa_cons (pe_lst pa_nil) pa_nil))) pa_nil)))
  (pss_one (ps_set (i := 1) sc_Reader_next_atom.nd rfl (Or.inl rfl) (pe_fm0 (pv 0) T.k_Reader (ok_word T) (hr.mono (by omega)) pass0)))))
  (pss_one (ps_ret (pe_fk (ok_atom_tree T) (hr.mono (by omega)) rfl pass0 (pa_cons (pv 1) pa_nil)))))), ?_⟩
    have big : 200010 ≤ sizeLine := by decide
    have l1 := len_list z
    have wl : ∀ i, i ≤ z.length → i + (wd (z.cps.toList.drop i)).length ≤ z.length := fun i hi => by
      have := (List.takeWhile_sublist nb (l := z.cps.toList.drop i)).length_le
      rw [List.length_drop] at this
      show i + ((z.cps.toList.drop i).takeWhile nb).length ≤ z.length
      omega
    refine seqAsg ⟨_, rfl, x, dx, _, rfl, hR.rd, rf_no (by decide +kernel) (by decide +kernel) (by decide +kernel), x, dx, b, z, i, rfl, hR.rd, hR.le, hR.zl, ?_⟩
    refine gName_k ?_
    try dsimp only
    refine ⟨fun m σ H' => ∃ i rb st ls, RS K H0 H' x dx b z (i + (wd (z.cps.toList.drop i)).length) rb st ls ∧ Nx (z.cps.toList.drop i) st a cs' st' m ∧ st.length ≤ i ∧ σ = [some (.ref x), some (.str (ofC (wd (z.cps.toList.drop i))))], ⟨n, i, rb, st, ls, hR.move (by omega) (wl i hR.le), hN, hR.sl, rfl⟩, ?_⟩
    rintro m σ H' ⟨i, rb, st, ls, hR, hN, hsl, rfl⟩
    have hle : i + (wd (z.cps.toList.drop i)).length ≤ z.length := hR.le
    have fin : ∀ {H1 : Hp}, RS K H0 H1 x dx b z (i + (wd (z.cps.toList.drop i)).length) rb st ls → st = st' → atomOf (ofC (wd (z.cps.toList.drop i))) = a → (z.cps.toList.drop i).drop (wd (z.cps.toList.drop i)).length = cs' → sp_atom_tree [.str (ofC (wd (z.cps.toList.drop i)))] H1 Q E0 := fun {H1} hR1 e1 e2 e3 => by
      subst e1
      have hlen : (ofC (wd (z.cps.toList.drop i))).length ≤ 200000 := by
        rw [len_list, ofC_list]
        have := hR.zl
        omega
      have ed : z.cps.toList.drop (i + (wd (z.cps.toList.drop i)).length) = cs' := by rw [← List.drop_drop]; exact e3
      refine ⟨_, rfl, hlen, fun H2 s2 en => ?_, fun k' y p H2 s2 es hp hp1 => ?_⟩
      · rw [e2] at en
        exact k .non H2 _ _ _ (hR1.grow s2) ed (fun _ => rfl) fun k' y e => by rw [en] at e; cases e
      · rw [e2] at es
        exact k (.ref p) H2 _ _ _ (hR1.grow s2) ed (fun e => by rw [es] at e; cases e) fun k2 y2 e => by
          rw [es] at e
          cases e
          exact ⟨p, rfl, hp1⟩
    refine ⟨_, rfl, _, rfl, rfl, _, rfl, ?_⟩
    show if decide (ofC (wd (z.cps.toList.drop i)) ∈ SG) = true then _ else _
    cases hN with
    | stop hn =>
      refine ite2 (fun hm => ?_) (fun hm => ?_)
      · refine ⟨_, rfl, x, dx, _, rfl, hR.rd, rf_no (by decide +kernel) (by decide +kernel) (by decide +kernel), x, dx, b, z, "(", _, rfl, hR.rd, hR.le, hR.zl, (by decide +kernel), fun _ => ⟨_, rfl, iteF ⟨_, rfl, fin hR rfl rfl rfl⟩⟩, fun q => ?_⟩
        have h0 := hn (of_decide_eq_true hm)
        rw [List.drop_drop] at h0
        rw [show ("(" : Str).cps.toList = [40] from by decide +kernel, h0] at q
        cases q
      · exact iteF ⟨_, rfl, fin hR rfl rfl rfl⟩
    | @go _ _ _ _ _ n' hm hsw hN' =>
      refine iteP (decide_eq_true hm) ?_
      have e40 : ("(" : Str).cps.toList = [40] := by decide +kernel
      have e1 : ("(" : Str).length = 1 := by decide +kernel
      refine ⟨_, rfl, x, dx, _, rfl, hR.rd, rf_no (by decide +kernel) (by decide +kernel) (by decide +kernel), x, dx, b, z, "(", _, rfl, hR.rd, hR.le, hR.zl, (by decide +kernel), fun q => ?_, fun q => ⟨_, rfl, iteT ⟨_, fun σ' H1 h => h, ?_⟩⟩⟩
      · rw [List.drop_drop] at hsw
        rw [e40, hsw] at q
        cases q
      · rw [e1]
        rw [e40] at q
        have hpos := sw_pos q
        rw [List.length_drop] at hpos
        have R1 := hR.move (j := i + (wd (z.cps.toList.drop i)).length + 1) (by omega) (by omega)
        refine ⟨_, rfl, x, _, dx, _, _, rfl, R1.rd, T.k_Reader, T.n_Reader_begun, rf_begun _ _ _, .inl ⟨rfl, _, SqL.of R1.lst⟩, _, rfl, Nat.zero_le _, fun l hl => ⟨(by show 2 ≤ sizeLine; decide), fun q hq => ?_⟩⟩
        have hl : upd H' x (RO K dx z (i + (wd (z.cps.toList.drop i)).length + 1) b) l = none := hl
        have hq : upd (upd H' x (RO K dx z (i + (wd (z.cps.toList.drop i)).length + 1) b)) l (.lst []) q = none := hq
        have R2 := (R1.grow (Rd.Same.upd (o := .lst []) hl)).grow (Rd.Same.upd (o := .tup [.str (ofC (wd (z.cps.toList.drop i))), .ref l]) hq)
        have hlq : l ≠ q := fun e => by rw [← e, upd_same] at hq; cases hq
        have hl2 : upd (upd (upd H' x (RO K dx z (i + (wd (z.cps.toList.drop i)).length + 1) b)) l (.lst [])) q (.tup [.str (ofC (wd (z.cps.toList.drop i))), .ref l]) l = some (.lst []) := by rw [upd_ne hlq, upd_same]
        have nlb : l ≠ b := fun e => by rw [e, R1.lst] at hl; cases hl
        have nlm : l ∉ ls := fun e => by
          obtain ⟨vs, e2⟩ := R1.stk.has l e
          rw [hl] at e2
          cases e2
        have R3 := R2.push upd_same hl2 (R1.same.free hl) nlb nlm (by omega)
        have hrl := R2.stk.len.1
        have hzl := hR.zl
        refine ⟨b, _, _, rfl, rfl, R2.lst, (by rw [List.length_reverse]; omega), ?_⟩
        refine ⟨_, rfl, x, dx, _, rfl, R3.rd, rf_no (by decide +kernel) (by decide +kernel) (by decide +kernel), x, dx, b, z, _, rfl, R3.rd, R3.le, R3.zl, ?_⟩
        rw [List.drop_drop] at hN'
        exact ⟨n', Nat.lt_succ_self _, i + (wd (z.cps.toList.drop i)).length + 1, _, _, _, R3.move (by omega) (wl _ R3.le), hN', R3.sl, rfl⟩
end
end Rd
namespace Rd
open PySem L2
def ar (s : Str) : Nat := if s ∈ (["pair", "seal", "lock"] : List Str) then 2 else 1
def madeF (s : Str) : List Tr → Option Tr
  | [a] => some (.un s a)
  | [a, b] => if s = "lock" ∧ isKey b = false then none else some (.bi s a b)
  | _ => none
theorem madeF2 (s : Str) (a b : Tr) : madeF s [a, b] = if s = "lock" ∧ isKey b = false then none else some (.bi s a b) := rfl
def sp_made (K : PySem.W.Frag) : Sp := fun vs H Q _ => ∃ (s : Str) (l : Addr) (ws : List V) (ts : List Tr), vs = [.str s, .ref l] ∧ H l = some (.lst ws) ∧ TsAt H ts ws ∧ s ∈ SG ∧ ts.length = ar s ∧
  ∀ v H', Same H H' → (madeF s ts = none → v = .non) → (∀ t, madeF s ts = some t → IsT H' t v) → Q v H'
section
variable {P : Program} {w : World} {K : PySem.W.Frag} {mg : Str → Option Value} {base : Heap}
abbrev s_made_tree : Stmt := top 20
theorem sc_made_tree : FnScope ["sign", "parts"] ["sign", "parts"] (defScope s_made_tree) := ⟨rfl, rfl, rfl, by decide +kernel, rfl, by decide +kernel, by decide +kernel⟩
theorem ok_made_tree (T : Tx w K mg) : Fk P w K mg base CX0 1 "made_tree" ["sign", "parts"] (sp_made K) := by
  refine T.F_made_tree.ok0 sc_made_tree (fun _ _ _ _ _ _ us hl => match us, hl with | [_, _], _ => rfl)
    (fun vs H Q E h => ?_) (fun cdv A outer s H vs Q E hr h => ?_)
  · obtain ⟨s, l, ws, ts, rfl, _⟩ := h
    rfl
  · obtain ⟨sg, l, ws, ts, rfl, hl, hts, hsg, har, k⟩ := h
    refine ⟨_, (pss_cons (ps_if (PW.pt (pw_and (pt_cmpR op_eq (pv 0) pe_str (nomark _)) (pw_and1 (pt_cmpR op_notInT (pe_ix ix_tup (pe_ix ix_list (pv 1) pe_int (fun _ _ => rfl)) pe_int (fun _ _ => rfl)) (pe_tup (pa_cons pe_str (pa_cons pe_str pa_nil))) (by rfl)))))
  (pss_one (ps_ret pe_non))
  pss_nil)
  (pss_one (ps_ret (pe_op op_catT (pe_tup (pa_cons (pv 0) pa_nil)) (pe_callTy call_tuple_of (by rfl) T.z_tuple (by decide +kernel) (pa_cons (pv 1) pa_nil)))))), ?_⟩
    have fin : ∀ {H1 : Hp}, Same H H1 → ws ≠ [] → (∀ t, madeF sg ts = some t → ∀ p H2, Same H1 H2 → H2 p = some (.tup (.str sg :: ws)) → IsT H2 t (.ref p)) → madeF sg ts ≠ none →
        ∀ q : Addr, H1 q = none → ∃ p ys, [V.ref l] = [.ref p] ∧ ((SqL K (upd H1 q (.tup [.str sg])) p ys ∧ ∀ l', upd H1 q (.tup [.str sg]) l' = none → rCatT K (.ref q) (.ref l') (upd (upd H1 q (.tup [.str sg])) l' (.tup ys)) Q) ∨ (SqT K (upd H1 q (.tup [.str sg])) p ys ∧ rCatT K (.ref q) (.ref p) (upd H1 q (.tup [.str sg])) Q)) := fun {H1} s1 hne hm hmn q hq => by
      have sq := Rd.Same.upd (o := .tup [.str sg]) hq
      refine ⟨l, ws, rfl, .inl ⟨SqL.of (sq _ _ (s1 _ _ hl)), fun l' hl' => ?_⟩⟩
      have sl := Rd.Same.upd (o := .tup ws) hl'
      have hwl : ws.length ≤ 2 := by
        rw [hts.len, har]
        unfold ar
        split <;> decide
      have big : 100 ≤ sizeLine := by decide
      refine ⟨q, l', [.str sg], ws, rfl, rfl, SqT.of (sl _ _ upd_same), SqT.of upd_same, (fun e => by cases e), (by show 1 + ws.length ≤ sizeLine; omega), fun e => absurd e hne, fun _ p hp => ?_⟩
      have sp := Rd.Same.upd (o := .tup ([.str sg] ++ ws)) hp
      exact k (.ref p) _ (((s1.trans sq).trans sl).trans sp) (fun e => absurd e hmn) fun t ht => hm t ht p _ ((sq.trans sl).trans sp) upd_same
    by_cases h2 : sg ∈ (["pair", "seal", "lock"] : List Str)
    · obtain ⟨a, b, rfl⟩ : ∃ a b, ts = [a, b] := by
        have e : ar sg = 2 := if_pos h2
        rw [e] at har
        match ts, har with
        | [a, b], _ => exact ⟨a, b, rfl⟩
      obtain ⟨v1, v2, rfl⟩ : ∃ v1 v2, ws = [v1, v2] := by
        match ws, hts.len with
        | [v1, v2], _ => exact ⟨v1, v2, rfl⟩
      have i1 := hts.get 0 a v1 rfl rfl
      have i2 := hts.get 1 b v2 rfl rfl
      have bip : ∀ {H1 : Hp}, Same H H1 → ∀ t, madeF sg [a, b] = some t → ∀ p H2, Same H1 H2 → H2 p = some (.tup (.str sg :: [v1, v2])) → IsT H2 t (.ref p) := fun {H1} s1 t ht p H2 s2 hp => by
        rw [madeF2] at ht
        split at ht
        · cases ht
        · cases ht
          exact ⟨p, v1, v2, rfl, hp, i1.same (s1.trans s2), i2.same (s1.trans s2)⟩
      by_cases hlk : sg = "lock"
      · subst hlk
        obtain ⟨p2, us, rfl, hp2⟩ := i2.hd
        refine seqIf (b := !isKey b) (fun R r => ⟨_, rfl, rfl, _, rfl, ?_⟩) fun H1 s1 => ?_
        · refine iteP (by decide +kernel) ?_
          refine ⟨_, rfl, l, _, _, _, rfl, rfl, SqL.of hl, at_of (j := 1) rfl rfl, p2, _, _, _, rfl, rfl, SqT.of hp2, at_of (j := 0) rfl rfl, (by show 2 ≤ sizeLine; decide), fun q hq => ?_⟩
          exact ⟨_, q, ["open", "own"], rfl, rfl, SqT.of upd_same, _, rfl, r _ (Rd.Same.upd hq)⟩
        · cases hk : isKey b with
          | false => exact iteT (k .non _ s1 (fun _ => rfl) fun t ht => by
              rw [madeF2, if_pos ⟨rfl, hk⟩] at ht
              cases ht)
          | true =>
            refine iteF (nxt ?_)
            try dsimp only
            refine ⟨_, rfl, (by show 1 ≤ sizeLine; decide), fun q hq => ⟨_, rfl, fin s1 (fun e => by cases e) (bip s1) ?_ q hq⟩⟩
            rw [madeF2, if_neg (fun h => by rw [hk] at h; cases h.2)]
            exact fun e => by cases e
      · refine seqIf (b := false) (fun R r => ⟨_, rfl, rfl, _, rfl, iteN (fun h => hlk (by have := of_decide_eq_true h; cases this; rfl)) (r _ (Same.refl _))⟩) fun H1 s1 => iteF (nxt ?_)
        try dsimp only
        refine ⟨_, rfl, (by show 1 ≤ sizeLine; decide), fun q hq => ⟨_, rfl, fin s1 (fun e => by cases e) (bip s1) ?_ q hq⟩⟩
        rw [madeF2, if_neg (fun h => hlk h.1)]
        exact fun e => by cases e
    · obtain ⟨a, rfl⟩ : ∃ a, ts = [a] := by
        have e : ar sg = 1 := if_neg h2
        rw [e] at har
        match ts, har with
        | [a], _ => exact ⟨a, rfl⟩
      obtain ⟨v1, rfl⟩ : ∃ v1, ws = [v1] := by
        match ws, hts.len with
        | [v1], _ => exact ⟨v1, rfl⟩
      have i1 := hts.get 0 a v1 rfl rfl
      have hlk : sg ≠ "lock" := fun e => h2 (by rw [e]; decide +kernel)
      refine seqIf (b := false) (fun R r => ⟨_, rfl, rfl, _, rfl, iteN (fun h => hlk (by have := of_decide_eq_true h; cases this; rfl)) (r _ (Same.refl _))⟩) fun H1 s1 => iteF (nxt ?_)
      try dsimp only
      refine ⟨_, rfl, (by show 1 ≤ sizeLine; decide), fun q hq => ⟨_, rfl, fin s1 (fun e => by cases e) (fun t ht p H2 s2 hp => ?_) (fun e => by cases e) q hq⟩⟩
      cases ht
      exact ⟨p, v1, rfl, hp, i1.same (s1.trans s2)⟩
end
end Rd
namespace Rd
open PySem L2
/-- a part is put to the last sign that is begun -/
theorem RS.app {K : PySem.W.Frag} {H0 H : Hp} {x dx b q l : Addr} {z s : Str} {i : Nat} {rb vs : List V} {st : Sk} {ls : List Addr} {ts : List Tr} {t : Tr} {v : V} (h : RS K H0 H x dx b z i (.ref q :: rb) ((s, ts) :: st) (l :: ls)) (hl : H l = some (.lst vs)) (ht : TsAt H ts vs) (hq : H q = some (.tup [.str s, .ref l])) (hv : IsT H t v) :
    RS K H0 (upd H l (.lst (vs ++ [v]))) x dx b z i (.ref q :: rb) ((s, ts ++ [t]) :: st) (l :: ls) := by
  have kt : Kt H (upd H l (.lst (vs ++ [v]))) := Kt.upd hl (fun xs e => by cases e)
  have hx := h.xl
  have hb := h.bl
  refine ⟨fun c o e => ?_, h.nx, h.nb, h.nl, ?_, ?_, ?_, h.bl, h.le, h.zl, h.sl⟩
  · rw [upd_ne (ne_of_none e (h.nl l List.mem_cons_self))]
    exact h.same c o e
  · rw [upd_ne (fun e => hx (by rw [e]; exact List.mem_cons_self))]
    exact h.rd
  · rw [upd_ne (fun e => hb (by rw [e]; exact List.mem_cons_self))]
    exact h.lst
  · cases h.stk with
    | cons h1 h2 h3 h4 h5 =>
      exact .cons (h1.mono kt fun l' hl' => upd_ne (fun e => h5 (e ▸ hl'))) (kt _ _ hq) upd_same ((ht.kt kt).app (TsAt.one (hv.kt kt))) h5
/-- .. and it is taken off -/
theorem RS.pop {K : PySem.W.Frag} {H0 H : Hp} {x dx b q l : Addr} {z s : Str} {i : Nat} {rb : List V} {st : Sk} {ls : List Addr} {ts : List Tr} (h : RS K H0 H x dx b z i (.ref q :: rb) ((s, ts) :: st) (l :: ls)) :
    RS K H0 (upd H b (.lst rb.reverse)) x dx b z i rb st ls := by
  have kt : Kt H (upd H b (.lst rb.reverse)) := Kt.upd h.lst (fun xs e => by cases e)
  refine ⟨fun c o e => ?_, h.nx, h.nb, fun l' hl' => h.nl l' (List.mem_cons_of_mem _ hl'), ?_, upd_same, ?_, fun hb => h.bl (List.mem_cons_of_mem _ hb), h.le, h.zl, ?_⟩
  · rw [upd_ne (ne_of_none e h.nb)]
    exact h.same c o e
  · rw [upd_ne (Ne.symm h.xb)]
    exact h.rd
  · cases h.stk with
    | cons h1 h2 h3 h4 h5 => exact h1.mono kt fun l' hl' => upd_ne (fun e => h.bl (List.mem_cons_of_mem _ (e ▸ hl')))
  · have := h.sl
    rw [List.length_cons] at this
    omega
inductive Res where
  | done (t : Tr)
  | more (s : Str)
  | bad
def Out (H : Hp) : Res → V → Prop
  | .done t, v => IsT H t v
  | .more s, v => v = .str s
  | .bad, v => v = .non
def SkOk (st : Sk) : Prop := ∀ e ∈ st, e.1 ∈ SG ∧ e.2.length < ar e.1
/-- signs closed behind a form -/
inductive Cl : Option Tr → List Nat → Sk → Res → List Nat → Sk → Nat → Prop
  | none {cs : List Nat} {st : Sk} : Cl none cs st .bad cs st 0
  | fin {cs : List Nat} {t : Tr} : Cl (some t) cs [] (.done t) cs [] 0
  | more {cs : List Nat} {t : Tr} {s : Str} {ts : List Tr} {st : Sk} : ts.length + 1 < ar s → sw cs [44, 32] = true → Cl (some t) cs ((s, ts) :: st) (.more s) (cs.drop 2) ((s, ts ++ [t]) :: st) 0
  | bad {cs : List Nat} {t : Tr} {s : Str} {ts : List Tr} {st : Sk} : ts.length + 1 < ar s → sw cs [44, 32] = false → Cl (some t) cs ((s, ts) :: st) .bad cs ((s, ts ++ [t]) :: st) 0
  | shut0 {cs : List Nat} {t : Tr} {s : Str} {ts : List Tr} {st : Sk} : ¬ ts.length + 1 < ar s → sw cs [41] = false → Cl (some t) cs ((s, ts) :: st) .bad cs st 1
  | shut1 {cs cs' : List Nat} {t : Tr} {s : Str} {ts : List Tr} {st st' : Sk} {r : Res} {n : Nat} : ¬ ts.length + 1 < ar s → sw cs [41] = true → Cl (madeF s (ts ++ [t])) (cs.drop 1) st r cs' st' n → Cl (some t) cs ((s, ts) :: st) r cs' st' (n + 1)
def OptT (H : Hp) : Option Tr → V → Prop
  | none, v => v = .non
  | some t, v => IsT H t v
theorem sgn_mem {s : Str} (h : s ∈ SG) : (s, (ar s : Int)) ∈ ([("pair", 2), ("seal", 2), ("lock", 2), ("mark", 1), ("open", 1), ("own", 1)] : List (Str × Int)) := by
  have : ∀ z ∈ SG, (z, (ar z : Int)) ∈ ([("pair", 2), ("seal", 2), ("lock", 2), ("mark", 1), ("open", 1), ("own", 1)] : List (Str × Int)) := by decide +kernel
  exact this s h
def sp_closed (K : PySem.W.Frag) : Sp := fun vs H Q _ => ∃ (H0 : Hp) (x dx b : Addr) (z : Str) (i n : Nat) (rb : List V) (st st' : Sk) (ls : List Addr) (o : Option Tr) (v : V) (r : Res) (cs' : List Nat), vs = [.ref x, v] ∧ RS K H0 H x dx b z i rb st ls ∧ SkOk st ∧ OptT H o v ∧ Cl o (z.cps.toList.drop i) st r cs' st' n ∧
  ∀ v' H' i' rb' ls', RS K H0 H' x dx b z i' rb' st' ls' → z.cps.toList.drop i' = cs' → Out H' r v' → Q v' H'
section
variable {P : Program} {w : World} {K : PySem.W.Frag} {mg : Str → Option Value} {base : Heap}
abbrev s_Reader_closed : Stmt := inClass (top 21) 4
theorem sc_Reader_closed : FnScope ["self", "tree", "sign", "parts"] ["self", "tree"] (defScope s_Reader_closed) := ⟨rfl, rfl, rfl, by decide +kernel, rfl, by decide +kernel, by decide +kernel⟩
theorem ok_closed (T : Tx w K mg) : Fm P w K mg base CX0 3 "Reader" "closed" ["self", "tree"] (sp_closed K) := by
  refine T.M_Reader_closed.ok0 sc_Reader_closed (fun _ _ _ _ _ _ us hl => match us, hl with | [_, _], _ => rfl)
    (fun vs H Q E h => ?_) (fun cdv A outer s H vs Q E hr h => ?_)
  · obtain ⟨H0, x, dx, b, z, i, n, rb, st, st', ls, o, v, r, cs', rfl, _⟩ := h
    rfl
  · obtain ⟨H0, x, dx, b, z, i, n, rb, st, st', ls, o, v, r, cs', rfl, hR, hok, hov, hC, k⟩ := h
    refine ⟨_, (pss_cons (ps_while PassesOwn.never (PW.pt (pw_and (pt_cmpR op_notN (pv 1) pe_non (nomark _)) (pw_and1 (pt_truth (pe_fld (pv 0) rfl) (by intro _; rfl)))))
  (pss_cons (ps_asg (pe_ix ix_list (pe_fld (pv 0) rfl) (pe_un un_neg pe_int) (fun _ _ => rfl)) (pg_tup rfl (pgs_cons (pg_name (i := 2) sc_Reader_closed.nd rfl (Or.inl rfl)) (pgs_cons (pg_name (i := 3) sc_Reader_closed.nd rfl (Or.inl rfl)) pgs_nil))))
  (pss_cons (ps_expr (pe_bm PySem.F.plainAttrs_list PySem.F.slot_list_append PySem.F.type_list_append mt_append (pv 3) (pa_cons (pv 1) pa_nil)))
  (pss_cons (ps_if (pt_cmpR op_lt (pe_callB call_len_seq (by rfl) T.z_len (by decide +kernel) (pa_cons (pv 3) pa_nil)) (pe_ix (ix_K T.D_SIGNS) (pe_kd T.D_SIGNS) (pv 2) (fun _ _ => rfl)) (nomark _))
  (pss_cons (ps_if (pt_val (pe_fm (pv 0) T.k_Reader (ok_takes T) (hr.mono (by omega)) pass0 (pa_cons pe_str pa_nil)))
  (pss_one (ps_ret (pv 2)))
  pss_nil)
  (pss_one (ps_ret pe_non)))
  pss_nil)
  (pss_cons (ps_expr (pe_bm0 PySem.F.plainAttrs_list PySem.F.slot_list_pop PySem.F.type_list_pop mt_pop (pe_fld (pv 0) rfl)))
  (pss_cons (ps_set (i := 1) sc_Reader_closed.nd rfl (Or.inl rfl) pe_non)
  (pss_one (ps_if (pt_val (pe_fm (pv 0) T.k_Reader (ok_takes T) (hr.mono (by omega)) pass0 (pa_cons pe_str pa_nil)))
  (pss_one (ps_set (i := 1) sc_Reader_closed.nd rfl (Or.inl rfl) (pe_fk (ok_made_tree T) (hr.mono (by omega)) rfl pass0 (pa_cons (pv 2) (pa_cons (pv 3) pa_nil)))))
  pss_nil))))))))
  (pss_one (ps_ret (pv 1)))), ?_⟩
    refine ⟨fun m σ H' => ∃ o v i rb st ls t2 t3, RS K H0 H' x dx b z i rb st ls ∧ SkOk st ∧ OptT H' o v ∧ Cl o (z.cps.toList.drop i) st r cs' st' m ∧ σ = [some (.ref x), some v, t2, t3], ⟨n, o, v, i, rb, st, ls, _, _, hR, hok, hov, hC, rfl⟩, ?_⟩
    rintro m σ H' ⟨o, v, i, rb, st, ls, t2, t3, hR, hok, hov, hC, rfl⟩
    refine ⟨_, rfl, rfl, _, rfl, ?_⟩
    have big : 200010 ≤ sizeLine := by decide
    have l1 := len_list z
    cases o with
    | none =>
      have hv : v = .non := hov
      subst hv
      refine iteN (by decide +kernel) (iteF ?_)
      cases hC
      exact ⟨_, rfl, k _ _ _ _ _ hR rfl rfl⟩
    | some t =>
      have hov : IsT H' t v := hov
      obtain ⟨pv0, us0, rfl, _⟩ := hov.hd
      refine iteP (by rw [decide_eq_false (fun e => by cases e)]; rfl) ?_
      refine ⟨_, rfl, x, _, dx, _, _, rfl, hR.rd, T.k_Reader, T.n_Reader_begun, rf_begun _ _ _, !rb.reverse.isEmpty, .inl ⟨_, SqL.of hR.lst, rfl⟩, ?_⟩
      have hstk := hR.stk
      cases hstk with
      | nil =>
        refine iteN (by decide) ?_
        cases hC
        exact ⟨_, rfl, k _ _ _ _ _ hR rfl hov⟩
      | @cons rb2 st2 ls2 q l sg vs ts h1 hq hl ht hn =>
        refine iteP (by rw [List.reverse_cons]; cases rb2.reverse <;> rfl) ⟨_, fun σ' H1 h => h, ?_⟩
        obtain ⟨hsg, hlt⟩ := hok (sg, ts) List.mem_cons_self
        have hsg : sg ∈ SG := hsg
        have hlt : ts.length < ar sg := hlt
        have hok2 : SkOk st2 := fun e he => hok e (List.mem_cons_of_mem _ he)
        have hlst : H' b = some (.lst (rb2.reverse ++ [.ref q])) := by have := hR.lst; rw [List.reverse_cons] at this; exact this
        refine ⟨_, rfl, x, _, dx, _, _, rfl, hR.rd, T.k_Reader, T.n_Reader_begun, rf_begun _ _ _, _, rfl, b, _, _, .ref q, rfl, rfl, SqL.of hlst, at_end, q, _, rfl, SqT.of hq, rfl, .str sg, _, rfl, .ref l, _, rfl, rfl, ?_⟩
        try dsimp only
        have har2 : ar sg ≤ 2 := by unfold ar; split <;> decide
        have hvl := ht.len
        refine ⟨_, rfl, .inl ⟨rfl, _, SqL.of hl⟩, _, rfl, l, vs, _, rfl, rfl, hl, (by omega), ?_⟩
        have R1 := hR.app hl ht hq hov
        refine ⟨_, rfl, l, _, rfl, .inl (SqL.of upd_same), _, rfl, (sg, (ar sg : Int)), sgn_mem hsg, rfl, rfl, _, _, rfl, rfl, _, rfl, ?_⟩
        have elen : ((vs ++ [V.ref pv0]).length : Int) = ((ts.length + 1 : Nat) : Int) := by rw [List.length_append, List.length_singleton, hvl]
        rw [elen]
        refine ite2 (fun h2 => ?_) (fun h2 => ?_)
        · have h2 : ts.length + 1 < ar sg := by have := of_decide_eq_true h2; omega
          refine ⟨_, rfl, x, dx, _, rfl, R1.rd, rf_no (by decide +kernel) (by decide +kernel) (by decide +kernel), x, dx, b, z, ", ", _, rfl, R1.rd, R1.le, R1.zl, (by decide +kernel), fun q => ?_, fun q => ?_⟩
          · rw [show (", " : Str).cps.toList = [44, 32] from by decide +kernel] at q
            cases hC with
            | more a c => rw [q] at c; cases c
            | bad a c => exact ⟨_, rfl, iteF (k .non _ _ _ _ R1 rfl rfl)⟩
            | shut0 a c => exact absurd h2 a
            | shut1 a c d => exact absurd h2 a
          · have e2 : (", " : Str).length = 2 := by decide +kernel
            rw [show (", " : Str).cps.toList = [44, 32] from by decide +kernel] at q
            have hq2 := congrArg List.length (of_decide_eq_true q)
            have hq3 : min 2 (z.cps.toList.length - i) = 2 := by
              rw [List.length_take, List.length_drop] at hq2
              exact hq2
            cases hC with
            | more a c =>
              rw [e2]
              exact ⟨_, rfl, iteT ⟨_, rfl, k (.str sg) _ (i + 2) _ _ (R1.move (by omega) (by omega)) (by rw [List.drop_drop]) rfl⟩⟩
            | bad a c => rw [q] at c; cases c
            | shut0 a c => exact absurd h2 a
            | shut1 a c d => exact absurd h2 a
        · have h2 : ¬ ts.length + 1 < ar sg := fun z => h2 (decide_eq_true (by show ((ts.length + 1 : Nat) : Int) < (ar sg : Int); omega))
          refine nxt ?_
          try dsimp only
          have hb1 : upd H' l (.lst (vs ++ [.ref pv0])) b = some (.lst (rb2.reverse ++ [.ref q])) := by have := R1.lst; rw [List.reverse_cons] at this; exact this
          refine ⟨_, rfl, x, _, dx, _, _, rfl, R1.rd, T.k_Reader, T.n_Reader_begun, rf_begun _ _ _, .inl ⟨rfl, _, SqL.of hb1⟩, b, _, .ref q, rfl, rfl, hb1, ?_, ?_⟩
          · rw [List.length_append, List.length_singleton, Nat.add_sub_cancel, List.getElem?_append_right (Nat.le_refl _), Nat.sub_self]
            rfl
          rw [List.dropLast_concat]
          refine gName_k ?_
          try dsimp only
          have R2 := R1.pop
          have nlb : l ≠ b := fun e => hR.bl (by rw [e]; exact List.mem_cons_self)
          have hl2 : upd (upd H' l (.lst (vs ++ [.ref pv0]))) b (.lst rb2.reverse) l = some (.lst (vs ++ [.ref pv0])) := by rw [upd_ne nlb, upd_same]
          refine ⟨_, rfl, x, dx, _, rfl, R2.rd, rf_no (by decide +kernel) (by decide +kernel) (by decide +kernel), x, dx, b, z, ")", _, rfl, R2.rd, R2.le, R2.zl, (by decide +kernel), fun q => ?_, fun q => ?_⟩
          · rw [show (")" : Str).cps.toList = [41] from by decide +kernel] at q
            refine ⟨_, rfl, iteF ?_⟩
            cases hC with
            | more a c => exact absurd a h2
            | bad a c => exact absurd a h2
            | shut0 a c => exact ⟨0, by decide, none, .non, i, _, _, _, _, _, R2, hok2, rfl, .none, rfl⟩
            | shut1 a c d => rw [q] at c; cases c
          · have e2 : (")" : Str).length = 1 := by decide +kernel
            rw [show (")" : Str).cps.toList = [41] from by decide +kernel] at q
            have hpos := sw_pos q
            rw [List.length_drop] at hpos
            refine ⟨_, rfl, iteT ?_⟩
            rw [e2]
            have R3 := R2.move (j := i + 1) (by omega) (by omega)
            have kt2 : Kt H' (upd (upd (upd H' l (.lst (vs ++ [.ref pv0]))) b (.lst rb2.reverse)) x (RO K dx z (i + 1) b)) := (Kt.upd hl (fun xs e => by cases e)).trans ((Kt.upd hb1 (fun xs e => by cases e)).trans (Kt.upd R2.rd (fun xs e => by cases e)))
            have nlx : l ≠ x := fun e => hR.xl (by rw [← e]; exact List.mem_cons_self)
            have hl3 : upd (upd (upd H' l (.lst (vs ++ [.ref pv0]))) b (.lst rb2.reverse)) x (RO K dx z (i + 1) b) l = some (.lst (vs ++ [.ref pv0])) := by rw [upd_ne nlx]; exact hl2
            cases hC with
            | more a c => exact absurd a h2
            | bad a c => exact absurd a h2
            | shut0 a c => rw [q] at c; cases c
            | @shut1 _ _ _ _ _ _ _ _ n' a c d =>
              refine ⟨_, rfl, _, rfl, sg, l, _, ts ++ [t], rfl, hl3, (ht.kt kt2).app (TsAt.one (hov.kt kt2)), hsg, (by rw [List.length_append, List.length_singleton]; omega), fun v' H4 s4 hn' hs' => ?_⟩
              rw [List.drop_drop] at d
              refine ⟨n', Nat.lt_succ_self _, madeF sg (ts ++ [t]), v', i + 1, _, _, _, _, _, R3.grow s4, hok2, ?_, d, rfl⟩
              cases hmf : madeF sg (ts ++ [t]) with
              | none => exact hn' hmf
              | some t' => exact hs' t' hmf
end
end Rd
namespace Rd
open PySem L2
theorem ar_pos (s : Str) : 0 < ar s := by unfold ar; split <;> decide
theorem Nx.ok {cs cs' : List Nat} {st st' : Sk} {a : Option (Str × Str)} {n : Nat} (h : Nx cs st a cs' st' n) : SkOk st → SkOk st' := by
  induction h with
  | stop _ => exact fun h => h
  | go hm _ _ ih =>
    intro h
    refine ih fun e he => ?_
    rcases List.mem_cons.mp he with rfl | he
    · exact ⟨hm, ar_pos _⟩
    · exact h e he
theorem Cl.ok {cs cs' : List Nat} {st st' : Sk} {o : Option Tr} {r : Res} {n : Nat} (h : Cl o cs st r cs' st' n) : ∀ s, r = .more s → SkOk st → SkOk st' := by
  induction h with
  | none => intro s e; cases e
  | fin => intro s e; cases e
  | more h1 _ =>
    intro s _ h e he
    rcases List.mem_cons.mp he with rfl | he
    · refine ⟨(h _ List.mem_cons_self).1, ?_⟩
      show (_ ++ [_]).length < _
      rw [List.length_append, List.length_singleton]
      exact h1
    · exact h e (List.mem_cons_of_mem _ he)
  | bad => intro s e; cases e
  | shut0 => intro s e; cases e
  | shut1 _ _ _ ih => exact fun s e h => ih s e fun e' he => h e' (List.mem_cons_of_mem _ he)
def amO : Option (Str × Str) → Option Tr
  | none => none
  | some (k, y) => some (.am k y)
/-- an atom read, signs closed behind it -/
def Tn (cs : List Nat) (st : Sk) (r : Res) (cs' : List Nat) (st' : Sk) : Prop := ∃ a cs1 st1 n1 n2, Nx cs st a cs1 st1 n1 ∧ Cl (amO a) cs1 st1 r cs' st' n2
inductive Wh : List Nat → Sk → Option Tr → Nat → Prop
  | bad {cs cs' : List Nat} {st st' : Sk} : Tn cs st .bad cs' st' → Wh cs st none 0
  | done {cs cs' : List Nat} {st st' : Sk} {t : Tr} : Tn cs st (.done t) cs' st' → Wh cs st (if cs' = [] then some t else none) 0
  | more {cs cs' : List Nat} {st st' : Sk} {s : Str} {o : Option Tr} {n : Nat} : Tn cs st (.more s) cs' st' → Wh cs' st' o n → Wh cs st o (n + 1)
def Rest : Res → List Nat → Sk → Option Tr → Nat → Prop
  | .bad, _, _, o, _ => o = none
  | .done t, cs, _, o, _ => o = if cs = [] then some t else none
  | .more _, cs, st, o, m => SkOk st ∧ ∃ m', m = m' + 1 ∧ Wh cs st o m'
theorem Wh.turn {cs : List Nat} {st : Sk} {o : Option Tr} {n : Nat} (h : Wh cs st o n) : ∃ r cs' st', Tn cs st r cs' st' ∧ ((∀ s, r = .more s → SkOk st') → Rest r cs' st' o n) := by
  cases h with
  | bad h => exact ⟨_, _, _, h, fun _ => rfl⟩
  | done h => exact ⟨_, _, _, h, fun _ => rfl⟩
  | more h hw => exact ⟨_, _, _, h, fun q => ⟨q _ rfl, _, rfl, hw⟩⟩
def sp_whole (K : PySem.W.Frag) : Sp := fun vs H Q _ => ∃ (H0 : Hp) (x dx b : Addr) (z : Str) (i n : Nat) (rb : List V) (st : Sk) (ls : List Addr) (o : Option Tr), vs = [.ref x] ∧ RS K H0 H x dx b z i rb st ls ∧ SkOk st ∧ Wh (z.cps.toList.drop i) st o n ∧
  ∀ v H', Same H0 H' → OptT H' o v → Q v H'
section
variable {P : Program} {w : World} {K : PySem.W.Frag} {mg : Str → Option Value} {base : Heap}
abbrev s_Reader_whole : Stmt := inClass (top 21) 5
theorem sc_Reader_whole : FnScope ["self", "tree"] ["self"] (defScope s_Reader_whole) := ⟨rfl, rfl, rfl, by decide +kernel, rfl, by decide +kernel, by decide +kernel⟩
theorem ok_whole (T : Tx w K mg) : Fm P w K mg base CX0 6 "Reader" "whole" ["self"] (sp_whole K) := by
  refine T.M_Reader_whole.ok0 sc_Reader_whole (fun _ _ _ _ _ _ us hl => match us, hl with | [_], _ => rfl)
    (fun vs H Q E h => ?_) (fun cdv A outer s H vs Q E hr h => ?_)
  · obtain ⟨H0, x, dx, b, z, i, n, rb, st, ls, o, rfl, _⟩ := h
    rfl
  · obtain ⟨H0, x, dx, b, z, i, n, rb, st, ls, o, rfl, hR, hok, hW, k⟩ := h
    refine ⟨_, (pss_cons (ps_set (i := 1) sc_Reader_whole.nd rfl (Or.inl rfl) (pe_fm (pv 0) T.k_Reader (ok_closed T) (hr.mono (by omega)) pass0 (pa_cons (pe_fm0 (pv 0) T.k_Reader (ok_next T) (hr.mono (by omega)) pass0) pa_nil)))
  (pss_cons (ps_while PassesOwn.never (pt_val (pe_callB call_isi (by rfl) T.z_isinstance (by decide +kernel) (pa_cons (pv 1) (pa_cons (pe_bltn (v := .ty "str") (u := .type "str") rfl T.z_str (by decide +kernel) rfl) pa_nil))))
  (pss_one (ps_set (i := 1) sc_Reader_whole.nd rfl (Or.inl rfl) (pe_fm (pv 0) T.k_Reader (ok_closed T) (hr.mono (by omega)) pass0 (pa_cons (pe_fm0 (pv 0) T.k_Reader (ok_next T) (hr.mono (by omega)) pass0) pa_nil)))))
  (pss_cons (ps_if (pt_cmpR op_lt (pe_fld (pv 0) rfl) (pe_callB call_len_str (by rfl) T.z_len (by decide +kernel) (pa_cons (pe_fld (pv 0) rfl) pa_nil)) (nomark _))
  (pss_one (ps_ret pe_non))
  pss_nil)
  (pss_one (ps_ret (pv 1)))))), ?_⟩
    have turn : ∀ {H1 : Hp} {i : Nat} {rb : List V} {st st' : Sk} {ls : List Addr} {r : Res} {cs' : List Nat} {Q : VK}, RS K H0 H1 x dx b z i rb st ls → SkOk st → Tn (z.cps.toList.drop i) st r cs' st' →
        (∀ v' H' i' rb' ls', RS K H0 H' x dx b z i' rb' st' ls' → z.cps.toList.drop i' = cs' → Out H' r v' → (∀ s, r = .more s → SkOk st') → Q v' H') →
        ∃ a dx fs, V.ref x = .ref a ∧ H1 a = some (.ins (He.ga K "Reader") dx fs) ∧ fs.lookup ("closed" : Str) = none ∧ ∃ y, ([some (V.ref x)] : List (Option V))[0]? = some (some y) ∧ ∃ a dx fs, y = .ref a ∧ H1 a = some (.ins (He.ga K "Reader") dx fs) ∧ fs.lookup ("next_atom" : Str) = none ∧ sp_next K [y] H1 (fun v H2 => sp_closed K [.ref x, v] H2 Q E0) E0 := fun {H1 i rb st st' ls r cs' Q} hR hok ht k => by
      obtain ⟨a, cs1, st1, n1, n2, hN, hC⟩ := ht
      refine ⟨x, dx, _, rfl, hR.rd, rf_no (by decide +kernel) (by decide +kernel) (by decide +kernel), _, rfl, x, dx, _, rfl, hR.rd, rf_no (by decide +kernel) (by decide +kernel) (by decide +kernel), ?_⟩
      refine ⟨H0, x, dx, b, z, i, n1, rb, st, st1, ls, a, cs1, rfl, hR, hN, fun v H2 i2 rb2 ls2 hR2 hd2 hn hs => ?_⟩
      refine ⟨H0, x, dx, b, z, i2, n2, rb2, st1, st', ls2, amO a, v, r, cs', rfl, hR2, hN.ok hok, ?_, by rw [hd2]; exact hC, fun v' H' i' rb' ls' hR' hd' ho => k v' H' i' rb' ls' hR' hd' ho fun s e => hC.ok s e (hN.ok hok)⟩
      cases a with
      | none => exact hn rfl
      | some p => exact hs p.1 p.2 rfl
    have big : 200010 ≤ sizeLine := by decide
    have l1 := len_list z
    obtain ⟨r1, cs1, st1, hT1, hr1⟩ := hW.turn
    refine seqAsg ⟨_, rfl, turn hR hok hT1 fun v1 H1 i1 rb1 ls1 hR1 hd1 ho1 hk1 => ?_⟩
    refine gName_k ?_
    try dsimp only
    refine ⟨fun m σ H' => ∃ r v i rb st ls, RS K H0 H' x dx b z i rb st ls ∧ Out H' r v ∧ Rest r (z.cps.toList.drop i) st o m ∧ σ = [some (.ref x), some v], ⟨n, r1, v1, i1, rb1, st1, ls1, hR1, ho1, by rw [hd1]; exact hr1 hk1, rfl⟩, ?_⟩
    rintro m σ H' ⟨r, v, i, rb, st, ls, hR, ho, hrest, rfl⟩
    cases r with
    | more sg =>
      have hv : v = .str sg := ho
      subst hv
      obtain ⟨hok', m', rfl, hW'⟩ := hrest
      refine ⟨_, rfl, .str sg, .ty "str", .type "str", .type "str", true, rfl, .ty _, .base (.str _), kit_ty (by decide +kernel), _, rfl, iteT ⟨_, fun σ' H1 h => h, ?_⟩⟩
      obtain ⟨r2, cs2, st2, hT2, hr2⟩ := hW'.turn
      refine ⟨_, rfl, turn hR hok' hT2 fun v2 H2 i2 rb2 ls2 hR2 hd2 ho2 hk2 => ?_⟩
      exact ⟨m', Nat.lt_succ_self _, r2, v2, i2, rb2, st2, ls2, hR2, ho2, by rw [hd2]; exact hr2 hk2, rfl⟩
    | done t =>
      have hv : IsT H' t v := ho
      obtain ⟨p, us, rfl, hp⟩ := hv.hd
      have hrest : o = if z.cps.toList.drop i = [] then some t else none := hrest
      refine ⟨_, rfl, .ref p, .ty "str", .type "tuple", .type "str", false, rfl, .ty _, .base (.tup hp), kit_ty (by decide +kernel), _, rfl, iteF ?_⟩
      refine ⟨_, rfl, x, _, dx, _, _, rfl, hR.rd, T.k_Reader, T.n_Reader_at, rf_at _ _ _, _, rfl, x, _, dx, _, _, rfl, hR.rd, T.k_Reader, T.n_Reader_signs, rf_signs _ _ _, z, rfl, (by have := hR.zl; omega), _, _, rfl, rfl, _, rfl, ite2 (fun h => ?_) (fun h => ?_)⟩
      · have h := of_decide_eq_true h
        rw [if_neg (fun e => by have := congrArg List.length e; rw [List.length_drop, List.length_nil] at this; omega)] at hrest
        subst hrest
        exact k .non _ hR.same rfl
      · have h : z.length ≤ i := by
          rcases Nat.lt_or_ge i z.length with q | q
          · exact absurd (decide_eq_true (by omega)) h
          · exact q
        rw [if_pos (List.drop_eq_nil_of_le (by omega))] at hrest
        subst hrest
        exact ⟨_, rfl, k _ _ hR.same hv⟩
    | bad =>
      have hv : v = .non := ho
      subst hv
      have hrest : o = none := hrest
      subst hrest
      refine ⟨_, rfl, .non, .ty "str", .type "NoneType", .type "str", false, rfl, .ty _, .base .non, kit_ty (by decide +kernel), _, rfl, iteF ?_⟩
      refine ⟨_, rfl, x, _, dx, _, _, rfl, hR.rd, T.k_Reader, T.n_Reader_at, rf_at _ _ _, _, rfl, x, _, dx, _, _, rfl, hR.rd, T.k_Reader, T.n_Reader_signs, rf_signs _ _ _, z, rfl, (by have := hR.zl; omega), _, _, rfl, rfl, _, rfl, ite2 (fun h => ?_) (fun h => ?_)⟩
      · exact k .non _ hR.same rfl
      · exact ⟨_, rfl, k _ _ hR.same rfl⟩
end
end Rd
namespace Rd
open PySem L2
theorem pe_new {X : Cx} {CX : CXT} {k : Nat} {c : Str} {ps : List Str} {sp : Sp} {e : Expr} {es : List Expr} {t : TA} {p pos : Pos} {E : XK} (M : Mk X.K (He.ga X.K c) (He.ma X.K (He.ga X.K c) "__init__")) (g : X.mg c = some (.ref (He.ga X.K c))) (F : Fm X.prog X.w X.K X.mg X.base CX k c "__init__" ps sp) (hr : Room (k + 1) X.A) (hg : Gl X c) (hx : Passes CX X E) (ha : PA X (e :: es) t)
    (hdb : (c == ("__debug__" : Str)) = false := by decide) (he : starEach (e :: es) X.env = (false, eval e X.env) :: starEach es X.env := by rfl) (hpl : (backTo pos (starEach es X.env)).any (·.1) = false := by rfl) :
    PE X (.Call (.Name c p) (e :: es) [] pos) (tMake (He.ga X.K c) sp [] E t) := by
  obtain ⟨⟨fd, a, b⟩, me⟩ := F
  exact pe_make M a hr hg g b .nil hx ha hdb he hpl
theorem init_fs {z : Str} : putF "at" (.int 0) (putF "signs" (.str z) []) = [(("signs" : Str), V.str z), (("at" : Str), V.int 0)] := by
  show (if ("signs" : Str) = "at" then _ else (("signs" : Str), V.str z) :: [(("at" : Str), V.int 0)]) = _
  rw [if_neg (by decide +kernel)]
theorem init_fs2 {z : Str} {b : Addr} : putF "begun" (.ref b) [(("signs" : Str), V.str z), (("at" : Str), V.int 0)] = rfs z 0 b := by
  show (if ("signs" : Str) = "begun" then _ else (("signs" : Str), V.str z) :: (if ("at" : Str) = "begun" then _ else (("at" : Str), V.int 0) :: [(("begun" : Str), V.ref b)])) = _
  rw [if_neg (by decide +kernel), if_neg (by decide +kernel)]
  rfl
def sp_Rinit (K : PySem.W.Frag) : Sp := fun vs H Q _ => ∃ (x dx : Addr) (z : Str), vs = [.ref x, .str z] ∧ H x = some (.ins (He.ga K "Reader") dx []) ∧ ∀ b H', H b = none → b ≠ x → (∀ c, c ≠ x → c ≠ b → H' c = H c) → H' b = some (.lst []) → H' x = some (RO K dx z 0 b) → Q .non H'
section
variable {P : Program} {w : World} {K : PySem.W.Frag} {mg : Str → Option Value} {base : Heap}
abbrev s_BadText_init : Stmt := inClass (top 6) 0
theorem sc_BadText_init : FnScope ["self", "line"] ["self", "line"] (defScope s_BadText_init) := ⟨rfl, rfl, rfl, by decide +kernel, rfl, by decide +kernel, by decide +kernel⟩
theorem ok_BadText (T : Tx w K mg) : Fm P w K mg base CX0 1 "BadText" "__init__" ["self", "line"] (spX1 K "line") := by
  refine T.X_BadText.init.ok0 sc_BadText_init (fun _ _ _ _ _ _ us hl => match us, hl with | [_, _], _ => rfl)
    (fun vs H Q E h => ?_) (fun cdv A outer s H vs Q E hr h => ?_)
  · obtain ⟨a, C, v, rfl, _⟩ := h
    rfl
  · obtain ⟨a, C, v, rfl, TC, no, ha, k⟩ := h
    refine ⟨_, (pss_cons (ps_expr (pe_reinit rfl T.g_RoadError T.r_RoadError (pa_cons (pv 0) (pa_cons pe_str pa_nil))))
  (pss_one (ps_ost (pv 0) (pv 1)))), ?_⟩
    refine ⟨_, rfl, a, C, [.str "bad line"], rfl, (by show 1 ≤ 1000; decide), TC, ha, _, rfl, _, rfl, a, C, rfl, TC, no, .inl ⟨ha, fun dx hdx ne => k dx hdx ne⟩⟩
abbrev s_Reader_init : Stmt := inClass (top 21) 0
theorem sc_Reader_init : FnScope ["self", "text"] ["self", "text"] (defScope s_Reader_init) := ⟨rfl, rfl, rfl, by decide +kernel, rfl, by decide +kernel, by decide +kernel⟩
theorem ok_Reader (T : Tx w K mg) : Fm P w K mg base CX0 1 "Reader" "__init__" ["self", "text"] (sp_Rinit K) := by
  refine T.M_Reader_init.ok0 sc_Reader_init (fun _ _ _ _ _ _ us hl => match us, hl with | [_, _], _ => rfl)
    (fun vs H Q E h => ?_) (fun cdv A outer s H vs Q E hr h => ?_)
  · obtain ⟨x, dx, z, rfl, _⟩ := h
    rfl
  · obtain ⟨x, dx, z, rfl, hx, k⟩ := h
    refine ⟨_, (pss_cons (ps_fld (pv 0) (pv 1) rfl)
  (pss_cons (ps_fld (pv 0) pe_int rfl)
  (pss_one (ps_fld (pv 0) (pe_lst pa_nil) rfl)))), ?_⟩
    refine ⟨_, rfl, _, rfl, x, _, dx, [], rfl, hx, T.k_Reader, T.n_Reader_signs, (by show 0 < 1000; decide), ?_⟩
    refine ⟨_, rfl, x, _, dx, _, rfl, upd_same, T.k_Reader, T.n_Reader_at, (by show 1 < 1000; decide), ?_⟩
    refine ⟨Nat.zero_le _, fun b hb => ?_⟩
    have nbx : b ≠ x := fun e => by rw [e, upd_same] at hb; cases hb
    have hb0 : H b = none := by rw [upd_ne nbx, upd_ne nbx] at hb; exact hb
    refine ⟨_, rfl, x, _, dx, putF "at" (.int 0) (putF "signs" (.str z) []), rfl, by rw [upd_ne (Ne.symm nbx), upd_same], T.k_Reader, T.n_Reader_begun, ?_, ?_⟩
    · rw [init_fs]
      show 2 < 1000
      decide
    · refine k b _ hb0 nbx (fun c h1 h2 => by rw [upd_ne h1, upd_ne h2, upd_ne h1, upd_ne h1]) (by rw [upd_ne nbx, upd_same]) ?_
      rw [upd_same, init_fs, init_fs2]
      rfl
/-- Letter.read -/
def sp_read (K : PySem.W.Frag) : Sp := fun vs H Q E => ∃ (z : Str) (o : Option Tr) (n : Nat), vs = [.str z] ∧ z.length ≤ 200000 ∧ Wh z.cps.toList [] o n ∧
  (∀ t, o = some t → ∀ v H', Same H H' → IsLet K H' t v → Q v H') ∧ (o = none → ∀ d H', Same H H' → H' d = some (.xd [("line", .int 1)]) → E (.ref (He.ga K "BadText")) (some d) H')
abbrev s_Letter_read : Stmt := inClass (top 22) 2
theorem sc_Letter_read : FnScope ["text", "tree"] ["text"] (defScope s_Letter_read) := ⟨rfl, rfl, rfl, by decide +kernel, rfl, by decide +kernel, by decide +kernel⟩
theorem ok_read (T : Tx w K mg) : Fs P w K mg base (L2N.CX P w) 8 "Letter" "read" "Letter.read" (inClass (top 22) 2) ["text"] (sp_read K) := by
  refine T.S_Letter_read.ok sc_Letter_read (fun _ _ _ _ _ _ us hl => match us, hl with | [_], _ => rfl)
    (fun vs H Q E h => ?_) (fun cdv A outer s H vs Q E hr h => ?_)
  · obtain ⟨z, o, n, rfl, _⟩ := h
    rfl
  · obtain ⟨z, o, n, rfl, hz, hW, k1, k0⟩ := h
    refine ⟨_, (pss_cons (ps_set (i := 1) sc_Letter_read.nd rfl (Or.inl rfl) (pe_fm0 (pe_new T.J_Reader T.g_Reader (ok_Reader T) (hr.mono (by omega)) (by rfl) pass0 (pa_cons (pv 0) pa_nil)) T.k_Reader (ok_whole T) (hr.mono (by omega)) pass0))
  (pss_cons (ps_if (pt_cmpR op_isN (pv 1) pe_non (nomark _))
  (pss_one (L2N.ps_raise rfl (L2N.takes_of rfl rfl rfl rfl) (pmk_xN T.X_BadText (ok_BadText T) (hr.mono (by omega)) rfl (pa_cons pe_int pa_nil))))
  pss_nil)
  (pss_one (ps_ret (pe_mk2 (ok_Letter T) (hr.mono (by omega)) (by rfl) passN (pa_cons pe_str (pa_cons (pv 1) pa_nil))))))), ?_⟩
    refine seqAsg ⟨_, rfl, fun x dx nx ndx ne => ⟨x, dx, z, rfl, upd_same, fun b H1 hb nbx hoth hbl hx1 => ⟨rfl, ?_⟩⟩⟩
    have hb0 : H b = none := by
      rw [upd_ne nbx] at hb
      by_cases e : b = dx
      · rw [e, upd_same] at hb; cases hb
      · rw [upd_ne e] at hb; exact hb
    have s1 : Same H H1 := fun c o' e => by
      rw [hoth c (ne_of_none e nx) (ne_of_none e hb0), upd_ne (ne_of_none e nx), upd_ne (ne_of_none e ndx)]
      exact e
    have R0 : RS K H H1 x dx b z 0 [] [] [] := ⟨s1, nx, hb0, (fun l hl => by cases hl), hx1, hbl, .nil, (fun h => by cases h), Nat.zero_le _, hz, Nat.le_refl _⟩
    refine ⟨x, dx, _, rfl, hx1, rf_no (by decide +kernel) (by decide +kernel) (by decide +kernel), H, x, dx, b, z, 0, n, [], [], [], o, rfl, R0, (fun e he => by cases he), hW, fun v H2 s2 hov => ?_⟩
    refine gName_k ?_
    try dsimp only
    refine ⟨_, rfl, rfl, _, rfl, ?_⟩
    cases o with
    | none =>
      have hv : v = .non := hov
      subst hv
      refine iteP (decide_eq_true rfl) ?_
      exact rd_raise1 T.X_BadText.oex T.X_BadText.no fun d H' s' nd hd => k0 rfl d H' (s2.trans s') hd
    | some t =>
      have hv : IsT H2 t v := hov
      obtain ⟨p, us, rfl, hp⟩ := hv.hd
      refine iteN (fun h => by have := of_decide_eq_true h; cases this) (nxt ?_)
      try dsimp only
      refine ⟨_, rfl, rd_mkL hp fun x' H' s' hl' => k1 t rfl _ H' (s2.trans s') ⟨x', _, rfl, hl', hv.same s'⟩⟩
end
end Rd
namespace Rd
open PySem L2
/-! ### what is written is read -/
def RestW : Res → List Nat → Sk → Option Tr → Prop
  | .bad, _, _, o => o = none
  | .done t, cs, _, o => o = if cs = [] then some t else none
  | .more _, cs, st, o => ∃ n, Wh cs st o n
def After (t : Tr) (rs : List Nat) (st : Sk) (o : Option Tr) : Prop := ∃ r cs' st' n, Cl (some t) rs st r cs' st' n ∧ RestW r cs' st' o
theorem wh_of {cs cs' : List Nat} {st st' : Sk} {r : Res} {o : Option Tr} (h : Tn cs st r cs' st') (hr : RestW r cs' st' o) : ∃ n, Wh cs st o n := by
  cases r with
  | bad => have e : o = none := hr; subst e; exact ⟨_, .bad h⟩
  | done t => have e : o = if cs' = [] then some t else none := hr; subst e; exact ⟨_, .done h⟩
  | more s => obtain ⟨n, hw⟩ := hr; exact ⟨_, .more h hw⟩
theorem wh_un {cs : List Nat} {st : Sk} {o : Option Tr} {n : Nat} (h : Wh cs st o n) : ∃ r cs' st', Tn cs st r cs' st' ∧ RestW r cs' st' o := by
  cases h with
  | bad h => exact ⟨_, _, _, h, rfl⟩
  | done h => exact ⟨_, _, _, h, rfl⟩
  | more h hw => exact ⟨_, _, _, h, _, hw⟩
/-- the rest begins by a sign that ends a word -/
def Brk (rs : List Nat) : Prop := rs = [] ∨ ∃ c r, rs = c :: r ∧ nb c = false ∧ c ≠ 40
theorem wd_app {w rs : List Nat} (hw : w.all nb = true) (hr : rs = [] ∨ ∃ c r, rs = c :: r ∧ nb c = false) : wd (w ++ rs) = w := by
  unfold wd
  induction w with
  | nil =>
    rcases hr with rfl | ⟨c, r, rfl, hc⟩
    · rfl
    · show (c :: r).takeWhile nb = []
      simp [List.takeWhile, hc]
  | cons a w ih =>
    rw [List.all_cons, Bool.and_eq_true] at hw
    show (a :: (w ++ rs)).takeWhile nb = a :: w
    rw [List.takeWhile_cons, hw.1, if_pos rfl, ih hw.2]
theorem push_ok {cs : List Nat} {st : Sk} {o : Option Tr} {s : Str} (hs : s ∈ SG) (h : ∃ n, Wh cs ((s, []) :: st) o n) : ∃ n, Wh (s.cps.toList ++ 40 :: cs) st o n := by
  obtain ⟨n, h⟩ := h
  obtain ⟨r, cs', st', ⟨a, cs1, st1, n1, n2, hN, hC⟩, hr⟩ := wh_un h
  have hnb : s.cps.toList.all nb = true := by
    have : ∀ z ∈ SG, z.cps.toList.all nb = true := by decide +kernel
    exact this s hs
  have e40 : nb 40 = false := by decide +kernel
  have ew : wd (s.cps.toList ++ 40 :: cs) = s.cps.toList := wd_app hnb (.inr ⟨40, cs, rfl, e40⟩)
  have eo : ofC s.cps.toList = s := str_ext (ofC_list _)
  refine wh_of ⟨a, cs1, st1, n1 + 1, n2, ?_, hC⟩ hr
  refine Nx.go (by rw [ew, eo]; exact hs) ?_ ?_
  · rw [ew, List.drop_left]
    rfl
  · rw [ew, eo]
    have e : (s.cps.toList ++ 40 :: cs).drop (s.cps.toList.length + 1) = cs := by
      rw [← List.drop_drop, List.drop_left]
      rfl
    rw [e]
    exact hN
theorem word_nb {z : Str} (h : isWord z = true) : z.cps.toList.all nb = true := by
  obtain ⟨h1, h2⟩ := He.ba h
  obtain ⟨h3, h4⟩ := He.ba h2
  have dj : SMALL.cps.toList.all nb = true := by decide +kernel
  exact List.all_eq_true.mpr fun c hc => List.all_eq_true.mp dj c (of_decide_eq_true (List.all_eq_true.mp h4 c hc))
theorem name_nb {z : Str} (h : isName z = true) : z.cps.toList.all nb = true := by
  obtain ⟨h1, h2⟩ := He.ba h
  obtain ⟨h3, h4⟩ := He.ba h2
  have h1' := of_decide_eq_true h1
  rw [len_list, rstrip_list] at h1'
  rw [rstrip_list] at h4
  obtain ⟨⟨a1, a2⟩, a3⟩ := (name_iff z.cps.toList).mp ⟨h1', h4⟩
  have dj : GREAT.cps.toList.all nb = true := by decide +kernel
  have dk : DIGITS.cps.toList.all nb = true := by decide +kernel
  refine List.all_eq_true.mpr fun c hc => ?_
  rw [← List.take_append_drop (z.cps.toList.filter (inS GREAT)).length z.cps.toList] at hc
  rcases List.mem_append.mp hc with q | q
  · exact List.all_eq_true.mp dj c (of_decide_eq_true (List.all_eq_true.mp a2 c q))
  · exact List.all_eq_true.mp dk c (of_decide_eq_true (List.all_eq_true.mp a3 c q))
theorem am_text {k x : Str} (h : kindOk k x) : (txt (.am k x)).all nb = true ∧ atomOf (ofC (txt (.am k x))) = some (k, x) := by
  have e : ofC (txt (.am k x)) = textOf (.am k x) := rfl
  rcases h with ⟨rfl, h⟩ | ⟨rfl, h⟩ | ⟨rfl, h⟩
  · rw [e, text_am (by decide +kernel), atomOf_word h]
    refine ⟨?_, rfl⟩
    have e2 : txt (.am "word" x) = x.cps.toList := if_neg (by decide +kernel)
    rw [e2]
    exact word_nb h
  · rw [e, text_am (by decide +kernel), atomOf_name h]
    refine ⟨?_, rfl⟩
    have e2 : txt (.am "name" x) = x.cps.toList := if_neg (by decide +kernel)
    rw [e2]
    exact name_nb h
  · rw [e, text_unk, atomOf_unk h]
    refine ⟨?_, rfl⟩
    have e2 : txt (.am "unknown" x) = 63 :: x.cps.toList := if_pos rfl
    rw [e2, List.all_cons, word_nb (He.ba h).1]
    decide +kernel
theorem read_ok : ∀ (t : Tr), Wf t → ∀ (rs : List Nat) (st : Sk) (o : Option Tr), Brk rs → After t rs st o → ∃ n, Wh (txt t ++ rs) st o n
  | .am k x, wf, rs, st, o, hb, h => by
    obtain ⟨r, cs', st', n, hC, hr⟩ := h
    have ko : kindOk k x := by cases wf; assumption
    obtain ⟨h1, h2⟩ := am_text ko
    have hb2 : rs = [] ∨ ∃ c r, rs = c :: r ∧ nb c = false := by
      rcases hb with e | ⟨c, r, e, hc, _⟩
      · exact .inl e
      · exact .inr ⟨c, r, e, hc⟩
    have ew := wd_app h1 hb2
    refine wh_of ⟨some (k, x), rs, st, 0, n, ?_, hC⟩ hr
    have st0 := Nx.stop (cs := txt (.am k x) ++ rs) (st := st) (fun _ => by
      rw [ew, List.drop_left]
      rcases hb with rfl | ⟨c, r, rfl, _, h40⟩
      · rfl
      · refine decide_eq_false fun e => h40 ?_
        cases e
        rfl)
    rw [ew, h2, List.drop_left] at st0
    exact st0
  | .un s a, wf, rs, st, o, hb, h => by
    obtain ⟨r, cs', st', n, hC, hr⟩ := h
    have hs : s ∈ SG := mem_to (l := ["mark", "open", "own"]) (by decide +kernel) (by cases wf; assumption)
    have e1 : ar s = 1 := by
      have : ∀ z ∈ (["mark", "open", "own"] : List Str), ar z = 1 := by decide +kernel
      exact this s (by cases wf; assumption)
    have wa := wf.parts_wf a List.mem_cons_self
    show ∃ n, Wh ((s.cps.toList ++ 40 :: (txt a ++ [41])) ++ rs) st o n
    rw [List.append_assoc, List.cons_append, List.append_assoc]
    refine push_ok hs (read_ok a wa (41 :: rs) _ o (.inr ⟨41, rs, rfl, by decide +kernel, by decide⟩) ⟨r, cs', st', n + 1, ?_, hr⟩)
    exact .shut1 (ts := []) (by rw [e1]; decide) rfl hC
  | .bi s a b, wf, rs, st, o, hb, h => by
    obtain ⟨r, cs', st', n, hC, hr⟩ := h
    have hs3 : s ∈ (["pair", "seal", "lock"] : List Str) := by
      cases wf with
      | bi h _ _ => exact mem_to (l := ["pair", "seal"]) (by decide +kernel) h
      | lk _ _ _ => decide +kernel
    have hs : s ∈ SG := mem_to (l := ["pair", "seal", "lock"]) (by decide +kernel) hs3
    have e2 : ar s = 2 := if_pos hs3
    have wa := wf.parts_wf a List.mem_cons_self
    have wb := wf.parts_wf b (List.mem_cons_of_mem _ List.mem_cons_self)
    have hm : madeF s ([a] ++ [b]) = some (.bi s a b) := by
      show madeF s [a, b] = _
      rw [madeF2, if_neg]
      rintro ⟨rfl, hk⟩
      cases wf with
      | bi h _ _ => exact absurd h (by decide +kernel)
      | @lk s' _ b' h _ _ =>
        have : isKey (.un s' b') = true := decide_eq_true h
        rw [this] at hk
        cases hk
    show ∃ n, Wh ((s.cps.toList ++ 40 :: (txt a ++ 44 :: 32 :: (txt b ++ [41]))) ++ rs) st o n
    have e : (s.cps.toList ++ 40 :: (txt a ++ 44 :: 32 :: (txt b ++ [41]))) ++ rs = s.cps.toList ++ 40 :: (txt a ++ 44 :: 32 :: (txt b ++ 41 :: rs)) := by simp
    rw [e]
    refine push_ok hs (read_ok a wa _ _ o (.inr ⟨44, _, rfl, by decide +kernel, by decide⟩) ⟨.more s, _, _, 0, .more (ts := []) (by rw [e2]; decide) rfl, ?_⟩)
    refine read_ok b wb (41 :: rs) ((s, [] ++ [a]) :: st) o (.inr ⟨41, rs, rfl, by decide +kernel, by decide⟩) ⟨r, cs', st', n + 1, ?_, hr⟩
    refine .shut1 (ts := [a]) (by rw [e2]; show ¬ 1 + 1 < 2; decide) rfl ?_
    rw [hm]
    exact hC
theorem read_back {t : Tr} (wf : Wf t) : ∃ n, Wh (txt t) [] (some t) n := by
  have := read_ok t wf [] [] (some t) (.inl rfl) ⟨.done t, [], [], 0, .fin, by show some t = if ([] : List Nat) = [] then some t else none; rw [if_pos rfl]⟩
  rw [List.append_nil] at this
  exact this
end Rd
namespace Rd
open PySem L2
theorem line4000 : 4000 ≤ sizeLine := by decide
theorem cutS_len (z : Str) (lo hi : Option Int) : (cutS z lo hi).length ≤ z.length := by
  rw [len_list, len_list]
  show ((z.cps.toList.drop (HT.sIx z.length 0 lo)).take (HT.sIx z.length z.length hi - HT.sIx z.length 0 lo)).toArray.toList.length ≤ _
  rw [List.toList_toArray, List.length_take, List.length_drop]
  omega
/-- [f(c) for c in text if pr(c)] -/
theorem lcsf {x : Str} {tt : TT} {te : TE} {i : Nat} {σ : St} {H1 : Hp} {D : Addr} {Qd : Hp → Prop} (pr : Nat → Bool) (f : Nat → V) (hx : x.length ≤ sizeLine)
    (htt : ∀ c (H : Hp) (Q : Bool → Hp → Prop), Q (pr c) H → tt ((wipe σ [i]).set i (some (.str ⟨#[c]⟩))) H Q)
    (hte : ∀ c (H : Hp) (Q : VK), Q (f c) H → te ((wipe σ [i]).set i (some (.str ⟨#[c]⟩))) H Q) (hq : Qd (upd H1 D (.lst ((x.cps.toList.filter pr).map f)))) :
    ∃ W : Nat → Nat → Hp → Prop, (∃ m, W 0 m (upd H1 D (.lst []))) ∧ ∀ j m H, W j m H →
      ((Its x).stop j H ∧ Qd H) ∨ ((Its x).go j H ∧ ∃ Nx : Hp → Prop, (∀ H', Nx H' → ∃ m', m' < m ∧ W (j + 1) m' H') ∧ ∀ v H', (Its x).yld j H v H' → gName i v (wipe σ [i]) H' fun σ2 H2 => wipe σ2 [i] = wipe σ [i] ∧ tt σ2 H2 fun b H3 =>
        if b = true then te σ2 H3 fun y H4 => ∃ acc, H4 D = some (.lst acc) ∧ acc.length < sizeLine ∧ Nx (upd H4 D (.lst (acc ++ [y]))) else Nx H3) := by
  have hs : x.cps.toList.length = x.cps.size := by simp
  refine ⟨fun j m H => m = x.cps.size - j ∧ j ≤ x.cps.size ∧ H = upd H1 D (.lst (((x.cps.toList.take j).filter pr).map f)), ⟨_, rfl, Nat.zero_le _, rfl⟩, ?_⟩
  rintro j m H ⟨rfl, hj, rfl⟩
  by_cases hlt : j < x.cps.size
  · refine .inr ⟨hlt, fun H' => H' = upd H1 D (.lst (((x.cps.toList.take (j + 1)).filter pr).map f)), fun H' e => ⟨x.cps.size - (j + 1), by omega, rfl, hlt, e⟩, ?_⟩
    rintro v H' ⟨rfl, c, hc, rfl⟩
    have hc2 : x.cps.toList[j]? = some c := by simpa using hc
    refine ⟨by simp [wipe], htt c _ _ ?_⟩
    have e1 : x.cps.toList.take (j + 1) = x.cps.toList.take j ++ [c] := by rw [List.take_succ, hc2]; rfl
    cases hp : pr c with
    | true =>
      refine hte c _ _ ⟨_, upd_same, ?_, ?_⟩
      · have h1 := List.length_filter_le pr (x.cps.toList.take j)
        rw [List.length_take, hs] at h1
        rw [List.length_map]
        have : x.cps.size ≤ sizeLine := hx
        omega
      · show upd (upd H1 D _) D _ = _
        rw [upd_upd, e1, List.filter_append, List.map_append]
        have e2 : [c].filter pr = [c] := by rw [List.filter_cons, if_pos hp]; rfl
        rw [e2]
        rfl
    | false =>
      show upd H1 D _ = upd H1 D _
      have e2 : [c].filter pr = [] := by rw [List.filter_cons, if_neg (by rw [hp]; decide)]; rfl
      rw [e1, List.filter_append, e2, List.append_nil]
  · have e : j = x.cps.size := by omega
    subst e
    refine .inl ⟨Nat.le_refl _, ?_⟩
    rw [← hs, List.take_length]
    exact hq
def cntG (z : Str) : Nat := (z.cps.toList.filter (inS GREAT)).length
def kindOf (z : Str) : Option (Str × Str) :=
  if z.length = 0 ∨ 8 < z.length then none else
  if z.cps.toList.all (inS SMALL) = true then some ("word", z) else
  if V.str (cutS z none (some 1)) = V.str "?" ∧ 1 < z.length ∧ (tailS z).cps.toList.all (inS SMALL) = true then some ("unknown", tailS z) else
  if (0 < cntG z ∧ (cutS z none (some (cntG z : Int))).cps.toList.all (inS GREAT) = true) ∧ (cutS z (some (cntG z : Int)) none).cps.toList.all (inS DIGITS) = true then some ("name", z) else none
def spA (g : Str → Option (Str × Str)) : Sp := fun vs H Q _ => ∃ z : Str, vs = [.str z] ∧ z.length ≤ 4000 ∧ (∀ H', Same H H' → g z = none → Q .non H') ∧ ∀ k x p H', Same H H' → g z = some (k, x) → H p = none → H' p = some (.tup [.str k, .str x]) → Q (.ref p) H'
/-- all([c in s for c in z]) -/
theorem rd_allIn {K : PySem.W.Frag} {z s : Str} {te0 : TE} {i : Nat} {σ : St} {H : Hp} {Q : VK} (hz : z.length ≤ sizeLine) (h0 : ∀ Q' : VK, Q' (.str z) H → te0 σ H Q') (hi : ∀ x, ((wipe σ [i]).set i (some x))[i]? = some (some x))
    (k : ∀ H', Same H H' → Q (.bl (z.cps.toList.all (inS s))) H') :
    tCB (rAll K) (tCons (tLc (iStr te0) (gName i) tYes (tOp (fun x y H Q => ∃ (c : Nat) (z : Str), x = .str ⟨#[c]⟩ ∧ y = .str z ∧ Q (.bl (decide (c ∈ z.cps.toList))) H) (tVar i) (tC (.str s))) [i]) tNil) σ H Q := by
  refine h0 _ ⟨z, rfl, fun D hD => lcs (f := fun c => V.bl (inS s c)) hz (fun c H Q hc q => ⟨_, hi _, _, _, rfl, rfl, q⟩) ?_⟩
  refine ⟨D, z.cps.toList.map (inS s), rfl, SqL.of (by rw [upd_same, List.map_map]; rfl), ?_⟩
  rw [allId]
  exact k _ (Rd.Same.upd hD)
section
variable {P : Program} {w : World} {K : PySem.W.Frag} {mg : Str → Option Value} {base : Heap}
abbrev s__law_kind : Stmt := top 32
theorem sc__law_kind : FnScope ["_law_text_here", "_law_count", "_law_sign"] ["_law_text_here"] (defScope s__law_kind) := ⟨rfl, rfl, rfl, by decide +kernel, rfl, by decide +kernel, by decide +kernel⟩
theorem ok__law_kind (T : Tx w K mg) : Fk P w K mg base CX0 1 "_law_kind" ["_law_text_here"] (spA kindOf) := by
  refine T.F__law_kind.ok0 sc__law_kind (fun _ _ _ _ _ _ us hl => match us, hl with | [_], _ => rfl)
    (fun vs H Q E h => ?_) (fun cdv A outer s H vs Q E hr h => ?_)
  · obtain ⟨z, rfl, _⟩ := h
    rfl
  · obtain ⟨z, rfl, hz, k0, k1⟩ := h
    have hl : z.length ≤ sizeLine := Nat.le_trans hz line4000
    refine ⟨_, (pss_cons (ps_set (i := 1) sc__law_kind.nd rfl (Or.inl rfl) (pe_callB call_len_seq (by rfl) T.z_len (by decide +kernel) (pa_cons (pe_lc (own := [("_law_sign", 2)]) (g := gName 2)  (by rfl) sc__law_kind.nd (pi_str (pv 0)) (blkOk_by (own := [("_law_sign", 2)]) (N := ["_law_text_here", "_law_count", "_law_sign"]) (sc := defScope s__law_kind) (by decide +kernel)) (fun _ _ _ _ _ => (pg_name (i := 2) sc__law_kind.nd rfl (Or.inl rfl))) (fun _ _ _ _ _ => (pts_one (pt_cmpR op_in_sign (pv 2) pe_str (by rfl)))) (fun _ _ _ _ _ => (pv 2))) pa_nil)))
  (pss_cons (ps_if (PW.pt (pw_or (pt_cmpR op_eq (pe_callB call_len_str (by rfl) T.z_len (by decide +kernel) (pa_cons (pv 0) pa_nil)) pe_int (nomark _)) (pw_or1 (pt_cmpR op_gt (pe_callB call_len_str (by rfl) T.z_len (by decide +kernel) (pa_cons (pv 0) pa_nil)) pe_int (nomark _)))))
  (pss_one (ps_ret pe_non))
  pss_nil)
  (pss_cons (ps_if (pt_val (pe_callB (cr_all rfl) (by rfl) T.z_all (by decide +kernel) (pa_cons (pe_lc (own := [("_law_sign", 2)]) (g := gName 2) (tt := tYes) (by rfl) sc__law_kind.nd (pi_str (pv 0)) (blkOk_by (own := [("_law_sign", 2)]) (N := ["_law_text_here", "_law_count", "_law_sign"]) (sc := defScope s__law_kind) (by decide +kernel)) (fun _ _ _ _ _ => (pg_name (i := 2) sc__law_kind.nd rfl (Or.inl rfl))) (fun _ _ _ _ _ => pts_nil) (fun _ _ _ _ _ => (pe_cmpR op_in_sign (pv 2) pe_str (by rfl)))) pa_nil)))
  (pss_one (ps_ret (pe_tup (pa_cons pe_str (pa_cons (pv 0) pa_nil)))))
  pss_nil)
  (pss_cons (ps_if (PW.pt (pw_and (pt_cmpR op_eq (pe_slice sl_str (pv 0) po_none (po_some pe_int)) pe_str (nomark _)) (pw_and (pt_cmpR op_gt (pe_callB call_len_str (by rfl) T.z_len (by decide +kernel) (pa_cons (pv 0) pa_nil)) pe_int (nomark _)) (pw_and1 (pt_val (pe_callB (cr_all rfl) (by rfl) T.z_all (by decide +kernel) (pa_cons (pe_lc (own := [("_law_sign", 2)]) (g := gName 2) (tt := tYes) (by rfl) sc__law_kind.nd (pi_str (pe_slice sl_str (pv 0) (po_some pe_int) po_none)) (blkOk_by (own := [("_law_sign", 2)]) (N := ["_law_text_here", "_law_count", "_law_sign"]) (sc := defScope s__law_kind) (by decide +kernel)) (fun _ _ _ _ _ => (pg_name (i := 2) sc__law_kind.nd rfl (Or.inl rfl))) (fun _ _ _ _ _ => pts_nil) (fun _ _ _ _ _ => (pe_cmpR op_in_sign (pv 2) pe_str (by rfl)))) pa_nil)))))))
  (pss_one (ps_ret (pe_tup (pa_cons pe_str (pa_cons (pe_slice sl_str (pv 0) (po_some pe_int) po_none) pa_nil)))))
  pss_nil)
  (pss_cons (ps_if (PW.pt (pw_and (pt_cmpR op_gt (pv 1) pe_int (nomark _)) (pw_and1 (pt_val (pe_callB (cr_all rfl) (by rfl) T.z_all (by decide +kernel) (pa_cons (pe_lc (own := [("_law_sign", 2)]) (g := gName 2) (tt := tYes) (by rfl) sc__law_kind.nd (pi_str (pe_slice sl_str (pv 0) po_none (po_some (pv 1)))) (blkOk_by (own := [("_law_sign", 2)]) (N := ["_law_text_here", "_law_count", "_law_sign"]) (sc := defScope s__law_kind) (by decide +kernel)) (fun _ _ _ _ _ => (pg_name (i := 2) sc__law_kind.nd rfl (Or.inl rfl))) (fun _ _ _ _ _ => pts_nil) (fun _ _ _ _ _ => (pe_cmpR op_in_sign (pv 2) pe_str (by rfl)))) pa_nil))))))
  (pss_one (ps_if (pt_val (pe_callB (cr_all rfl) (by rfl) T.z_all (by decide +kernel) (pa_cons (pe_lc (own := [("_law_sign", 2)]) (g := gName 2) (tt := tYes) (by rfl) sc__law_kind.nd (pi_str (pe_slice sl_str (pv 0) (po_some (pv 1)) po_none)) (blkOk_by (own := [("_law_sign", 2)]) (N := ["_law_text_here", "_law_count", "_law_sign"]) (sc := defScope s__law_kind) (by decide +kernel)) (fun _ _ _ _ _ => (pg_name (i := 2) sc__law_kind.nd rfl (Or.inl rfl))) (fun _ _ _ _ _ => pts_nil) (fun _ _ _ _ _ => (pe_cmpR op_in_sign (pv 2) pe_str (by rfl)))) pa_nil)))
  (pss_one (ps_ret (pe_tup (pa_cons pe_str (pa_cons (pv 0) pa_nil)))))
  pss_nil))
  pss_nil)
  (pss_one (ps_ret pe_non))))))), ?_⟩
    refine ⟨_, rfl, z, rfl, fun D hD => lcsf (inS GREAT) (fun c => V.str ⟨#[c]⟩) hl (fun c H Q q => ⟨_, rfl, _, _, rfl, rfl, _, rfl, q⟩) (fun c H Q q => ⟨_, rfl, q⟩) ?_⟩
    refine ⟨D, _, rfl, .inl (SqL.of upd_same), ?_⟩
    have s1 : Same H (upd H D (.lst ((z.cps.toList.filter (inS GREAT)).map fun c => V.str ⟨#[c]⟩))) := Rd.Same.upd hD
    generalize upd H D (.lst ((z.cps.toList.filter (inS GREAT)).map fun c => V.str ⟨#[c]⟩)) = H1 at s1
    refine gName_k ?_
    try dsimp only
    have ec : ((z.cps.toList.filter (inS GREAT)).map fun c => V.str ⟨#[c]⟩).length = cntG z := by rw [List.length_map]; rfl
    rw [ec]
    refine ⟨_, rfl, z, rfl, hl, rfl, _, rfl, ite2 (fun h1 => ?_) (fun h1 => ?_)⟩
    · have e : z.length = 0 := by
        have := of_decide_eq_true h1
        injection this with this
        omega
      exact k0 _ s1 (by rw [kindOf, if_pos (.inl e)])
    refine ⟨_, rfl, z, rfl, hl, _, _, rfl, rfl, _, rfl, ite2 (fun h2 => ?_) (fun h2 => ?_)⟩
    · have e : 8 < z.length := by
        have := of_decide_eq_true h2
        omega
      exact k0 _ s1 (by rw [kindOf, if_pos (.inr e)])
    have n1 : ¬ (z.length = 0 ∨ 8 < z.length) := fun q => by
      rcases q with q | q
      · exact h1 (decide_eq_true (by rw [q]; rfl))
      · exact h2 (decide_eq_true (by omega))
    refine ⟨_, rfl, z, rfl, fun D2 hD2 => lcs (f := fun c => V.bl (inS SMALL c)) hl (fun c H Q hc q => ⟨_, rfl, _, _, rfl, rfl, q⟩) ⟨D2, z.cps.toList.map (inS SMALL), rfl, SqL.of (by rw [upd_same, List.map_map]; rfl), _, rfl, ?_⟩⟩
    rw [allId]
    have s2 := Rd.Same.upd' (o := .lst (z.cps.toList.map fun c => V.bl (inS SMALL c))) s1 hD2
    generalize upd H1 D2 (.lst (z.cps.toList.map fun c => V.bl (inS SMALL c))) = H2 at s2
    refine ite2 (fun h3 => ?_) (fun h3 => ?_)
    · refine ⟨_, rfl, (by show 2 ≤ sizeLine; decide), fun p hp => ?_⟩
      exact k1 _ _ p _ (Rd.Same.upd' s2 hp) (by rw [kindOf, if_neg n1, if_pos h3]) (s2.free hp) upd_same
    refine nxt ?_
    try dsimp only
    refine seqIf (tb_and (fun R r => ⟨_, rfl, _, rfl, z, rfl, hl, rfl, _, rfl, r _ (Same.refl _)⟩) fun H3 s3 _ => tb_and (fun R r => ⟨_, rfl, z, rfl, hl, _, _, rfl, rfl, _, rfl, r _ (Same.refl _)⟩) fun H4 s4 _ R r =>
      ⟨_, rfl, _, rfl, z, rfl, hl, tailS z, rfl, fun D3 hD3 => lcs (f := fun c => V.bl (inS SMALL c)) (Nat.le_trans (tailS_len z) hl) (fun c H Q hc q => ⟨_, rfl, _, _, rfl, rfl, q⟩) ⟨D3, (tailS z).cps.toList.map (inS SMALL), rfl, SqL.of (by rw [upd_same, List.map_map]; rfl), _, rfl, r _ (Rd.Same.upd hD3)⟩⟩) fun H3 s3 => ?_
    rw [allId]
    have sH3 := s2.trans s3
    have iU : (decide (V.str (cutS z none (some 1)) = V.str "?") && (decide ((1 : Int) < (z.length : Int)) && (tailS z).cps.toList.all (inS SMALL))) = true ↔ (V.str (cutS z none (some 1)) = V.str "?" ∧ 1 < z.length ∧ (tailS z).cps.toList.all (inS SMALL) = true) := by
      rw [Bool.and_eq_true, Bool.and_eq_true, decide_eq_true_iff, decide_eq_true_iff]
      constructor
      · rintro ⟨a, b, c⟩
        exact ⟨a, by omega, c⟩
      · rintro ⟨a, b, c⟩
        exact ⟨a, by omega, c⟩
    refine ite2 (fun h4 => ?_) (fun h4 => ?_)
    · have h4' := iU.mp h4
      refine ⟨_, rfl, _, rfl, z, rfl, hl, (by show 2 ≤ sizeLine; decide), fun p hp => ?_⟩
      exact k1 _ _ p _ (Rd.Same.upd' sH3 hp) (by rw [kindOf, if_neg n1, if_neg h3, if_pos h4']; rfl) (sH3.free hp) upd_same
    have h4' := fun q => h4 (iU.mpr q)
    refine nxt ?_
    try dsimp only
    have hla : (cutS z none (some (cntG z : Int))).length ≤ sizeLine := Nat.le_trans (cutS_len z _ _) hl
    have hlb : (cutS z (some (cntG z : Int)) none).length ≤ sizeLine := Nat.le_trans (cutS_len z _ _) hl
    refine seqIf (tb_and (fun R r => ⟨_, rfl, _, _, rfl, rfl, _, rfl, r _ (Same.refl _)⟩) fun H4 s4 _ R r =>
      ⟨_, rfl, _, rfl, _, rfl, z, rfl, hl, cutS z none (some (cntG z : Int)), rfl, fun D3 hD3 => lcs (f := fun c => V.bl (inS GREAT c)) hla (fun c H Q hc q => ⟨_, rfl, _, _, rfl, rfl, q⟩) ⟨D3, (cutS z none (some (cntG z : Int))).cps.toList.map (inS GREAT), rfl, SqL.of (by rw [upd_same, List.map_map]; rfl), _, rfl, r _ (Rd.Same.upd hD3)⟩⟩) fun H4 s4 => ?_
    rw [allId]
    have sH4 := sH3.trans s4
    refine ite2 (fun h5 => ?_) (fun h5 => ?_)
    · obtain ⟨h6, h7⟩ := He.ba h5
      have h6' : 0 < cntG z := by have := of_decide_eq_true h6; omega
      refine oneIf (fun R r => ⟨_, rfl, _, rfl, _, rfl, z, rfl, hl, cutS z (some (cntG z : Int)) none, rfl, fun D3 hD3 => lcs (f := fun c => V.bl (inS DIGITS c)) hlb (fun c H Q hc q => ⟨_, rfl, _, _, rfl, rfl, q⟩) ⟨D3, (cutS z (some (cntG z : Int)) none).cps.toList.map (inS DIGITS), rfl, SqL.of (by rw [upd_same, List.map_map]; rfl), _, rfl, r _ (Rd.Same.upd hD3)⟩⟩) fun H5 s5 => ?_
      rw [allId]
      have sH5 := sH4.trans s5
      refine ite2 (fun h8 => ?_) (fun h8 => ?_)
      · refine ⟨_, rfl, (by show 2 ≤ sizeLine; decide), fun p hp => ?_⟩
        exact k1 _ _ p _ (Rd.Same.upd' sH5 hp) (by rw [kindOf, if_neg n1, if_neg h3, if_neg h4', if_pos ⟨⟨h6', h7⟩, h8⟩]) (sH5.free hp) upd_same
      · exact k0 _ sH5 (by rw [kindOf, if_neg n1, if_neg h3, if_neg h4', if_neg (fun q => h8 q.2)])
    · refine k0 _ sH4 (by rw [kindOf, if_neg n1, if_neg h3, if_neg h4', if_neg (fun q => h5 (by rw [Bool.and_eq_true, decide_eq_true_iff]; exact ⟨by have := q.1.1; omega, q.1.2⟩))])
end
end Rd
namespace Rd
open PySem L2
theorem cut1_q (z : Str) : V.str (cutS z none (some 1)) = V.str "?" ↔ Txt.startswith z "?" = true := by
  have e2 : ("?" : Str).cps.toList = [63] := by decide +kernel
  have e3 : (cutS z none (some 1)).cps.toList = z.cps.toList.take 1 := cutS_to z 1
  constructor
  · intro h
    injection h with h
    have h2 : (cutS z none (some 1)).cps.toList = [63] := by rw [h, e2]
    rw [e3] at h2
    rw [starts_q]
    cases hl : z.cps.toList with
    | nil => rw [hl] at h2; cases h2
    | cons c r =>
      rw [hl] at h2
      have h4 : [c] = [63] := h2
      injection h4 with h5
      exact ⟨r, by rw [h5]⟩
  · intro h
    obtain ⟨r, e⟩ := (starts_q z).mp h
    rw [str_ext (a := cutS z none (some 1)) (b := "?") (by rw [e3, e2, e]; rfl)]
theorem isName_iff (z : Str) (h : z.length ≤ 8) : isName z = true ↔ ((0 < cntG z ∧ (cutS z none (some (cntG z : Int))).cps.toList.all (inS GREAT) = true) ∧ (cutS z (some (cntG z : Int)) none).cps.toList.all (inS DIGITS) = true) := by
  rw [cutS_to, cutS_from, cntG, ← name_iff, isName, decide_eq_true h, Bool.true_and, Bool.and_eq_true, decide_eq_true_iff, len_list, rstrip_list]
theorem kind_is (z : Str) : kindOf z = atomOf z := by
  unfold kindOf atomOf
  by_cases h1 : z.length = 0 ∨ 8 < z.length
  · rw [if_pos h1]
    have w : ¬ isWord z = true := fun q => by
      obtain ⟨q1, q2⟩ := He.ba q
      obtain ⟨q3, _⟩ := He.ba q2
      have := of_decide_eq_true q1
      have := of_decide_eq_true q3
      omega
    have n : ¬ isName z = true := fun q => by
      obtain ⟨q1, q2⟩ := He.ba q
      obtain ⟨q3, _⟩ := He.ba q2
      have q1 := of_decide_eq_true q1
      have q3 := of_decide_eq_true q3
      have := PyProof.Rows.len_rstripChars z DIGITS
      omega
    have u : ¬ (Txt.startswith z "?" && isUnk (tailS z)) = true := fun q => by
      obtain ⟨q1, q2⟩ := He.ba q
      obtain ⟨r, e⟩ := (starts_q z).mp q1
      obtain ⟨q3, q4⟩ := He.ba q2
      have q4 := of_decide_eq_true q4
      rw [len_list, tailS_list, e] at q4
      rw [len_list, e] at h1
      simp only [List.length_cons, List.drop_succ_cons, List.drop_zero] at h1 q4
      omega
    rw [if_neg w, if_neg n, if_neg u]
  · rw [if_neg h1]
    have l1 : 1 ≤ z.length := by omega
    have l8 : z.length ≤ 8 := by omega
    have ew : isWord z = z.cps.toList.all (inS SMALL) := by rw [isWord, decide_eq_true l1, decide_eq_true l8] <;> rfl
    rw [ew]
    by_cases h2 : z.cps.toList.all (inS SMALL) = true
    · rw [if_pos h2, if_pos h2]
    rw [if_neg h2, if_neg h2]
    by_cases h3 : isName z = true
    · have u : ¬ (V.str (cutS z none (some 1)) = V.str "?" ∧ 1 < z.length ∧ (tailS z).cps.toList.all (inS SMALL) = true) := fun q => isName_first h3 ((cut1_q z).mp q.1)
      rw [if_neg u, if_pos ((isName_iff z l8).mp h3), if_pos h3]
    · have n := fun q => h3 ((isName_iff z l8).mpr q)
      rw [if_neg h3]
      by_cases h4 : (Txt.startswith z "?" && isUnk (tailS z)) = true
      · obtain ⟨a1, a2⟩ := He.ba h4
        obtain ⟨a3, a4⟩ := He.ba a2
        obtain ⟨a5, a6⟩ := He.ba a3
        obtain ⟨a7, a8⟩ := He.ba a6
        have a5 := of_decide_eq_true a5
        have hlt : 1 < z.length := by
          rw [len_list, tailS_list, List.length_drop] at a5
          rw [len_list]
          omega
        rw [if_pos h4, if_pos ⟨(cut1_q z).mpr a1, hlt, a8⟩]
      · rw [if_neg h4, if_neg, if_neg n]
        rintro ⟨b1, b2, b3⟩
        refine h4 ?_
        have lt : (tailS z).length = z.length - 1 := by rw [len_list, tailS_list, List.length_drop, len_list]
        rw [(cut1_q z).mp b1, isUnk, isWord, b3, decide_eq_true (show 1 ≤ (tailS z).length by omega), decide_eq_true (show (tailS z).length ≤ 8 by omega), decide_eq_true (show (tailS z).length ≤ 7 by omega)]
        rfl
end Rd
namespace Rd
open PySem L2
theorem atomOf_kd {z k y : Str} (h : atomOf z = some (k, y)) : kindOk k y := by
  rw [atomOf] at h
  split at h
  · rename_i a
    cases h
    exact .inl ⟨rfl, a⟩
  · split at h
    · rename_i a
      cases h
      exact .inr (.inl ⟨rfl, a⟩)
    · split at h
      · rename_i a
        cases h
        exact .inr (.inr ⟨rfl, (He.ba a).2⟩)
      · cases h
theorem retIf {c : TT} {ta tb : TE} {D : Ends} {σ : St} {H : Hp} {b : Bool} (hc : TB c σ H b) (k : ∀ H', Same H H' → if b = true then ta σ H' D.rt else tb σ H' D.rt) : tRet (tIf c ta tb) D σ H := hc _ k
end Rd
namespace Rd
open PySem L2
/-! ### the law's reader -/
def rdA : Nat → List Nat → Option Tr × List Nat
  | 0, cs => if ofC (wd cs) ∈ SG ∧ sw (cs.drop (wd cs).length) [40] = true then (none, cs.drop (wd cs).length) else (amO (atomOf (ofC (wd cs))), cs.drop (wd cs).length)
  | n + 1, cs => if ofC (wd cs) ∈ SG ∧ sw (cs.drop (wd cs).length) [40] = true then
      match rdA n (cs.drop ((wd cs).length + 1)) with
      | (none, e1) => (none, e1)
      | (some a, e1) => if ar (ofC (wd cs)) = 1 then (if sw e1 [41] = true then (madeF (ofC (wd cs)) [a], e1.drop 1) else (none, e1))
        else if sw e1 [44, 32] = true then
          match rdA n (e1.drop 2) with
          | (none, e2) => (none, e2)
          | (some b, e2) => if sw e2 [41] = true then (madeF (ofC (wd cs)) [a, b], e2.drop 1) else (none, e2)
        else (none, e1)
    else (amO (atomOf (ofC (wd cs))), cs.drop (wd cs).length)
def cnt (cs : List Nat) : Nat := cs.count 40
theorem cnt_suf {a b : List Nat} (h : a <:+ b) : cnt a ≤ cnt b := h.sublist.count_le 40
theorem rdA_suf : ∀ (n : Nat) (cs : List Nat), (rdA n cs).2 <:+ cs
  | 0, cs => by
    unfold rdA
    split <;> exact List.drop_suffix _ _
  | n + 1, cs => by
    unfold rdA
    split
    · have s1 := (rdA_suf n (cs.drop ((wd cs).length + 1))).trans (List.drop_suffix _ _)
      cases h1 : rdA n (cs.drop ((wd cs).length + 1)) with
      | mk p1 e1 =>
        rw [h1] at s1
        cases p1 with
        | none => exact s1
        | some a =>
          dsimp only
          split
          · split
            · exact (List.drop_suffix _ _).trans s1
            · exact s1
          · split
            · have s2 := ((rdA_suf n (e1.drop 2)).trans (List.drop_suffix _ _)).trans s1
              cases h2 : rdA n (e1.drop 2) with
              | mk p2 e2 =>
                rw [h2] at s2
                cases p2 with
                | none => exact s2
                | some b =>
                  dsimp only
                  split
                  · exact (List.drop_suffix _ _).trans s2
                  · exact s2
            · exact s1
    · exact List.drop_suffix _ _
theorem cnt_go {cs : List Nat} (h : sw (cs.drop (wd cs).length) [40] = true) : cnt (cs.drop ((wd cs).length + 1)) + 1 ≤ cnt cs := by
  have e := of_decide_eq_true h
  have s := cnt_suf (List.drop_suffix (wd cs).length cs)
  rw [← List.drop_drop]
  generalize cs.drop (wd cs).length = rs at e s ⊢
  cases rs with
  | nil => cases e
  | cons c r =>
    have ec : c = 40 := by
      have := congrArg List.head? e
      simpa using this
    subst ec
    have e2 : cnt (40 :: r) = cnt r + 1 := by simp [cnt]
    rw [e2] at s
    exact s
theorem nx_go {cs : List Nat} {st : Sk} {o : Option Tr} (hs : ofC (wd cs) ∈ SG) (h40 : sw (cs.drop (wd cs).length) [40] = true) (h : ∃ n, Wh (cs.drop ((wd cs).length + 1)) ((ofC (wd cs), []) :: st) o n) : ∃ n, Wh cs st o n := by
  obtain ⟨n, h⟩ := h
  obtain ⟨r, cs', st', ⟨a, cs1, st1, n1, n2, hN, hC⟩, hr⟩ := wh_un h
  exact wh_of ⟨a, cs1, st1, n1 + 1, n2, .go hs h40 hN, hC⟩ hr
def Goal (r : Option Tr × List Nat) (st : Sk) (o : Option Tr) : Prop := match r with
  | (none, _) => o = none
  | (some t, rs) => After t rs st o
theorem ar_two {s : Str} (h : ¬ ar s = 1) : ar s = 2 := by
  unfold ar at h ⊢
  split at h
  · rename_i e
    rw [if_pos e]
  · exact absurd rfl h
theorem rd_stop {cs : List Nat} {st : Sk} {o : Option Tr} (hn : ¬ (ofC (wd cs) ∈ SG ∧ sw (cs.drop (wd cs).length) [40] = true)) (g : Goal (amO (atomOf (ofC (wd cs))), cs.drop (wd cs).length) st o) : ∃ m, Wh cs st o m := by
  have st0 := Nx.stop (cs := cs) (st := st) (fun hs => by
    cases e : sw (cs.drop (wd cs).length) [40] with
    | false => rfl
    | true => exact absurd ⟨hs, e⟩ hn)
  cases ha : atomOf (ofC (wd cs)) with
  | none =>
    rw [ha] at g st0
    have g : o = none := g
    exact wh_of ⟨none, _, _, 0, 0, st0, .none⟩ g
  | some ky =>
    obtain ⟨k, y⟩ := ky
    rw [ha] at g st0
    obtain ⟨r, cs', st', n, hC, hr⟩ := (show After (.am k y) _ st o from g)
    exact wh_of ⟨some (k, y), _, _, 0, n, st0, hC⟩ hr
theorem rd_wh : ∀ (n : Nat) (cs : List Nat) (st : Sk) (o : Option Tr), cnt cs ≤ n → Goal (rdA n cs) st o → ∃ m, Wh cs st o m
  | 0, cs, st, o, hc, g => by
    unfold rdA at g
    split at g
    · rename_i h
      have := cnt_go h.2
      omega
    · rename_i h
      exact rd_stop h g
  | n + 1, cs, st, o, hc, g => by
    unfold rdA at g
    split at g
    · rename_i h
      have hc1 := cnt_go h.2
      have hsuf := rdA_suf n (cs.drop ((wd cs).length + 1))
      refine nx_go h.1 h.2 (rd_wh n _ _ o (by omega) ?_)
      cases h1 : rdA n (cs.drop ((wd cs).length + 1)) with
      | mk p1 e1 =>
        rw [h1] at g hsuf
        have hce := cnt_suf hsuf
        cases p1 with
        | none => exact g
        | some a =>
          dsimp only at g hce
          show After a e1 ((ofC (wd cs), []) :: st) o
          split at g
          · rename_i e1r
            split at g
            · rename_i h41
              obtain ⟨r, cs', st', m, hC, hr⟩ := (show After (.un (ofC (wd cs)) a) (e1.drop 1) st o from g)
              exact ⟨r, cs', st', m + 1, .shut1 (ts := []) (by rw [e1r]; decide) h41 hC, hr⟩
            · rename_i h41
              have g : o = none := g
              exact ⟨.bad, _, _, 1, .shut0 (ts := []) (by rw [e1r]; decide) (by simpa using h41), g⟩
          · rename_i e1r
            have e2r := ar_two e1r
            split at g
            · rename_i h44
              refine ⟨.more _, _, _, 0, .more (ts := []) (by rw [e2r]; decide) h44, ?_⟩
              have hc2 := cnt_suf (List.drop_suffix 2 e1)
              refine rd_wh n (e1.drop 2) _ o (by omega) ?_
              cases h2 : rdA n (e1.drop 2) with
              | mk p2 e2 =>
                rw [h2] at g
                cases p2 with
                | none => exact g
                | some b =>
                  dsimp only at g
                  show After b e2 ((ofC (wd cs), [] ++ [a]) :: st) o
                  split at g
                  · rename_i h41
                    cases hm : madeF (ofC (wd cs)) [a, b] with
                    | none =>
                      rw [hm] at g
                      have g : o = none := g
                      refine ⟨.bad, _, _, _, .shut1 (ts := [a]) (by rw [e2r]; show ¬ 1 + 1 < 2; decide) h41 (by show Cl (madeF _ [a, b]) _ _ _ _ _ _; rw [hm]; exact .none), g⟩
                    | some t =>
                      rw [hm] at g
                      obtain ⟨r, cs', st', m, hC, hr⟩ := (show After t (e2.drop 1) st o from g)
                      refine ⟨r, cs', st', m + 1, .shut1 (ts := [a]) (by rw [e2r]; show ¬ 1 + 1 < 2; decide) h41 (by show Cl (madeF _ [a, b]) _ _ _ _ _ _; rw [hm]; exact hC), hr⟩
                  · rename_i h41
                    have g : o = none := g
                    exact ⟨.bad, _, _, 1, .shut0 (ts := [a]) (by rw [e2r]; show ¬ 1 + 1 < 2; decide) (by simpa using h41), g⟩
            · rename_i h44
              have g : o = none := g
              exact ⟨.bad, _, _, 0, .bad (ts := []) (by rw [e2r]; decide) (by simpa using h44), g⟩
    · rename_i h
      exact rd_stop h g
/-- the whole text -/
def rdW (n : Nat) (cs : List Nat) : Option Tr := if (rdA n cs).2 = [] then (rdA n cs).1 else none
theorem rdW_wh {n : Nat} {cs : List Nat} (h : cnt cs ≤ n) : ∃ m, Wh cs [] (rdW n cs) m := by
  refine rd_wh n cs [] _ h ?_
  unfold rdW
  cases e : rdA n cs with
  | mk p rs =>
    cases p with
    | none =>
      show (if rs = [] then none else none) = none
      split <;> rfl
    | some t =>
      refine ⟨.done t, rs, [], 0, .fin, ?_⟩
      show (if rs = [] then some t else none) = if rs = [] then some t else none
      rfl
theorem madeF_fine {s : Str} {l : List Tr} {t : Tr} (hs : okS s) (hl : ∀ u ∈ l, u.fine) (h : madeF s l = some t) : t.fine ∧ ∀ n, (∀ u ∈ l, u.dep ≤ n) → t.dep ≤ n + 1 := by
  match l, h with
  | [a], h =>
    cases h
    exact ⟨⟨hs, hl a List.mem_cons_self⟩, fun n hn => Nat.succ_le_succ (hn a List.mem_cons_self)⟩
  | [a, b], h =>
    rw [madeF2] at h
    split at h
    · cases h
    · cases h
      refine ⟨⟨hs, hl a List.mem_cons_self, hl b (List.mem_cons_of_mem _ List.mem_cons_self)⟩, fun n hn => ?_⟩
      have h1 := hn a List.mem_cons_self
      have h2 := hn b (List.mem_cons_of_mem _ List.mem_cons_self)
      show max a.dep b.dep + 1 ≤ n + 1
      omega
theorem sg_ok {s : Str} (h : s ∈ SG) : okS s := okS_of (l := SG) (by decide +kernel) h
theorem amO_fine {z : Str} {t : Tr} (h : amO (atomOf z) = some t) : t.fine ∧ t.dep = 0 := by
  cases e : atomOf z with
  | none => rw [e] at h; cases h
  | some ky =>
    obtain ⟨k, y⟩ := ky
    rw [e] at h
    cases h
    exact ⟨(atomOf_kd e).fine, rfl⟩
theorem rdA_fine : ∀ (n : Nat) (cs : List Nat) (t : Tr), (rdA n cs).1 = some t → t.fine ∧ t.dep ≤ n
  | 0, cs, t, h => by
    unfold rdA at h
    split at h
    · cases h
    · obtain ⟨a, b⟩ := amO_fine h
      exact ⟨a, by omega⟩
  | n + 1, cs, t, h => by
    unfold rdA at h
    split at h
    · rename_i hg
      cases h1 : rdA n (cs.drop ((wd cs).length + 1)) with
      | mk p1 e1 =>
        rw [h1] at h
        cases p1 with
        | none => cases h
        | some a =>
          obtain ⟨fa, da⟩ := rdA_fine n _ a (by rw [h1])
          dsimp only at h
          split at h
          · split at h
            · obtain ⟨x, y⟩ := madeF_fine (sg_ok hg.1) (fun u hu => by rw [List.mem_singleton.mp hu]; exact fa) h
              exact ⟨x, y n fun u hu => by rw [List.mem_singleton.mp hu]; exact da⟩
            · cases h
          · split at h
            · cases h2 : rdA n (e1.drop 2) with
              | mk p2 e2 =>
                rw [h2] at h
                cases p2 with
                | none => cases h
                | some b =>
                  obtain ⟨fb, db⟩ := rdA_fine n _ b (by rw [h2])
                  dsimp only at h
                  split at h
                  · have two : ∀ {Pp : Tr → Prop}, Pp a → Pp b → ∀ u ∈ [a, b], Pp u := fun {Pp} pa pb u hu => by
                      rcases List.mem_cons.mp hu with rfl | hu
                      · exact pa
                      · rw [List.mem_singleton.mp hu]
                        exact pb
                    obtain ⟨x, y⟩ := madeF_fine (sg_ok hg.1) (two fa fb) h
                    exact ⟨x, y n (two (Pp := fun u => u.dep ≤ n) da db)⟩
                  · cases h
            · cases h
    · obtain ⟨a, b⟩ := amO_fine h
      exact ⟨a, by omega⟩
end Rd
namespace Rd
open PySem L2
def szv : List (Key × V) := [(.inr "pair", .int 2), (.inr "seal", .int 2), (.inr "lock", .int 2), (.inr "mark", .int 1), (.inr "open", .int 1), (.inr "own", .int 1)]
theorem szv_look (h : Str) : ((valV (mergeK [] szv) (.inr h)).getD (.int 0)) = if h ∈ SG then .int (ar h) else .int 0 := by
  have e : mergeK [] szv = szv := by rfl
  rw [e]
  by_cases hin : h ∈ SG
  · rw [if_pos hin]
    have : ∀ y ∈ SG, ((valV szv (.inr y)).getD (.int 0)) = .int (ar y) := by decide +kernel
    exact this h hin
  · rw [if_neg hin]
    have n1 : ∀ y ∈ szv, ¬ y.1 = (.inr h : Key) := fun y hy q => by
      have : ∀ y ∈ szv, ∃ z ∈ SG, y.1 = (.inr z : Key) := by decide +kernel
      obtain ⟨z, hz, e2⟩ := this y hy
      rw [e2] at q
      cases q
      exact hin hz
    have e2 : valV szv (.inr h) = none := by
      unfold valV
      rw [List.find?_eq_none.mpr fun y hy => by simpa using n1 y hy]
      rfl
    rw [e2]
    rfl
theorem cut_sw {z y : Str} {e : Nat} (he : e ≤ z.length) : decide (V.str (cutS z (some (e : Int)) (some ((e + y.length : Nat) : Int))) = V.str y) = sw (z.cps.toList.drop e) y.cps.toList := by
  have l1 := len_list z
  have l2 := len_list y
  have e1 : (cutS z (some (e : Int)) (some ((e + y.length : Nat) : Int))).cps.toList = (z.cps.toList.drop e).take y.cps.toList.length := by
    show ((z.cps.toList.drop (HT.sIx z.length 0 (some (e : Int)))).take (HT.sIx z.length z.length (some ((e + y.length : Nat) : Int)) - HT.sIx z.length 0 (some (e : Int)))).toArray.toList = _
    rw [List.toList_toArray, HT.sIx_nat, HT.sIx_nat, Nat.min_eq_left he]
    by_cases h : e + y.length ≤ z.length
    · rw [Nat.min_eq_left h, show e + y.length - e = y.cps.toList.length by omega]
    · rw [Nat.min_eq_right (by omega), List.take_of_length_le (by rw [List.length_drop]; omega), List.take_of_length_le (by rw [List.length_drop]; omega)]
  unfold sw
  rw [← e1]
  by_cases h : cutS z (some (e : Int)) (some ((e + y.length : Nat) : Int)) = y
  · rw [decide_eq_true (by rw [h]), decide_eq_true (by rw [h])]
  · rw [decide_eq_false (fun q => h (V.str.inj q)), decide_eq_false (fun q => h (str_ext q))]
/-- what the law's loop over the parts has read -/
def MI (n : Nat) (cs1 : List Nat) (m : Nat) : List Tr → List Nat → Prop
  | [], r => r = cs1
  | [a], r => ∃ e1, rdA n cs1 = (some a, e1) ∧ ((m = 1 ∧ sw e1 [41] = true ∧ r = e1.drop 1) ∨ (m = 2 ∧ sw e1 [44, 32] = true ∧ r = e1.drop 2))
  | [a, b], r => m = 2 ∧ ∃ e1 e2, rdA n cs1 = (some a, e1) ∧ sw e1 [44, 32] = true ∧ rdA n (e1.drop 2) = (some b, e2) ∧ sw e2 [41] = true ∧ r = e2.drop 1
  | _, _ => False
theorem MI.suf {n m : Nat} {cs1 r : List Nat} {ps : List Tr} (h : MI n cs1 m ps r) : r <:+ cs1 := by
  match ps, h with
  | [], h => rw [show r = cs1 from h]; exact List.suffix_refl _
  | [a], ⟨e1, h1, h2⟩ =>
    have s := rdA_suf n cs1
    rw [h1] at s
    rcases h2 with ⟨_, _, rfl⟩ | ⟨_, _, rfl⟩
    · exact (List.drop_suffix _ _).trans s
    · exact (List.drop_suffix _ _).trans s
  | [a, b], ⟨_, e1, e2, h1, _, h2, _, er⟩ =>
    subst er
    have s := rdA_suf n cs1
    rw [h1] at s
    have s2 := rdA_suf n (e1.drop 2)
    rw [h2] at s2
    exact ((List.drop_suffix _ _).trans s2).trans ((List.drop_suffix _ _).trans s)
theorem rdA_go {n : Nat} {cs : List Nat} (hg : ofC (wd cs) ∈ SG ∧ sw (cs.drop (wd cs).length) [40] = true) : rdA (n + 1) cs = match rdA n (cs.drop ((wd cs).length + 1)) with
      | (none, e1) => (none, e1)
      | (some a, e1) => if ar (ofC (wd cs)) = 1 then (if sw e1 [41] = true then (madeF (ofC (wd cs)) [a], e1.drop 1) else (none, e1))
        else if sw e1 [44, 32] = true then
          match rdA n (e1.drop 2) with
          | (none, e2) => (none, e2)
          | (some b, e2) => if sw e2 [41] = true then (madeF (ofC (wd cs)) [a, b], e2.drop 1) else (none, e2)
        else (none, e1) := by
  show (if _ then _ else _) = _
  rw [if_pos hg]
  all_goals rfl
/-- a part that cannot be read, or no gap behind it -/
theorem MI.fail {n : Nat} {cs r rs : List Nat} {ps : List Tr} {o : Option Tr} (hg : ofC (wd cs) ∈ SG ∧ sw (cs.drop (wd cs).length) [40] = true) (h : MI n (cs.drop ((wd cs).length + 1)) (ar (ofC (wd cs))) ps r) (hl : ps.length < ar (ofC (wd cs))) (hr : rdA n r = (o, rs))
    (hb : o = none ∨ sw rs (if ps.length < ar (ofC (wd cs)) - 1 then [44, 32] else [41]) = false) : rdA (n + 1) cs = (none, rs) := by
  rw [rdA_go hg]
  match ps, h, hl, hb with
  | [], h, hl, hb =>
    have h : r = _ := h
    subst h
    rw [hr]
    cases o with
    | none => rfl
    | some a =>
      rcases hb with hb | hb
      · cases hb
      · dsimp only
        by_cases e : ar (ofC (wd cs)) = 1
        · rw [if_pos e]
          rw [e, if_neg (by decide)] at hb
          rw [if_neg (by rw [hb]; decide)]
        · rw [if_neg e]
          rw [ar_two e, if_pos (by decide)] at hb
          rw [if_neg (by rw [hb]; decide)]
  | [a], ⟨e1, h1, h2⟩, hl, hb =>
    have e2 : ar (ofC (wd cs)) = 2 := ar_two (fun z => by rw [z] at hl; exact absurd hl (by show ¬ 1 < 1; decide))
    rcases h2 with ⟨z, _⟩ | ⟨_, h44, rfl⟩
    · rw [e2] at z
      cases z
    rw [h1]
    dsimp only
    rw [if_neg (by rw [e2]; decide), if_pos h44, hr]
    cases o with
    | none => rfl
    | some b =>
      rcases hb with hb | hb
      · cases hb
      · dsimp only
        rw [e2, if_neg (by show ¬ 1 < 2 - 1; decide)] at hb
        rw [if_neg (by rw [hb]; decide)]
  | [a, b], h, hl, _ =>
    have := h.1
    rw [this] at hl
    exact absurd hl (by show ¬ 2 < 2; decide)
theorem MI.step {n m : Nat} {cs1 r rs : List Nat} {ps : List Tr} {t : Tr} (hm : m = 1 ∨ m = 2) (h : MI n cs1 m ps r) (hl : ps.length < m) (hr : rdA n r = (some t, rs)) (hb : sw rs (if ps.length < m - 1 then [44, 32] else [41]) = true) : MI n cs1 m (ps ++ [t]) (rs.drop (if ps.length < m - 1 then [44, 32] else [41] : List Nat).length) := by
  match ps, h, hl, hb with
  | [], h, hl, hb =>
    have h : r = _ := h
    subst h
    rcases hm with rfl | rfl
    · exact ⟨rs, hr, .inl ⟨rfl, hb, rfl⟩⟩
    · exact ⟨rs, hr, .inr ⟨rfl, hb, rfl⟩⟩
  | [a], ⟨e1, h1, h2⟩, hl, hb =>
    rcases hm with rfl | rfl
    · exact absurd hl (by show ¬ 1 < 1; decide)
    rcases h2 with ⟨z, _⟩ | ⟨_, h44, rfl⟩
    · cases z
    · exact ⟨rfl, e1, rs, h1, h44, hr, hb, rfl⟩
  | [a, b], h, hl, _ =>
    rw [h.1] at hl
    exact absurd hl (by show ¬ 2 < 2; decide)
theorem MI.full {n : Nat} {cs r : List Nat} {ps : List Tr} (hg : ofC (wd cs) ∈ SG ∧ sw (cs.drop (wd cs).length) [40] = true) (h : MI n (cs.drop ((wd cs).length + 1)) (ar (ofC (wd cs))) ps r) (hl : ps.length = ar (ofC (wd cs))) : rdA (n + 1) cs = (madeF (ofC (wd cs)) ps, r) := by
  rw [rdA_go hg]
  match ps, h, hl with
  | [], h, hl => exact absurd hl (Nat.ne_of_lt (ar_pos _))
  | [a], ⟨e1, h1, h2⟩, hl =>
    have hl : 1 = ar (ofC (wd cs)) := hl
    rcases h2 with ⟨_, h41, rfl⟩ | ⟨z, _⟩
    · rw [h1]
      dsimp only
      rw [if_pos hl.symm, if_pos h41]
    · rw [← hl] at z
      cases z
  | [a, b], ⟨z, e1, e2, h1, h44, h2, h41, er⟩, hl =>
    subst er
    rw [h1]
    dsimp only
    rw [if_neg (by rw [z]; decide), if_pos h44, h2]
    dsimp only
    rw [if_pos h41]
end Rd
namespace Rd
open PySem L2
def sp_rdAt (n : Nat) : Sp := fun vs H Q _ => ∃ (z : Str) (i : Nat), vs = [.str z, .int i] ∧ i ≤ z.length ∧ z.length ≤ 3900 ∧ cnt (z.cps.toList.drop i) ≤ n ∧
  ∀ q v (j : Nat) H', Same H H' → H' q = some (.tup [v, .int j]) → j ≤ z.length → z.cps.toList.drop j = (rdA n (z.cps.toList.drop i)).2 → OptT H' (rdA n (z.cps.toList.drop i)).1 v → Q (.ref q) H'
def spRA : Nat → Sp
  | 0 => fun _ _ _ _ => False
  | n + 1 => sp_rdAt n
theorem OptT.keep {H H' : Hp} {o : Option Tr} {v : V} (h : OptT H o v) (s : Same H H') : OptT H' o v := by
  cases o with
  | none => exact h
  | some t => exact IsT.same (t := t) s h
theorem rdA_stop {n : Nat} {cs : List Nat} (hn : ¬ (ofC (wd cs) ∈ SG ∧ sw (cs.drop (wd cs).length) [40] = true)) : rdA n cs = (amO (atomOf (ofC (wd cs))), cs.drop (wd cs).length) := by
  cases n with
  | zero => show (if _ then _ else _) = _; rw [if_neg hn]
  | succ n => show (if _ then _ else _) = _; rw [if_neg hn]
section
variable {P : Program} {w : World} {K : PySem.W.Frag} {mg : Str → Option Value} {base : Heap}
abbrev s__law_read_at : Stmt := top 33
theorem sc__law_read_at : FnScope ["_law_text_here", "_law_at", "_law_end", "_law_word_here", "_law_size", "_law_parts", "_law_k", "_law_part", "_law_gap"] ["_law_text_here", "_law_at"] (defScope s__law_read_at) := ⟨rfl, rfl, rfl, by decide +kernel, rfl, by decide +kernel, by decide +kernel⟩
theorem rdAt_step (T : Tx w K mg) (n : Nat) (ih : Fk P w K mg base CX0 (n + 1) "_law_read_at" ["_law_text_here", "_law_at"] (spRA n)) : Fk P w K mg base CX0 (n + 2) "_law_read_at" ["_law_text_here", "_law_at"] (sp_rdAt n) := by
  refine T.F__law_read_at.ok0 sc__law_read_at (fun _ _ _ _ _ _ us hl => match us, hl with | [_, _], _ => rfl)
    (fun vs H Q E h => ?_) (fun cdv A outer s H vs Q E hr h => ?_)
  · obtain ⟨z, i, rfl, _⟩ := h
    rfl
  · obtain ⟨z, i, rfl, hi, hz, hc, k⟩ := h
    refine ⟨_, (pss_cons (ps_set (i := 2) sc__law_read_at.nd rfl (Or.inl rfl) (pv 1))
  (pss_cons (ps_while PassesOwn.never (PW.pt (pw_and (pt_cmpR op_lt (pv 2) (pe_callB call_len_str (by rfl) T.z_len (by decide +kernel) (pa_cons (pv 0) pa_nil)) (nomark _)) (pw_and1 (pt_cmpR op_notIn_sign (pe_ix ix_str (pv 0) (pv 2) (fun _ _ => rfl)) pe_str (by rfl)))))
  (pss_one (ps_set (i := 2) sc__law_read_at.nd rfl (Or.inl rfl) (pe_op op_add (pv 2) pe_int))))
  (pss_cons (ps_set (i := 3) sc__law_read_at.nd rfl (Or.inl rfl) (pe_slice sl_str (pv 0) (po_some (pv 1)) (po_some (pv 2))))
  (pss_cons (ps_set (i := 4) sc__law_read_at.nd rfl (Or.inl rfl) (pe_dget2 (hu_of hr) (pe_disp (pps_cons pe_str pe_int (pps_cons pe_str pe_int (pps_cons pe_str pe_int (pps_cons pe_str pe_int (pps_cons pe_str pe_int (pps_cons pe_str pe_int pps_nil)))))) (by rfl) (by rfl) (fun z => by cases z) (by decide)) (pv 3) pe_int ⟨by rfl, by rfl, by rfl, by rfl⟩))
  (pss_cons (ps_if (PW.pt (pw_or (pt_cmpR op_ne (pe_slice sl_str (pv 0) (po_some (pv 2)) (po_some (pe_op op_add (pv 2) pe_int))) pe_str (nomark _)) (pw_or1 (pt_cmpR op_eq (pv 4) pe_int (nomark _)))))
  (pss_one (ps_ret (pe_tup (pa_cons (pe_fk (ok__law_kind T) (hr.mono (by omega)) rfl pass0 (pa_cons (pv 3) pa_nil)) (pa_cons (pv 2) pa_nil)))))
  pss_nil)
  (pss_cons (ps_par (i := 5) (j := 2) (by rfl) sc__law_read_at.nd rfl rfl (by decide) rfl rfl (pa_cons (pe_lst pa_nil) (pa_cons (pe_op op_add (pv 2) pe_int) pa_nil)) (by rfl))
  (pss_cons (ps_for PassesOwn.never rfl (pi_range1 rfl T.z_range (pa_cons (pv 4) pa_nil)) (pg_name (i := 6) sc__law_read_at.nd rfl (Or.inl rfl))
  (pss_cons (ps_asg (pe_fk ih (hr.mono (by omega)) rfl pass0 (pa_cons (pv 0) (pa_cons (pv 2) pa_nil))) (pg_tup rfl (pgs_cons (pg_name (i := 7) sc__law_read_at.nd rfl (Or.inl rfl)) (pgs_cons (pg_name (i := 2) sc__law_read_at.nd rfl (Or.inl rfl)) pgs_nil))))
  (pss_cons (ps_set (i := 8) sc__law_read_at.nd rfl (Or.inl rfl) (pe_ifExp (pt_cmpR op_lt (pv 6) (pe_op op_sub (pv 4) pe_int) (nomark _)) pe_str pe_str))
  (pss_cons (ps_if (PW.pt (pw_or (pt_cmpR op_isN (pv 7) pe_non (nomark _)) (pw_or1 (pt_cmpR op_ne (pe_slice sl_str (pv 0) (po_some (pv 2)) (po_some (pe_op op_add (pv 2) (pe_callB call_len_str (by rfl) T.z_len (by decide +kernel) (pa_cons (pv 8) pa_nil))))) (pv 8) (nomark _)))))
  (pss_one (ps_ret (pe_tup (pa_cons pe_non (pa_cons (pv 2) pa_nil)))))
  pss_nil)
  (pss_cons (ps_expr (pe_bm PySem.F.plainAttrs_list PySem.F.slot_list_append PySem.F.type_list_append mt_append (pv 5) (pa_cons (pv 7) pa_nil)))
  (pss_one (ps_set (i := 2) sc__law_read_at.nd rfl (Or.inl rfl) (pe_op op_add (pv 2) (pe_callB call_len_str (by rfl) T.z_len (by decide +kernel) (pa_cons (pv 8) pa_nil))))))))))
  (pss_cons (ps_if (PW.pt (pw_and (pt_cmpR op_eq (pv 3) pe_str (nomark _)) (pw_and1 (pt_cmpR op_notInT (pe_ix ix_tup (pe_ix ix_list (pv 5) pe_int (fun _ _ => rfl)) pe_int (fun _ _ => rfl)) (pe_tup (pa_cons pe_str (pa_cons pe_str pa_nil))) (by rfl)))))
  (pss_one (ps_ret (pe_tup (pa_cons pe_non (pa_cons (pv 2) pa_nil)))))
  pss_nil)
  (pss_one (ps_ret (pe_tup (pa_cons (pe_op op_catT (pe_tup (pa_cons (pv 3) pa_nil)) (pe_callTy call_tuple_of (by rfl) T.z_tuple (by decide +kernel) (pa_cons (pv 5) pa_nil))) (pa_cons (pv 2) pa_nil))))))))))))), ?_⟩
    refine seqAsg ⟨_, rfl, ?_⟩
    refine gName_k ?_
    try dsimp only
    have l1 := len_list z
    have hw := (List.takeWhile_sublist nb (l := z.cps.toList.drop i)).length_le
    rw [List.length_drop] at hw
    have big : 200010 ≤ sizeLine := by decide
    refine seqJoin (fun σ' H' => H' = H ∧ σ' = [some (.str z), some (.int i), some (.int ((i + (wd (z.cps.toList.drop i)).length : Nat) : Int)), none, none, none, none, none, none]) (fun K2 hK2 => ?_) ?_
    · refine ⟨fun m σ H' => H' = H ∧ ∃ (j : Nat), j ≤ ((z.cps.toList.drop i).takeWhile nb).length ∧ m = z.length - (i + j) ∧ σ = [some (.str z), some (.int i), some (.int ((i + j : Nat) : Int)), none, none, none, none, none, none], ⟨_, rfl, 0, Nat.zero_le _, rfl, rfl⟩, ?_⟩
      rintro m σ H' ⟨rfl, j, hj, rfl, rfl⟩
      refine ⟨_, rfl, _, rfl, z, rfl, (by omega), _, _, rfl, rfl, _, rfl, ?_⟩
      by_cases hlt : i + j < z.length
      · have ec : ∃ c, (z.cps.toList.drop i)[j]? = some c := ⟨_, List.getElem?_eq_getElem (by rw [List.length_drop]; omega)⟩
        obtain ⟨c, hc⟩ := ec
        have hc2 : z.cps.toList[i + j]? = some c := by rw [← List.getElem?_drop]; exact hc
        refine iteP (decide_eq_true (by omega)) ?_
        refine ⟨_, rfl, _, rfl, z, _, c, rfl, rfl, (by omega), atI_nat hc2, c, _, rfl, rfl, _, rfl, ?_⟩
        obtain ⟨h1, h2⟩ := tw_step hj hc
        show if nb c = true then _ else _
        cases hnb : nb c with
        | true =>
          refine iteT ⟨_, fun σ' H1 h => h, ?_⟩
          have ej : ((i + j : Nat) : Int) + 1 = ((i + (j + 1) : Nat) : Int) := by omega
          refine ⟨_, rfl, _, _, rfl, rfl, z.length - (i + (j + 1)), (by omega), rfl, j + 1, h1 hnb, rfl, ?_⟩
          show [some (V.str z), some (V.int i), some (V.int (((i + j : Nat) : Int) + 1)), none, none, none, none, none, none] = _
          rw [ej]
        | false =>
          refine iteF ?_
          have hj2 := h2 hnb
          exact hK2 _ _ ⟨rfl, by rw [hj2]; rfl⟩
      · refine iteN (fun h => hlt (by have := of_decide_eq_true h; omega)) ?_
        have hj2 := tw_end hj (by rw [List.length_drop]; omega)
        exact hK2 _ _ ⟨rfl, by rw [hj2]; rfl⟩
    · rintro σ' H' ⟨rfl, rfl⟩
      have hwl : (wd (z.cps.toList.drop i)).length ≤ z.length - i := by
        have := hw
        show ((z.cps.toList.drop i).takeWhile nb).length ≤ _
        omega
      generalize hee : i + (wd (z.cps.toList.drop i)).length = ee
      have hel : ee ≤ z.length := by omega
      have hdrop : (z.cps.toList.drop i).drop (wd (z.cps.toList.drop i)).length = z.cps.toList.drop ee := by rw [List.drop_drop, hee]
      refine seqAsg ⟨_, rfl, _, rfl, _, rfl, _, rfl, _, rfl, z, rfl, (by omega), ?_⟩
      have ecut : cutS z (some (i : Int)) (some (ee : Int)) = ofC (wd (z.cps.toList.drop i)) := by
        rw [← hee]
        exact word_cut rfl (by omega)
      rw [ecut]
      have hWl : (ofC (wd (z.cps.toList.drop i))).length ≤ 3900 := by
        rw [← ecut]
        exact Nat.le_trans (cutS_len _ _ _) hz
      generalize hcs : z.cps.toList.drop i = cs at k hc hdrop ecut hWl hee ⊢
      generalize hW : ofC (wd cs) = W at hWl ⊢
      refine gName_k ?_
      try dsimp only
      refine seqAsg (fun dp hdp => ⟨upd_same, szv, rfl, (by decide), dp, rfl, .inl ⟨_, .inl upd_same⟩, _, rfl, _, DGet.k (k := .inr W) upd_same, ?_⟩)
      show gName 4 ((valV (mergeK [] szv) (.inr W)).getD (.int 0)) _ _ _
      rw [szv_look, upd_upd]
      refine gName_k ?_
      try dsimp only
      have s1 := Rd.Same.upd (o := .dK (mergeK [] szv)) hdp
      generalize upd H' dp (.dK (mergeK [] szv)) = H1 at s1 ⊢
      have e40 : decide (V.str (cutS z (some (ee : Int)) (some ((ee + ("(" : Str).length : Nat) : Int))) = V.str "(") = sw (z.cps.toList.drop ee) [40] := cut_sw (y := "(") hel
      have ee1 : ((ee : Int) + 1) = ((ee + ("(" : Str).length : Nat) : Int) := by show (ee : Int) + 1 = ((ee + 1 : Nat) : Int); omega
      by_cases hg : W ∈ SG ∧ sw (cs.drop (wd cs).length) [40] = true
      · have hgs := hg.1
        rw [if_pos hgs]
        refine seqIf (b := (false || false)) (tb_or (b := false) (c := false) (fun Q2 kq => ⟨_, rfl, _, rfl, _, rfl, _, rfl, _, _, rfl, rfl, _, rfl, z, rfl, (by omega), rfl, _, rfl, ?_⟩) (fun H2 s2 _ Q2 kq => ⟨_, rfl, rfl, _, rfl, ?_⟩)) fun H2 s2 => iteF (nxt ?_)
        · show Q2 (!decide (V.str (cutS z (some (ee : Int)) (some ((ee : Int) + 1))) = V.str "(")) H1
          rw [ee1, e40, ← hdrop, hg.2]
          exact kq _ (Same.refl _)
        · rw [decide_eq_false (fun q => by
            have := V.int.inj q
            have := ar_pos W
            omega)]
          exact kq _ (Same.refl _)
        try dsimp only
        have hg' : ofC (wd cs) ∈ SG ∧ sw (cs.drop (wd cs).length) [40] = true := by rw [hW]; exact hg
        have hcg := cnt_go hg.2
        cases n with
        | zero => omega
        | succ n =>
          have s02 := s1.trans s2
          have ar2 : ar W = 1 ∨ ar W = 2 := by
            by_cases e : ar W = 1
            · exact .inl e
            · exact .inr (ar_two e)
          have hlt : ee < z.length := by
            have e := of_decide_eq_true hg.2
            have e := congrArg List.length e
            rw [hdrop, List.length_take, List.length_drop] at e
            have : ([40] : List Nat).length = 1 := rfl
            omega
          have hd1 : cs.drop ((wd cs).length + 1) = z.cps.toList.drop (ee + 1) := by rw [← List.drop_drop, hdrop, List.drop_drop]
          refine ⟨(by show 0 ≤ sizeLine; decide), fun pp hpp => ⟨_, rfl, _, _, rfl, rfl, _, _, rfl, ?_⟩⟩
          try dsimp only
          have s3 := s02.trans (Rd.Same.upd (o := .lst []) hpp)
          have n0 := s02.free hpp
          refine ⟨_, rfl, (ar W : Int), rfl, (by omega), (by omega), for_range (lo := 0) (fun j σ Hc => Same H' Hc ∧ ∃ (en : Nat) (ps : List Tr) (ws : List V) (t6 t7 t8 : Option V), σ = [some (.str z), some (.int i), some (.int (en : Int)), some (.str W), some (.int (ar W)), some (.ref pp), t6, t7, t8] ∧ en ≤ z.length ∧ Hc pp = some (.lst ws) ∧ TsAt Hc ps ws ∧ ps.length = j ∧ MI n (cs.drop ((wd cs).length + 1)) (ar W) ps (z.cps.toList.drop en)) ?_ ?_ ?_⟩
          · exact ⟨s3, ee + 1, [], [], _, _, _, rfl, by omega, upd_same, ⟨rfl, fun i t v h => by cases h⟩, rfl, hd1.symm⟩
          · rintro j σ Hc hj ⟨sc, en, ps, ws, t6, t7, t8, rfl, hen, hpc, hts, hlj, hmi⟩
            have hj : j < ar W := by simpa using hj
            refine gName_k ?_
            try dsimp only
            have hsf := cnt_suf hmi.suf
            cases hr2 : rdA n (z.cps.toList.drop en) with
            | mk o rs =>
              refine ⟨_, rfl, _, rfl, z, en, rfl, hen, hz, (by omega), fun q v jj Hd sd hq hjl hdj hopt => ⟨q, _, rfl, SqT.of hq, rfl, v, _, rfl, .int jj, _, rfl, rfl, ?_⟩⟩
              rw [hr2] at hdj hopt
              replace hdj : z.cps.toList.drop jj = rs := hdj
              try dsimp only
              refine seqJoin (fun σ' H2 => H2 = Hd ∧ σ' = [some (.str z), some (.int i), some (.int (jj : Int)), some (.str W), some (.int (ar W)), some (.ref pp), some (.int (0 + (j : Int))), some v, some (.str (if j < ar W - 1 then ", " else ")"))]) (fun K2 hK2 => ?_) ?_
              · refine ⟨_, rfl, _, rfl, _, _, rfl, rfl, _, _, rfl, rfl, _, rfl, ite2 (fun hu => ?_) (fun hu => ?_)⟩
                · have hu := of_decide_eq_true hu
                  refine hK2 _ _ ⟨rfl, ?_⟩
                  rw [if_pos (by omega)]
                  rfl
                · have hu : ¬ (0 + (j : Int) < (ar W : Int) - 1) := fun z => hu (decide_eq_true z)
                  refine hK2 _ _ ⟨rfl, ?_⟩
                  rw [if_neg (by omega)]
                  rfl
              · rintro σ' H2' ⟨rfl, rfl⟩
                generalize hG : (if j < ar W - 1 then ", " else ")" : Str) = G
                have gl : G.cps.toList = (if ps.length < ar (ofC (wd cs)) - 1 then [44, 32] else [41] : List Nat) ∧ G.length ≤ 2 := by
                  rw [hW, hlj, ← hG]
                  split
                  · exact ⟨by decide +kernel, by decide⟩
                  · exact ⟨by decide +kernel, by decide⟩
                have hGl := len_list G
                have ecut2 : decide (V.str (cutS z (some (jj : Int)) (some ((jj : Int) + (G.length : Int)))) = V.str G) = sw rs G.cps.toList := by
                  rw [show (jj : Int) + (G.length : Int) = ((jj + G.length : Nat) : Int) by omega, cut_sw hjl, hdj]
                have sd' := sc.trans sd
                have bad : rdA (n + 1) cs = (none, rs) → ∀ {H5 : Hp}, Same H2' H5 → ∃ v', ([some (V.str z), some (.int i), some (.int (jj : Int)), some (.str W), some (.int (ar W)), some (.ref pp), some (.int (0 + (j : Int))), some v, some (.str G)] : St)[2]? = some (some v') ∧ ([V.non, v'] : List V).length ≤ sizeLine ∧ ∀ p, H5 p = none → Q (.ref p) (upd H5 p (.tup [.non, v'])) := fun e {H5} s5 =>
                  ⟨_, rfl, (by show 2 ≤ sizeLine; decide), fun q5 hq5 => k q5 .non jj _ ((sd'.trans s5).trans (Rd.Same.upd hq5)) upd_same hjl (by rw [e]; exact hdj) (by rw [e]; rfl)⟩
                cases o with
                | none =>
                  have hv : v = .non := hopt
                  subst hv
                  refine seqIf (b := true) (tb_or (b := true) (c := true) (fun Q2 kq => ⟨_, rfl, rfl, _, rfl, kq _ (Same.refl _)⟩) (fun _ _ z => by cases z)) fun H5 s5 => iteT ?_
                  exact bad (MI.fail hg' (by rw [hW]; exact hmi) (by rw [hW, hlj]; exact hj) hr2 (.inl rfl)) s5
                | some t =>
                  have hv : IsT H2' t v := hopt
                  obtain ⟨pv, us, rfl, hpv⟩ := hv.hd
                  refine seqIf (b := (false || !sw rs G.cps.toList)) (tb_or (b := false) (c := !sw rs G.cps.toList) (fun Q2 kq => ⟨_, rfl, rfl, _, rfl, kq _ (Same.refl _)⟩) (fun H5 s5 _ Q2 kq => ⟨_, rfl, _, rfl, _, rfl, _, rfl, _, rfl, G, rfl, (by omega), _, _, rfl, rfl, _, rfl, z, rfl, (by omega), _, rfl, rfl, _, rfl, ?_⟩)) fun H5 s5 => ?_
                  · show Q2 (!decide (V.str (cutS z (some (jj : Int)) (some ((jj : Int) + (G.length : Int)))) = V.str G)) H5
                    rw [ecut2]
                    exact kq _ (Same.refl _)
                  rw [Bool.false_or]
                  cases hsw : sw rs G.cps.toList with
                  | false =>
                    refine iteT ?_
                    refine bad (MI.fail hg' (by rw [hW]; exact hmi) (by rw [hW, hlj]; exact hj) hr2 (.inr ?_)) s5
                    rw [← gl.1]
                    exact hsw
                  | true =>
                    refine iteF (nxt ?_)
                    try dsimp only
                    have hpd := s5 _ _ (sd _ _ hpc)
                    have hlw := hts.len
                    refine ⟨_, rfl, .inl ⟨rfl, _, SqL.of hpd⟩, _, rfl, pp, ws, .ref pv, rfl, rfl, hpd, (by omega), ?_⟩
                    refine ⟨_, rfl, _, rfl, G, rfl, (by omega), _, _, rfl, rfl, ?_⟩
                    have kp := Kp.upd_lst (C := 0) (ys := ws ++ [V.ref pv]) hpd
                    have hstep := MI.step (by exact ar2) hmi (by rw [hlj]; exact hj) hr2 (by rw [← hW, ← gl.1]; exact hsw)
                    have elen := congrArg List.length (of_decide_eq_true hsw)
                    have hrl : rs.length = z.length - jj := by rw [← hdj, List.length_drop]; omega
                    rw [List.length_take] at elen
                    refine ⟨fun c o e => ?_, jj + G.length, ps ++ [t], ws ++ [.ref pv], some (.int (0 + (j : Int))), some (.ref pv), some (.str G), ?_, (by omega), upd_same, (((hts.same (sd.trans s5)).mono kp)).app (TsAt.one ((hv.same s5).mono kp)), (by rw [List.length_append, hlj]; rfl), ?_⟩
                    · rw [upd_ne (ne_of_none e n0)]
                      exact s5 _ _ (sd' _ _ e)
                    · show [some (V.str z), some (V.int i), some (V.int ((jj : Int) + (G.length : Int))), some (V.str W), some (V.int (ar W)), some (V.ref pp), some (V.int (0 + (j : Int))), some (V.ref pv), some (V.str G)] = _
                      rw [show (jj : Int) + (G.length : Int) = ((jj + G.length : Nat) : Int) by omega]
                    · have g2 := gl.1
                      rw [hW] at g2
                      rw [← g2] at hstep
                      rw [show z.cps.toList.drop (jj + G.length) = rs.drop G.cps.toList.length by rw [← List.drop_drop, hdj, hGl]]
                      exact hstep
          · rintro σ Hc ⟨sc, en, ps, ws, t6, t7, t8, rfl, hen, hpc, hts, hlj, hmi⟩
            have hlj : ps.length = ar W := by simpa using hlj
            have full := MI.full hg' (by rw [hW]; exact hmi) (by rw [hW]; exact hlj)
            rw [hW] at full
            have hlw := hts.len
            try dsimp only
            have big2 : 100 ≤ sizeLine := by decide
            have fin : ∀ {R : VK} {H1 : Hp}, (∀ v H5, Same Hc H5 → (∀ t, madeF W ps = some t → IsT H5 t v) → R v H5) → Same Hc H1 → ws ≠ [] → (∀ t, madeF W ps = some t → ∀ p H2, Same H1 H2 → H2 p = some (.tup (.str W :: ws)) → IsT H2 t (.ref p)) →
                ∀ q : Addr, H1 q = none → ∃ p ys, [V.ref pp] = [.ref p] ∧ ((SqL K (upd H1 q (.tup [.str W])) p ys ∧ ∀ l', upd H1 q (.tup [.str W]) l' = none → rCatT K (.ref q) (.ref l') (upd (upd H1 q (.tup [.str W])) l' (.tup ys)) R) ∨ (SqT K (upd H1 q (.tup [.str W])) p ys ∧ rCatT K (.ref q) (.ref p) (upd H1 q (.tup [.str W])) R)) := fun {R H1} kR s1 hne hm q hq => by
              have sq := Rd.Same.upd (o := .tup [.str W]) hq
              refine ⟨pp, ws, rfl, .inl ⟨SqL.of (sq _ _ (s1 _ _ hpc)), fun l' hl' => ?_⟩⟩
              have sl := Rd.Same.upd (o := .tup ws) hl'
              have hwl : ws.length ≤ 2 := by
                rw [hlw, hlj]
                rcases ar2 with e | e <;> rw [e] <;> decide
              refine ⟨q, l', [.str W], ws, rfl, rfl, SqT.of (sl _ _ upd_same), SqT.of upd_same, (fun e => by cases e), (by show 1 + ws.length ≤ sizeLine; omega), fun e => absurd e hne, fun _ p hp => ?_⟩
              have sp := Rd.Same.upd (o := .tup ([.str W] ++ ws)) hp
              exact kR (.ref p) _ (((s1.trans sq).trans sl).trans sp) fun t ht => hm t ht p _ ((sq.trans sl).trans sp) upd_same
            have endk : ∀ {v : V} {H5 : Hp}, Same Hc H5 → OptT H5 (madeF W ps) v → tCons (tVar 2) tNil [some (.str z), some (.int i), some (.int (en : Int)), some (.str W), some (.int (ar W)), some (.ref pp), t6, t7, t8] H5 fun vs H4 => (v :: vs).length ≤ sizeLine ∧ ∀ p, H4 p = none → Q (.ref p) (upd H4 p (.tup (v :: vs))) := fun {v H5} s5 hv =>
              ⟨_, rfl, (by show 2 ≤ sizeLine; decide), fun q5 hq5 => k q5 v en _ ((sc.trans s5).trans (Rd.Same.upd hq5)) upd_same hen (by rw [full]) (by rw [full]; exact OptT.keep hv (Rd.Same.upd hq5))⟩
            by_cases h2 : W ∈ (["pair", "seal", "lock"] : List Str)
            · obtain ⟨a, b, rfl⟩ : ∃ a b, ps = [a, b] := by
                have e : ar W = 2 := if_pos h2
                rw [e] at hlj
                match ps, hlj with
                | [a, b], _ => exact ⟨a, b, rfl⟩
              obtain ⟨v1, v2, rfl⟩ : ∃ v1 v2, ws = [v1, v2] := by
                match ws, hts.len with
                | [v1, v2], _ => exact ⟨v1, v2, rfl⟩
              have i1 := hts.get 0 a v1 rfl rfl
              have i2 := hts.get 1 b v2 rfl rfl
              have bip : ∀ {H1 : Hp}, Same Hc H1 → ∀ t, madeF W [a, b] = some t → ∀ p H2, Same H1 H2 → H2 p = some (.tup (.str W :: [v1, v2])) → IsT H2 t (.ref p) := fun {H1} s1 t ht p H2 s2 hp => by
                rw [madeF2] at ht
                split at ht
                · cases ht
                · cases ht
                  exact ⟨p, v1, v2, rfl, hp, i1.same (s1.trans s2), i2.same (s1.trans s2)⟩
              by_cases hlk : W = "lock"
              · obtain ⟨p2, us, rfl, hp2⟩ := i2.hd
                refine seqIf (b := !isKey b) (fun R r => ⟨_, rfl, rfl, _, rfl, ?_⟩) fun H1 s1 => ?_
                · refine iteP (by rw [hlk]; decide +kernel) ?_
                  refine ⟨_, rfl, pp, _, _, _, rfl, rfl, SqL.of hpc, at_of (j := 1) rfl rfl, p2, _, _, _, rfl, rfl, SqT.of hp2, at_of (j := 0) rfl rfl, (by show 2 ≤ sizeLine; decide), fun q hq => ?_⟩
                  exact ⟨_, q, ["open", "own"], rfl, rfl, SqT.of upd_same, _, rfl, r _ (Rd.Same.upd hq)⟩
                · cases hk : isKey b with
                  | false =>
                    refine iteT (endk s1 ?_)
                    rw [madeF2, if_pos ⟨hlk, hk⟩]
                    rfl
                  | true =>
                    refine iteF (nxt ?_)
                    try dsimp only
                    refine ⟨_, rfl, (by show 1 ≤ sizeLine; decide), fun q hq => ⟨_, rfl, fin (fun v H5 s5 hv => endk s5 ?_) s1 (fun e => by cases e) (bip s1) q hq⟩⟩
                    rw [madeF2, if_neg (fun h => by rw [hk] at h; cases h.2)] at hv ⊢
                    exact hv _ rfl
              · refine seqIf (b := false) (fun R r => ⟨_, rfl, rfl, _, rfl, iteN (fun h => hlk (by have := of_decide_eq_true h; cases this; rfl)) (r _ (Same.refl _))⟩) fun H1 s1 => iteF (nxt ?_)
                try dsimp only
                refine ⟨_, rfl, (by show 1 ≤ sizeLine; decide), fun q hq => ⟨_, rfl, fin (fun v H5 s5 hv => endk s5 ?_) s1 (fun e => by cases e) (bip s1) q hq⟩⟩
                rw [madeF2, if_neg (fun h => hlk h.1)] at hv ⊢
                exact hv _ rfl
            · obtain ⟨a, rfl⟩ : ∃ a, ps = [a] := by
                have e : ar W = 1 := if_neg h2
                rw [e] at hlj
                match ps, hlj with
                | [a], _ => exact ⟨a, rfl⟩
              obtain ⟨v1, rfl⟩ : ∃ v1, ws = [v1] := by
                match ws, hts.len with
                | [v1], _ => exact ⟨v1, rfl⟩
              have i1 := hts.get 0 a v1 rfl rfl
              have hlk : W ≠ "lock" := fun e => h2 (by rw [e]; decide +kernel)
              refine seqIf (b := false) (fun R r => ⟨_, rfl, rfl, _, rfl, iteN (fun h => hlk (by have := of_decide_eq_true h; cases this; rfl)) (r _ (Same.refl _))⟩) fun H1 s1 => iteF (nxt ?_)
              try dsimp only
              refine ⟨_, rfl, (by show 1 ≤ sizeLine; decide), fun q hq => ⟨_, rfl, fin (fun v H5 s5 hv => endk s5 (hv _ rfl)) s1 (fun e => by cases e) (fun t ht p H2 s2 hp => ?_) q hq⟩⟩
              cases ht
              exact ⟨p, v1, rfl, hp, i1.same (s1.trans s2)⟩
      · have hst := rdA_stop (n := n) (cs := cs) (by rw [hW]; exact hg)
        have fin : ∀ {H2 : Hp}, Same H' H2 → spA kindOf [.str W] H2 (fun v H3 => tCons (tVar 2) tNil [some (.str z), some (.int i), some (.int (ee : Int)), some (.str W), some (if W ∈ SG then .int (ar W) else .int 0), none, none, none, none] H3 fun vs H4 => (v :: vs).length ≤ sizeLine ∧ ∀ p, H4 p = none → Q (.ref p) (upd H4 p (.tup (v :: vs)))) E0 := fun {H2} s2 => by
          refine ⟨W, rfl, (by omega), fun H3 s3 en => ⟨_, rfl, (by show 2 ≤ sizeLine; decide), fun q hq => ?_⟩, fun k' y p3 H3 s3 es np3 hp3 => ⟨_, rfl, (by show 2 ≤ sizeLine; decide), fun q hq => ?_⟩⟩
          · refine k q .non ee _ ((s2.trans s3).trans (Rd.Same.upd hq)) upd_same hel (by rw [hst, hdrop]) ?_
            rw [hst, hW, ← kind_is, en]
            rfl
          · refine k q (.ref p3) ee _ ((s2.trans s3).trans (Rd.Same.upd hq)) upd_same hel (by rw [hst, hdrop]) ?_
            rw [hst, hW, ← kind_is, es]
            exact ⟨p3, rfl, (Rd.Same.upd hq) _ _ hp3⟩
        by_cases h40 : sw (cs.drop (wd cs).length) [40] = true
        · have hns : W ∉ SG := fun z => hg ⟨z, h40⟩
          refine seqIf (b := (false || true)) (tb_or (b := false) (c := true) (fun Q2 kq => ⟨_, rfl, _, rfl, _, rfl, _, rfl, _, _, rfl, rfl, _, rfl, z, rfl, (by omega), rfl, _, rfl, ?_⟩) (fun H2 s2 _ Q2 kq => ⟨_, rfl, ?_⟩)) fun H2 s2 => iteT ⟨_, rfl, fin (s1.trans s2)⟩
          · show Q2 (!decide (V.str (cutS z (some (ee : Int)) (some ((ee : Int) + 1))) = V.str "(")) H1
            rw [ee1, e40, ← hdrop, h40]
            exact kq _ (Same.refl _)
          · rw [if_neg hns]
            exact ⟨rfl, _, rfl, kq _ (Same.refl _)⟩
        · refine seqIf (b := (true || true)) (tb_or (b := true) (c := true) (fun Q2 kq => ⟨_, rfl, _, rfl, _, rfl, _, rfl, _, _, rfl, rfl, _, rfl, z, rfl, (by omega), rfl, _, rfl, ?_⟩) (fun _ _ z => by cases z)) fun H2 s2 => iteT ⟨_, rfl, fin (s1.trans s2)⟩
          show Q2 (!decide (V.str (cutS z (some (ee : Int)) (some ((ee : Int) + 1))) = V.str "(")) H1
          rw [ee1, e40, ← hdrop, Bool.eq_false_iff.mpr h40]
          exact kq _ (Same.refl _)
theorem rdAt_none (T : Tx w K mg) : Fk P w K mg base CX0 1 "_law_read_at" ["_law_text_here", "_law_at"] (spRA 0) := by
  refine T.F__law_read_at.ok0 sc__law_read_at (fun _ _ _ _ _ _ us hl => match us, hl with | [_, _], _ => rfl) (fun vs H Q E h => h.elim) (fun cdv A outer s H vs Q E hr h => h.elim)
theorem ok__law_read_at (T : Tx w K mg) : ∀ n, Fk P w K mg base CX0 (n + 2) "_law_read_at" ["_law_text_here", "_law_at"] (sp_rdAt n)
  | 0 => rdAt_step T 0 (rdAt_none T)
  | n + 1 => rdAt_step T (n + 1) (ok__law_read_at T n)
end
end Rd
namespace Rd
open PySem L2
theorem cnt_app (a b : List Nat) : cnt (a ++ b) = cnt a + cnt b := List.count_append
theorem cut_sub (z : Str) (lo hi : Option Int) : (cutS z lo hi).cps.toList.Sublist z.cps.toList := by
  show ((z.cps.toList.drop (HT.sIx z.length 0 lo)).take (HT.sIx z.length z.length hi - HT.sIx z.length 0 lo)).toArray.toList.Sublist _
  rw [List.toList_toArray]
  exact (List.take_sublist _ _).trans (List.drop_sublist _ _)
theorem cut_cnt (z : Str) (lo hi : Option Int) : cnt (cutS z lo hi).cps.toList ≤ cnt z.cps.toList := (cut_sub z lo hi).count_le 40
theorem cut_two (z : Str) (a : Nat) : (cutS z none (some (a : Int))).length + (cutS z (some (a : Int)) none).length = z.length ∧ cnt (cutS z none (some (a : Int))).cps.toList + cnt (cutS z (some (a : Int)) none).cps.toList = cnt z.cps.toList := by
  refine ⟨?_, ?_⟩
  · rw [len_list, len_list, len_list z, cutS_to, cutS_from, List.length_take, List.length_drop]
    omega
  · rw [cutS_to, cutS_from, ← cnt_app, List.take_append_drop]
theorem cut_next (z : Str) (a : Nat) : (cutS z (some ((a : Int) + 1)) none).length ≤ (cutS z (some (a : Int)) none).length ∧ cnt (cutS z (some ((a : Int) + 1)) none).cps.toList ≤ cnt (cutS z (some (a : Int)) none).cps.toList := by
  rw [show ((a : Int) + 1) = ((a + 1 : Nat) : Int) by omega]
  refine ⟨?_, ?_⟩
  · rw [len_list, len_list, cutS_from, cutS_from, List.length_drop, List.length_drop]
    omega
  · rw [cutS_from, cutS_from, ← List.drop_drop]
    exact (List.drop_sublist 1 _).count_le 40
theorem cut_one (z : Str) (a : Nat) : (cutS z (some (a : Int)) (some ((a : Int) + 1))).length ≤ 1 ∧ cnt (cutS z (some (a : Int)) (some ((a : Int) + 1))).cps.toList ≤ 1 := by
  have e : (cutS z (some (a : Int)) (some ((a : Int) + 1))).cps.toList.length ≤ 1 := by
    show ((z.cps.toList.drop (HT.sIx z.length 0 (some (a : Int)))).take (HT.sIx z.length z.length (some ((a : Int) + 1)) - HT.sIx z.length 0 (some (a : Int)))).toArray.toList.length ≤ _
    rw [show ((a : Int) + 1) = ((a + 1 : Nat) : Int) by omega, List.toList_toArray, HT.sIx_nat, HT.sIx_nat, List.length_take]
    omega
  exact ⟨by rw [len_list]; exact e, Nat.le_trans List.count_le_length e⟩
def shortC : V → Bool
  | .str z => decide (z.length ≤ 10) && decide (cnt z.cps.toList ≤ 1)
  | _ => false
theorem shortC_of {us : List V} {v : V} (h : v ∈ us) (ha : us.all shortC = true) : ∃ z : Str, v = V.str z ∧ z.length ≤ 10 ∧ cnt z.cps.toList ≤ 1 := by
  have h1 := List.all_eq_true.mp ha v h
  cases v with
  | str z =>
    obtain ⟨h2, h3⟩ := He.ba (show (decide (z.length ≤ 10) && decide (cnt z.cps.toList ≤ 1)) = true from h1)
    exact ⟨z, rfl, of_decide_eq_true h2, of_decide_eq_true h3⟩
  | _ => cases h1
def sp_lread : Sp := fun vs H Q _ => ∃ (z : Str), vs = [.str z] ∧ z.length ≤ 3900 ∧ cnt z.cps.toList ≤ 20 ∧ ∀ v H', Same H H' → OptT H' (rdW 20 z.cps.toList) v → Q v H'
def sp_spoilt : Sp := fun vs H Q _ => ∃ (p : Addr) (xs : List V) (n : Nat) (z : Str), vs = [.ref p, .str z] ∧ H p = some (.lst xs) ∧ StL (n + 4) xs ∧ z.length ≤ 3000 ∧
  ∀ (z' : Str) ys H', But p H H' → H' p = some (.lst ys) → StL n ys → z'.length ≤ z.length + 10 → cnt z'.cps.toList ≤ cnt z.cps.toList + 1 → Q (.str z') H'
def sp_ltold : Sp := fun vs H Q _ => ∃ (z : Str), vs = [.str z] ∧ z.length ≤ 3900 ∧ cnt z.cps.toList ≤ 20 ∧
  (∀ t, rdW 20 z.cps.toList = some t → ∀ q v H', Same H H' → H' q = some (.tup [.str "read", v]) → IsT H' t v → Q (.ref q) H') ∧ (rdW 20 z.cps.toList = none → ∀ q H', Same H H' → H' q = some (.tup [.str "refused", .int 1]) → Q (.ref q) H')
section
variable {P : Program} {w : World} {K : PySem.W.Frag} {mg : Str → Option Value} {base : Heap}
abbrev s__law_read : Stmt := top 34
theorem sc__law_read : FnScope ["_law_text_here", "_law_form_here", "_law_end"] ["_law_text_here"] (defScope s__law_read) := ⟨rfl, rfl, rfl, by decide +kernel, rfl, by decide +kernel, by decide +kernel⟩
theorem ok__law_read (T : Tx w K mg) : Fk P w K mg base CX0 23 "_law_read" ["_law_text_here"] sp_lread := by
  refine T.F__law_read.ok0 sc__law_read (fun _ _ _ _ _ _ us hl => match us, hl with | [_], _ => rfl)
    (fun vs H Q E h => ?_) (fun cdv A outer s H vs Q E hr h => ?_)
  · obtain ⟨z, rfl, _⟩ := h
    rfl
  · obtain ⟨z, rfl, hz, hc, k⟩ := h
    refine ⟨_, (pss_cons (ps_asg (pe_fk (ok__law_read_at T 20) (hr.mono (by omega)) rfl pass0 (pa_cons (pv 0) (pa_cons pe_int pa_nil))) (pg_tup rfl (pgs_cons (pg_name (i := 1) sc__law_read.nd rfl (Or.inl rfl)) (pgs_cons (pg_name (i := 2) sc__law_read.nd rfl (Or.inl rfl)) pgs_nil))))
  (pss_one (ps_ret (pe_ifExp (pt_cmpR op_eq (pv 2) (pe_callB call_len_str (by rfl) T.z_len (by decide +kernel) (pa_cons (pv 0) pa_nil)) (nomark _)) (pv 1) pe_non)))), ?_⟩
    have big : 200010 ≤ sizeLine := by decide
    refine ⟨_, rfl, z, 0, rfl, Nat.zero_le _, hz, hc, fun q v jj H1 s1 hq hjl hdj hopt => ⟨q, _, rfl, SqT.of hq, rfl, v, _, rfl, .int jj, _, rfl, rfl, ?_⟩⟩
    try dsimp only
    have l1 := len_list z
    have e1 : (rdA 20 (z.cps.toList.drop 0)).2 = [] ↔ jj = z.length := by
      rw [← hdj, List.drop_eq_nil_iff]
      omega
    rw [List.drop_zero] at e1 hopt
    refine retIf (b := decide (jj = z.length)) (fun R r => ⟨_, rfl, _, rfl, z, rfl, (by omega), rfl, _, rfl, ?_⟩) fun H2 s2 => ?_
    · rw [show decide (V.int (jj : Int) = V.int (z.length : Int)) = decide (jj = z.length) by
        by_cases e : jj = z.length
        · rw [decide_eq_true e, e, decide_eq_true rfl]
        · rw [decide_eq_false e, decide_eq_false (fun q => e (by have := V.int.inj q; omega))]]
      exact r _ (Same.refl _)
    · by_cases e : jj = z.length
      · rw [decide_eq_true e]
        refine iteT ⟨_, rfl, k v _ (s1.trans s2) ?_⟩
        rw [rdW, if_pos (e1.mpr e)]
        exact hopt.keep s2
      · rw [decide_eq_false e]
        refine iteF (k .non _ (s1.trans s2) ?_)
        rw [rdW, if_neg (fun q => e (e1.mp q))]
        rfl
abbrev s__law_told : Stmt := top 36
theorem sc__law_told : FnScope ["_law_text_here", "e"] ["_law_text_here"] (defScope s__law_told) := ⟨rfl, rfl, rfl, by decide +kernel, rfl, by decide +kernel, by decide +kernel⟩
theorem ok__law_told (T : Tx w K mg) : Fk P w K mg base CX0 12 "_law_told" ["_law_text_here"] sp_ltold := by
  refine T.F__law_told.ok0 sc__law_told (fun _ _ _ _ _ _ us hl => match us, hl with | [_], _ => rfl)
    (fun vs H Q E h => ?_) (fun cdv A outer s H vs Q E hr h => ?_)
  · obtain ⟨z, rfl, _⟩ := h
    rfl
  · obtain ⟨z, rfl, hz, hc, k1, k0⟩ := h
    refine ⟨_, (pss_one (L2N.ps_try_as (tb := fun W => tRet (tTup (tCons (tC (.str "read")) (tCons (tMeth (He.ga K "Letter") "form" (sp_form K) [] E0 (tCallS (sp_read K) (WE W) (tCons (tVar 0) tNil)) tNil) tNil)))) (ts := fun a cls d => tRet (tTup (tCons (tC (.str "refused")) (tCons (tXf a cls d (He.ga K "BadText") "line" (tVar 1)) tNil)))) (i := 1) rfl rfl sc__law_told.nd rfl rfl ⟨rfl, by decide, .inl T.X_BadText.g⟩ takes0N (fun W pn xe tk _ => (pss_one (ps_ret (pe_tup (pa_cons pe_str (pa_cons (pe_fm0 (pe_fs (ok_read T) (hr.mono (by omega)) rfl (fun σ => L2N.passAt tk σ) (pa_cons (pv 0) pa_nil)) T.k_Letter (ok_form T) (hr.mono (by omega)) pass0) pa_nil)))))) (fun a oe cls d pn hz hf => (pss_one (ps_ret (pe_tup (pa_cons pe_str (pa_cons (pe_xf T.X_BadText.xf T.X_BadText.no hz.zc hf (pv 1)) pa_nil)))))))), ?_⟩
    obtain ⟨n, hW⟩ := rdW_wh (n := 20) hc
    refine ⟨_, rfl, z, rdW 20 z.cps.toList, n, rfl, (by omega), hW, fun t e v H1 s1 hl => ?_, fun e d H1 s1 hd => ?_⟩
    · obtain ⟨x, u, rfl, ⟨dx, hx⟩, iu⟩ := hl
      exact ⟨x, dx, _, rfl, hx, lookT (by decide +kernel), x, u, rfl, ⟨dx, hx⟩, (by show 2 ≤ sizeLine; decide), fun q hq => k1 t e q u _ (Rd.Same.upd' s1 hq) upd_same (iu.same (Rd.Same.upd hq))⟩
    · refine ⟨true, T.X_BadText.em, fun _ i hi => ?_, fun q => by cases q⟩
      exact ⟨_, rfl, rfl, rfl, d, _, _, rfl, hd, lookX _, (by show 2 ≤ sizeLine; decide), fun q hq => k0 e q _ (Rd.Same.upd' s1 hq) upd_same⟩
end
end Rd
namespace Rd
open PySem L2
section
variable {P : Program} {w : World} {K : PySem.W.Frag} {mg : Str → Option Value} {base : Heap}
abbrev s__law_spoilt : Stmt := top 35
theorem sc__law_spoilt : FnScope ["_law_stream_here", "_law_text_here", "_law_at", "_law_sign", "_law_way", "_law_some"] ["_law_stream_here", "_law_text_here"] (defScope s__law_spoilt) := ⟨rfl, rfl, rfl, by decide +kernel, rfl, by decide +kernel, by decide +kernel⟩
theorem ok__law_spoilt (T : Tx w K mg) : Fk P w K mg base CX0 3 "_law_spoilt" ["_law_stream_here", "_law_text_here"] sp_spoilt := by
  refine T.F__law_spoilt.ok0 sc__law_spoilt (fun _ _ _ _ _ _ us hl => match us, hl with | [_, _], _ => rfl)
    (fun vs H Q E h => ?_) (fun cdv A outer s H vs Q E hr h => ?_)
  · obtain ⟨p, xs, n, z, rfl, _⟩ := h
    rfl
  · obtain ⟨p, xs, n, z, rfl, hp, hx, hz, k⟩ := h
    have L : 200010 ≤ sizeLine := by decide
    have hl : z.length ≤ sizeLine := by omega
    refine ⟨_, (pss_cons (ps_set (i := 2) sc__law_spoilt.nd rfl (Or.inl rfl) (pe_fk (ok__law_draw T) (hr.mono (by omega)) rfl pass0 (pa_cons (pv 0) (pa_cons (pe_op op_add (pe_callB call_len_str (by rfl) T.z_len (by decide +kernel) (pa_cons (pv 1) pa_nil)) pe_int) pa_nil))))
  (pss_cons (ps_set (i := 3) sc__law_spoilt.nd rfl (Or.inl rfl) (pe_fk (ok__law_pick T) (hr.mono (by omega)) rfl pass0 (pa_cons (pv 0) (pa_cons (pe_op op_cat (pe_callTy (call_list_text rfl) (by rfl) T.z_list (by decide +kernel) (pa_cons pe_str pa_nil)) (pe_lst (pa_cons pe_str (pa_cons pe_str (pa_cons pe_str (pa_cons pe_str (pa_cons pe_str (pa_cons pe_str pa_nil)))))))) pa_nil))))
  (pss_cons (ps_set (i := 4) sc__law_spoilt.nd rfl (Or.inl rfl) (pe_fk (ok__law_draw T) (hr.mono (by omega)) rfl pass0 (pa_cons (pv 0) (pa_cons pe_int pa_nil))))
  (pss_cons (ps_if (pt_cmpR op_eq (pv 4) pe_int (nomark _))
  (pss_one (ps_ret (pe_op op_add_str (pe_slice sl_str (pv 1) po_none (po_some (pv 2))) (pe_slice sl_str (pv 1) (po_some (pe_op op_add (pv 2) pe_int)) po_none))))
  pss_nil)
  (pss_cons (ps_if (pt_cmpR op_eq (pv 4) pe_int (nomark _))
  (pss_one (ps_ret (pe_op op_add_str (pe_op op_add_str (pe_slice sl_str (pv 1) po_none (po_some (pv 2))) (pe_slice sl_str (pv 1) (po_some (pv 2)) (po_some (pe_op op_add (pv 2) pe_int)))) (pe_slice sl_str (pv 1) (po_some (pv 2)) po_none))))
  pss_nil)
  (pss_cons (ps_if (pt_cmpR op_eq (pv 4) pe_int (nomark _))
  (pss_one (ps_ret (pe_op op_add_str (pe_op op_add_str (pe_slice sl_str (pv 1) po_none (po_some (pv 2))) (pv 3)) (pe_slice sl_str (pv 1) (po_some (pv 2)) po_none))))
  pss_nil)
  (pss_cons (ps_if (pt_cmpR op_eq (pv 4) pe_int (nomark _))
  (pss_one (ps_ret (pe_op op_add_str (pe_op op_add_str (pe_slice sl_str (pv 1) po_none (po_some (pv 2))) (pv 3)) (pe_slice sl_str (pv 1) (po_some (pe_op op_add (pv 2) pe_int)) po_none))))
  pss_nil)
  (pss_cons (ps_set (i := 5) sc__law_spoilt.nd rfl (Or.inl rfl) (pe_lst (pa_cons (pe_op op_add_str (pv 1) pe_str) (pa_cons (pe_op op_add_str pe_str (pv 1)) (pa_cons (pe_op op_add_str (pv 1) pe_str) (pa_cons (pe_slice sl_str (pv 1) po_none (po_some (pe_un un_neg pe_int))) (pa_cons pe_str (pa_cons pe_str (pa_cons pe_str (pa_cons pe_str (pa_cons pe_str pa_nil)))))))))))
  (pss_one (ps_ret (pe_fk (ok__law_pick T) (hr.mono (by omega)) rfl pass0 (pa_cons (pv 0) (pa_cons (pe_op op_cat (pv 5) (pe_lst (pa_cons pe_str pa_nil))) pa_nil))))))))))))), ?_⟩
    refine ⟨_, rfl, _, rfl, z, rfl, hl, _, _, rfl, rfl, p, xs, n + 3, _, rfl, hp, hx, by omega, by omega, fun d6 y6 h60 h61 hy6 => ?_⟩
    obtain ⟨at_, rfl⟩ := Int.eq_ofNat_of_zero_le h60
    refine gName_k ?_
    try dsimp only
    have hp6 : upd H p (.lst y6) p = some (.lst y6) := upd_same
    have B6 : But p H (upd H p (.lst y6)) := But.upd
    generalize upd H p (.lst y6) = H6 at hp6 B6
    refine ⟨_, rfl, _, rfl, (by decide), fun l hl6 => ?_⟩
    refine ⟨(by show 6 ≤ sizeLine; decide), fun l2 hl2 => ?_⟩
    have nll : l2 ≠ l := fun z => by rw [z, upd_same] at hl2; cases hl2
    have hl2' : H6 l2 = none := by rw [upd_ne nll] at hl2; exact hl2
    refine ⟨l, l2, _, _, rfl, rfl, by rw [upd_ne (Ne.symm nll), upd_same], upd_same, (by show 16 ≤ sizeLine; decide), fun l3 hl3 => ?_⟩
    have n32 : l3 ≠ l2 := fun z => by rw [z, upd_same] at hl3; cases hl3
    have n31 : l3 ≠ l := fun z => by rw [z, upd_ne (Ne.symm nll), upd_same] at hl3; cases hl3
    have hl3' : H6 l3 = none := by rw [upd_ne n32, upd_ne n31] at hl3; exact hl3
    have np : p ≠ l := ne_of_none hp6 hl6
    have np2 : p ≠ l2 := ne_of_none hp6 hl2'
    have np3 : p ≠ l3 := ne_of_none hp6 hl3'
    refine rd_pick (n := n + 2) (by rw [upd_ne np3, upd_ne np2, upd_ne np]; exact hp6) hy6 upd_same (Ne.symm np3) (by show 0 < 16; decide) (by show 16 ≤ 1000; decide) fun v H8 y8 hv b8 hp8 hy8 => ?_
    obtain ⟨sg, rfl, hsg, hsc⟩ := shortC_of hv (by decide +kernel)
    have B8 : But p H H8 := B6.trans ((((But.new hl6).trans (But.new hl2)).trans (But.new hl3)).trans b8)
    refine gName_k ?_
    try dsimp only
    refine seqAsg (rd_draw (m := 5) (n := n + 1) (by rfl) hp8 hy8 (by decide) (by decide) fun d5 H9 y9 hd5 b9 hp9 hy9 => ?_)
    have B9 : But p H H9 := B8.trans b9
    refine gName_k ?_
    try dsimp only
    have c1 := cutS_len z none (some (at_ : Int))
    obtain ⟨c2, c2'⟩ := cut_two z at_
    obtain ⟨c3, c3'⟩ := cut_next z at_
    obtain ⟨c4, c4'⟩ := cut_one z at_
    generalize eA : cutS z none (some (at_ : Int)) = za at c1 c2 c2'
    generalize eB : cutS z (some (at_ : Int)) none = zb at c2 c2' c3 c3'
    generalize eC : cutS z (some ((at_ : Int) + 1)) none = zc at c3 c3'
    generalize eD : cutS z (some (at_ : Int)) (some ((at_ : Int) + 1)) = zd at c4 c4'
    refine ⟨_, rfl, rfl, _, rfl, ite2 (fun _ => ?_) (fun _ => ?_)⟩
    · refine ⟨_, rfl, _, rfl, _, rfl, z, rfl, hl, _, rfl, _, rfl, _, _, rfl, rfl, _, rfl, z, rfl, hl, _, _, rfl, rfl, ?_, ?_⟩
      · rw [eA, eC]
        omega
      · rw [eA, eC]
        refine k _ y9 H9 B9 hp9 (hy9.mono (by omega)) ?_ ?_
        · rw [Str.length_append]
          omega
        · rw [app_list, cnt_app]
          omega
    refine ⟨_, rfl, rfl, _, rfl, ite2 (fun _ => ?_) (fun _ => ?_)⟩
    · refine ⟨_, rfl, _, rfl, _, rfl, z, rfl, hl, _, rfl, _, rfl, _, rfl, _, rfl, _, _, rfl, rfl, _, rfl, z, rfl, hl, _, _, rfl, rfl, ?_, _, rfl, _, rfl, _, rfl, z, rfl, hl, _, _, rfl, rfl, ?_, ?_⟩
      · rw [eA, eD]
        omega
      · rw [eA, eB, eD, Str.length_append]
        omega
      · rw [eA, eB, eD]
        refine k _ y9 H9 B9 hp9 (hy9.mono (by omega)) ?_ ?_
        · rw [Str.length_append, Str.length_append]
          omega
        · rw [app_list, app_list, cnt_app, cnt_app]
          omega
    refine ⟨_, rfl, rfl, _, rfl, ite2 (fun _ => ?_) (fun _ => ?_)⟩
    · refine ⟨_, rfl, _, rfl, _, rfl, z, rfl, hl, _, rfl, _, _, rfl, rfl, ?_, _, rfl, _, rfl, _, rfl, z, rfl, hl, _, _, rfl, rfl, ?_, ?_⟩
      · rw [eA]
        omega
      · rw [eA, eB, Str.length_append]
        omega
      · rw [eA, eB]
        refine k _ y9 H9 B9 hp9 (hy9.mono (by omega)) ?_ ?_
        · rw [Str.length_append, Str.length_append]
          omega
        · rw [app_list, app_list, cnt_app, cnt_app]
          omega
    refine ⟨_, rfl, rfl, _, rfl, ite2 (fun _ => ?_) (fun _ => ?_)⟩
    · refine ⟨_, rfl, _, rfl, _, rfl, z, rfl, hl, _, rfl, _, _, rfl, rfl, ?_, _, rfl, _, rfl, _, _, rfl, rfl, _, rfl, z, rfl, hl, _, _, rfl, rfl, ?_, ?_⟩
      · rw [eA]
        omega
      · rw [eA, eC, Str.length_append]
        omega
      · rw [eA, eC]
        refine k _ y9 H9 B9 hp9 (hy9.mono (by omega)) ?_ ?_
        · rw [Str.length_append, Str.length_append]
          omega
        · rw [app_list, app_list, cnt_app, cnt_app]
          omega
    have k' : ∀ (z' : Str) ys H', But p H9 H' → H' p = some (.lst ys) → StL n ys → z'.length ≤ z.length + 10 → cnt z'.cps.toList ≤ cnt z.cps.toList + 1 → Q (.str z') H' := fun z' ys H' b => k z' ys H' (B9.trans b)
    have sp1 : (" " : Str).length = 1 ∧ cnt (" " : Str).cps.toList = 0 ∧ (")" : Str).length = 1 ∧ cnt (")" : Str).cps.toList = 0 := by decide +kernel
    refine ⟨_, rfl, _, _, rfl, rfl, (by have := sp1.1; omega), _, rfl, _, _, rfl, rfl, (by have := sp1.1; omega), _, rfl, _, _, rfl, rfl, (by have := sp1.2.2.1; omega), _, rfl, _, rfl, _, rfl, z, rfl, hl, (by show 9 ≤ sizeLine; decide), fun q hq => ?_⟩
    refine gName_k ?_
    try dsimp only
    refine ⟨_, rfl, _, rfl, (by show 1 ≤ sizeLine; decide), fun l4 hl4 => ?_⟩
    have n4q : l4 ≠ q := fun z => by rw [z, upd_same] at hl4; cases hl4
    have hl4' : H9 l4 = none := by rw [upd_ne n4q] at hl4; exact hl4
    refine ⟨q, l4, _, _, rfl, rfl, by rw [upd_ne (Ne.symm n4q), upd_same], upd_same, (by show 10 ≤ sizeLine; decide), fun l5 hl5 => ?_⟩
    have n54 : l5 ≠ l4 := fun z => by rw [z, upd_same] at hl5; cases hl5
    have n5q : l5 ≠ q := fun z => by rw [z, upd_ne (Ne.symm n4q), upd_same] at hl5; cases hl5
    have hl5' : H9 l5 = none := by rw [upd_ne n54, upd_ne n5q] at hl5; exact hl5
    have np := ne_of_none hp9 hq
    have np4 := ne_of_none hp9 hl4'
    have np5 := ne_of_none hp9 hl5'
    refine rd_pick (n := n) (by rw [upd_ne np5, upd_ne np4, upd_ne np]; exact hp9) hy9 upd_same (Ne.symm np5) (by show 0 < 10; decide) (by show 10 ≤ 1000; decide) fun v H11 y11 hv b11 hp11 hy11 => ?_
    obtain ⟨s1, s2, s3, s4⟩ := sp1
    obtain ⟨z', rfl, hz1, hz2⟩ : ∃ z' : Str, v = V.str z' ∧ z'.length ≤ z.length + 10 ∧ cnt z'.cps.toList ≤ cnt z.cps.toList + 1 := by
      rcases List.mem_cons.mp hv with rfl | hv
      · exact ⟨_, rfl, by rw [Str.length_append]; omega, by rw [app_list, cnt_app]; omega⟩
      rcases List.mem_cons.mp hv with rfl | hv
      · exact ⟨_, rfl, by rw [Str.length_append]; omega, by rw [app_list, cnt_app]; omega⟩
      rcases List.mem_cons.mp hv with rfl | hv
      · exact ⟨_, rfl, by rw [Str.length_append]; omega, by rw [app_list, cnt_app]; omega⟩
      rcases List.mem_cons.mp hv with rfl | hv
      · exact ⟨_, rfl, by have := cutS_len z none (some (-1)); omega, by have := cut_cnt z none (some (-1)); omega⟩
      obtain ⟨z', e, h1, h2⟩ := shortC_of hv (by decide +kernel)
      exact ⟨z', e, by omega, by omega⟩
    exact k' z' y11 H11 ((((But.new hq).trans (But.new hl4)).trans (But.new hl5)).trans b11) hp11 hy11 hz1 hz2
end
end Rd
namespace Rd
open PySem L2
theorem cnt_nb {l : List Nat} (h : l.all nb = true) : cnt l = 0 := by
  refine List.count_eq_zero.mpr fun hm => ?_
  have := List.all_eq_true.mp h 40 hm
  revert this
  decide +kernel
theorem sg_cnt {s : Str} (h : s ∈ SG) : cnt s.cps.toList = 0 := by
  have : ∀ z ∈ SG, cnt z.cps.toList = 0 := by decide +kernel
  exact this s h
theorem sub_sg {l : List Str} {s : Str} (h : s ∈ l) (d : l.all (fun z => decide (z ∈ SG)) = true) : s ∈ SG := of_decide_eq_true (List.all_eq_true.mp d s h)
theorem cnt_un {s : Str} {a : Tr} (h : s ∈ SG) : cnt (txt (.un s a)) = cnt (txt a) + 1 := by
  show cnt (s.cps.toList ++ 40 :: (txt a ++ [41])) = _
  rw [cnt_app, sg_cnt h]
  show 0 + List.count 40 (40 :: (txt a ++ [41])) = List.count 40 (txt a) + 1
  rw [List.count_cons_self, List.count_append]
  show 0 + (List.count 40 (txt a) + 0 + 1) = _
  omega
theorem cnt_bi {s : Str} {a b : Tr} (h : s ∈ SG) : cnt (txt (.bi s a b)) = cnt (txt a) + cnt (txt b) + 1 := by
  show cnt (s.cps.toList ++ 40 :: (txt a ++ 44 :: 32 :: (txt b ++ [41]))) = _
  rw [cnt_app, sg_cnt h]
  show 0 + List.count 40 (40 :: (txt a ++ 44 :: 32 :: (txt b ++ [41]))) = List.count 40 (txt a) + List.count 40 (txt b) + 1
  rw [List.count_cons_self, List.count_append, List.count_cons_of_ne (by decide), List.count_cons_of_ne (by decide), List.count_append]
  show 0 + (List.count 40 (txt a) + (List.count 40 (txt b) + 0) + 1) = _
  omega
theorem cnt_txt {t : Tr} (h : Wf t) : cnt (txt t) = t.nod := by
  induction h with
  | am h => exact cnt_nb (am_text h).1
  | un hs _ ih => rw [cnt_un (sub_sg hs (by decide +kernel)), ih]; rfl
  | bi hs _ _ ih1 ih2 => rw [cnt_bi (sub_sg hs (by decide +kernel)), ih1, ih2]; rfl
  | lk hs _ _ ih1 ih2 => rw [cnt_bi (by decide +kernel), cnt_un (sub_sg hs (by decide +kernel)), ih1, ih2]; rfl
def spLaw (K : PySem.W.Frag) : Sp := fun vs H Q _ => ∃ (a : Addr) (ns : List Int), vs = [.ref a] ∧ SqL K H a (ns.map V.int) ∧ ns.length ≤ 63 ∧ ∀ H', Q (.bl true) H'
section
variable {P : Program} {w : World} {K : PySem.W.Frag} {mg : Str → Option Value} {base : Heap}
abbrev s_law : Stmt := top 37
theorem sc_law : FnScope ["_law_script", "_law_k", "_law_stream_here", "_law_text_here", "_law_turn", "_law_form_here"] ["_law_script"] (defScope s_law) := ⟨rfl, rfl, rfl, by decide +kernel, rfl, by decide +kernel, by decide +kernel⟩
theorem ok_law {f : Addr} {fd : FuncData} (F : FunD K "law" "law" (defArgs s_law) (defBody s_law) (defScope s_law) [] [] f fd) (T : Tx w K mg) : FnOk P w K mg base CX0 30 f fd ["_law_script"] (spLaw K) := by
  refine F.ok sc_law (fun vs H Q E h => ?_) (fun cdv A outer s H vs Q E hr h => ?_)
  · obtain ⟨a, ns, rfl, _⟩ := h
    rfl
  · obtain ⟨a, ns, rfl, hS, hn, k⟩ := h
    refine ⟨_, PSs.nox (pss_cons (ps_for PassesOwn.never rfl (pi_range1 rfl T.z_range (pa_cons pe_int pa_nil)) (pg_name (i := 1) sc_law.nd rfl (Or.inl rfl))
  (pss_cons (ps_set (i := 2) sc_law.nd rfl (Or.inl rfl) (pe_fk (ok__law_stream T) (hr.mono (by omega)) rfl pass0 (pa_cons (pv 0) (pa_cons (pv 1) pa_nil))))
  (pss_cons (ps_set (i := 3) sc_law.nd rfl (Or.inl rfl) (pe_fk (ok__law_text T 6) (hr.mono (by omega)) rfl pass0 (pa_cons (pe_fk (ok__law_form T 3) (hr.mono (by omega)) rfl pass0 (pa_cons (pv 2) (pa_cons (pe_lst (pa_cons pe_str pa_nil)) (pa_cons pe_int pa_nil)))) pa_nil)))
  (pss_cons (ps_for PassesOwn.never rfl (pi_range1 rfl T.z_range (pa_cons (pe_fk (ok__law_draw T) (hr.mono (by omega)) rfl pass0 (pa_cons (pv 2) (pa_cons pe_int pa_nil))) pa_nil)) (pg_name (i := 4) sc_law.nd rfl (Or.inl rfl))
  (pss_one (ps_set (i := 3) sc_law.nd rfl (Or.inl rfl) (pe_fk (ok__law_spoilt T) (hr.mono (by omega)) rfl pass0 (pa_cons (pv 2) (pa_cons (pv 3) pa_nil))))))
  (pss_cons (ps_set (i := 5) sc_law.nd rfl (Or.inl rfl) (pe_fk (ok__law_read T) (hr.mono (by omega)) rfl pass0 (pa_cons (pv 3) pa_nil)))
  (pss_one (ps_if (pt_cmpR (op_neD hr.units) (pe_fk (ok__law_told T) (hr.mono (by omega)) rfl pass0 (pa_cons (pv 3) pa_nil)) (pe_ifExp (pt_cmpR op_isN (pv 5) pe_non (nomark _)) (pe_tup (pa_cons pe_str (pa_cons pe_int pa_nil))) (pe_tup (pa_cons pe_str (pa_cons (pv 5) pa_nil)))) (nomark _))
  (pss_one (ps_ret pe_bl))
  pss_nil)))))))
  (pss_one (ps_ret pe_bl))), ?_⟩
    refine ⟨8, rfl, by decide, by decide, for_range (n := 8) (fun i σ H => SqL K H a (ns.map V.int) ∧ ∃ t1 t2 t3 t4 t5, σ = [some (.ref a), t1, t2, t3, t4, t5]) ⟨hS, _, _, _, _, _, rfl⟩ ?_ ?_⟩
    · rintro i σ H2 hi ⟨hS2, t1, t2, t3, t4, t5, rfl⟩
      refine gName_k ?_
      try dsimp only
      refine seqAsg ⟨_, rfl, _, rfl, a, ns, _, rfl, hS2, hn, (by omega), (by omega), fun p xs H3 s3 np hp3 hx3 => ?_⟩
      refine gName_k ?_
      try dsimp only
      refine seqAsg ⟨_, rfl, rd_form (d := 3) (n := 2000) hp3 (hx3.mono (by decide)) (unkOk (l := ["x"]) (by decide +kernel) (by decide)) fun f1 v1 y4 H4 b4 hp4 hy4 wf1 dp1 it1 => ⟨v1, f1, rfl, it1, wf1, dp1.1, (by decide), fun H5 s5 => ?_⟩⟩
      refine gName_k ?_
      try dsimp only
      have hl0 : (textOf f1).length ≤ 2040 := by
        have h1 := txt_len wf1
        have h2 := all_len f1
        have h3 : 2 ^ (f1.dep + 1) ≤ 2 ^ 7 := Nat.pow_le_pow_right (by decide) (by have := dp1.1; omega)
        have h4 : 2 ^ 7 = 128 := by decide
        rw [text_len]
        omega
      have hc0 : cnt (textOf f1).cps.toList ≤ 14 := by
        rw [textOf, ofC_list, cnt_txt wf1]
        have := dp1.2
        have h4 : 2 ^ (3 + 1) = 16 := by decide
        omega
      generalize textOf f1 = z0 at hl0 hc0
      refine rd_draw (m := 4) (n := 1900) (by rfl) (s5 _ _ hp4) (hy4.mono (by decide)) (by decide) (by decide) fun d H6 y6 hd b6 hp6 hy6 => ?_
      refine ⟨d, rfl, by omega, by omega, for_range (n := d) (fun j σ Hc => ∃ (ys : List V) (z : Str) (t4 t5 : Option V), But p H3 Hc ∧ Hc p = some (.lst ys) ∧ StL (1900 - 100 * j) ys ∧ z.length ≤ 2040 + 10 * j ∧ cnt z.cps.toList ≤ 14 + j ∧ σ = [some (.ref a), some (.int (0 + (i : Int))), some (.ref p), some (.str z), t4, t5]) ⟨y6, z0, _, _, b4.trans ((But.of_same s5).trans b6), hp6, hy6, hl0, hc0, rfl⟩ ?_ ?_⟩
      · rintro j σ Hc hj ⟨ys, z, t4, t5, bc, hpc, hyc, hzl, hzc, rfl⟩
        refine gName_k ?_
        try dsimp only
        refine ⟨_, rfl, _, rfl, p, ys, 1900 - 100 * (j + 1), z, rfl, hpc, hyc.mono (by omega), (by omega), fun z' y' H' b' hp' hy' hl' hc' => ?_⟩
        exact ⟨y', z', _, _, bc.trans b', hp', hy', (by omega), (by omega), rfl⟩
      · rintro σ Hc ⟨ys, z, t4, t5, bc, hpc, hyc, hzl, hzc, rfl⟩
        try dsimp only
        have sHc : Same H2 Hc := But.fresh s3 np bc
        have hzl : z.length ≤ 3900 := by omega
        have hzc : cnt z.cps.toList ≤ 20 := by omega
        refine seqAsg ⟨_, rfl, z, rfl, hzl, hzc, fun v H7 s7 hv => ?_⟩
        refine gName_k ?_
        try dsimp only
        cases hr0 : rdW 20 z.cps.toList with
        | none =>
          rw [hr0] at hv
          have hv : v = .non := hv
          subst hv
          refine oneIf (b := false) (fun Q2 kq => ⟨_, rfl, z, rfl, hzl, hzc, (fun t e => by rw [hr0] at e; cases e), fun _ q8 H8 s8 hq8 => ?_⟩) fun H9 s9 => iteF ⟨SqL.kept hS2 (sHc.trans (s7.trans s9)), _, _, _, _, _, rfl⟩
          refine ⟨_, rfl, rfl, _, rfl, iteT ⟨(by show 2 ≤ sizeLine; decide), fun q9 hq9 => ?_⟩⟩
          have s9 := Rd.Same.upd (o := .tup [.str "refused", .int 1]) hq9
          have hsh : SeqAt.shaped (.tuple [.str "refused", .int 1]) = true := by decide +kernel
          refine ⟨.tuple [.str "refused", .int 1], .tuple [.str "refused", .int 1], .tup (SqT.of (s9 _ _ hq8)) (.cons (.str _) (.cons (.int _) .nil)), .tup (SqT.of upd_same) (.cons (.str _) (.cons (.int _) .nil)), hsh, hsh, _, rfl, ?_⟩
          rw [SeqAt.eqv_refl _ (SeqAt.canLay_of_shaped hsh)]
          exact kq _ (s8.trans s9)
        | some t =>
          rw [hr0] at hv
          have hv : IsT H7 t v := hv
          obtain ⟨tf, td⟩ : t.fine ∧ t.dep ≤ 20 := rdA_fine 20 z.cps.toList t (by
            rw [rdW] at hr0
            split at hr0
            · exact hr0
            · cases hr0)
          obtain ⟨pv, us, rfl, hpv⟩ := hv.hd
          refine oneIf (b := false) (fun Q2 kq => ⟨_, rfl, z, rfl, hzl, hzc, (fun t' e q8 v8 H8 s8 hq8 it8 => ?_), fun e => by rw [hr0] at e; cases e⟩) fun H9 s9 => iteF ⟨SqL.kept hS2 (sHc.trans (s7.trans s9)), _, _, _, _, _, rfl⟩
          rw [hr0] at e
          cases e
          refine ⟨_, rfl, rfl, _, rfl, iteF ⟨_, rfl, (by show 2 ≤ sizeLine; decide), fun q9 hq9 => ?_⟩⟩
          have s9 := Rd.Same.upd (o := .tup [.str "read", .ref pv]) hq9
          have hsh : SeqAt.shaped (.tuple [.str "read", dat t]) = true := by
            have := dat_dep (t := t)
            show ((PyData.strOk "read" && ((dat t).canLay0 && true)) && decide (max 0 (max (dat t).depth 0) + 1 ≤ 64)) = true
            rw [dat_lay tf, decide_eq_true (by omega)]
            decide +kernel
          refine ⟨.tuple [.str "read", dat t], .tuple [.str "read", dat t], .tup (SqT.of (s9 _ _ hq8)) (.cons (.str _) (.cons (it8.same s9).dp .nil)), .tup (SqT.of upd_same) (.cons (.str _) (.cons ((hv.same s8).same s9).dp .nil)), hsh, hsh, _, rfl, ?_⟩
          rw [SeqAt.eqv_refl _ (SeqAt.canLay_of_shaped hsh)]
          exact kq _ (s8.trans s9)
    · rintro σ H2 _
      exact k _
end
end Rd
set_option maxHeartbeats 0
namespace Rd
open PySem L2
def d0 : He.DefD := ⟨("is_word", none), "is_word", "is_word", defArgs (top 12), defBody (top 12), defScope (top 12), [], []⟩
def d1 : He.DefD := ⟨("is_unknown", none), "is_unknown", "is_unknown", defArgs (top 13), defBody (top 13), defScope (top 13), [], []⟩
def d2 : He.DefD := ⟨("is_name", none), "is_name", "is_name", defArgs (top 14), defBody (top 14), defScope (top 14), [], []⟩
def d3 : He.DefD := ⟨("atom_tree", none), "atom_tree", "atom_tree", defArgs (top 15), defBody (top 15), defScope (top 15), [], []⟩
def d4 : He.DefD := ⟨("is_atom_form", none), "is_atom_form", "is_atom_form", defArgs (top 16), defBody (top 16), defScope (top 16), [], []⟩
def d5 : He.DefD := ⟨("check_form", none), "check_form", "check_form", defArgs (top 17), defBody (top 17), defScope (top 17), [], []⟩
def d6 : He.DefD := ⟨("parts_of", none), "parts_of", "parts_of", defArgs (top 18), defBody (top 18), defScope (top 18), [], []⟩
def d7 : He.DefD := ⟨("tree_text", none), "tree_text", "tree_text", defArgs (top 19), defBody (top 19), defScope (top 19), [], []⟩
def d8 : He.DefD := ⟨("made_tree", none), "made_tree", "made_tree", defArgs (top 20), defBody (top 20), defScope (top 20), [], []⟩
def d9 : He.DefD := ⟨("_law_stream", none), "_law_stream", "_law_stream", defArgs (top 24), defBody (top 24), defScope (top 24), [], []⟩
def d10 : He.DefD := ⟨("_law_draw", none), "_law_draw", "_law_draw", defArgs (top 25), defBody (top 25), defScope (top 25), [], []⟩
def d11 : He.DefD := ⟨("_law_pick", none), "_law_pick", "_law_pick", defArgs (top 26), defBody (top 26), defScope (top 26), [], []⟩
def d12 : He.DefD := ⟨("_law_word", none), "_law_word", "_law_word", defArgs (top 27), defBody (top 27), defScope (top 27), [], []⟩
def d13 : He.DefD := ⟨("_law_name", none), "_law_name", "_law_name", defArgs (top 28), defBody (top 28), defScope (top 28), [], []⟩
def d14 : He.DefD := ⟨("_law_atom", none), "_law_atom", "_law_atom", defArgs (top 29), defBody (top 29), defScope (top 29), [], []⟩
def d15 : He.DefD := ⟨("_law_form", none), "_law_form", "_law_form", defArgs (top 30), defBody (top 30), defScope (top 30), [], []⟩
def d16 : He.DefD := ⟨("_law_text", none), "_law_text", "_law_text", defArgs (top 31), defBody (top 31), defScope (top 31), [], []⟩
def d17 : He.DefD := ⟨("_law_kind", none), "_law_kind", "_law_kind", defArgs (top 32), defBody (top 32), defScope (top 32), [], []⟩
def d18 : He.DefD := ⟨("_law_read_at", none), "_law_read_at", "_law_read_at", defArgs (top 33), defBody (top 33), defScope (top 33), [], []⟩
def d19 : He.DefD := ⟨("_law_read", none), "_law_read", "_law_read", defArgs (top 34), defBody (top 34), defScope (top 34), [], []⟩
def d20 : He.DefD := ⟨("_law_spoilt", none), "_law_spoilt", "_law_spoilt", defArgs (top 35), defBody (top 35), defScope (top 35), [], []⟩
def d21 : He.DefD := ⟨("_law_told", none), "_law_told", "_law_told", defArgs (top 36), defBody (top 36), defScope (top 36), [], []⟩
def d22 : He.DefD := ⟨("law", none), "law", "law", defArgs (top 37), defBody (top 37), defScope (top 37), [], []⟩
def d23 : He.DefD := ⟨("BadAtom", some "__init__"), "__init__", "BadAtom.__init__", defArgs (inClass (top 3) 0), defBody (inClass (top 3) 0), defScope (inClass (top 3) 0), [], []⟩
def d24 : He.DefD := ⟨("BadForm", some "__init__"), "__init__", "BadForm.__init__", defArgs (inClass (top 4) 0), defBody (inClass (top 4) 0), defScope (inClass (top 4) 0), [], []⟩
def d25 : He.DefD := ⟨("BadKey", some "__init__"), "__init__", "BadKey.__init__", defArgs (inClass (top 5) 0), defBody (inClass (top 5) 0), defScope (inClass (top 5) 0), [], []⟩
def d26 : He.DefD := ⟨("BadText", some "__init__"), "__init__", "BadText.__init__", defArgs (inClass (top 6) 0), defBody (inClass (top 6) 0), defScope (inClass (top 6) 0), [], []⟩
def d27 : He.DefD := ⟨("Reader", some "__init__"), "__init__", "Reader.__init__", defArgs (inClass (top 21) 0), defBody (inClass (top 21) 0), defScope (inClass (top 21) 0), [], []⟩
def d28 : He.DefD := ⟨("Reader", some "takes"), "takes", "Reader.takes", defArgs (inClass (top 21) 1), defBody (inClass (top 21) 1), defScope (inClass (top 21) 1), [], []⟩
def d29 : He.DefD := ⟨("Reader", some "word_here"), "word_here", "Reader.word_here", defArgs (inClass (top 21) 2), defBody (inClass (top 21) 2), defScope (inClass (top 21) 2), [], []⟩
def d30 : He.DefD := ⟨("Reader", some "next_atom"), "next_atom", "Reader.next_atom", defArgs (inClass (top 21) 3), defBody (inClass (top 21) 3), defScope (inClass (top 21) 3), [], []⟩
def d31 : He.DefD := ⟨("Reader", some "closed"), "closed", "Reader.closed", defArgs (inClass (top 21) 4), defBody (inClass (top 21) 4), defScope (inClass (top 21) 4), [], []⟩
def d32 : He.DefD := ⟨("Reader", some "whole"), "whole", "Reader.whole", defArgs (inClass (top 21) 5), defBody (inClass (top 21) 5), defScope (inClass (top 21) 5), [], []⟩
def d33 : He.DefD := ⟨("Letter", some "__init__"), "__init__", "Letter.__init__", defArgs (inClass (top 22) 0), defBody (inClass (top 22) 0), defScope (inClass (top 22) 0), [.non], []⟩
def d34 : He.DefD := ⟨("Letter", some "form"), "form", "Letter.form", defArgs (inClass (top 22) 3), defBody (inClass (top 22) 3), defScope (inClass (top 22) 3), [], []⟩
def d35 : He.DefD := ⟨("Letter", some "written"), "written", "Letter.written", defArgs (inClass (top 22) 4), defBody (inClass (top 22) 4), defScope (inClass (top 22) 4), [], []⟩
def d36 : He.DefD := ⟨("Letter", some "__add__"), "__add__", "Letter.__add__", defArgs (inClass (top 22) 8), defBody (inClass (top 22) 8), defScope (inClass (top 22) 8), [], []⟩
def d37 : He.DefD := ⟨("Letter", some "__mul__"), "__mul__", "Letter.__mul__", defArgs (inClass (top 22) 9), defBody (inClass (top 22) 9), defScope (inClass (top 22) 9), [], []⟩
def d38 : He.DefD := ⟨("Letter", some "__xor__"), "__xor__", "Letter.__xor__", defArgs (inClass (top 22) 10), defBody (inClass (top 22) 10), defScope (inClass (top 22) 10), [], []⟩
def d39 : He.DefD := ⟨("Letter", some "__invert__"), "__invert__", "Letter.__invert__", defArgs (inClass (top 22) 11), defBody (inClass (top 22) 11), defScope (inClass (top 22) 11), [], []⟩
def d40 : He.DefD := ⟨("Letter", some "__pos__"), "__pos__", "Letter.__pos__", defArgs (inClass (top 22) 12), defBody (inClass (top 22) 12), defScope (inClass (top 22) 12), [], []⟩
def d41 : He.DefD := ⟨("Letter", some "__neg__"), "__neg__", "Letter.__neg__", defArgs (inClass (top 22) 13), defBody (inClass (top 22) 13), defScope (inClass (top 22) 13), [], []⟩
def d42 : He.DefD := ⟨("Letter", some "__eq__"), "__eq__", "Letter.__eq__", defArgs (inClass (top 22) 14), defBody (inClass (top 22) 14), defScope (inClass (top 22) 14), [], []⟩
def d43 : He.DefD := ⟨("Letter", some "__lt__"), "__lt__", "Letter.__lt__", defArgs (inClass (top 22) 15), defBody (inClass (top 22) 15), defScope (inClass (top 22) 15), [], []⟩
def d44 : He.DefD := ⟨("Letter", some "__le__"), "__le__", "Letter.__le__", defArgs (inClass (top 22) 16), defBody (inClass (top 22) 16), defScope (inClass (top 22) 16), [], []⟩
def d45 : He.DefD := ⟨("Letter", some "__gt__"), "__gt__", "Letter.__gt__", defArgs (inClass (top 22) 17), defBody (inClass (top 22) 17), defScope (inClass (top 22) 17), [], []⟩
def d46 : He.DefD := ⟨("Letter", some "__ge__"), "__ge__", "Letter.__ge__", defArgs (inClass (top 22) 18), defBody (inClass (top 22) 18), defScope (inClass (top 22) 18), [], []⟩
def d47 : He.DefD := ⟨("Letter", some "__contains__"), "__contains__", "Letter.__contains__", defArgs (inClass (top 22) 19), defBody (inClass (top 22) 19), defScope (inClass (top 22) 19), [], []⟩
def d48 : He.DefD := ⟨("Letter", some "__len__"), "__len__", "Letter.__len__", defArgs (inClass (top 22) 20), defBody (inClass (top 22) 20), defScope (inClass (top 22) 20), [], []⟩
def fa0 : List He.Fa := [.free "len", .free "all", .free "any", .free "abs", .free "int", .free "list", .free "tuple", .free "range", .free "max", .free "min", .free "isinstance", .free "sorted", .free "str", .free "set", .free "dict", .free "enumerate", .free "zip", .free "ValueError", .free "NotImplemented", .free "sum", .free "bool", .str "SMALL" "abcdefghijklmnopqrstuvwxyz", .str "GREAT" "ABCDEFGHIJKLMNOPQRSTUVWXYZ", .str "DIGITS" "0123456789", .glo "SIGNS", .glo "is_word", .glo "is_unknown", .glo "is_name", .glo "atom_tree", .glo "is_atom_form"]
def fa1 : List He.Fa := [.glo "check_form", .glo "parts_of", .glo "tree_text", .glo "made_tree", .glo "_law_stream", .glo "_law_draw", .glo "_law_pick", .glo "_law_word", .glo "_law_name", .glo "_law_atom", .glo "_law_form", .glo "_law_text", .glo "_law_kind", .glo "_law_read_at", .glo "_law_read", .glo "_law_spoilt", .glo "_law_told", .glo "law", .glo "RoadError", .exm "RoadError" "RoadError" true, .glo "BadAtom", .exm "BadAtom" "BadAtom" true, .meth "BadAtom" "__init__", .noat "BadAtom" "text", .glo "BadForm", .exm "BadForm" "BadForm" true, .meth "BadForm" "__init__", .noat "BadForm" "path", .glo "BadKey", .exm "BadKey" "BadKey" true]
def fa2 : List He.Fa := [.meth "BadKey" "__init__", .noat "BadKey" "key", .glo "BadText", .exm "BadText" "BadText" true, .meth "BadText" "__init__", .noat "BadText" "line", .glo "Reader", .cls "Reader", .noat "Reader" "signs", .noat "Reader" "at", .noat "Reader" "begun", .meth "Reader" "__init__", .mkr "Reader", .meth "Reader" "takes", .meth "Reader" "word_here", .meth "Reader" "next_atom", .meth "Reader" "closed", .meth "Reader" "whole", .glo "Letter", .cls "Letter", .noat "Letter" "tree", .meth "Letter" "__init__", .mkr "Letter", .meth "Letter" "form", .meth "Letter" "written", .meth "Letter" "__add__", .meth "Letter" "__mul__", .meth "Letter" "__xor__", .meth "Letter" "__invert__", .meth "Letter" "__pos__"]
def fa3 : List He.Fa := [.meth "Letter" "__neg__", .meth "Letter" "__eq__", .meth "Letter" "__lt__", .meth "Letter" "__le__", .meth "Letter" "__gt__", .meth "Letter" "__ge__", .meth "Letter" "__contains__", .meth "Letter" "__len__"]
def fa : List He.Fa := fa0 ++ fa1 ++ fa2 ++ fa3
def fn0 : List He.DefD := [d0, d1, d2, d3, d4, d5, d6, d7, d8, d9, d10, d11, d12, d13, d14, d15, d16, d17, d18, d19, d20, d21, d22, d23, d24, d25, d26, d27, d28, d29]
def fn1 : List He.DefD := [d30, d31, d32, d33, d34, d35, d36, d37, d38, d39, d40, d41, d42, d43, d44, d45, d46, d47, d48]
def fn : List He.DefD := fn0 ++ fn1
def loo0 : List PySem.Str := ["_wall", "RoadError", "BadAtom", "BadForm", "BadKey", "BadText", "SMALL", "GREAT", "DIGITS", "SIGNS", "is_word", "is_unknown", "is_name", "atom_tree", "is_atom_form", "check_form", "parts_of", "tree_text", "made_tree", "Reader", "Letter", "_law_stream", "_law_draw", "_law_pick", "_law_word", "_law_name", "_law_atom", "_law_form", "_law_text", "_law_kind"]
def loo1 : List PySem.Str := ["_law_read_at", "_law_read", "_law_spoilt", "_law_told"]
def loo : List PySem.Str := loo0 ++ loo1
def e0 : He5.DefA := ⟨fun K => sfn K "Letter" "of", "of", "Letter.of", defArgs (inClass (top 22) 1), defBody (inClass (top 22) 1), defScope (inClass (top 22) 1), [], []⟩
def e1 : He5.DefA := ⟨fun K => sfn K "Letter" "read", "read", "Letter.read", defArgs (inClass (top 22) 2), defBody (inClass (top 22) 2), defScope (inClass (top 22) 2), [], []⟩
def fs : List He5.DefA := [e0, e1]
def ts : List He.Tab := [(fun K => He.ga K "SIGNS", ["pair", "seal", "lock", "mark", "open", "own"])]
def exl (K : PySem.W.Frag) : List Bool := [kdB K (He.ga K "SIGNS") [("pair", 2), ("seal", 2), ("lock", 2), ("mark", 1), ("open", 1), ("own", 1)], oexB K "RoadError", xfB K (He.ga K "RoadError"), rexB K "RoadError", oexB K "BadAtom", xfB K (He.ga K "BadAtom"), oexB K "BadForm", xfB K (He.ga K "BadForm"), oexB K "BadKey", xfB K (He.ga K "BadKey"), oexB K "BadText", xfB K (He.ga K "BadText"), PySem.W.selfFirst K (He.ga K "Reader"), isiB K (He.ga K "Reader"), PySem.W.selfFirst K (He.ga K "Letter"), isiB K (He.ga K "Letter"), statB K "Letter" "of", statB K "Letter" "read"]
def exq : PySem.W.Frag → Bool := fun K => (exl K).all id
theorem exl_ok {K : PySem.W.Frag} (h : exq K = true) (i : Nat) {b : Bool} (e : (exl K)[i]? = some b) : b = true := List.all_eq_true.mp h b (List.mem_of_getElem? e)
abbrev R : PySem.W.OpenRow := PySem.W.OpenLaw.row PySem.Challenge.rw_openroads_k08_letter_texts_refused
abbrev hk : PySem.W.Hook := hookZ 6 fa fn ts exq fs
def ob (s : PySem.W.SharedT) : AlZ := obsZ 6 fa fn ts exq fs (HandSHeadRun.getT s)
theorem ob_eq (s : PySem.W.SharedT) : ob s = hk.obs s.abs := obsZ_eq (HandSHeadRun.getT_eq s)
abbrev qv : Program := PySem.W.view R.prog [37]
theorem run0 (w : World) : HandSHeadRun.RunEq R qv hk ob 4000 loo (w.withFollow "special-get-raises" false) := by
  intro os
  kernel_rfl
theorem run1 (w : World) : HandSHeadRun.RunEq R qv hk ob 4000 loo (w.withFollow "special-get-raises" true) := by
  intro os
  kernel_rfl
theorem run (w : World) : HandSHeadRun.RunEq R qv hk ob 4000 loo w := PySem.W.byRow2 "special-get-raises" (P := fun w => HandSHeadRun.RunEq R qv hk ob 4000 loo w) run0 run1 w
theorem tx_ok {w : World} {K : PySem.W.Frag} {h : Heap} {mg : Str → Option Value} (X : K.In h) (G : h.Ns mainGlobals mg) (ct : He.SaysT fa fn ts w K) (cc : He.SaysD fa fn K) (cz : He5.SaysA [] fs K) (hx : exq K = true) : Tx w K mg where
  z_len := He.free_ok X G (cc.fact 0 rfl)
  z_all := He.free_ok X G (cc.fact 1 rfl)
  z_any := He.free_ok X G (cc.fact 2 rfl)
  z_abs := He.free_ok X G (cc.fact 3 rfl)
  z_int := He.free_ok X G (cc.fact 4 rfl)
  z_list := He.free_ok X G (cc.fact 5 rfl)
  z_tuple := He.free_ok X G (cc.fact 6 rfl)
  z_range := He.free_ok X G (cc.fact 7 rfl)
  z_max := He.free_ok X G (cc.fact 8 rfl)
  z_min := He.free_ok X G (cc.fact 9 rfl)
  z_isinstance := He.free_ok X G (cc.fact 10 rfl)
  z_sorted := He.free_ok X G (cc.fact 11 rfl)
  z_str := He.free_ok X G (cc.fact 12 rfl)
  z_set := He.free_ok X G (cc.fact 13 rfl)
  z_dict := He.free_ok X G (cc.fact 14 rfl)
  z_enumerate := He.free_ok X G (cc.fact 15 rfl)
  z_zip := He.free_ok X G (cc.fact 16 rfl)
  z_ValueError := He.free_ok X G (cc.fact 17 rfl)
  z_NotImplemented := He.free_ok X G (cc.fact 18 rfl)
  z_sum := He.free_ok X G (cc.fact 19 rfl)
  z_bool := He.free_ok X G (cc.fact 20 rfl)
  c_SMALL := He.str_ok X G (cc.fact 21 rfl)
  c_GREAT := He.str_ok X G (cc.fact 22 rfl)
  c_DIGITS := He.str_ok X G (cc.fact 23 rfl)
  D_SIGNS := kd_ok (He.glo_ok X G (cc.fact 24 rfl)) (ct.tab 0 rfl) (exl_ok hx 0 rfl)
  F_is_word := ⟨(cc.def_ 0 (d := d0) rfl), He.glo_ok X G (cc.fact 25 rfl)⟩
  F_is_unknown := ⟨(cc.def_ 1 (d := d1) rfl), He.glo_ok X G (cc.fact 26 rfl)⟩
  F_is_name := ⟨(cc.def_ 2 (d := d2) rfl), He.glo_ok X G (cc.fact 27 rfl)⟩
  F_atom_tree := ⟨(cc.def_ 3 (d := d3) rfl), He.glo_ok X G (cc.fact 28 rfl)⟩
  F_is_atom_form := ⟨(cc.def_ 4 (d := d4) rfl), He.glo_ok X G (cc.fact 29 rfl)⟩
  F_check_form := ⟨(cc.def_ 5 (d := d5) rfl), He.glo_ok X G (cc.fact 30 rfl)⟩
  F_parts_of := ⟨(cc.def_ 6 (d := d6) rfl), He.glo_ok X G (cc.fact 31 rfl)⟩
  F_tree_text := ⟨(cc.def_ 7 (d := d7) rfl), He.glo_ok X G (cc.fact 32 rfl)⟩
  F_made_tree := ⟨(cc.def_ 8 (d := d8) rfl), He.glo_ok X G (cc.fact 33 rfl)⟩
  F__law_stream := ⟨(cc.def_ 9 (d := d9) rfl), He.glo_ok X G (cc.fact 34 rfl)⟩
  F__law_draw := ⟨(cc.def_ 10 (d := d10) rfl), He.glo_ok X G (cc.fact 35 rfl)⟩
  F__law_pick := ⟨(cc.def_ 11 (d := d11) rfl), He.glo_ok X G (cc.fact 36 rfl)⟩
  F__law_word := ⟨(cc.def_ 12 (d := d12) rfl), He.glo_ok X G (cc.fact 37 rfl)⟩
  F__law_name := ⟨(cc.def_ 13 (d := d13) rfl), He.glo_ok X G (cc.fact 38 rfl)⟩
  F__law_atom := ⟨(cc.def_ 14 (d := d14) rfl), He.glo_ok X G (cc.fact 39 rfl)⟩
  F__law_form := ⟨(cc.def_ 15 (d := d15) rfl), He.glo_ok X G (cc.fact 40 rfl)⟩
  F__law_text := ⟨(cc.def_ 16 (d := d16) rfl), He.glo_ok X G (cc.fact 41 rfl)⟩
  F__law_kind := ⟨(cc.def_ 17 (d := d17) rfl), He.glo_ok X G (cc.fact 42 rfl)⟩
  F__law_read_at := ⟨(cc.def_ 18 (d := d18) rfl), He.glo_ok X G (cc.fact 43 rfl)⟩
  F__law_read := ⟨(cc.def_ 19 (d := d19) rfl), He.glo_ok X G (cc.fact 44 rfl)⟩
  F__law_spoilt := ⟨(cc.def_ 20 (d := d20) rfl), He.glo_ok X G (cc.fact 45 rfl)⟩
  F__law_told := ⟨(cc.def_ 21 (d := d21) rfl), He.glo_ok X G (cc.fact 46 rfl)⟩
  g_RoadError := He.glo_ok X G (cc.fact 48 rfl)
  r_RoadError := rexB_ok (exl_ok hx 3 rfl)
  X_BadAtom := ⟨He.glo_ok X G (cc.fact 50 rfl), oexB_ok (exl_ok hx 4 rfl), He.noat_ok (cc.fact 53 rfl), ⟨(cc.def_ 23 (d := d23) rfl), He.meth_ok (cc.fact 52 rfl)⟩, xfB_ok (exl_ok hx 5 rfl), He.exm_ok (cc.fact 51 rfl)⟩
  X_BadForm := ⟨He.glo_ok X G (cc.fact 54 rfl), oexB_ok (exl_ok hx 6 rfl), He.noat_ok (cc.fact 57 rfl), ⟨(cc.def_ 24 (d := d24) rfl), He.meth_ok (cc.fact 56 rfl)⟩, xfB_ok (exl_ok hx 7 rfl), He.exm_ok (cc.fact 55 rfl)⟩
  X_BadKey := ⟨He.glo_ok X G (cc.fact 58 rfl), oexB_ok (exl_ok hx 8 rfl), He.noat_ok (cc.fact 61 rfl), ⟨(cc.def_ 25 (d := d25) rfl), He.meth_ok (cc.fact 60 rfl)⟩, xfB_ok (exl_ok hx 9 rfl), He.exm_ok (cc.fact 59 rfl)⟩
  X_BadText := ⟨He.glo_ok X G (cc.fact 62 rfl), oexB_ok (exl_ok hx 10 rfl), He.noat_ok (cc.fact 65 rfl), ⟨(cc.def_ 26 (d := d26) rfl), He.meth_ok (cc.fact 64 rfl)⟩, xfB_ok (exl_ok hx 11 rfl), He.exm_ok (cc.fact 63 rfl)⟩
  f_Reader := (exl_ok hx 12 rfl)
  Y_Reader := isiB_ok (exl_ok hx 13 rfl)
  k_Reader := He.cls_ok (cc.fact 67 rfl)
  g_Reader := He.glo_ok X G (cc.fact 66 rfl)
  n_Reader_signs := He.noat_ok (cc.fact 68 rfl)
  n_Reader_at := He.noat_ok (cc.fact 69 rfl)
  n_Reader_begun := He.noat_ok (cc.fact 70 rfl)
  J_Reader := He.mkr_ok (cc.fact 72 rfl)
  M_Reader_init := ⟨(cc.def_ 27 (d := d27) rfl), He.meth_ok (cc.fact 71 rfl)⟩
  M_Reader_takes := ⟨(cc.def_ 28 (d := d28) rfl), He.meth_ok (cc.fact 73 rfl)⟩
  M_Reader_word_here := ⟨(cc.def_ 29 (d := d29) rfl), He.meth_ok (cc.fact 74 rfl)⟩
  M_Reader_next_atom := ⟨(cc.def_ 30 (d := d30) rfl), He.meth_ok (cc.fact 75 rfl)⟩
  M_Reader_closed := ⟨(cc.def_ 31 (d := d31) rfl), He.meth_ok (cc.fact 76 rfl)⟩
  M_Reader_whole := ⟨(cc.def_ 32 (d := d32) rfl), He.meth_ok (cc.fact 77 rfl)⟩
  f_Letter := (exl_ok hx 14 rfl)
  Y_Letter := isiB_ok (exl_ok hx 15 rfl)
  k_Letter := He.cls_ok (cc.fact 79 rfl)
  g_Letter := He.glo_ok X G (cc.fact 78 rfl)
  n_Letter_tree := He.noat_ok (cc.fact 80 rfl)
  I_Letter := ⟨(cc.def_ 33 (d := d33) rfl), He.mkr_ok (cc.fact 82 rfl), He.glo_ok X G (cc.fact 78 rfl), He.cls_ok (cc.fact 79 rfl)⟩
  S_Letter_of := sh_ok (cz.def_ 0 (d := e0) rfl) (He.glo_ok X G (cc.fact 78 rfl)) (exl_ok hx 16 rfl)
  S_Letter_read := sh_ok (cz.def_ 1 (d := e1) rfl) (He.glo_ok X G (cc.fact 78 rfl)) (exl_ok hx 17 rfl)
  M_Letter_form := ⟨(cc.def_ 34 (d := d34) rfl), He.meth_ok (cc.fact 83 rfl)⟩
  M_Letter_written := ⟨(cc.def_ 35 (d := d35) rfl), He.meth_ok (cc.fact 84 rfl)⟩
  M_Letter_add := ⟨(cc.def_ 36 (d := d36) rfl), He.meth_ok (cc.fact 85 rfl)⟩
  M_Letter_mul := ⟨(cc.def_ 37 (d := d37) rfl), He.meth_ok (cc.fact 86 rfl)⟩
  M_Letter_xor := ⟨(cc.def_ 38 (d := d38) rfl), He.meth_ok (cc.fact 87 rfl)⟩
  M_Letter_invert := ⟨(cc.def_ 39 (d := d39) rfl), He.meth_ok (cc.fact 88 rfl)⟩
  M_Letter_pos := ⟨(cc.def_ 40 (d := d40) rfl), He.meth_ok (cc.fact 89 rfl)⟩
  M_Letter_neg := ⟨(cc.def_ 41 (d := d41) rfl), He.meth_ok (cc.fact 90 rfl)⟩
  M_Letter_eq := ⟨(cc.def_ 42 (d := d42) rfl), He.meth_ok (cc.fact 91 rfl)⟩
  M_Letter_lt := ⟨(cc.def_ 43 (d := d43) rfl), He.meth_ok (cc.fact 92 rfl)⟩
  M_Letter_le := ⟨(cc.def_ 44 (d := d44) rfl), He.meth_ok (cc.fact 93 rfl)⟩
  M_Letter_gt := ⟨(cc.def_ 45 (d := d45) rfl), He.meth_ok (cc.fact 94 rfl)⟩
  M_Letter_ge := ⟨(cc.def_ 46 (d := d46) rfl), He.meth_ok (cc.fact 95 rfl)⟩
  M_Letter_contains := ⟨(cc.def_ 47 (d := d47) rfl), He.meth_ok (cc.fact 96 rfl)⟩
  M_Letter_len := ⟨(cc.def_ 48 (d := d48) rfl), He.meth_ok (cc.fact 97 rfl)⟩
theorem facts {P : Program} {w : World} {K : PySem.W.Frag} {h : Heap} {mg : Str → Option Value} {f : Addr} (X : K.In h) (G : h.Ns mainGlobals mg) (hfa : mg ("law" : Str) = some (.ref f)) (c : SaysZ fa fn ts exq fs w K) :
    ∃ fd : FuncData, (∀ (s : Shared) (v : Value), BindsTo s fd ⟨[v], []⟩ [("_law_script", v)]) ∧ ∀ base : Heap, K.In base → base.Ns mainGlobals mg → FnOk P w K mg base CX0 30 f fd ["_law_script"] (spLaw K) := by
  have cc := c.y.t.d
  have T := tx_ok X G c.y.t cc c.s c.y.more
  obtain ⟨fd, F⟩ := cc.def_ 22 (d := d22) rfl
  have e := hfa.symm.trans (He.glo_ok X G (cc.fact 47 (f := .glo "law") rfl))
  cases e
  have b := FunD.bindsA (ps := ["_law_script"]) F fun _ _ _ _ _ _ us hl => match us, hl with | [_], _ => rfl
  exact ⟨fd, fun s v => b s [v] rfl, fun base _ _ => ok_law F T⟩
end Rd
open PySem PySem.W PySem.Calls PyProof.Rows
set_option maxRecDepth 100000 in
set_option maxHeartbeats 0 in
theorem PySem.Challenge.cw_openroads_k08_letter_texts_refused_holds : PySem.Challenge.rw_openroads_k08_letter_texts_refused.Holds := by
  w_on; o_law
  refine HandSHeadRun.head_any (r := OpenLaw.row PySem.Challenge.rw_openroads_k08_letter_texts_refused) (q := Rd.qv) (H := Rd.hk) (ob := Rd.ob) (M := 4000) (loose := Rd.loo) (d := HandSHeadRun.topDef (OpenLaw.row PySem.Challenge.rw_openroads_k08_letter_texts_refused).prog 37) (kwd := []) Rd.ob_eq
    (by kernel_rfl) (fun s => by kernel_rfl) Rd.run (by kernel_rfl) (by kernel_rfl) (by kernel_rfl) (by rfl) (by first | assumption | decide +kernel) (by decide +kernel) ⟨rfl, rfl, rfl, rfl, rfl, by decide +kernel⟩ ?hw ?hc
  case hw => w_witness2
  case hc =>
    refine L2.walk_ofE (l := PySem.Challenge.rw_openroads_k08_letter_texts_refused) (n := 63) (k := 30) (x := "_law_script") (CX := L2.CX0) rfl (by decide) (by kernel_rfl) ⟨rfl, by decide, by decide⟩ ?F (fun _ _ _ _ z => z)
    intro w mg fa h Y G hmg0
    obtain ⟨K, KX, c⟩ := Y
    have hmg : mg ("law" : PySem.Str) = some (.ref fa) := by
      have e : (HandSHeadRun.topDef (OpenLaw.row PySem.Challenge.rw_openroads_k08_letter_texts_refused).prog 37).name = ("law" : PySem.Str) := by kernel_rfl
      rw [← e]
      exact hmg0
    obtain ⟨fd, hb, hF⟩ := Rd.facts (P := (PySem.Challenge.rw_openroads_k08_letter_texts_refused).prog) (w := w) KX G hmg c
    exact ⟨K, fd, Rd.spLaw K, KX, hb, fun H a ns hl _ hS => ⟨a, ns, rfl, hS, hl, fun _ => rfl⟩, hF⟩
