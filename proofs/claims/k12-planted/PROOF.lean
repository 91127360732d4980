import PyProof.Rows.All
import Wide.All
import OpenK.AllK
import Wide.FinOn
import KE.KStateDown
import Lean
import HandS.ForMost
import HandS.ForExc
import HandS.Flow
import HandS.StrMore
import HandS.Defaults
import HandS.ExcInit
import HandS.ExcField
import HandS.More
import HandS.HeadHook3
import PyProof.ListStr
import HandS.Head0
import HandS.Head1
import HandS.Head2
import HandS.HeadEnd
import HandS.Zip
import HandS.FStr
import HandS.StrMore
import HandS.HotCalls
import HandS.ExcInitHot
import PyProof.InstEq
import HandS.IsInst
import HandS.HeadNt
import PyProof.Rows.SortShellAny
import HandS.Set
import HandS.SetFor
import HandS.SetBool
import HandS.Deep
import HandS.TupAny
import KE.KEqDict
import HandS.DictComp
import HandS.DeepEq
import HandS.List
import HandS.SetKeys
import KE.GoesNew
import KE.GoesMore
import KE.KDictZip
import PyProof.ListNew
import HandS.ListItems
import PyProof.NeKinds
import PySem.Challenge.RW_openroads_k12_whole_planted_fillings
set_option Elab.async false
set_option linter.all false
set_option maxRecDepth 100000
set_option maxHeartbeats 4000000
/-! my common layer: functions by name -/
namespace Rd
open PySem PySem.Spec PyProof.Rows L2
/-- a function of the module by its name: promise, binding, place -/
structure Fk (P : Program) (w : World) (K : PySem.W.Frag) (mg : Str → Option Value) (base : Heap) (CX : CXT) (k : Nat) (x : Str) (ps : List Str) (sp : Sp) : Prop where
  ex : ∃ fd, FnOk P w K mg base CX k (He.ga K x) fd ps sp ∧ Binds K fd ps []
  g : mg x = some (.ref (He.ga K x))
  kp : PySem.W.keepIn K (.ref (He.ga K x)) = true
/-- what the head tells of a function of the module -/
structure Fh (K : PySem.W.Frag) (mg : Str → Option Value) (x : Str) (st : Stmt) : Prop where
  ex : ∃ fd, FunD K x x (defArgs st) (defBody st) (defScope st) [] [] (He.ga K x) fd
  g : mg x = some (.ref (He.ga K x))
section
variable {P : Program} {w : World} {K : PySem.W.Frag} {mg : Str → Option Value} {base : Heap} {CX : CXT} {k : Nat} {x : Str} {ps N : List Str} {sp : Sp} {st : Stmt}
theorem Fh.ok (F : Fh K mg x st) (S : FnScope N ps (defScope st))
    (hb : ∀ (kV doc pm : Value) (an : Option Addr) (cdv ct : Value) (us : List Value), us.length = ps.length → bindArgs (PySem.W.fnOf x x (defArgs st) (defBody st) (defScope st) .none kV doc pm an cdv ct) ⟨us, []⟩ = pure (ps.zip us))
    (len : ∀ vs H Q E, sp vs H Q E → vs.length = ps.length)
    (hbody : ∀ (cdv : Value) (A : Around) (outer : List Env) (s : Shared) (H : Hp) (vs : List V) (Q : VK) (E : XK), Room k (A.deeper (envOfC x (defScope st) s.heap.objs.size (He.ga K x) cdv)) → sp vs H Q E →
      ∃ t, PSs (cxOf CX P w K mg base N x (defScope st) (He.ga K x) cdv A outer s H E) (defBody st) t ∧ t { nx := fun _ H' => Q .non H', rt := Q } (start N vs) H) : Fk P w K mg base CX (k + 1) x ps sp := by
  obtain ⟨fd, F'⟩ := F.ex
  exact ⟨⟨fd, F'.ok S len hbody, F'.bindsN hb⟩, F.g, F'.kp⟩
/-- no exception leaves -/
theorem Fh.ok0 (F : Fh K mg x st) (S : FnScope N ps (defScope st))
    (hb : ∀ (kV doc pm : Value) (an : Option Addr) (cdv ct : Value) (us : List Value), us.length = ps.length → bindArgs (PySem.W.fnOf x x (defArgs st) (defBody st) (defScope st) .none kV doc pm an cdv ct) ⟨us, []⟩ = pure (ps.zip us))
    (len : ∀ vs H Q E, sp vs H Q E → vs.length = ps.length)
    (hbody : ∀ (cdv : Value) (A : Around) (outer : List Env) (s : Shared) (H : Hp) (vs : List V) (Q : VK) (E : XK), Room k (A.deeper (envOfC x (defScope st) s.heap.objs.size (He.ga K x) cdv)) → sp vs H Q E →
      ∃ t, PSs (cxOf CX0 P w K mg base N x (defScope st) (He.ga K x) cdv A outer s H E).nox (defBody st) t ∧ t { nx := fun _ H' => Q .non H', rt := Q } (start N vs) H) : Fk P w K mg base CX0 (k + 1) x ps sp :=
  F.ok S hb len fun cdv A outer s H vs Q E hr h => by
    obtain ⟨t, h1, h2⟩ := hbody cdv A outer s H vs Q E hr h
    exact ⟨t, h1.nox, h2⟩
theorem Fk.mono {j : Nat} (F : Fk P w K mg base CX j x ps sp) (h : j ≤ k) : Fk P w K mg base CX k x ps sp := by
  obtain ⟨⟨fd, a, b⟩, c, d⟩ := F
  exact ⟨⟨fd, a.mono h, b⟩, c, d⟩
end
section
variable {X : Cx} {CX : CXT} {k : Nat} {ps : List Str} {sp : Sp} {E : XK} {x : Str} {p pos : Pos} {e : Expr} {es : List Expr} {t : TA}
theorem pe_fk (F : Fk X.prog X.w X.K X.mg X.base CX k x ps sp) (hr : Room k X.A) (hg : Gl X x) (hx : Passes CX X E)
    (ha : PA X (e :: es) t) (hdb : (x == ("__debug__" : Str)) = false := by decide) (he : starEach (e :: es) X.env = (false, eval e X.env) :: starEach es X.env := by rfl) (hpl : (backTo pos (starEach es X.env)).any (·.1) = false := by rfl) :
    PE X (.Call (.Name x p) (e :: es) [] pos) (tCall sp [] E t) := by
  obtain ⟨⟨fd, a, b⟩, c, d⟩ := F
  exact pe_call a hr hg c d b .nil hx ha hdb he hpl
theorem pe_gstr {z : Str} (hm : ∃ t, X.mg x = some (.str z t)) (hg : Gl X x := by rfl) (hd : (x == ("__debug__" : Str)) = false := by decide) : PE X (.Name x pos) (tC (.str z)) := by
  obtain ⟨t, hm⟩ := hm
  exact pe_glob hg hm ⟨t, rfl⟩ hd
/-- list(text) -/
theorem call_list_text (hc : X.calm = true) : CallR X (.type "list") (fun xs H Q => ∃ z : Str, xs = [.str z] ∧ z.length ≤ sizeLine ∧ ∀ l, H l = none → Q (.ref l) (upd H l (.lst (z.cps.toList.map fun c => V.str ⟨#[c]⟩)))) := by
  intro pins s σ H xs us Q I r h
  obtain ⟨z, rfl, hz, q⟩ := h
  obtain ⟨u, rfl, t, rfl⟩ := vals1 r
  refine call_list_str (I.ok.hd hc) z t (fun h' tk acc' c' kp e it => ?_) hz
  have vv : ∀ (n : Nat) (l : List Nat) (m : List Value), l.length = m.length → (∀ (j : Nat) (v : Value), m[j]? = some v → ∃ (c : Nat) (u : Tok), l[j]? = some c ∧ v = Value.str ⟨#[c]⟩ u) → Vals (l.map fun c => V.str ⟨#[c]⟩) m := by
    intro n l
    induction l with
    | nil =>
      intro m hl _
      cases m with
      | nil => exact .nil
      | cons a b => cases hl
    | cons a l ih =>
      intro m hl hm
      cases m with
      | nil => cases hl
      | cons b m =>
        obtain ⟨c, u, e1, e2⟩ := hm 0 b rfl
        have e1' : a = c := Option.some.inj e1
        subst e1' e2
        exact .cons ⟨u, rfl⟩ (ih m (by simpa using hl) fun j v hj => hm (j + 1) v hj)
  have hv : Vals (z.cps.toList.map fun c => V.str ⟨#[c]⟩) acc'.toList := by
    refine vv 0 _ _ (by rw [Array.length_toList, Array.length_toList]; exact it.1.symm) fun j v hj => ?_
    obtain ⟨c, u, h1, h2⟩ := it.2 j v (by simpa using hj)
    exact ⟨c, u, by simpa using h1, h2⟩
  refine ⟨.ref s.heap.objs.size, _, I.laid (t' := tk) kp (Nat.le_refl _) (show ObjOk X.prog X.w _ h' _ (.lst (z.cps.toList.map fun c => V.str ⟨#[c]⟩)) from ⟨?_, acc'.toList, c', hv, by simpa using e⟩), rfl, q _ (I.hok.fresh (Nat.le_refl _))⟩
  rw [List.length_map]
  exact hz
end
end Rd
namespace Rd
open PySem PySem.Spec PyProof.Rows L2
/-- an exception class over ValueError, as OexC wants it -/
def oexB (K : PySem.W.Frag) (x : Str) : Bool := (match K.lookup (He.ga K x) with
  | some ⟨.type c, _, .cls cd, sl⟩ => decide (c = "type") && (match cd.mro, sl.toList with
    | .ref C' :: bm, [_, _, _, _, some (.builtin n), _] => decide (C' = He.ga K x) && (decide (n = "ValueError.__new__") && (!cd.hasDel && (cd.hasDict && PySem.HandSPX.refsVE bm)))
    | _, _ => false)
  | _ => false) && (He.eqO (PySem.W.findIn K (.ref (He.ga K x)) "__setattr__") (some (some (.builtin "object.__setattr__"))) && (decide (PySem.W.subIn K (.ref (He.ga K x)) (.type "BaseException") = some true) && (decide (PySem.W.typeIn K (.ref (He.ga K x)) = some (.type "type")) && PySem.W.keepIn K (.ref (He.ga K x)))))
theorem oexB_ok {K : PySem.W.Frag} {x : Str} (h : oexB K x = true) : OexC K (He.ga K x) := by
  obtain ⟨h1, h⟩ := He.ba h
  obtain ⟨h2, h⟩ := He.ba h
  obtain ⟨h3, h⟩ := He.ba h
  obtain ⟨h4, h5⟩ := He.ba h
  refine ⟨?_, He.eqO_ok h2, of_decide_eq_true h3, of_decide_eq_true h4, h5⟩
  cases e : K.lookup (He.ga K x) with
  | none => rw [e] at h1; cases h1
  | some o =>
    rw [e] at h1
    obtain ⟨oc, od, dt, sl⟩ := o
    cases oc with
    | type c =>
      cases dt with
      | cls cd =>
        obtain ⟨h6, h7⟩ := He.ba (show (decide (c = "type") && (match cd.mro, sl.toList with
          | .ref C' :: bm, [_, _, _, _, some (.builtin n), _] => decide (C' = He.ga K x) && (decide (n = "ValueError.__new__") && (!cd.hasDel && (cd.hasDict && PySem.HandSPX.refsVE bm)))
          | _, _ => false)) = true from h1)
        have ec : c = "type" := of_decide_eq_true h6
        subst ec
        obtain ⟨nm, bs, mro, ns, qn, hd, sn, sb, ab, col, del⟩ := cd
        obtain ⟨sl⟩ := sl
        simp only at h7
        split at h7
        · obtain ⟨h8, h9⟩ := He.ba h7
          obtain ⟨h10, h11⟩ := He.ba h9
          obtain ⟨h12, h13⟩ := He.ba h11
          obtain ⟨h14, h15⟩ := He.ba h13
          rename_i C' bm k0 k1 k2 k3 n k5
          have e1 : C' = He.ga K x := of_decide_eq_true h8
          have e2 : n = "ValueError.__new__" := of_decide_eq_true h10
          have e3 : del = false := by simpa using h12
          subst e2 e3
          have e4 : hd = true := h14
          subst e4
          rw [e1]
          exact ⟨_, _, _, _, bm, _, _, _, _, _, _, _, _, _, _, rfl, h15⟩
        · cases h7
      | _ => cases h1
    | _ => cases dt <;> cases h1
end Rd
namespace Rd
open PySem L2
/-- [f(c) for c in text], f pure -/
theorem lcs {x : Str} {te : TE} {i : Nat} {σ : St} {H1 : Hp} {D : Addr} {Qd : Hp → Prop} (f : Nat → V) (hx : x.length ≤ sizeLine)
    (hte : ∀ c (H : Hp) (Q : VK), c ∈ x.cps.toList → Q (f c) H → te ((wipe σ [i]).set i (some (.str ⟨#[c]⟩))) H Q) (hq : Qd (upd H1 D (.lst (x.cps.toList.map f)))) :
    ∃ W : Nat → Nat → Hp → Prop, (∃ m, W 0 m (upd H1 D (.lst []))) ∧ ∀ j m H, W j m H →
      ((Its x).stop j H ∧ Qd H) ∨ ((Its x).go j H ∧ ∃ Nx : Hp → Prop, (∀ H', Nx H' → ∃ m', m' < m ∧ W (j + 1) m' H') ∧ ∀ v H', (Its x).yld j H v H' → gName i v (wipe σ [i]) H' fun σ2 H2 => wipe σ2 [i] = wipe σ [i] ∧ tYes σ2 H2 fun b H3 =>
        if b = true then te σ2 H3 fun y H4 => ∃ acc, H4 D = some (.lst acc) ∧ acc.length < sizeLine ∧ Nx (upd H4 D (.lst (acc ++ [y]))) else Nx H3) := by
  have hs : x.cps.toList.length = x.cps.size := by simp
  refine ⟨fun j m H => m = x.cps.size - j ∧ j ≤ x.cps.size ∧ H = upd H1 D (.lst ((x.cps.toList.take j).map f)), ⟨_, rfl, Nat.zero_le _, rfl⟩, ?_⟩
  rintro j m H ⟨rfl, hj, rfl⟩
  by_cases hlt : j < x.cps.size
  · refine .inr ⟨hlt, fun H' => H' = upd H1 D (.lst ((x.cps.toList.take (j + 1)).map f)), fun H' e => ⟨x.cps.size - (j + 1), by omega, rfl, hlt, e⟩, ?_⟩
    rintro v H' ⟨rfl, c, hc, rfl⟩
    have hc2 : x.cps.toList[j]? = some c := by simpa using hc
    refine ⟨by simp [wipe], hte c _ _ (List.mem_of_getElem? hc2) ⟨_, upd_same, ?_, ?_⟩⟩
    · rw [List.length_map, List.length_take, hs]
      have : x.cps.size ≤ sizeLine := hx
      omega
    · show upd (upd H1 D _) D _ = _
      rw [upd_upd, List.take_succ, hc2]
      simp
  · have e : j = x.cps.size := by omega
    subst e
    refine .inl ⟨Nat.le_refl _, ?_⟩
    rw [← hs, List.take_length]
    exact hq
theorem Same.upd {H : Hp} {p : Addr} {o : HO} (h : H p = none) : Same H (L2.upd H p o) := fun a u e => by rw [upd_ne (ne_of_none e h)]; exact e
theorem Same.upd' {H H1 : Hp} {p : Addr} {o : HO} (x : Same H H1) (h : H1 p = none) : Same H (L2.upd H1 p o) := x.trans (Rd.Same.upd h)
end Rd
namespace Rd
open PySem L2
theorem seqAsg {te : TE} {g : TG} {u : TS} {D : Ends} {σ : St} {H : Hp} (h : te σ H fun x H1 => g x σ H1 (u D)) : tSeq (tAsg te g) u D σ H := h
theorem gName_k {i : Nat} {v : V} {σ : St} {H : Hp} {R : St → Hp → Prop} (h : R (σ.set i (some v)) H) : gName i v σ H R := h
theorem asgNx {te : TE} {g : TG} {D : Ends} {σ : St} {H : Hp} (h : te σ H fun x H1 => g x σ H1 D.nx) : tAsg te g D σ H := h
theorem retE {te : TE} {D : Ends} {σ : St} {H : Hp} (h : te σ H D.rt) : tRet te D σ H := h
end Rd
namespace Rd
open PySem L2
/-- a test that answers b, the heap may grow -/
def TB (t : TT) (σ : St) (H : Hp) (b : Bool) : Prop := ∀ Q : Bool → Hp → Prop, (∀ H', Same H H' → Q b H') → t σ H Q
theorem tb_and {t u : TT} {σ : St} {H : Hp} {b c : Bool} (h1 : TB t σ H b) (h2 : ∀ H', Same H H' → b = true → TB u σ H' c) : TB (tAnd t u) σ H (b && c) := fun Q k => h1 _ fun H' s => by
  cases b with
  | true => exact h2 H' s rfl Q fun H2 s2 => k H2 (s.trans s2)
  | false => exact k H' s
theorem tb_or {t u : TT} {σ : St} {H : Hp} {b c : Bool} (h1 : TB t σ H b) (h2 : ∀ H', Same H H' → b = false → TB u σ H' c) : TB (tOr t u) σ H (b || c) := fun Q k => h1 _ fun H' s => by
  cases b with
  | true => exact k H' s
  | false => exact h2 H' s rfl Q fun H2 s2 => k H2 (s.trans s2)
theorem tb_not {t : TT} {σ : St} {H : Hp} {b : Bool} (h1 : TB t σ H b) : TB (tNot t) σ H (!b) := fun Q k => h1 _ fun H' s => k H' s
theorem seqIf {c : TT} {t u v : TS} {D : Ends} {σ : St} {H : Hp} {b : Bool} (hc : TB c σ H b) (k : ∀ H', Same H H' → if b = true then t { D with nx := v D } σ H' else u { D with nx := v D } σ H') : tSeq (tIfS c t u) v D σ H := hc _ k
theorem oneIf {c : TT} {t u : TS} {D : Ends} {σ : St} {H : Hp} {b : Bool} (hc : TB c σ H b) (k : ∀ H', Same H H' → if b = true then t D σ H' else u D σ H') : tIfS c t u D σ H := hc _ k
end Rd
namespace Rd
open PySem L2
theorem nxt {D : Ends} {σ : St} {H : Hp} (h : D.nx σ H) : tNext D σ H := h
end Rd
namespace Rd
open PySem L2
/-! ### exceptions -/
/-- C0.__init__ read off the class C0 -/
structure REx (K : PySem.W.Frag) (C0 : Addr) : Prop where
  sga : PySem.W.specialIn K (.ref C0) "__getattribute__" = some (some (.builtin "type.__getattribute__"))
  ty : PySem.W.typeIn K (.ref C0) = some (.type "type")
  rd : PySem.W.readsIn K C0 (.type "type") = true
  fc : PySem.W.findCls K (.ref C0) (.type "type") "__init__" = some (.val (.builtin "ValueError.__init__"))
def rexB (K : PySem.W.Frag) (x : Str) : Bool := He.eqO (PySem.W.specialIn K (.ref (He.ga K x)) "__getattribute__") (some (some (.builtin "type.__getattribute__"))) && (decide (PySem.W.typeIn K (.ref (He.ga K x)) = some (.type "type")) && (PySem.W.readsIn K (He.ga K x) (.type "type") &&
  (match PySem.W.findCls K (.ref (He.ga K x)) (.type "type") "__init__" with
    | some (.val (.builtin n)) => decide (n = "ValueError.__init__")
    | _ => false)))
theorem rexB_ok {K : PySem.W.Frag} {x : Str} (h : rexB K x = true) : REx K (He.ga K x) := by
  obtain ⟨h1, h⟩ := He.ba h
  obtain ⟨h2, h⟩ := He.ba h
  obtain ⟨h3, h4⟩ := He.ba h
  refine ⟨He.eqO_ok h1, of_decide_eq_true h2, h3, ?_⟩
  split at h4
  · rename_i n e
    rw [e, of_decide_eq_true h4]
  · cases h4
section
variable {X : Cx} {e : Expr} {es : List Expr} {ta : TA} {p1 p2 pos : Pos}
theorem pe_reinit {pl : Sem Bool} {x : Str} {C0 : Addr} (hg : Gl X x) (hm : X.mg x = some (.ref C0)) (R0 : REx X.K C0) (ha : PA X (e :: es) ta) (hd : (x == ("__debug__" : Str)) = false := by decide)
    (hc : eval (.Call (.Attribute (.Name x p1) "__init__" p2) (e :: es) [] pos) X.env = (do
      let ov ← eval (.Name x p1) X.env
      standAt p2.atName
      let (f, first) ← holding [ov] (getMethod ov "__init__" pl)
      callWith pos f first (backTo pos (starEach (e :: es) X.env)) (backToKw pos (keywordEach [] X.env))) := by rfl)
    (he : starEach (e :: es) X.env = (false, eval e X.env) :: starEach es X.env := by rfl) (hpl : (backTo pos (starEach es X.env)).any (·.1) = false := by rfl) :
    PE X (.Call (.Attribute (.Name x p1) "__init__" p2) (e :: es) [] pos) (tVeI X.K ta) := by
  refine ⟨fun pins s σ H Q I h => ?_⟩
  refine PySem.W.methodCall_KW (ld_glob I hg hm ?_ hd) hc
  obtain ⟨m, fr⟩ := I.fr
  refine PySem.W.method_of_cls fr I.ok.mod.kin R0.sga (PySem.W.cls_val fr I.ok.mod.kin R0.ty R0.rd R0.fc (by decide +kernel) ?_)
  show wpAny _ _ (callWith pos (Value.builtin "ValueError.__init__") [] (backTo pos (starEach (e :: es) X.env)) []) _ _ _
  refine PyProof.Rows.callWith_method1 (thn (ha.run pos pins _ σ H _ (I.tok _) h) fun us s1 ⟨vs, H1, I1, r1, a, C, ws, ev, hl, T, ea, q⟩ => ?_) he hpl
  subst ev
  cases r1 with
  | @cons _ u0 _ ur ra rw' =>
    obtain rfl : u0 = Value.ref a := ra
    have hlen : ur.length ≤ sizeLine := by
      rw [← Paired.length rw', sizeLine_eq]
      omega
    exact oinit_ok T I1 ea hlen fun s' J => ⟨.non, H1, J, rfl, q⟩
end
/-- the __init__ of an exception with one field -/
def spX1 (K : PySem.W.Frag) (f : Str) : Sp := fun vs H Q _ => ∃ (a C : Addr) (v : V), vs = [.ref a, v] ∧ OexC K C ∧ PySem.W.findIn K (.ref C) f = some none ∧ H a = some (exo a C none) ∧
  ∀ dx, H dx = none → dx ≠ a → Q .non (upd (upd H dx (exd dx [(f, v)])) a (exo a C (some dx)))
/-- reading a raise of such an exception, behind its argument -/
theorem rd_raise1 {K : PySem.W.Frag} {C : Addr} {f : Str} {v : V} {H1 : Hp} {R : XK} (T : OexC K C) (no : PySem.W.findIn K (.ref C) f = some none)
    (k : ∀ d H', Same H1 H' → H1 d = none → H' d = some (.xd [(f, v)]) → R (.ref C) (some d) H') :
    ([v] : List V).length ≤ 1000 ∧ ∀ a, H1 a = none → spX1 K f (.ref a :: ([v] ++ [])) (upd H1 a (exo a C none)) (fun v' H2 => v' = .non ∧ ∃ (d : Addr) (fs : List (Str × V)), H2 a = some (exo a C (some d)) ∧ H2 d = some (exd d fs) ∧ H1 d = none ∧ R (.ref C) (some d) (upd (del H2 a) d (.xd fs))) (fun _ _ _ => False) := by
  refine ⟨by show 1 ≤ 1000; decide, fun a ha => ⟨a, C, v, rfl, T, no, upd_same, fun dx hdx ne => ⟨rfl, dx, [(f, v)], upd_same, ?_, ?_, ?_⟩⟩⟩
  · rw [upd_ne ne, upd_same]
  · rw [upd_ne ne] at hdx
    exact hdx
  · rw [upd_ne ne] at hdx
    refine k dx _ (fun b o e => ?_) hdx upd_same
    rw [upd_ne (ne_of_none e hdx), del_ne (ne_of_none e ha), upd_ne (ne_of_none e ha), upd_ne (ne_of_none e hdx), upd_ne (ne_of_none e ha)]
    exact e
/-! ### methods -/
structure Mh (K : PySem.W.Frag) (c m q : Str) (st : Stmt) : Prop where
  ex : ∃ fd, FunD K m q (defArgs st) (defBody st) (defScope st) [] [] (He.ma K (He.ga K c) m) fd
  me : Meth K (He.ga K c) m (He.ma K (He.ga K c) m)
structure Fm (P : Program) (w : World) (K : PySem.W.Frag) (mg : Str → Option Value) (base : Heap) (CX : CXT) (k : Nat) (c m : Str) (ps : List Str) (sp : Sp) : Prop where
  ex : ∃ fd, FnOk P w K mg base CX k (He.ma K (He.ga K c) m) fd ps sp ∧ Binds K fd ps []
  me : Meth K (He.ga K c) m (He.ma K (He.ga K c) m)
section
variable {P : Program} {w : World} {K : PySem.W.Frag} {mg : Str → Option Value} {base : Heap} {CX : CXT} {k : Nat} {c m q : Str} {ps N : List Str} {sp : Sp} {st : Stmt}
theorem Mh.ok (F : Mh K c m q st) (S : FnScope N ps (defScope st))
    (hb : ∀ (kV doc pm : Value) (an : Option Addr) (cdv ct : Value) (us : List Value), us.length = ps.length → bindArgs (PySem.W.fnOf m q (defArgs st) (defBody st) (defScope st) .none kV doc pm an cdv ct) ⟨us, []⟩ = pure (ps.zip us))
    (len : ∀ vs H Q E, sp vs H Q E → vs.length = ps.length)
    (hbody : ∀ (cdv : Value) (A : Around) (outer : List Env) (s : Shared) (H : Hp) (vs : List V) (Q : VK) (E : XK), Room k (A.deeper (PyProof.Rows.envOfC q (defScope st) s.heap.objs.size (He.ma K (He.ga K c) m) cdv)) → sp vs H Q E →
      ∃ t, PSs (cxOf CX P w K mg base N q (defScope st) (He.ma K (He.ga K c) m) cdv A outer s H E) (defBody st) t ∧ t { nx := fun _ H' => Q .non H', rt := Q } (start N vs) H) : Fm P w K mg base CX (k + 1) c m ps sp := by
  obtain ⟨fd, F'⟩ := F.ex
  exact ⟨⟨fd, F'.ok S len hbody, F'.bindsN hb⟩, F.me⟩
theorem Mh.ok0 (F : Mh K c m q st) (S : FnScope N ps (defScope st))
    (hb : ∀ (kV doc pm : Value) (an : Option Addr) (cdv ct : Value) (us : List Value), us.length = ps.length → bindArgs (PySem.W.fnOf m q (defArgs st) (defBody st) (defScope st) .none kV doc pm an cdv ct) ⟨us, []⟩ = pure (ps.zip us))
    (len : ∀ vs H Q E, sp vs H Q E → vs.length = ps.length)
    (hbody : ∀ (cdv : Value) (A : Around) (outer : List Env) (s : Shared) (H : Hp) (vs : List V) (Q : VK) (E : XK), Room k (A.deeper (PyProof.Rows.envOfC q (defScope st) s.heap.objs.size (He.ma K (He.ga K c) m) cdv)) → sp vs H Q E →
      ∃ t, PSs (cxOf CX0 P w K mg base N q (defScope st) (He.ma K (He.ga K c) m) cdv A outer s H E).nox (defBody st) t ∧ t { nx := fun _ H' => Q .non H', rt := Q } (start N vs) H) : Fm P w K mg base CX0 (k + 1) c m ps sp :=
  F.ok S hb len fun cdv A outer s H vs Q E hr h => by
    obtain ⟨t, h1, h2⟩ := hbody cdv A outer s H vs Q E hr h
    exact ⟨t, h1.nox, h2⟩
end
section
variable {X : Cx} {CX : CXT} {k : Nat} {ps : List Str} {sp : Sp} {E : XK} {x c m : Str} {p pos apos : Pos} {e o : Expr} {es : List Expr} {t : TA} {ta : TE}
theorem pe_fm {pl : Sem Bool} (he : PE X o ta) (cl : Cls X.K (He.ga X.K c)) (F : Fm X.prog X.w X.K X.mg X.base CX k c m ps sp) (hr : Room k X.A) (hx : Passes CX X E) (ha : PA X (e :: es) t)
    (hst : starEach (e :: es) X.env = (false, eval e X.env) :: starEach es X.env := by rfl) (hpl : (backTo pos (starEach es X.env)).any (·.1) = false := by rfl)
    (ht : eval (.Call (.Attribute o m apos) (e :: es) [] pos) X.env = (do
      let ov ← eval o X.env
      standAt apos.atName
      let (f, first) ← holding [ov] (getMethod ov m pl)
      callWith pos f first (backTo pos (starEach (e :: es) X.env)) (backToKw pos (keywordEach [] X.env))) := by rfl) :
    PE X (.Call (.Attribute o m apos) (e :: es) [] pos) (tMeth (He.ga X.K c) m sp [] E ta t) := by
  obtain ⟨⟨fd, a, b⟩, me⟩ := F
  exact pe_meth he cl me a hr b .nil hx ha hst hpl ht
theorem pe_fm0 {pl : Sem Bool} (he : PE X o ta) (cl : Cls X.K (He.ga X.K c)) (F : Fm X.prog X.w X.K X.mg X.base CX k c m ps sp) (hr : Room k X.A) (hx : Passes CX X E)
    (ht : eval (.Call (.Attribute o m apos) [] [] pos) X.env = (do
      let ov ← eval o X.env
      standAt apos.atName
      let (f, first) ← holding [ov] (getMethod ov m pl)
      callWith pos f first (backTo pos (starEach [] X.env)) (backToKw pos (keywordEach [] X.env))) := by rfl) :
    PE X (.Call (.Attribute o m apos) [] [] pos) (tMeth (He.ga X.K c) m sp [] E ta tNil) := by
  obtain ⟨⟨fd, a, b⟩, me⟩ := F
  exact pe_meth0 he cl me a hr b .nil hx ht
end
/-! ### an exception class with one field, as the head tells it -/
structure Xh (K : PySem.W.Frag) (mg : Str → Option Value) (x f q : Str) (st : Stmt) : Prop where
  g : mg x = some (.ref (He.ga K x))
  oex : OexC K (He.ga K x)
  no : PySem.W.findIn K (.ref (He.ga K x)) f = some none
  init : Mh K x "__init__" q st
  xf : XfC K (He.ga K x)
  em : PySem.W.exmOne K (.ref (He.ga K x)) (.ref (He.ga K x)) = some true
section
variable {X : Cx} {k : Nat} {x f : Str} {p pos : Pos} {e : Expr} {te : TE} {ps : List Str} {sp : Sp}
theorem pmk_x {ta : TA} {es : List Expr} {q : Str} {st : Stmt} (T : Xh X.K X.mg x f q st) (F : Fm X.prog X.w X.K X.mg X.base CX0 k x "__init__" ps sp) (hr : Room (k + 1) X.A) (hg : Gl X x) (ha : PA X (e :: es) ta)
    (hdb : (x == ("__debug__" : Str)) = false := by decide) (he : starEach (e :: es) X.env = (false, eval e X.env) :: starEach es X.env := by rfl) (hpl : (backTo pos (starEach es X.env)).any (·.1) = false := by rfl) :
    PMk X (.Call (.Name x p) (e :: es) [] pos) (tMkO (He.ga X.K x) sp [] ta) := by
  obtain ⟨⟨fd, a, b⟩, me⟩ := F
  exact pmk_oex T.oex me.at_ (beq_iff_eq.mp me.fn) a hr b .nil (fun _ _ _ _ _ _ _ h => h.elim) hg T.g ha hdb he hpl
end
/-! ### a class with one default in its __init__ -/
structure Ih (K : PySem.W.Frag) (mg : Str → Option Value) (c q : Str) (st : Stmt) (dvs : List V) : Prop where
  ex : ∃ fd, FunD K "__init__" q (defArgs st) (defBody st) (defScope st) dvs [] (He.ma K (He.ga K c) "__init__") fd
  mkr : Mk K (He.ga K c) (He.ma K (He.ga K c) "__init__")
  g : mg c = some (.ref (He.ga K c))
  cl : Cls K (He.ga K c)
structure Fi (P : Program) (w : World) (K : PySem.W.Frag) (mg : Str → Option Value) (base : Heap) (CX : CXT) (k : Nat) (c : Str) (ps : List Str) (sp : Sp) (v : V) : Prop where
  ex : ∃ fd, FnOk P w K mg base CX k (He.ma K (He.ga K c) "__init__") fd ps sp ∧ Binds K fd ps [] ∧ ∃ ds, Vals [v] ds ∧ Binds K fd ps ds
  mkr : Mk K (He.ga K c) (He.ma K (He.ga K c) "__init__")
  g : mg c = some (.ref (He.ga K c))
section
variable {P : Program} {w : World} {K : PySem.W.Frag} {mg : Str → Option Value} {base : Heap} {CX : CXT} {k : Nat} {c q : Str} {ps N : List Str} {sp : Sp} {st : Stmt} {v : V}
theorem Ih.ok {n : Nat} (F : Ih K mg c q st [v]) (S : FnScope N ps (defScope st)) (hn : ps.length = n + 1)
    (hb1 : ∀ (T : Addr) (kV doc pm : Value) (an : Option Addr) (cdv ct : Value) (us its : List Value), us.length = n → its.length = 1 →
      ∃ k, bindArgs (PySem.W.fnOf "__init__" q (defArgs st) (defBody st) (defScope st) (.ref T) kV doc pm an cdv ct) ⟨us, []⟩ = seqItems? (.ref T) >>= k ∧ k (some its.toArray) = pure (ps.zip (us ++ its.drop 0)))
    (hb2 : ∀ (T : Addr) (kV doc pm : Value) (an : Option Addr) (cdv ct : Value) (us its : List Value), us.length = n + 1 → its.length = 1 →
      ∃ k, bindArgs (PySem.W.fnOf "__init__" q (defArgs st) (defBody st) (defScope st) (.ref T) kV doc pm an cdv ct) ⟨us, []⟩ = seqItems? (.ref T) >>= k ∧ k (some its.toArray) = pure (ps.zip (us ++ its.drop 1)))
    (len : ∀ vs H Q E, sp vs H Q E → vs.length = ps.length)
    (hbody : ∀ (cdv : Value) (A : Around) (outer : List Env) (s : Shared) (H : Hp) (vs : List V) (Q : VK) (E : XK), Room k (A.deeper (PyProof.Rows.envOfC q (defScope st) s.heap.objs.size (He.ma K (He.ga K c) "__init__") cdv)) → sp vs H Q E →
      ∃ t, PSs (cxOf CX P w K mg base N q (defScope st) (He.ma K (He.ga K c) "__init__") cdv A outer s H E) (defBody st) t ∧ t { nx := fun _ H' => Q .non H', rt := Q } (start N vs) H) : Fi P w K mg base CX (k + 1) c ps sp v := by
  obtain ⟨fd, F'⟩ := F.ex
  have b1 := F'.binds1 (ps := ps) n 0 (List.cons_ne_nil _ _) (by rw [hn]; rfl) hb1
  obtain ⟨ds, e, b2⟩ := F'.binds1 (ps := ps) (n + 1) 1 (List.cons_ne_nil _ _) (by rw [hn]; rfl) hb2
  cases e
  exact ⟨⟨fd, F'.ok S len hbody, b2, b1⟩, F.mkr, F.g⟩
end
section
variable {X : Cx} {CX : CXT} {k : Nat} {ps : List Str} {sp : Sp} {E : XK} {c : Str} {p pos : Pos} {e : Expr} {es : List Expr} {t : TA} {v : V}
/-- C(.., ..), every argument written -/
theorem pe_mk2 (F : Fi X.prog X.w X.K X.mg X.base CX k c ps sp v) (hr : Room (k + 1) X.A) (hg : Gl X c) (hx : Passes CX X E)
    (ha : PA X (e :: es) t) (hdb : (c == ("__debug__" : Str)) = false := by decide) (he : starEach (e :: es) X.env = (false, eval e X.env) :: starEach es X.env := by rfl) (hpl : (backTo pos (starEach es X.env)).any (·.1) = false := by rfl) :
    PE X (.Call (.Name c p) (e :: es) [] pos) (tMake (He.ga X.K c) sp [] E t) := by
  obtain ⟨⟨fd, a, b, _⟩, M, g⟩ := F
  exact pe_make M a hr hg g b .nil hx ha hdb he hpl
/-- .. the last by its default -/
theorem pe_mk1 (F : Fi X.prog X.w X.K X.mg X.base CX k c ps sp v) (hr : Room (k + 1) X.A) (hg : Gl X c) (hx : Passes CX X E)
    (ha : PA X (e :: es) t) (hdb : (c == ("__debug__" : Str)) = false := by decide) (he : starEach (e :: es) X.env = (false, eval e X.env) :: starEach es X.env := by rfl) (hpl : (backTo pos (starEach es X.env)).any (·.1) = false := by rfl) :
    PE X (.Call (.Name c p) (e :: es) [] pos) (tMake (He.ga X.K c) sp [v] E t) := by
  obtain ⟨⟨fd, a, _, ds, e1, b⟩, M, g⟩ := F
  exact pe_make M a hr hg g b e1 hx ha hdb he hpl
end
end Rd
namespace Rd
open PySem L2
/-! ### the hook: as the library's, with the statics -/
def frY (n : Nat) (g : Addr → Option Obj) : PySem.W.Frag := He.frG g (cStatics :: He.asD g n)
abbrev AlY : Type := He.AlT × Bool
structure SaysY (fa : List He.Fa) (fn : List He.DefD) (ts : List He.Tab) (ex : PySem.W.Frag → Bool) (w : World) (K : PySem.W.Frag) : Prop where
  t : He.SaysT fa fn ts w K
  more : ex K = true
def obsY (n : Nat) (fa : List He.Fa) (fn : List He.DefD) (ts : List He.Tab) (ex : PySem.W.Frag → Bool) (g : Addr → Option Obj) : AlY := (He.obsT fa fn ts (frY n g), ex (frY n g))
def valY (fn : List He.DefD) (ts : List He.Tab) (w : World) : AlY := (He.valT fn ts w, true)
def hookY (n : Nat) (fa : List He.Fa) (fn : List He.DefD) (ts : List He.Tab) (ex : PySem.W.Frag → Bool) : PySem.W.Hook where
  α := AlY
  obs := fun s => obsY n fa fn ts ex s.heap.get?
  val := fun w => valY fn ts w
  says := fun w h => ∃ K : PySem.W.Frag, K.In h ∧ SaysY fa fn ts ex w K
  of := fun _ _ e => ⟨_, He.frG_in, ⟨congrArg (fun z : AlY => z.1) e, congrArg (fun z : AlY => z.2) e⟩⟩
  keeps := fun _ _ _ ⟨K, hK, c⟩ k => ⟨K, PySem.W.Frag.In.keeps hK k, c⟩
theorem obsY_eq {n : Nat} {fa : List He.Fa} {fn : List He.DefD} {ts : List He.Tab} {ex : PySem.W.Frag → Bool} {g : Addr → Option Obj} {s : Shared} (h : ∀ a, g a = s.heap.get? a) : obsY n fa fn ts ex g = (hookY n fa fn ts ex).obs s := by
  have e : g = s.heap.get? := funext h
  rw [e] <;> rfl
end Rd
namespace Rd
open PySem L2
/-! ### a written dict of the module: text keys, int values -/
structure Kd (w : World) (K : PySem.W.Frag) (mg : Str → Option Value) (x : Str) (kvs : List (Str × Int)) : Prop where
  g : mg x = some (.ref (He.ga K x))
  kd : ∃ es n, KDict K w (He.ga K x) es n
  no : ∀ z, z ∉ kvs.map (·.1) → PySem.W.nsIn K (He.ga K x) z = some none
  ys : ∀ p ∈ kvs, ∃ t, PySem.W.nsIn K (He.ga K x) p.1 = some (some (.int p.2 t))
def kdB (K : PySem.W.Frag) (a : Addr) (kvs : List (Str × Int)) : Bool := (match K.lookup a with
  | some ⟨_, _, .dict es _, _⟩ => es.toList.all fun e => (match e.key with
    | .str x _ => (kvs.map (·.1)).contains x
    | _ => false)
  | _ => false) && kvs.all fun p => (match PySem.W.nsIn K a p.1 with
    | some (some (.int i _)) => decide (i = p.2)
    | _ => false)
theorem kd_ok {w : World} {K : PySem.W.Frag} {mg : Str → Option Value} {x : Str} {kvs : List (Str × Int)} (g : mg x = some (.ref (He.ga K x))) (kd : ∃ es n, KDict K w (He.ga K x) es n) (h : kdB K (He.ga K x) kvs = true) : Kd w K mg x kvs := by
  obtain ⟨h1, h2⟩ := He.ba h
  refine ⟨g, kd, fun z hz => ?_, fun p hp => ?_⟩
  · obtain ⟨es, n, D⟩ := kd
    rw [D.at_] at h1
    have h3 : es.toList.all (fun e => (match e.key with
      | .str x _ => (kvs.map (·.1)).contains x
      | _ => false)) = true := h1
    have h4 := List.all_eq_true.mp h3
    unfold PySem.W.nsIn
    rw [D.at_]
    have e1 : es.toList.find? (·.key.isStr z) = none := by
      rw [List.find?_eq_none]
      intro e he q
      have h5 := h4 e he
      cases ek : e.key with
      | str y t =>
        rw [ek] at h5 q
        have e2 : y = z := eq_of_beq q
        subst e2
        exact hz (List.contains_iff_mem.mp h5)
      | _ =>
        rw [ek] at h5
        cases h5
    have e2 : es.toList.any (·.refKey) = false := by
      rw [List.any_eq_false]
      intro e he q
      have h5 := h4 e he
      unfold DictEntry.refKey at q
      cases ek : e.key with
      | str y t =>
        rw [ek] at q
        cases q
      | _ =>
        rw [ek] at h5
        cases h5
    show (match es.toList.find? (·.key.isStr z) with
      | some e => some (some e.val)
      | none => if es.toList.any (·.refKey) then none else some none) = some none
    rw [e1, e2]
    rfl
  · have h3 := List.all_eq_true.mp h2 p hp
    split at h3
    · rename_i i t e
      rw [e]
      exact ⟨t, by rw [of_decide_eq_true h3]⟩
    · cases h3
section
variable {X : Cx} {x : Str} {kvs : List (Str × Int)} {pos : Pos}
theorem pe_kd (D : Kd X.w X.K X.mg x kvs) (hg : Gl X x := by rfl) (hd : (x == ("__debug__" : Str)) = false := by decide) : PE X (.Name x pos) (tC (.ref (He.ga X.K x))) := pe_glob hg D.g rfl hd
def rInK (K : PySem.W.Frag) (x : Str) (kvs : List (Str × Int)) : R2 := fun a b H Q => ∃ z, a = .str z ∧ b = .ref (He.ga K x) ∧ Q (.bl (decide (z ∈ kvs.map (·.1)))) H
def rNotInK (K : PySem.W.Frag) (x : Str) (kvs : List (Str × Int)) : R2 := fun a b H Q => ∃ z, a = .str z ∧ b = .ref (He.ga K x) ∧ Q (.bl (!decide (z ∈ kvs.map (·.1)))) H
theorem Kd.look {w : World} {K : PySem.W.Frag} {mg : Str → Option Value} (D : Kd w K mg x kvs) (z : Str) : ∃ r, PySem.W.nsIn K (He.ga K x) z = some r ∧ r.isSome = decide (z ∈ kvs.map (·.1)) := by
  by_cases h : z ∈ kvs.map (·.1)
  · obtain ⟨p, hp, rfl⟩ := List.mem_map.mp h
    obtain ⟨t, e⟩ := D.ys p hp
    exact ⟨_, e, by rw [decide_eq_true h]; rfl⟩
  · exact ⟨_, D.no z h, by rw [decide_eq_false h]; rfl⟩
theorem op_inK (D : Kd X.w X.K X.mg x kvs) : OpR X (compareOp .In) (rInK X.K x kvs) := by
  intro pins s σ H a b v u Q I ra rb h
  obtain ⟨z, rfl, rfl, q⟩ := h
  obtain ⟨es, n, kd⟩ := D.kd
  obtain ⟨r, e1, e2⟩ := D.look z
  exact op_in_kd kd pins s σ H _ _ v u Q I ra rb ⟨z, r, rfl, rfl, e1, by rw [e2]; exact q⟩
theorem op_notInK (D : Kd X.w X.K X.mg x kvs) : OpR X (compareOp .NotIn) (rNotInK X.K x kvs) := by
  intro pins s σ H a b v u Q I ra rb h
  obtain ⟨z, rfl, rfl, q⟩ := h
  obtain ⟨es, n, kd⟩ := D.kd
  obtain ⟨r, e1, e2⟩ := D.look z
  exact op_notIn_kd kd pins s σ H _ _ v u Q I ra rb ⟨z, r, rfl, rfl, e1, by rw [e2]; exact q⟩
def rIxK (K : PySem.W.Frag) (x : Str) (kvs : List (Str × Int)) : R2 := fun a b H Q => ∃ p ∈ kvs, a = .ref (He.ga K x) ∧ b = .str p.1 ∧ Q (.int p.2) H
theorem ix_K (D : Kd X.w X.K X.mg x kvs) : IxR X (rIxK X.K x kvs) := by
  intro value slice pins s σ H a b v u Q I ra rb h hs
  obtain ⟨p, hp, rfl, rfl, q⟩ := h
  obtain ⟨es, n, kd⟩ := D.kd
  obtain ⟨t, e⟩ := D.ys p hp
  exact ix_kdict value slice pins s σ H _ _ v u Q I ra rb ⟨_, _, V.int p.2, rfl, rfl, ⟨es, n, _, kd.at_, kd.lit, e, ⟨t, rfl⟩⟩, q⟩ hs
end
end Rd
namespace Rd
open PySem L2
/-! ### calls whose raise is wished for at the caller's slots (in a try's body) -/
def tMakeS (C : Addr) (sp : Sp) (dvs : List V) (E : St → XK) (t : TA) : TE := fun σ H Q => t σ H fun vs H1 => ∀ x dx, H1 x = none → H1 dx = none → dx ≠ x →
  sp (.ref x :: (vs ++ dvs)) (upd (upd H1 dx (.own x)) x (.ins C dx [])) (fun v H2 => v = .non ∧ Q (.ref x) H2) (E σ)
def tMethS (C : Addr) (m : Str) (sp : Sp) (E : St → XK) (ta : TE) (t : TA) : TE := fun σ H Q => ta σ H fun x H1 => ∃ a dx fs, x = .ref a ∧ H1 a = some (.ins C dx fs) ∧ fs.lookup m = none ∧
  t σ H1 fun vs H2 => sp (x :: vs) H2 Q (E σ)
section
variable {X : Cx} {CX : CXT} {k : Nat} {ps : List Str} {sp : Sp} {E : St → XK} {x c m : Str} {p pos apos : Pos} {e o : Expr} {es : List Expr} {t : TA} {ta : TE} {v : V}
theorem run_makeS {C f : Addr} {fd : FuncData} {dvs : List V} {ds : List Value} {pins : List (Addr × Obj)} {σ : St} {H : Hp} {s : Shared} {Q : VK} {us : List Value} {vs : List V} (M : Mk X.K C f) (F : FnOk X.prog X.w X.K X.mg X.base CX k f fd ps sp) (hr : Room (k + 1) X.A) (hb : Binds X.K fd ps ds) (hd : Vals dvs ds)
    (hx : PassesAt CX X σ (E σ)) (I : Inv X pins σ H s) (r : Vals vs us)
    (h : ∀ x dx, H x = none → H dx = none → dx ≠ x → sp (.ref x :: (vs ++ dvs)) (upd (upd H dx (.own x)) x (.ins C dx [])) (fun v H2 => v = .non ∧ Q (.ref x) H2) (E σ)) :
    wpAny (model X.prog X.w) X.A (call (.ref C) us) (EP X pins σ Q) X.xe s := by
  have hq := h (s.heap.objs.size + 1) s.heap.objs.size (I.hok.fresh (Nat.le_succ _)) (I.hok.fresh (Nat.le_refl _)) (Nat.ne_of_lt (Nat.lt_succ_self _))
  have I2 := Inv.made (C := C) I
  have r2 : Vals (V.ref (s.heap.objs.size + 1) :: (vs ++ dvs)) (Value.ref (s.heap.objs.size + 1) :: (us ++ ds)) := .cons rfl (r.append hd)
  have hl : (Value.ref (s.heap.objs.size + 1) :: us ++ ds).length = ps.length := by
    have e := r2.length
    rw [F.len _ _ _ _ hq] at e
    exact e.symm
  refine wpAny_call (make_map (f := f) I.kIn M.makes M.init (beq_iff_eq.mp M.fn) (codeAny_mono (F.run _ X.stack _ _ ⟨Value.ref (s.heap.objs.size + 1) :: us, []⟩ (Value.ref (s.heap.objs.size + 1) :: (us ++ ds)) _ _ (E σ) (hr.make C us [])
    (I2.env0.make C us []) (hb _ (Value.ref (s.heap.objs.size + 1) :: us) I2.kIn hl) r2 hq) fun r s' hq' => ?_))
  cases r with
  | error e => exact hx pins _ _ e s' I2 hq'
  | ok fl =>
    cases fl with
    | ret u =>
      obtain ⟨v, H', I3, rv, ev, q3⟩ := I2.after hq'
      subst ev
      exact ⟨rv, ⟨V.ref (s.heap.objs.size + 1), H', I3, rfl, q3⟩⟩
    | next => exact False.elim hq'
    | brk => exact False.elim hq'
    | cont => exact False.elim hq'
theorem pe_mk1S (F : Fi X.prog X.w X.K X.mg X.base CX k c ps sp v) (hr : Room (k + 1) X.A) (hg : Gl X c) (hx : ∀ σ, PassesAt CX X σ (E σ))
    (ha : PA X (e :: es) t) (hdb : (c == ("__debug__" : Str)) = false := by decide) (he : starEach (e :: es) X.env = (false, eval e X.env) :: starEach es X.env := by rfl) (hpl : (backTo pos (starEach es X.env)).any (·.1) = false := by rfl) :
    PE X (.Call (.Name c p) (e :: es) [] pos) (tMakeS (He.ga X.K c) sp [v] E t) := by
  obtain ⟨⟨fd, a, _, ds, e1, b⟩, M, g⟩ := F
  refine ⟨fun pins s σ H Q I h => ?_⟩
  refine wpAny_Call_Name_kw (ld_glob I hg g ?_ hdb)
  refine PySem.W.callWith_K (h₀ := X.base) I.ok.mod.kin M.kp (thn (ha.run pos pins s σ H _ I h) fun us s1 ⟨vs, H1, I1, r, q⟩ => ⟨I1.kIn, ?_⟩) he hpl
  exact run_makeS M a hr b e1 (hx σ) I1 r q
theorem pe_fkS (F : Fk X.prog X.w X.K X.mg X.base CX k x ps sp) (hr : Room k X.A) (hg : Gl X x) (hx : ∀ σ, PassesAt CX X σ (E σ))
    (ha : PA X (e :: es) t) (hdb : (x == ("__debug__" : Str)) = false := by decide) (he : starEach (e :: es) X.env = (false, eval e X.env) :: starEach es X.env := by rfl) (hpl : (backTo pos (starEach es X.env)).any (·.1) = false := by rfl) :
    PE X (.Call (.Name x p) (e :: es) [] pos) (tCallS sp E t) := by
  obtain ⟨⟨fd, a, b⟩, c, d⟩ := F
  exact pe_callS a hr hg c d b hx ha hdb he hpl
end
end Rd
namespace Rd
open PySem L2
/-! ### own operators -/
theorem at0 {X : Cx} {σ : St} : PassesAt CX0 X σ E0 := fun _ _ _ _ _ _ h => h.elim
theorem back_of {X : Cx} {pins : List (Addr × Obj)} {σ : St} {Q : VK} {v : Value} {s : Shared} (h : EP X pins σ Q v s) : PySem.W.CmpBack (EP X pins σ Q) v s := by
  obtain ⟨x, H', I', r, q⟩ := id h
  cases v with
  | notImplemented =>
    cases x with
    | non => cases r
    | bl b => cases r
    | int i => obtain ⟨t, e⟩ := r; cases e
    | str z => obtain ⟨t, e⟩ := r; cases e
    | byt b => obtain ⟨t, e⟩ := r; cases e
    | flt b => obtain ⟨t, e⟩ := r; cases e
    | ref a => cases r
    | ty n => cases r
  | _ => exact h
def tBo (C : Addr) (sp : Sp) (E : St → XK) (ta tb : TE) : TE := fun σ H Q => ta σ H fun x H1 => tb σ H1 fun y H2 => ∃ a b dx dy fs gs, x = .ref a ∧ y = .ref b ∧ H2 a = some (.ins C dx fs) ∧ H2 b = some (.ins C dy gs) ∧ sp [.ref a, .ref b] H2 Q (E σ)
def tUo (C : Addr) (sp : Sp) (E : St → XK) (ta : TE) : TE := fun σ H Q => ta σ H fun x H1 => ∃ a dx fs, x = .ref a ∧ H1 a = some (.ins C dx fs) ∧ sp [.ref a] H1 Q (E σ)
section
variable {X : Cx} {CX : CXT} {k : Nat} {ps : List Str} {sp : Sp} {E : St → XK} {c m : Str} {pos : Pos} {a b : Expr} {ta tb : TE}
theorem pe_bo {op : Operator} (ha : PE X a ta) (hb : PE X b tb) (sf : PySem.W.selfFirst X.K (He.ga X.K c) = true) (F : Fm X.prog X.w X.K X.mg X.base CX k c m ps sp) (hr : Room k X.A) (hx : ∀ σ, PassesAt CX X σ (E σ)) (hm : PySem.dunder op.info.2 = m := by decide +kernel) :
    PE X (.BinOp a op b pos) (tBo (He.ga X.K c) sp E ta tb) := by
  obtain ⟨⟨fd, f1, b1⟩, me⟩ := F
  refine ⟨fun pins s σ H Q I h => ?_⟩
  refine wpAny_BinOp (binT ha hb I h fun v u s2 x y H2 I2 rx ry q => ?_)
  obtain ⟨p, r, dx, dy, fs, gs, rfl, rfl, hp, hr2, q⟩ := q
  cases rx
  cases ry
  obtain ⟨mA, J, _⟩ := ins_get I2.hok hp
  obtain ⟨mB, J', _⟩ := ins_get I2.hok hr2
  obtain ⟨od, J, _⟩ := J.look
  obtain ⟨od', J', _⟩ := J'.look
  obtain ⟨mm, hF⟩ := I2.fr
  refine PySem.W.binop_K hF I2.ok.mod.kin J J'.type sf (by rw [hm]; exact me.at_) me.fn (thn (run_fnS (vs := [.ref p, .ref r]) (E := E) f1 hr b1 (hx σ) I2 (.cons rfl (.cons rfl .nil)) q) fun v s' hq => back_of hq)
theorem pe_uo {op : UnaryOp} (ha : PE X a ta) (F : Fm X.prog X.w X.K X.mg X.base CX k c m ps sp) (hr : Room k X.A) (hx : ∀ σ, PassesAt CX X σ (E σ))
    (hm : (op = .Invert ∧ m = "__invert__") ∨ (op = .UAdd ∧ m = "__pos__") ∨ (op = .USub ∧ m = "__neg__")) : PE X (.UnaryOp op a pos) (tUo (He.ga X.K c) sp E ta) := by
  obtain ⟨⟨fd, f1, b1⟩, me⟩ := F
  refine ⟨fun pins s σ H Q I h => ?_⟩
  refine PyProof.Rows.UnaryOp_ (thn (ha.run pins s σ H _ I h) fun v s1 ⟨x, H1, I1, r1, q1⟩ => ?_)
  obtain ⟨p, dx, fs, rfl, hp, q⟩ := q1
  cases r1
  obtain ⟨mA, J, _⟩ := ins_get I1.hok hp
  obtain ⟨od, J, _⟩ := J.look
  have go : wpAny (model X.prog X.w) X.A (callSpecial? (.ref p) m) (fun r s' => ∃ v, r = some v ∧ EP X pins σ Q v s') X.xe s1 :=
    PySem.W.special_fn I1.kIn J me.at_ (beq_iff_eq.mp me.fn) (thn (run_fnS (vs := [.ref p]) (E := E) f1 hr b1 (hx σ) I1 (.cons rfl .nil) q) fun v s' hq => ⟨v, rfl, hq⟩)
  unfold unaryOp
  refine wpAny_holding ?_
  rcases hm with ⟨rfl, rfl⟩ | ⟨rfl, rfl⟩ | ⟨rfl, rfl⟩
  · refine wpAny_bind (thn go fun r s' ⟨v, e, hq⟩ => ?_)
    subst e
    exact wpAny_pure hq
  · refine wpAny_bind (thn go fun r s' ⟨v, e, hq⟩ => ?_)
    subst e
    exact wpAny_pure hq
  · refine wpAny_bind (thn go fun r s' ⟨v, e, hq⟩ => ?_)
    subst e
    exact wpAny_pure hq
end
end Rd
namespace Rd
open PySem L2
theorem in_strs (z : Str) : ∀ l : List Str, inV (.str z) (l.map V.str) = decide (z ∈ l)
  | [] => by simp [inV]
  | a :: r => by
    have ih := in_strs z r
    unfold inV at ih ⊢
    rw [List.map_cons, List.any_cons, ih]
    show ((a == z) || _) = _
    by_cases h : a = z
    · subst h
      simp
    · have e : (a == z) = false := by simpa using h
      rw [e, Bool.false_or]
      have h' : z ≠ a := fun q => h q.symm
      simp [h']
theorem flat_strs : ∀ l : List Str, (l.map V.str).all flatV = true
  | [] => rfl
  | a :: r => by rw [List.map_cons, List.all_cons, flat_strs r]; rfl
section
variable {X : Cx}
def rInT (K : PySem.W.Frag) : R2 := fun x y H Q => ∃ (z : Str) (p : Addr) (l : List Str), x = .str z ∧ y = .ref p ∧ SqT K H p (l.map V.str) ∧ Q (.bl (decide (z ∈ l))) H
def rNotInT (K : PySem.W.Frag) : R2 := fun x y H Q => ∃ (z : Str) (p : Addr) (l : List Str), x = .str z ∧ y = .ref p ∧ SqT K H p (l.map V.str) ∧ Q (.bl (!decide (z ∈ l))) H
theorem op_inT : OpR X (compareOp .In) (rInT X.K) := by
  intro pins s σ H x y v u Q I rx ry h
  obtain ⟨z, p, l, rfl, rfl, hs, q⟩ := h
  exact op_in_seq pins s σ H _ _ v u Q I rx ry ⟨p, _, rfl, .inr hs, rfl, flat_strs l, by show Q (.bl (inV _ _)) H; rw [in_strs]; exact q⟩
theorem op_notInT : OpR X (compareOp .NotIn) (rNotInT X.K) := by
  intro pins s σ H x y v u Q I rx ry h
  obtain ⟨z, p, l, rfl, rfl, hs, q⟩ := h
  exact op_notIn_seq pins s σ H _ _ v u Q I rx ry ⟨p, _, rfl, .inr hs, rfl, flat_strs l, by show Q (.bl (!inV _ _)) H; rw [in_strs]; exact q⟩
end
end Rd
namespace Rd
open PySem L2
/-! ### exceptions whose context is known, methods called where one is handled -/
theorem passN {X : Cx} : Passes (L2N.CX X.prog X.w) X E0 := fun _ _ _ _ _ _ _ h => by
  obtain ⟨_, _, _, _, _, _, _, _, _, _, _, _, z⟩ := h
  exact z.elim
theorem atN {X : Cx} {σ : St} : PassesAt (L2N.CX X.prog X.w) X σ E0 := fun _ _ _ _ _ I h => passN _ _ _ _ _ _ I h
theorem takes0N {X : Cx} : L2N.Takes X (fun _ _ _ _ => False) := fun _ _ x => by
  obtain ⟨_, _, _, _, _, _, _, _, _, _, _, _, _, _, _, _, z⟩ := x
  exact z.elim
section
variable {X : Cx} {k : Nat} {x f c m : Str} {p pos apos : Pos} {e o : Expr} {te : TE} {ta : TA} {ps : List Str} {sp : Sp} {CX : CXT} {to : TE}
theorem pmk_xN {es : List Expr} {q : Str} {st : Stmt} (T : Xh X.K X.mg x f q st) (Fq : Fm X.prog X.w X.K X.mg X.base CX0 k x "__init__" ps sp) (hr : Room (k + 1) X.A) (hg : Gl X x) (ha : PA X (e :: es) ta)
    (hdb : (x == ("__debug__" : Str)) = false := by decide) (he : starEach (e :: es) X.env = (false, eval e X.env) :: starEach es X.env := by rfl) (hpl : (backTo pos (starEach es X.env)).any (·.1) = false := by rfl) :
    L2N.PMk X (.Call (.Name x p) (e :: es) [] pos) (tMkO (He.ga X.K x) sp [] ta) := by
  obtain ⟨⟨fd, F1, hb⟩, me⟩ := Fq
  intro pins s σ H Q I h
  obtain ⟨nm, q', N, bs, bm, sn, sub, ab, col, dd, k0, k1, k2, k3, k5, hC, hbm⟩ := T.oex.cls
  refine wpAny_Call_Name_kw (ld_glob I hg T.g ?_ hdb)
  refine PySem.W.callWith_K (h₀ := X.base) I.ok.mod.kin T.oex.kC (thn (ha.run pos pins s σ H _ I h) fun us s1 ⟨vs, H1, I1, r1, hz, q1⟩ => ⟨I1.kIn, ?_⟩) he hpl
  show wpAny _ _ (call (.ref (He.ga X.K x)) us) _ _ _
  obtain ⟨hp, g, dr, tk, os⟩ := s1
  have hsz : hp.objs.size ≤ hp.objs.size + 1 := Nat.le_succ _
  have hn : H1 (hp.objs.size + 1) = none := I1.hok.fresh hsz
  have hq := q1 (hp.objs.size + 1) hn
  rw [List.append_nil] at hq
  have kk : ∀ b o, hp.get? b = some o → ((hp.push (PySem.W.kdv_tup us)).push (PySem.HandSPX.excO (He.ga X.K x) hp.objs.size)).get? b = some o := fun b o e => Heap.get?_push_of_some _ (Heap.get?_push_of_some _ e)
  have hget : ((hp.push (PySem.W.kdv_tup us)).push (PySem.HandSPX.excO (He.ga X.K x) hp.objs.size)).get? (hp.objs.size + 1) = some (PySem.HandSPX.excO (He.ga X.K x) hp.objs.size) := by heap_get
  have I2 : Inv X pins σ (upd H1 (hp.objs.size + 1) (exo (hp.objs.size + 1) (He.ga X.K x) none)) ⟨(hp.push (PySem.W.kdv_tup us)).push (PySem.HandSPX.excO (He.ga X.K x) hp.objs.size), g, dr, tk, os⟩ :=
    I1.laid (t' := tk) (a := hp.objs.size + 1) (o := exo (hp.objs.size + 1) (He.ga X.K x) none) (h' := (hp.push (PySem.W.kdv_tup us)).push (PySem.HandSPX.excO (He.ga X.K x) hp.objs.size)) kk hsz (exo_ok hget)
  have r2 : Vals (V.ref (hp.objs.size + 1) :: vs) (Value.ref (hp.objs.size + 1) :: us) := .cons rfl r1
  have hl : (Value.ref (hp.objs.size + 1) :: us).length = ps.length := by
    have e := r2.length
    rw [F1.len _ _ _ _ hq] at e
    exact e.symm
  have hus : us.length ≤ sizeLine := by
    rw [← Paired.length r1, sizeLine_eq]
    omega
  have hbt := hb ⟨(hp.push (PySem.W.kdv_tup us)).push (PySem.HandSPX.excO (He.ga X.K x) hp.objs.size), g, dr, tk, os⟩ (Value.ref (hp.objs.size + 1) :: us) I2.kIn (by rw [List.append_nil]; exact hl)
  rw [List.append_nil] at hbt
  refine wpAny_call (PySem.HandSPX.call_own PySem.F.excBase_ValueError (fun Y => PySem.HandSPX.refsVE_contains Y bm hbm) (I1.kIn _ _ hC) (PySem.W.looks_findIn I1.kIn me.at_) (fun self => PySem.W.bind_fn I1.kIn self (beq_iff_eq.mp me.fn)) hus
    (codeAny_mono (F1.run _ X.stack _ _ ⟨Value.ref (hp.objs.size + 1) :: us, []⟩ (Value.ref (hp.objs.size + 1) :: us) _ _ (fun _ _ _ => False) (hr.make (He.ga X.K x) us []) (I2.env0.make (He.ga X.K x) us []) hbt r2 hq) fun r s' hq' => ?_))
  cases r with
  | error er => exact hq'.elim
  | ok fl =>
    cases fl with
    | ret u =>
      obtain ⟨v, H2, os2, bare2, un2, hok2, rv, ev, d, fs, ea, ed, hd1, q2⟩ := hq'
      subst ev
      obtain ⟨h2, g2, d2, t2, os'⟩ := s'
      obtain ⟨t0, G, J, kG, ge, hoe, na⟩ := mk_end0 (d2 := d2) (t2 := t2) I1 hsz kk un2 hok2 os2 bare2 ea ed hd1
      exact ⟨rv, _, _, _, ⟨G, g2, d2, t2, os'⟩, _, .ref (He.ga X.K x), some d, rfl, J, kG, ge, hoe, ⟨rfl, rfl, fun vs e => by cases e; rfl⟩, rfl, rfl, na, rfl, bare2, raises_own T.oex.exC T.oex.tyC, q2⟩
    | next => exact False.elim hq'
    | brk => exact False.elim hq'
    | cont => exact False.elim hq'
/-- a method, called where an exception is handled -/
structure FmH (P : Program) (w : World) (K : PySem.W.Frag) (mg : Str → Option Value) (base : Heap) (CX : CXT) (k : Nat) (c m : Str) (ps : List Str) (sp : Sp) : Prop where
  ex : ∃ fd, L2H.FnH P w K mg base CX k (He.ma K (He.ga K c) m) fd ps sp ∧ Binds K fd ps []
  me : Meth K (He.ga K c) m (He.ma K (He.ga K c) m)
theorem Mh.okH {P : Program} {w : World} {K : PySem.W.Frag} {mg : Str → Option Value} {base : Heap} {N : List Str} {q : Str} {st : Stmt} (F : Mh K c m q st) (S : FnScope N ps (defScope st))
    (hb : ∀ (kV doc pm : Value) (an : Option Addr) (cdv ct : Value) (us : List Value), us.length = ps.length → bindArgs (PySem.W.fnOf m q (defArgs st) (defBody st) (defScope st) .none kV doc pm an cdv ct) ⟨us, []⟩ = pure (ps.zip us))
    (len : ∀ vs H Q E, sp vs H Q E → vs.length = ps.length)
    (hbody : ∀ (cdv : Value) (A : Around) (outer : List Env) (s : Shared) (H : Hp) (vs : List V) (Q : VK) (E : XK) (p : Addr × Obj), L2H.Hot1 A p → L2H.RoomH k (A.deeper (PyProof.Rows.envOfC q (defScope st) s.heap.objs.size (He.ma K (He.ga K c) m) cdv)) → sp vs H Q E →
      ∃ t, PSs (L2H.cxH CX P w K mg base N q (defScope st) (He.ma K (He.ga K c) m) cdv A outer s H E p) (defBody st) t ∧ t { nx := fun _ H' => Q .non H', rt := Q } (start N vs) H) : FmH P w K mg base CX (k + 1) c m ps sp := by
  obtain ⟨fd, F'⟩ := F.ex
  have hbn := F'.bindsN hb
  obtain ⟨oc, od, dV, kV, doc, pm, an, cdv, ct, osl, rfl, lk, hcd, _, _⟩ := F'.ex
  exact ⟨⟨_, L2H.fn_ofH lk hcd S len fun A outer s H vs Q E p hp hr hsp => hbody cdv A outer s H vs Q E p hp hr hsp, hbn⟩, F.me⟩
theorem pe_fmH0 {pl : Sem Bool} {E : St → XK} (he : PE X o te) (cl : Cls X.K (He.ga X.K c)) (F : FmH X.prog X.w X.K X.mg X.base CX k c m ps sp) (hr : L2H.RoomH k X.A) (hc : L2H.HotC X) (hx : ∀ σ, PassesAt CX X σ (E σ))
    (ht : eval (.Call (.Attribute o m apos) [] [] pos) X.env = (do
      let ov ← eval o X.env
      standAt apos.atName
      let (f, first) ← holding [ov] (getMethod ov m pl)
      callWith pos f first (backTo pos (starEach [] X.env)) (backToKw pos (keywordEach [] X.env))) := by rfl) :
    PE X (.Call (.Attribute o m apos) [] [] pos) (L2H.tMethH (He.ga X.K c) m sp E te tNil) := by
  obtain ⟨⟨fd, a, b⟩, me⟩ := F
  refine ⟨fun pins s σ H Q I h => ?_⟩
  refine PySem.W.methodCall_KW (pl := pl) (thn (he.run pins s σ H _ I h) fun u s1 ⟨y, H1, I1, rx, i, dx, fs, ex, ea, l, q⟩ => ?_) ht
  subst ex
  obtain rfl : u = Value.ref i := rx
  refine getmeth_ok I1 ea cl me l ?_
  exact PySem.W.callWith_K0 (first := [.ref i]) I1.kIn me.kp (L2H.run_fnH (us := [.ref i]) (vs := [.ref i]) a hr hc b (hx σ) I1 (.cons rfl .nil) q)
theorem hotC {X : Cx} {a : Addr} {oe : Obj} {cls : Value} {d : Option Addr} {pn : List (Addr × Obj)} (hz : L2N.Zn cls d oe) (hf : ∃ vs, oe.data = .fields vs) : L2H.HotC (X.suite a ((a, oe) :: pn)) := by
  obtain ⟨vs, e⟩ := hf
  exact ⟨(a, oe), ⟨rfl, vs, e, hz.2.2 vs e⟩, List.mem_cons_self⟩
end
end Rd
namespace Rd
open PySem L2
/-! ### own comparisons, isinstance of an own class -/
structure IsiC (K : PySem.W.Frag) (C : Addr) : Prop where
  ha : PySem.W.findIn K (.ref C) "__class__" = some (some (.builtin "object.__class__"))
  hn : PySem.W.specialIn K (.builtin "object.__class__") "__get__" = some (some (.builtin "getset_descriptor.__get__"))
  htk : PySem.W.takesIn K (.builtin "object.__class__") = some true
  hm : PySem.W.mroIn K C (.type "object") = some true
  ne : PySem.W.findIn K (.ref C) "__ne__" = some (some (.builtin "object.__ne__"))
def isiB (K : PySem.W.Frag) (C : Addr) : Bool := He.eqO (PySem.W.findIn K (.ref C) "__class__") (some (some (.builtin "object.__class__"))) && (He.eqO (PySem.W.specialIn K (.builtin "object.__class__") "__get__") (some (some (.builtin "getset_descriptor.__get__"))) &&
  (decide (PySem.W.takesIn K (.builtin "object.__class__") = some true) && (decide (PySem.W.mroIn K C (.type "object") = some true) && He.eqO (PySem.W.findIn K (.ref C) "__ne__") (some (some (.builtin "object.__ne__"))))))
theorem isiB_ok {K : PySem.W.Frag} {C : Addr} (h : isiB K C = true) : IsiC K C := by
  obtain ⟨h1, h⟩ := He.ba h
  obtain ⟨h2, h⟩ := He.ba h
  obtain ⟨h3, h⟩ := He.ba h
  obtain ⟨h4, h5⟩ := He.ba h
  exact ⟨He.eqO_ok h1, He.eqO_ok h2, of_decide_eq_true h3, of_decide_eq_true h4, He.eqO_ok h5⟩
theorem IsiC.ty {K : PySem.W.Frag} {C : Addr} (h : IsiC K C) (cl : Cls K C) {H : Hp} {a dx : Addr} {fs : List (Str × V)} (e : H a = some (.ins C dx fs)) : TyX K H (.ref a) (.ref C) := .base (.ins e cl h.ha h.hn h.htk h.hm)
theorem kit_self {K : PySem.W.Frag} {C : Addr} : PySem.W.kitOne K (.ref C) (.ref C) = some true := by
  unfold PySem.W.kitOne
  rw [if_pos (by simp)]
theorem pe_gcls {X : Cx} {x : Str} {pos : Pos} (hg : Gl X x) (hm : X.mg x = some (.ref (He.ga X.K x))) (hd : (x == ("__debug__" : Str)) = false := by decide) : PE X (.Name x pos) (tC (.ref (He.ga X.K x))) := pe_glob hg hm rfl hd
/-- x op y, both of the class at C, its def for op keeps sp -/
def rCmp (C : Addr) (sp : Sp) : R2 := fun x y H Q => ∃ a b dx dy fs gs, x = .ref a ∧ y = .ref b ∧ H a = some (.ins C dx fs) ∧ H b = some (.ins C dy gs) ∧ sp [.ref a, .ref b] H Q E0
/-- x != y, by __eq__'s def -/
def rNeO (C : Addr) (sp : Sp) : R2 := fun x y H Q => ∃ a b dx dy fs gs, x = .ref a ∧ y = .ref b ∧ H a = some (.ins C dx fs) ∧ H b = some (.ins C dy gs) ∧ sp [.ref a, .ref b] H (fun v H' => ∃ k, v = .bl k ∧ Q (.bl (!k)) H') E0
section
variable {X : Cx} {k : Nat} {ps : List Str} {sp : Sp} {c m : Str}
theorem op_cmp {op : CmpOp} (F : Fm X.prog X.w X.K X.mg X.base CX0 k c m ps sp) (hr : Room k X.A) (hop : ∀ a b, compareOp op a b = richCompare op a b) (hm : (cmpInfo op).2.1 = m := by rfl) : OpR X (compareOp op) (rCmp (He.ga X.K c) sp) := by
  obtain ⟨⟨fd, f1, b1⟩, me⟩ := F
  intro pins s σ H x y v u Q I rx ry h
  obtain ⟨a, b, dx, dy, fs, gs, rfl, rfl, ha, hb, q⟩ := h
  cases (show v = Value.ref a from rx)
  cases (show u = Value.ref b from ry)
  obtain ⟨mA, J, _⟩ := ins_get I.hok ha
  obtain ⟨mB, J', _⟩ := ins_get I.hok hb
  obtain ⟨od, J, _⟩ := J.look
  obtain ⟨od', J', _⟩ := J'.look
  obtain ⟨mm, hF⟩ := I.fr
  rw [hop]
  refine PySem.W.cmp_K (op := op) (tb := .ref (He.ga X.K c)) hr.units0 hF I.ok.mod.kin J J'.type (by simp [PySem.W.notFirst]) (by rw [hm]; exact me.at_) me.fn ?_
  exact thn (run_fnS (vs := [.ref a, .ref b]) (E := fun _ => E0) f1 hr b1 at0 I (.cons rfl (.cons rfl .nil)) q) fun v s' hq => back_of hq
theorem op_neO (T : IsiC X.K (He.ga X.K c)) (F : Fm X.prog X.w X.K X.mg X.base CX0 k c "__eq__" ps sp) (hr : Room (k + 1) X.A) : OpR X (compareOp .NotEq) (rNeO (He.ga X.K c) sp) := by
  obtain ⟨⟨fd, f1, b1⟩, me⟩ := F
  intro pins s σ H x y v u Q I rx ry h
  obtain ⟨a, b, dx, dy, fs, gs, rfl, rfl, ha, hb, q⟩ := h
  cases (show v = Value.ref a from rx)
  cases (show u = Value.ref b from ry)
  obtain ⟨mA, J, _⟩ := ins_get I.hok ha
  obtain ⟨mB, J', _⟩ := ins_get I.hok hb
  obtain ⟨od, J, _⟩ := J.look
  obtain ⟨od', J', _⟩ := J'.look
  have hl := f1.len _ _ _ _ q
  have r2 : Vals [V.ref a, V.ref b] [Value.ref a, Value.ref b] := .cons rfl (.cons rfl .nil)
  have bb := b1 s [.ref a, .ref b] I.kIn (by simpa using hl)
  have call : wpAny (model X.prog X.w) X.A.in1 (call (.ref (He.ma X.K (He.ga X.K c) "__eq__")) [.ref a, .ref b]) (fun r s' => ∃ kk : Bool, r = .bool kk ∧ EP X pins σ Q (.bool (!kk)) s') X.xe s := by
    refine wpAny_call (codeAny_mono (f1.run X.A.in1 X.stack s H ⟨[.ref a, .ref b], []⟩ [.ref a, .ref b] [.ref a, .ref b] _ E0 hr.in1 I.env0.in1 (by simpa using bb) r2 q) fun r s' hq => ?_)
    cases r with
    | error e => exact hq.elim
    | ok fl =>
      cases fl with
      | ret u =>
        obtain ⟨v, H', I', rv, kk, rfl, q'⟩ := I.after hq
        cases rv
        exact ⟨kk, rfl, .bl (!kk), H', I', rfl, q'⟩
      | next => exact False.elim hq
      | brk => exact False.elim hq
      | cont => exact False.elim hq
  have hu1 : X.A.in1.units < cLine := (hr.in1).units0
  have body : wpAny (model X.prog X.w) X.A.in1 (Builtin.«object.__ne__» ⟨[.ref a, .ref b], []⟩) (fun fin s' => ∃ v, fin = .done (.ret v) ∧ v ≠ .notImplemented ∧ EP X pins σ Q v s') X.xe s := by
    unfold Builtin.«object.__ne__»
    repeat (first
      | with_reducible refine wpAny_cRoomFor hu1 ?_
      | (refine wpAny_bind (m := callSpecialIfBound? (.ref a) (Str.ofString "__eq__") [.ref b]) (PySem.W.ifBound_K I.kIn J me.at_ me.fn (wpAny_mono call (fun r s' hr => by
          obtain ⟨kk, rfl, hq⟩ := hr
          exact wpAny_bind (wpAny_truthy_bool (wpAny_pure ⟨_, rfl, (fun z => nomatch z), hq⟩))) fun _ _ e => e)))
      | wp_step)
  have nec : wpAny (model X.prog X.w) X.A (PySem.call (.builtin "object.__ne__") [.ref a, .ref b]) (fun v s' => v ≠ .notImplemented ∧ EP X pins σ Q v s') X.xe s := by
    have hi : PySem.W.Looks (model X.prog X.w) s.heap (isInstance (.ref a) (.type "object")) true := J.type.andThen (PySem.W.looks_mroIn I.kIn T.hm)
    refine wpAny_call (codeAny_call_builtin F.cmp_object.ne.plain F.cmpEntry_ne (PySem.W.check_slot F.cmpKind_ne F.cmpSplit_ne hi (F.cmpArgs_ne _ _) (wpAny_mono body (fun fin s' hf => ?_) fun _ _ e => e)))
    obtain ⟨v, rfl, hv⟩ := hf
    exact hv
  have one : wpAny (model X.prog X.w) X.A (tryCompare (.ref a) "__ne__" (.ref b)) (fun r s' => ∃ v, r = some v ∧ EP X pins σ Q v s') X.xe s := by
    have fin : wpAny (model X.prog X.w) X.A (callSpecialIfBound? (.ref a) "__ne__" [.ref b]) (fun r s' => ∃ v, r = some v ∧ v ≠ .notImplemented ∧ EP X pins σ Q v s') X.xe s := by
      simp only [callSpecialIfBound?, bindSpecialIfBound?]
      refine wpAny_holding (wpAny_bind (wpAny_bind (wpAny_bind (J.type.here ((PySem.W.looks_findIn I.kIn T.ne).here ?_)))))
      refine wpAny_bind (wpAny_askSetting (wpAny_ite ?_))
      have e : wpAny (model X.prog X.w) X.A (PySem.call (.builtin "object.__ne__") ([.ref a] ++ [.ref b]) >>= fun v => pure (some v)) (fun r s' => ∃ v, r = some v ∧ v ≠ .notImplemented ∧ EP X pins σ Q v s') X.xe s :=
        wpAny_bind (wpAny_mono nec (fun v s' h' => wpAny_pure ⟨v, rfl, h'⟩) fun _ _ h' => h')
      have bd : PySem.W.Looks (model X.prog X.w) s.heap (bindSpecial (.builtin "object.__ne__") (.ref a)) (.builtin "object.__ne__", [.ref a]) := PySem.W.Looks.of_pure (F.cmp_object.ne.bind _)
      split
      · exact wpAny_bind (bd.here (wpAny_pure (by exact e)))
      · exact wpAny_tryCatch (wpAny_bind (bd.here (wpAny_pure (by exact e))))
    unfold tryCompare
    refine wpAny_bind (wpAny_mono fin (fun r s' hr => ?_) fun _ _ e => e)
    obtain ⟨v, rfl, hv, hq⟩ := hr
    cases v <;> first | exact absurd rfl hv | exact wpAny_pure ⟨_, rfl, hq⟩
  show wpAny _ _ (richCompare .NotEq (.ref a) (.ref b)) _ _ _
  unfold richCompare
  simp only [oneThing_ref]
  refine wpAny_holding (wpAny_bind (wpAny_cRoomFor hr.units0 ?_))
  refine wpAny_bind (J.type.here (wpAny_bind (J'.type.here ?_)))
  rw [show (Value.ref (He.ga X.K c) != Value.ref (He.ga X.K c)) = false from by simp]
  simp only [Bool.false_eq_true, if_false]
  refine wpAny_bind (wpAny_pure ?_)
  simp only [Bool.false_eq_true, if_false]
  refine wpAny_bind (wpAny_mono one (fun r s' z => ?_) fun _ _ e => e)
  obtain ⟨v, rfl, hq⟩ := z
  exact wpAny_pure hq
end
end Rd
namespace Rd
open PySem L2
/-! ### static methods -/
def sfn (K : PySem.W.Frag) (c m : Str) : Addr := He5.wf K (He.ga K c) "staticmethod" m
structure Sh (K : PySem.W.Frag) (mg : Str → Option Value) (c m q : Str) (st : Stmt) : Prop where
  ex : ∃ fd, FunD K m q (defArgs st) (defBody st) (defScope st) [] [] (sfn K c m) fd
  g : mg c = some (.ref (He.ga K c))
  at_ : PySem.W.findCls K (.ref (He.ga K c)) (.type "type") m = some (.get (.builtin "staticmethod.__get__") (.ref (He.ma K (He.ga K c) m)) .none (.ref (He.ga K c)))
  rc : ∃ rest, PySem.W.recIn K (He.ma K (He.ga K c) m) "staticmethod" = some (.ref (sfn K c m) :: rest)
  sga : PySem.W.specialIn K (.ref (He.ga K c)) "__getattribute__" = some (some (.builtin "type.__getattribute__"))
  ty : PySem.W.typeIn K (.ref (He.ga K c)) = some (.type "type")
  rd : PySem.W.readsIn K (He.ga K c) (.type "type") = true
def statB (K : PySem.W.Frag) (c m : Str) : Bool := He5.wrapB K (He.ga K c) "staticmethod" "staticmethod.__get__" m && (He.eqO (PySem.W.specialIn K (.ref (He.ga K c)) "__getattribute__") (some (some (.builtin "type.__getattribute__"))) &&
  (decide (PySem.W.typeIn K (.ref (He.ga K c)) = some (.type "type")) && PySem.W.readsIn K (He.ga K c) (.type "type")))
theorem sh_ok {K : PySem.W.Frag} {mg : Str → Option Value} {c m q : Str} {st : Stmt} (ex : ∃ fd, FunD K m q (defArgs st) (defBody st) (defScope st) [] [] (sfn K c m) fd) (g : mg c = some (.ref (He.ga K c))) (h : statB K c m = true) : Sh K mg c m q st := by
  obtain ⟨h1, h⟩ := He.ba h
  obtain ⟨h2, h⟩ := He.ba h
  obtain ⟨h3, h4⟩ := He.ba h
  obtain ⟨a, b⟩ := He5.wrapB_ok h1
  exact ⟨ex, g, a, b, He.eqO_ok h2, of_decide_eq_true h3, h4⟩
structure Fs (P : Program) (w : World) (K : PySem.W.Frag) (mg : Str → Option Value) (base : Heap) (CX : CXT) (k : Nat) (c m q : Str) (st : Stmt) (ps : List Str) (sp : Sp) : Prop where
  ex : ∃ fd, FnOk P w K mg base CX k (sfn K c m) fd ps sp ∧ Binds K fd ps [] ∧ PySem.W.keepIn K (.ref (sfn K c m)) = true
  sh : Sh K mg c m q st
section
variable {P : Program} {w : World} {K : PySem.W.Frag} {mg : Str → Option Value} {base : Heap} {CX : CXT} {k : Nat} {c m q : Str} {ps N : List Str} {sp : Sp} {st : Stmt}
theorem Sh.ok (F : Sh K mg c m q st) (S : FnScope N ps (defScope st))
    (hb : ∀ (kV doc pm : Value) (an : Option Addr) (cdv ct : Value) (us : List Value), us.length = ps.length → bindArgs (PySem.W.fnOf m q (defArgs st) (defBody st) (defScope st) .none kV doc pm an cdv ct) ⟨us, []⟩ = pure (ps.zip us))
    (len : ∀ vs H Q E, sp vs H Q E → vs.length = ps.length)
    (hbody : ∀ (cdv : Value) (A : Around) (outer : List Env) (s : Shared) (H : Hp) (vs : List V) (Q : VK) (E : XK), Room k (A.deeper (PyProof.Rows.envOfC q (defScope st) s.heap.objs.size (sfn K c m) cdv)) → sp vs H Q E →
      ∃ t, PSs (cxOf CX P w K mg base N q (defScope st) (sfn K c m) cdv A outer s H E) (defBody st) t ∧ t { nx := fun _ H' => Q .non H', rt := Q } (start N vs) H) : Fs P w K mg base CX (k + 1) c m q st ps sp := by
  obtain ⟨fd, F'⟩ := F.ex
  exact ⟨⟨fd, F'.ok S len hbody, F'.bindsN hb, F'.kp⟩, F⟩
end
section
variable {X : Cx} {CX : CXT} {k : Nat} {c m q : Str} {ps : List Str} {sp : Sp} {st : Stmt} {e : Expr} {es : List Expr} {ta : TA} {p1 p2 pos : Pos} {E : St → XK}
theorem pe_fs {pl : Sem Bool} (F : Fs X.prog X.w X.K X.mg X.base CX k c m q st ps sp) (hr : Room k X.A) (hg : Gl X c) (hx : ∀ σ, PassesAt CX X σ (E σ)) (ha : PA X (e :: es) ta) (hd : (c == ("__debug__" : Str)) = false := by decide)
    (hc : eval (.Call (.Attribute (.Name c p1) m p2) (e :: es) [] pos) X.env = (do
      let ov ← eval (.Name c p1) X.env
      standAt p2.atName
      let (f, first) ← holding [ov] (getMethod ov m pl)
      callWith pos f first (backTo pos (starEach (e :: es) X.env)) (backToKw pos (keywordEach [] X.env))) := by rfl)
    (he : starEach (e :: es) X.env = (false, eval e X.env) :: starEach es X.env := by rfl) (hpl : (backTo pos (starEach es X.env)).any (·.1) = false := by rfl) :
    PE X (.Call (.Attribute (.Name c p1) m p2) (e :: es) [] pos) (tCallS sp E ta) := by
  obtain ⟨⟨fd, f1, b1, kp⟩, S⟩ := F
  refine ⟨fun pins s σ H Q I h => ?_⟩
  refine PySem.W.methodCall_KW (ld_glob I hg S.g ?_ hd) hc
  obtain ⟨mm, fr⟩ := I.fr
  obtain ⟨rest, rc⟩ := S.rc
  refine PySem.W.method_of_cls fr I.ok.mod.kin S.sga (PySem.W.cls_sm fr I.ok.mod.kin S.ty S.rd S.at_ rc rfl ?_)
  refine PySem.W.callWith_K (first := []) (h₀ := X.base) I.ok.mod.kin kp (thn (ha.run pos pins _ σ H _ (I.tok _) h) fun us s1 ⟨vs, H1, I1, r1, q1⟩ => ⟨I1.kIn, ?_⟩) he hpl
  exact run_fnS (E := E) f1 hr b1 (hx σ) I1 r1 q1
end
/-! ### the hook, with defs at any address -/
abbrev AlZ : Type := AlY × He.AlD
structure SaysZ (fa : List He.Fa) (fn : List He.DefD) (ts : List He.Tab) (ex : PySem.W.Frag → Bool) (fs : List He5.DefA) (w : World) (K : PySem.W.Frag) : Prop where
  y : SaysY fa fn ts ex w K
  s : He5.SaysA [] fs K
def obsZ (n : Nat) (fa : List He.Fa) (fn : List He.DefD) (ts : List He.Tab) (ex : PySem.W.Frag → Bool) (fs : List He5.DefA) (g : Addr → Option Obj) : AlZ := (obsY n fa fn ts ex g, He5.obsA [] fs (frY n g))
def valZ (fn : List He.DefD) (ts : List He.Tab) (fs : List He5.DefA) (w : World) : AlZ := (valY fn ts w, He5.valA fs)
def hookZ (n : Nat) (fa : List He.Fa) (fn : List He.DefD) (ts : List He.Tab) (ex : PySem.W.Frag → Bool) (fs : List He5.DefA) : PySem.W.Hook where
  α := AlZ
  obs := fun s => obsZ n fa fn ts ex fs s.heap.get?
  val := fun w => valZ fn ts fs w
  says := fun w h => ∃ K : PySem.W.Frag, K.In h ∧ SaysZ fa fn ts ex fs w K
  of := fun _ _ e => ⟨_, He.frG_in, ⟨⟨congrArg (fun z : AlZ => z.1.1) e, congrArg (fun z : AlZ => z.1.2) e⟩, congrArg (fun z : AlZ => z.2) e⟩⟩
  keeps := fun _ _ _ ⟨K, hK, c⟩ k => ⟨K, PySem.W.Frag.In.keeps hK k, c⟩
theorem obsZ_eq {n : Nat} {fa : List He.Fa} {fn : List He.DefD} {ts : List He.Tab} {ex : PySem.W.Frag → Bool} {fs : List He5.DefA} {g : Addr → Option Obj} {s : Shared} (h : ∀ a, g a = s.heap.get? a) : obsZ n fa fn ts ex fs g = (hookZ n fa fn ts ex fs).obs s := by
  have e : g = s.heap.get? := funext h
  rw [e] <;> rfl
end Rd
namespace Rd
open PySem PySem.Spec PyProof.Rows L2
/-! ### sets of texts -/
def kt (e : Int × Value) : Str := match e.2 with | .str x _ => x | _ => Str.empty
/-- a row of such a set -/
def GT (w : World) (e : Int × Value) : Prop := ∃ x t, e.2 = Value.str x t ∧ e.1 = hashStr w x
def addS (l : List Str) (x : Str) : List Str := if x ∈ l then l else x :: l
/-- what a table must be so that it can be walked -/
structure Tb (w : World) (n : Nat) (t : SetTable) : Prop where
  sm : n < scanBound
  ft : t.fits n = true
  ri : Ris t.place.toList
  ld : w.params.followText "set-order" = true ∨ t.led = true
/-- a set of the texts l (in any order) at a -/
structure SetS (w : World) (h : Heap) (a : Addr) (l : List Str) : Prop where
  nd : l.Nodup
  ex : ∃ o es ep t, h.get? a = some o ∧ o.ExactSet ∧ o.data = .set es ep t ∧ (∀ e ∈ es.toList, GT w e) ∧ (es.toList.map kt).Perm l ∧ Tb w es.size t
theorem SetS.at {w : World} {h h' : Heap} {a : Addr} {l : List Str} (R : SetS w h a l) (k : ∀ o, h.get? a = some o → h'.get? a = some o) : SetS w h' a l := by
  obtain ⟨nd, o, es, ep, t, ho, r⟩ := R
  exact ⟨nd, o, es, ep, t, k o ho, r⟩
section
variable {P : Program} {w : World}
theorem gt_is {e : Int × Value} (g : GT w e) (x : Str) : (PySem.strKind P w).is x e.2 = true ↔ kt e = x := by
  obtain ⟨y, t, h1, _⟩ := g
  unfold kt
  rw [h1]
  show ((y == x) = true) ↔ y = x
  exact beq_iff_eq
theorem gt_elems {l : List (Int × Value)} (g : ∀ e ∈ l, GT w e) : ElemsOf (PySem.strKind P w) l := fun e he => by
  obtain ⟨x, t, h1, h2⟩ := g e he
  exact ⟨⟨x, by rw [h1]; exact strKind_is P w x t, h2⟩, by rw [h1] <;> rfl⟩
theorem gt_mem {l : List (Int × Value)} (g : ∀ e ∈ l, GT w e) (x : Str) : x ∈ l.map kt ↔ ∃ e ∈ l, (PySem.strKind P w).is x e.2 = true := by
  constructor
  · intro h
    obtain ⟨e, he, q⟩ := List.mem_map.mp h
    exact ⟨e, he, (gt_is (g e he) x).2 q⟩
  · rintro ⟨e, he, q⟩
    exact List.mem_map.mpr ⟨e, he, (gt_is (g e he) x).1 q⟩
theorem SetS.setOf {h : Heap} {a : Addr} {l : List Str} (R : SetS w h a l) : h.SetOf (PySem.strKind P w) a (fun x => decide (x ∈ l)) l.length := by
  obtain ⟨nd, o, es, ep, t, ho, hx, hd, g, pm, T⟩ := R
  refine ⟨o, es, ep, t, ho, hx, hd, gt_elems g, fun x => ?_, T.sm, T.ft, ?_⟩
  · rw [decide_eq_true_eq, ← pm.mem_iff]
    exact gt_mem g x
  · rw [← pm.length_eq, List.length_map, Array.length_toList]
theorem setS_fresh {h : Heap} {a : Addr} (ho : h.get? a = some { cls := .type "set", dict := none, data := .set #[] 0 (.fresh 0 0 (!w.params.followText "set-order")) }) : SetS w h a [] := by
  refine ⟨List.nodup_nil, _, #[], 0, _, ho, ⟨rfl, rfl, rfl⟩, rfl, (fun e he => by simp at he), List.Perm.refl _, (by decide), (by rfl), List.Pairwise.nil, ?_⟩
  show _ ∨ (!w.params.followText "set-order") = true
  cases w.params.followText "set-order" with
  | false => exact .inr rfl
  | true => exact .inl rfl
end
section
variable {P : Program} {w : World} {A : Around} {E : Value → Shared → Prop} {s : Shared} {a : Addr} {l : List Str}
theorem setS_tail {g : Bool → Sem Unit} (hg : ∀ (b : Bool) (s₁ : Shared) (Q' : Unit → Shared → Prop), Q' () s₁ → wpAny (model P w) A (g b) Q' E s₁)
    {o : Obj} {es e1 : Array (Int × Value)} {ep : Nat} {t t2 : SetTable} {m : List Str} (ho : s.heap.get? a = some o) (hx : o.ExactSet) (hd : o.data = .set es ep t)
    (g1 : ∀ e ∈ e1.toList, GT w e) (p1 : (e1.toList.map kt).Perm m) (nm : m.Nodup) (T : Tb w e1.size t2) {old : Bool} {R : Option Bool → Shared → Prop} (hR : ∀ h', Heap.SameBut a s.heap h' → SetS w h' a m → R (some true) { s with heap := h' }) :
    wpAny (model P w) A (do
        storeSet a e1 t2
        if (!old && t2.tooFull) = true then do
            g (relayAll t2 e1 (SetTable.grown e1.size)).2.2
            storeSet a (relayAll t2 e1 (SetTable.grown e1.size)).1 (relayAll t2 e1 (SetTable.grown e1.size)).2.1
            pure (some true)
          else pure (some true)) R E s := by
  refine wpAny_bind (wpAny_storeSet_of ho hd ?_ (fits_of_scanBound T.sm))
  have o1 := store_at (es' := e1) (t' := t2) ho hd
  have b1 := Heap.SameBut.update s.heap a (Obj.putSet e1 t2)
  split
  · have pm := relayAll_perm t2 e1 (SetTable.grown e1.size)
    have f3 := relayAll_fits t2 e1 (SetTable.grown e1.size)
    have r3 := relayAll_ris t2 e1 (SetTable.grown e1.size)
    have l3 := relayAll_led t2 e1 (SetTable.grown e1.size)
    generalize relayAll t2 e1 (SetTable.grown e1.size) = Z at pm f3 r3 l3 ⊢
    obtain ⟨e2, t3, gave⟩ := Z
    dsimp only at pm f3 r3 l3 ⊢
    have z2 : e2.size = e1.size := by rw [← Array.length_toList, pm.length_eq, Array.length_toList]
    have T3 : Tb w e2.size t3 := ⟨by rw [z2]; exact T.sm, f3, r3, T.ld.imp id fun z => by rw [l3]; exact z⟩
    refine wpAny_bind (hg _ _ _ ?_)
    refine wpAny_bind (wpAny_storeSet_of o1 rfl ?_ (fits_of_scanBound T3.sm))
    exact wpAny_pure (hR _ (b1.trans (Heap.SameBut.update _ a _)) ⟨nm, _, e2, _, t3, store_at (es' := e2) (t' := t3) o1 rfl, hx, rfl, fun e he => g1 e (pm.mem_iff.mp he), (pm.map kt).trans p1, T3⟩)
  · exact wpAny_pure (hR _ b1 ⟨nm, _, e1, _, t2, o1, hx, rfl, g1, p1, T⟩)
theorem setS_addH {x : Str} {tk : Tok} {Q : Bool → Shared → Prop} (R : SetS w s.heap a l) (room : l.length + 1 < scanBound)
    (hQ : ∀ b h', Heap.SameBut a s.heap h' → SetS w h' a (addS l x) → Q b { s with heap := h' }) : wpAny (model P w) A (setAddHashed a (.str x tk) ((PySem.strKind P w).hash x)) Q E s := by
  obtain ⟨nd, o, es, ep, t, ho, hx, hd, g, pm, T⟩ := R
  have sc : (Value.str x tk).scannable = true := rfl
  have el : ElemsOf (PySem.strKind P w) es.toList := gt_elems g
  have zl : es.size = l.length := by rw [← pm.length_eq, List.length_map, Array.length_toList]
  unfold setAddHashed setAddHashedIn
  refine wpAny_holding (wpAny_bind (wpAny_setState_of ho hd T.ft ?_))
  dsimp only
  rw [byScan_of sc T.sm el]
  simp only [↓reduceIte]
  unfold setAddByScan
  refine wpAny_bind ?_
  refine wpAny_bind (wpAny_rule ?_)
  refine wpAny_bind (wpAny_setScan_of (strKind_is P w x tk) ho hd T.ft el ?_)
  cases fi : List.findIdx? (fun e => (PySem.strKind P w).is x e.2) es.toList with
  | some j =>
    dsimp only
    obtain ⟨hj, pj, _⟩ := List.findIdx?_eq_some_iff_getElem.mp fi
    have inl : x ∈ l := pm.mem_iff.mp ((gt_mem (P := P) g x).2 ⟨es.toList[j], List.getElem_mem hj, pj⟩)
    have e : addS l x = l := if_pos inl
    exact wpAny_pure (wpAny_pure (hQ _ s.heap (Heap.SameBut.refl a s.heap) (by rw [e]; exact ⟨nd, o, es, ep, t, ho, hx, hd, g, pm, T⟩)))
  | none =>
    dsimp only
    have nin : x ∉ l := fun z => by
      obtain ⟨e, he, q⟩ := (gt_mem (P := P) g x).1 (pm.mem_iff.mpr z)
      have c := List.findIdx?_eq_none_iff.mp fi e he
      rw [q] at c
      cases c
    have ea : addS l x = x :: l := if_neg nin
    rw [ea] at hQ
    have nm : (x :: l).Nodup := List.nodup_cons.mpr ⟨nin, nd⟩
    have gw : ∀ (b : Bool) {s₁ : Shared} {Q' : Unit → Shared → Prop}, Q' () s₁ → wpAny (model P w) A (match b with | true => rule "set.scan.the-table-gave-way" | false => pure ()) Q' E s₁ :=
      fun b s₁ Q' q => by cases b <;> first | exact wpAny_pure q | exact wpAny_rule q
    have pq := layNew_perm t es ((PySem.strKind P w).hash x) (.str x tk)
    have f1 := layNew_fits t es ((PySem.strKind P w).hash x) (.str x tk)
    have r1 := layNew_ris t es ((PySem.strKind P w).hash x) (.str x tk) T.ri
    have l1 := layNew_led t es ((PySem.strKind P w).hash x) (.str x tk)
    generalize layNew t es ((PySem.strKind P w).hash x) (.str x tk) = Z at pq f1 r1 l1 ⊢
    obtain ⟨e1, t1, old, gave⟩ := Z
    dsimp only at pq f1 r1 l1 ⊢
    rw [Array.toList_push] at pq
    have pc : e1.toList.Perm (((PySem.strKind P w).hash x, Value.str x tk) :: es.toList) := pq.trans (List.perm_append_singleton _ _)
    have p1 : (e1.toList.map kt).Perm (x :: l) := (pc.map kt).trans (pm.cons x)
    have g1 : ∀ e ∈ e1.toList, GT w e := fun e he => by
      rcases List.mem_cons.mp (pc.mem_iff.mp he) with z | z
      · rw [z]; exact ⟨x, tk, rfl, rfl⟩
      · exact g e z
    have z1 : e1.size = l.length + 1 := by rw [← Array.length_toList, pc.length_eq, List.length_cons, Array.length_toList, zl]
    have s1 : e1.size < scanBound := by rw [z1]; exact room
    have ld : w.params.followText "set-order" = true ∨ t1.led = true := T.ld.imp id fun z => by rw [l1]; exact z
    refine wpAny_bind (gw _ ?_)
    split
    · refine wpAny_bind ?_
      rw [hashByValue_scannable 8 sc]
      refine wpAny_pure ?_
      refine setS_tail ?_ ho hx hd g1 p1 nm ⟨s1, ?_, ?_, ?_⟩ ?_
      · intro b s₁ Q' q; cases b <;> first | exact wpAny_pure q | exact wpAny_rule q
      · first | (split <;> first | exact f1 | exact SetTable.fits_plain_off f1) | exact f1
      · first | (split <;> exact r1) | exact r1
      · first | (split <;> exact ld) | exact ld
      · intro h' sb r; dsimp only; exact wpAny_pure (hQ _ h' sb r)
    · refine wpAny_bind (wpAny_pure ?_)
      simp only [↓reduceIte]
      refine setS_tail ?_ ho hx hd g1 p1 nm ⟨s1, f1, r1, ld⟩ ?_
      · intro b s₁ Q' q; cases b <;> first | exact wpAny_pure q | exact wpAny_rule q
      · intro h' sb r; dsimp only; exact wpAny_pure (hQ _ h' sb r)
/-- found.add(x) -/
theorem setS_add {x : Str} {tk : Tok} {Q : Value → Shared → Prop} (R : SetS w s.heap a l) (room : l.length + 1 < scanBound)
    (hQ : ∀ h', Heap.SameBut a s.heap h' → SetS w h' a (addS l x) → Q .none { s with heap := h', toks := s.toks + 1 }) : wpAny (model P w) A (call (.builtin "set.add") [.ref a, .str x tk]) Q E s := by
  refine wpAny_call_entry F.slot_set_add (R.setOf (P := P)).typeIs F.entry_set_add ?_ (F.args_set_add_2 _ _)
  unfold Builtin.«set.add» Builtin.Frozenset.oneOther
  simp only [List.isEmpty_nil, bind_assoc]
  unfold Builtin.Frozenset.addrOf setAdd
  refine wpAny_bind (wpAny_pure ?_)
  try dsimp only
  refine wpAny_bind (wpAny_pure ?_)
  try dsimp only
  refine wpAny_bind (wpAny_holding (wpAny_bind ((PySem.strKind P w).pyHash (strKind_is P w x tk) ?_)))
  refine setS_addH (s := { s with toks := s.toks + 1 }) R room fun b h' sb r => ?_
  show wpAny _ _ (ret Value.none) _ _ _
  exact wpAny_pure ⟨_, rfl, hQ h' sb r⟩
end
/-! ### as tracked things -/
def SetSO (w : World) (a : Addr) (l : List Str) : HO := .ext fun h => SetS w h a l
theorem setSO_new {w : World} {P : Program} {H : Hp} {h : Heap} {a : Addr} {l : List Str} (R : SetS w h a l) : ObjOk P w H h a (SetSO w a l) := by
  have ⟨_, o, _, _, _, ho, _⟩ := R
  exact ⟨R, ⟨o, ho⟩, fun h1 h2 p k => SetS.at p k⟩
section
variable {X : Cx}
theorem setSO_get {pins : List (Addr × Obj)} {σ : L2.St} {H : Hp} {s : Shared} {a : Addr} {l : List Str} (I : Inv X pins σ H s) (ha : H a = some (SetSO X.w a l)) : SetS X.w s.heap a l := (I.hok a _ ha).1
theorem addS_ok {pins : List (Addr × Obj)} {σ : L2.St} {H : Hp} {s : Shared} {E : Value → Shared → Prop} {D : Addr} {l : List Str} {x : Str} {tk : Tok} {Q : Value → Shared → Prop} (I : Inv X pins σ H s) (hD : H D = some (SetSO X.w D l)) (room : l.length + 1 < scanBound)
    (h : ∀ s', Inv X pins σ (upd H D (SetSO X.w D (addS l x))) s' → Q .none s') : wpAny (model X.prog X.w) X.A (call (.builtin "set.add") [.ref D, .str x tk]) Q E s := by
  refine setS_add (setSO_get I hD) room fun h' sb new => ?_
  have he : ∃ u, h'.get? D = some u := by
    have ⟨_, o, _, _, _, ho, _⟩ := new
    exact ⟨o, ho⟩
  exact h _ (I.write (e := D) (t' := s.toks + 1) (by rw [hD]; trivial) (.inl rfl) (fun b u hb hu => (sb.2 b hb).trans hu) he (setSO_new new))
end
end Rd
namespace Rd
open PySem PySem.Spec PyProof.Rows L2
/-! ### {text for ..} -/
def tScS (w : World) (wi : TI) (g : TG) (tt : TT) (te : TE) (vs : List Nat) : TE := fun σ H Q => wi σ H fun J H1 => ∀ D, H1 D = none → ∃ W : Nat → Nat → Hp → Prop, (∃ m, W 0 m (upd H1 D (SetSO w D []))) ∧ ∀ i m H, W i m H →
  (J.stop i H ∧ Q (.ref D) H) ∨ (J.go i H ∧ ∃ Nx : Hp → Prop, (∀ H', Nx H' → ∃ m', m' < m ∧ W (i + 1) m' H') ∧ ∀ x H', J.yld i H x H' → g x (wipe σ vs) H' fun σ2 H2 => wipe σ2 vs = wipe σ vs ∧ tt σ2 H2 fun b H3 =>
    if b = true then te σ2 H3 fun y H4 => ∃ (c : Str) (l : List Str), y = .str c ∧ H4 D = some (SetSO w D l) ∧ l.length + 1 < scanBound ∧ Nx (upd H4 D (SetSO w D (addS l c))) else Nx H3)
section
variable {X : Cx}
theorem pe_scS {elt tg iter : Expr} {ifs : List Expr} {scope : Scope} {own : List (PySem.Str × Nat)} {pos : Pos} {wi : TI} {g : TG} {tt : TT} {te : TE} (hc : X.calm = true) (hN : X.N.Nodup) (hi : PI X tg iter wi) (ok : BlkOk X.N X.env.scope scope own)
    (hg : ∀ (s : Shared) (H : Hp) (C : Addr) (cl : List (PySem.Str × Addr)) (fp : List Addr), PG (X.blk s H scope (compEnvC scope cl C X.env) fp) tg g) (ht : ∀ (s : Shared) (H : Hp) (C : Addr) (cl : List (PySem.Str × Addr)) (fp : List Addr), PTs (X.blk s H scope (compEnvC scope cl C X.env) fp) ifs tt)
    (he : ∀ (s : Shared) (H : Hp) (C : Addr) (cl : List (PySem.Str × Addr)) (fp : List Addr), PE (X.blk s H scope (compEnvC scope cl C X.env) fp) elt te) (hs : ∀ x, foldedSetIterable iter X.env x = pure x := by intro _; rfl) :
    PE X (.SetComp elt [⟨tg, iter, ifs, 0⟩] scope pos) (tScS X.w wi g tt te (own.map (·.2))) := by
  refine ⟨fun pins s σ H Q I h => ?_⟩
  rw [PpSet.eval_SetComp]
  have hfree : ∀ y ∈ scope.names, y.2 = .free → ∃ c, X.env.cells.lookup y.1 = some c := fun y hy e => (ok.free y hy e).elim (fun k => I.ok.has _ (.inl k)) fun k => I.ok.has _ (.inr k)
  refine wpAny_comprehension_free (use := none) rfl hs (closure_ok hfree) ok.kind (fun y hy e => by rw [ok.uniq y hy, e]) (thn (hi.run pins s σ H _ I h) fun xv s1 hx => thn hx fun itv s2 h2 => ?_)
  obtain ⟨it, fp, tn, J, H2, e, I2, T, st2, f2, q⟩ := h2
  subst e
  refine PpSet.newSet_ok (newEnv_comp ?_)
  generalize hD : s2.heap.objs.size = D
  have Dn : H2 D = none := I2.hok.fresh (Nat.le_of_eq hD)
  obtain ⟨W, ⟨m0, w0⟩, turn⟩ := q D Dn
  generalize hO : ({ cls := .type "set", dict := none, data := .set #[] 0 (.fresh 0 0 (!X.w.params.followText "set-order")) } : Obj) = ob
  generalize e3 : ({ s2 with heap := s2.heap.push ob } : Shared) = s3
  have h3 : s3.heap = s2.heap.push ob := by rw [← e3]
  have I3 : Inv X pins σ (upd H2 D (SetSO X.w D [])) s3 := by
    rw [← e3]
    refine I2.laid (t' := s2.toks) (fun b o e => Heap.get?_push_of_some _ e) (Nat.le_of_eq hD) (setSO_new (setS_fresh ?_))
    rw [← hD, ← hO]
    exact Heap.get?_push_size _ rfl
  have f3 : ∀ b ∈ fp, FpOk X pins (upd H2 D (SetSO X.w D [])) b ∧ b < s3.heap.objs.size := fun b hb => by
    obtain ⟨o, e, _⟩ := T.obj _ _ st2 b hb
    have lt := Heap.lt_size e
    refine ⟨⟨?_, (f2 b hb).2⟩, by rw [h3, Heap.size_push]; exact Nat.lt_succ_of_lt lt⟩
    rw [upd_ne (by rw [← hD]; exact Nat.ne_of_lt lt)]
    exact (f2 b hb).1
  have st3 : tn 0 s3.heap := T.keep _ _ _ st2 fun b _ o e => by rw [h3]; exact Heap.get?_push_of_some _ e
  have I4 := block_start I3 ok hN f3
  have pg := hg s3 (upd H2 D (SetSO X.w D [])) s3.heap.objs.size (cellsFrom (s3.heap.objs.size + 1) scope.names (cloFrom X.env.cells scope.names [])) fp
  have pt := ht s3 (upd H2 D (SetSO X.w D [])) s3.heap.objs.size (cellsFrom (s3.heap.objs.size + 1) scope.names (cloFrom X.env.cells scope.names [])) fp
  have pe := he s3 (upd H2 D (SetSO X.w D [])) s3.heap.objs.size (cellsFrom (s3.heap.objs.size + 1) scope.names (cloFrom X.env.cells scope.names [])) fp
  show codeAny _ _ (.compStart (.SetComp elt [⟨tg, iter, ifs, 0⟩] scope pos) 0 (.ref it) (.ref D) (compEnvC scope (cellsFrom (s3.heap.objs.size + 1) scope.names (cloFrom X.env.cells scope.names [])) s3.heap.objs.size X.env)) _ { s3 with heap := pushCells (s3.heap.push { cls := .type "dict", data := .dict #[] }) scope.names }
  have nfp : ∀ b ∈ fp, (upd H2 D (SetSO X.w D [])) b = none := fun b hb => (f3 b hb).1.1
  generalize hce : compEnvC scope (cellsFrom (s3.heap.objs.size + 1) scope.names (cloFrom X.env.cells scope.names [])) s3.heap.objs.size X.env = ce at I4 pg pt pe ⊢
  have cL : ce.locals = s3.heap.objs.size := by subst hce; rfl
  generalize hH3 : upd H2 D (SetSO X.w D []) = H3 at I3 I4 pg pt pe w0 nfp f3
  generalize hs4 : ({ s3 with heap := pushCells (s3.heap.push { cls := .type "dict", data := .dict #[] }) scope.names } : Shared) = s4 at I4 ⊢
  have st4 : tn 0 s4.heap := T.keep _ _ _ st3 fun b _ o e => by rw [← hs4]; exact pushCells_keeps _ _ _ _ (Heap.get?_push_of_some _ e)
  have stat : ∀ {σ' : L2.St} {H' : Hp} {s' : Shared}, Inv (X.blk s3 H3 scope ce fp) [] σ' H' s' → (∀ b ∈ fp, H' b = none) → ∀ b ∈ fp, FpOk (X.blk s3 H3 scope ce fp) [] H' b := fun {σ' H' s'} I' hn b hb =>
    ⟨hn b hb, (I'.ok.exf b hb).1, I'.ok.exfs b hb, .inl hb, fun x c e => (I'.ok.exf b hb).2 x c e, fun p hp => absurd (show p ∈ ([] : List (Addr × Obj)) ++ [] from hp) (by simp)⟩
  have loop : codeAny (model X.prog X.w) X.A (.compLoop (.SetComp elt [⟨tg, iter, ifs, 0⟩] scope pos) 0 (.ref it) (.ref D) ce) (compPost (model X.prog X.w) X.A X.xe none (EP X pins σ Q) (.ref D) s3.heap.objs.size) s4 := by
    refine PpSet.compLoopS_any (fun n s' => ∃ i H', Inv (X.blk s3 H3 scope ce fp) [] (wipe σ (own.map (·.2))) H' s' ∧ tn i s'.heap ∧ (∀ b ∈ fp, H' b = none) ∧ W i n H') ?_ m0 ⟨0, H3, I4, st4, nfp, w0⟩
    rintro n s5 ⟨i, H5, I5, st5, n5, w5⟩
    rcases turn i n H5 w5 with ⟨stop, qq⟩ | ⟨go, Nx, hNx, step⟩
    · refine thnF (T.done (X.blk s3 H3 scope ce fp) rfl rfl rfl hc i [] s5 _ H5 (fun _ _ => False) I5 (stat I5 n5) st5 stop) fun r s6 ⟨hr, I6⟩ => ?_
      subst hr
      have I7 : Inv X pins σ H5 s6 := I3.call' (ch := fp) I6.os I6.base I6.hok I6.bare fun b hb => ⟨(f3 b hb).1.2.2.2.1, (f3 b hb).1.2.1, (f3 b hb).1.2.2.2.2.1, (f3 b hb).1.2.2.2.2.2⟩
      have nC : H5 s3.heap.objs.size = none := by
        have z : H5 ce.locals = none := I6.free
        rw [cL] at z
        exact z
      obtain ⟨m, hn, _⟩ := I6.loc
      have hn : s6.heap.Ns ce.locals m := hn
      rw [cL] at hn
      refine ⟨m, hn, fun h'' sb => ?_⟩
      obtain ⟨g0, g1, g2, g3, g4, g5⟩ := I3.fpOk (Nat.le_refl _) nC
      exact ⟨.ref D, H5, I7.turned (t' := s6.toks) (fun b o hb e => (sb.2 b hb).trans e) g0 g1 g3 g4 g5, rfl, qq⟩
    · refine thnF (T.item (X.blk s3 H3 scope ce fp) rfl rfl rfl hc i [] s5 _ H5 (fun _ _ => False) I5 (stat I5 n5) st5 go) fun r s6 ⟨u, hr, h6⟩ => ?_
      subst hr
      refine thnF h6 fun _ s7 ⟨x, H7, I7, r7, y7, st7, n7⟩ => ?_
      refine thnF (pg.run _ s7 _ H7 x u _ (I7.pinned (stat I7 n7) (T.obj _ _ st7)) r7 (step x H7 y7)) fun _ s8 ⟨σ8, H8, I8, hw8, q8⟩ => ?_
      refine thnF (pt.run _ s8 σ8 H8 _ I8 q8) fun b s9 ⟨H9, I9, q9⟩ => ?_
      have fin : ∀ {s' : Shared} {H' : Hp}, Inv (X.blk s3 H3 scope ce fp) ([] ++ pinsAt fp s7.heap) σ8 H' s' → Nx H' → ∃ m, m < n ∧ ∃ i H', Inv (X.blk s3 H3 scope ce fp) [] (wipe σ (own.map (·.2))) H' s' ∧ tn i s'.heap ∧ (∀ b ∈ fp, H' b = none) ∧ W i m H' := fun {s' H'} I' nx => by
        obtain ⟨m', hm, w'⟩ := hNx H' nx
        have pin' : ∀ b ∈ fp, ∀ o, s7.heap.get? b = some o → s'.heap.get? b = some o ∧ H' b = none := fun b hb o e => by
          have z := I'.pin (b, o) (List.mem_append_right _ (List.mem_append_right _ (mem_pinsAt hb e)))
          exact ⟨z.1, z.2.1⟩
        refine ⟨m', hm, i + 1, H', (I'.unpinned (pins := [])).weak (by rw [← hw8, wipe_length]) (fun j v e => by rw [← hw8] at e; exact (wipe_some e).1), T.keep _ _ _ st7 fun b hb o e => (pin' b hb o e).1, fun b hb => ?_, w'⟩
        obtain ⟨o, e, _⟩ := T.obj _ _ st7 b hb
        exact (pin' b hb o e).2
      cases b with
      | false =>
        simp only [Bool.false_eq_true, if_false] at q9 ⊢
        exact fin I9 q9
      | true =>
        simp only [if_true] at q9 ⊢
        refine thnF (pe.run _ s9 σ8 H9 _ I9 q9) fun z s10 ⟨yv, H10, I10, r10, c, l, ey, hD10, hz10, nx⟩ => ?_
        subst ey
        obtain ⟨tk, rfl⟩ := r10
        exact addS_ok (X := X.blk s3 H3 scope ce fp) I10 hD10 hz10 fun s11 I11 => fin I11 nx
  exact PpSet.codeAny_compStart_set loop (T.self X.A 0 _ _ _ st4 loop)
end
/-! ### set(list of texts), sorted(set of texts) -/
section
variable {P : Program} {w : World} {A : Around} {E : Value → Shared → Prop} {s : Shared}
theorem strs_of : ∀ (l : List Value), (∀ v ∈ l, ∃ x t, v = Value.str x t) → ∃ xs, StrsAre l xs
  | [], _ => ⟨[], .nil⟩
  | v :: l, h => by
    obtain ⟨x, t, rfl⟩ := h v List.mem_cons_self
    obtain ⟨xs, g⟩ := strs_of l fun u hu => h u (List.mem_cons_of_mem _ hu)
    exact ⟨x :: xs, .cons x t g⟩
theorem strs_kt {es : List (Int × Value)} (g : ∀ e ∈ es, GT w e) : StrsAre (es.map (·.2)) (es.map kt) := by
  induction es with
  | nil => exact .nil
  | cons e r ih =>
    obtain ⟨x, t, h1, _⟩ := g e List.mem_cons_self
    have hk : kt e = x := by unfold kt; rw [h1]
    rw [List.map_cons, List.map_cons, h1, hk]
    exact .cons x t (ih fun e he => g e (List.mem_cons_of_mem _ he))
def rawS : Value → Str
  | .str x _ => x
  | _ => Str.empty
theorem strs_raw {l : List Value} {xs : List Str} (h : StrsAre l xs) : l.map rawS = xs := by
  induction h with
  | nil => rfl
  | cons x t _ ih => rw [List.map_cons, ih]; rfl
theorem sorted_setS {a : Addr} {l : List Str} {Q : Value → Shared → Prop} (R : SetS w s.heap a l) (hh : A.handled = none)
    (hQ : ∀ s' p (out : Array Value) (c : Nat) (ys : List Str), (∀ b o, s.heap.get? b = some o → s'.heap.get? b = some o) → s'.gens = s.gens → s'.os = s.os → s.heap.objs.size ≤ p →
      s'.heap.get? p = some (seqObj "list" out c) → StrsAre out.toList ys → ys.Perm l → sortedS ys = true → Q (.ref p) s') :
    wpAny (model P w) A (call (.builtin "sorted") [.ref a]) Q E s := by
  obtain ⟨nd, o, es, ep, t, ho, hx, hd, g, pm, T⟩ := R
  refine Calls.call_function_entry kind_sorted plain_sorted entry_sorted (args_sorted1 _) ?_
  unfold Builtin.«sorted»
  refine wpAny_bind (m := checkCount "sorted" 1 1 _) (wpAny_pure ?_)
  refine wpAny_bind (collect_set (A := A.in1) hh ⟨o, ho, hx.1, hd⟩ T.ft T.sm T.ri T.ld fun s1 vs k1 hz g1 o1 pv => ?_)
  have hvl : vs.length = es.size := by rw [pv.length_eq, List.length_map, Array.length_toList]
  obtain ⟨xs, hxs⟩ := strs_of vs fun v hv => by
    obtain ⟨e, he, q⟩ := List.mem_map.mp (pv.mem_iff.mp hv)
    obtain ⟨x, tk, h1, _⟩ := g e he
    exact ⟨x, tk, by rw [← q]; exact h1⟩
  have px : xs.Perm l := by
    rw [← strs_raw hxs]
    refine ((pv.map rawS).trans ?_).trans pm
    rw [strs_raw (strs_kt g)]
  have hvs : vs.length ≤ sizeLine := by rw [hvl]; exact fits_of_scanBound T.sm
  refine wpAny_bind (wpAny_newList ?_ hvs)
  have hoL : (s1.heap.push (seqObj "list" vs.toArray 0)).get? s1.heap.objs.size = some (seqObj "list" vs.toArray 0) := Heap.get?_push_size _ rfl
  refine wpAny_bind (wpAny_holding (wpAny_call_entry slot_list_sort ⟨_, hoL, rfl⟩ entry_list_sort (list_sort_treeKAny strKind_oneLt hoL hxs.keysOf (fun v₁ v₂ rest e => keyKind_strs (by rw [← e]; exact hxs)) hvs fun st' hp hs => ⟨_, rfl, ?_⟩) (args_list_sort _)))
  obtain ⟨ys, h1, h2, h3⟩ := sorted_out_str hxs hp hs
  obtain ⟨c, hc⟩ := sortedHeap_at (vs := vs) hoL
  refine wpAny_pure ⟨_, rfl, hQ _ s1.heap.objs.size _ c ys (fun b u e => ?_) g1 o1 hz hc h1 (h2.trans px) h3⟩
  have q := k1 b u e
  have hlt := Heap.lt_size q
  rw [sortedHeap_old (Nat.ne_of_lt hlt) (by rw [size_push']; exact Nat.lt_succ_of_lt hlt)]
  exact Heap.get?_push_of_some _ q
end
section
variable {X : Cx}
def rSortedSS (w : World) : List V → Hp → VK → Prop := fun vs H Q => ∃ (a : Addr) (l : List Str), vs = [V.ref a] ∧ H a = some (SetSO w a l) ∧
  ∀ (ys : List Str) (p : Addr), ys.Perm l → ys.Nodup → sortedS ys = true → H p = none → Q (.ref p) (upd H p (.lst (ys.map V.str)))
theorem cr_sortedSS (hc : X.calm = true) : CallR X (.builtin "sorted") (rSortedSS X.w) := by
  intro pins s σ H vs us Q I r h
  obtain ⟨a, l, rfl, ha, q⟩ := h
  have R := setSO_get I ha
  rw [Vals.ref1 r]
  have hl : l.length ≤ sizeLine := by
    have ⟨_, o, es, ep, t, _, _, _, _, pm, T⟩ := R
    rw [← pm.length_eq, List.length_map, Array.length_toList]
    exact fits_of_scanBound T.sm
  refine sorted_setS R (I.ok.hd hc) fun s' p out c ys k g o hp hgt hi pm hs => ?_
  have hlen : (ys.map V.str).length ≤ sizeLine := by rw [List.length_map, pm.length_eq]; exact hl
  have hn : H p = none := I.hok.fresh hp
  obtain ⟨h2, g2, d2, t2, o2⟩ := s'
  obtain rfl : o2 = s.os := o
  obtain rfl : g2 = s.gens := g
  have J : Inv X pins σ (upd H p (.lst (ys.map V.str))) ⟨h2, s.gens, d2, t2, s.os⟩ := I.call (d' := d2) (t' := t2) (g' := s.gens) (ch := []) (Un.laid k hp hn) (I.hok.laid k hp ⟨hlen, out.toList, c, vals_of_strs hi, hgt⟩) I.bare (fun _ z => nomatch z)
  exact ⟨.ref p, _, J, rfl, q ys p pm (pm.nodup_iff.mpr R.nd) hs hn⟩
end
end Rd
namespace Rd
open PySem PySem.Spec PyProof.Rows L2
/-- texts put into a set one behind another -/
def putS (l : List Str) : List Str → List Str
  | [] => l
  | x :: r => putS (addS l x) r
theorem addS_mem {l : List Str} {x y : Str} : y ∈ addS l x ↔ y ∈ l ∨ y = x := by
  unfold addS
  split
  · exact ⟨.inl, fun h => h.elim id fun e => by rw [e]; assumption⟩
  · rw [List.mem_cons]
    exact Or.comm
theorem addS_nd {l : List Str} {x : Str} (h : l.Nodup) : (addS l x).Nodup := by
  unfold addS
  split
  · exact h
  · exact List.nodup_cons.mpr ⟨by assumption, h⟩
theorem addS_len {l : List Str} {x : Str} : (addS l x).length ≤ l.length + 1 := by
  unfold addS
  split
  · exact Nat.le_succ _
  · exact Nat.le_refl _
theorem putS_mem {y : Str} : ∀ {r l : List Str}, y ∈ putS l r ↔ y ∈ l ∨ y ∈ r
  | [], l => by simp [putS]
  | x :: r, l => by
    rw [putS, putS_mem, addS_mem, List.mem_cons, or_assoc]
theorem putS_nd : ∀ {r l : List Str}, l.Nodup → (putS l r).Nodup
  | [], _, h => h
  | _ :: r, _, h => putS_nd (r := r) (addS_nd h)
theorem putS_len : ∀ {r l : List Str}, (putS l r).length ≤ l.length + r.length
  | [], l => Nat.le_refl _
  | x :: r, l => by
    have h := putS_len (r := r) (l := addS l x)
    have := addS_len (l := l) (x := x)
    rw [putS, List.length_cons]
    omega
theorem putS_app : ∀ {r q l : List Str}, putS l (r ++ q) = putS (putS l r) q
  | [], _, _ => rfl
  | x :: r, q, l => putS_app (r := r) (q := q) (l := addS l x)
section
variable {P : Program} {w : World} {A : Around} {E : Value → Shared → Prop} {s : Shared}
theorem fillS {I : Addr} {fp wr : List Addr} {G : Array GenState → Array GenState → Prop} {n : Nat} {Pv : Nat → Value → Prop} {St : Nat → Shared → Prop} {R : Result → Shared → Prop}
    (W : WalksS P w A.in1 I fp wr G n Pv St) (S : Addr) (nS : S ∉ fp) (xs : List Str) (hn : n = xs.length) (hb : xs.length + 1 < scanBound) (hv : ∀ i v, Pv i v → ∃ x t, xs[i]? = some x ∧ v = .str x t) :
    ∀ (k i : Nat) (s : Shared), n - i = k → i ≤ n → St i s → SetS w s.heap S (putS [] (xs.take i)) →
      (∀ s', Moved (S :: wr) G s s' → SetS w s'.heap S (putS [] xs) → R (.ok (.ret .none)) s') → codeAny (model P w) A (.builtin "set.update.loop" ⟨[.ref S, .ref I], []⟩) R s := by
  have nw : S ∉ wr := fun h => nS (W.sub _ h)
  have su : ∀ b ∈ wr, b ∈ S :: wr := fun b hb => List.mem_cons_of_mem _ hb
  intro k
  induction k with
  | zero =>
    intro i s hk hi hst hS hR
    obtain rfl : i = n := by omega
    refine codeAny_builtin F.entry_set_update_loop ?_
    rw [Around.under_plainId F.plain_set_update_loop _]
    show wpAny _ A.in1 (pyNext (.ref I) >>= _) _ _ s
    refine wpAny_bind (W.done s _ _ hst fun s' hm => ?_)
    show wpAny _ A.in1 (ret Value.none) _ _ s'
    rw [List.take_of_length_le (by omega)] at hS
    exact wpAny_pure (hR s' (hm.mono su) (hS.at fun o e => hm.heap S o nw e))
  | succ k ih =>
    intro i s hk hi hst hS hR
    have lt : i < n := by omega
    refine codeAny_builtin F.entry_set_update_loop ?_
    rw [Around.under_plainId F.plain_set_update_loop _]
    show wpAny _ A.in1 (pyNext (.ref I) >>= _) _ _ s
    refine wpAny_bind (W.item i s _ _ lt hst fun v s' hP hst' hm => ?_)
    obtain ⟨x, t, hx, rfl⟩ := hv i v hP
    show wpAny _ A.in1 (holding [Value.str x t] (setAdd S (.str x t)) >>= _) _ _ s'
    refine wpAny_bind (wpAny_holding ?_)
    unfold setAdd
    refine wpAny_holding (wpAny_bind ((PySem.strKind P w).pyHash (k := x) (strKind_is _ _ _ _) ?_))
    have len : (putS [] (xs.take i)).length + 1 < scanBound := by
      have := putS_len (r := xs.take i) (l := [])
      rw [List.length_take, List.length_nil] at this
      omega
    refine setS_addH (s := { s' with toks := s'.toks + 1 }) (hS.at fun o e => hm.heap S o nw e) len fun b h' sb hS2 => ?_
    have hS3 : SetS w h' S (putS [] (xs.take (i + 1))) := by
      rw [List.take_add_one, hx, putS_app]
      exact hS2
    refine wpAny_pure ⟨plainId_quiet F.plain_set_update_loop _, ih (i + 1) _ (by omega) lt (W.frame _ s' _ _ hst' (Nat.le_succ _) fun b hb o e => ?_) hS3 fun s'' hm2 hS4 => ?_⟩
    · rw [sb.2 b (fun h : b = S => nS (by rw [← h]; exact hb))]; exact e
    · refine hR s'' (Moved.trans W.gtrans ((hm.mono su).then_heap (Nat.le_succ _) fun b o hb e => ?_) hm2) hS4
      rw [sb.2 b (fun h : b = S => hb (by rw [h]; exact List.mem_cons_self))]; exact e
theorem strs_val : ∀ {us : List Value} {xs : List Str}, StrsAre us xs → ∀ (i : Nat) (v : Value), us[i]? = some v → ∃ x t, xs[i]? = some x ∧ v = .str x t
  | _, _, .nil, i, v, h => by simp at h
  | _, _, .cons n t hr, 0, v, h => by simp at h; exact ⟨n, t, rfl, h.symm⟩
  | _, _, .cons n t hr, i + 1, v, h => by
    rw [List.getElem?_cons_succ] at h ⊢
    exact strs_val hr i v h
/-- the new set -/
abbrev newO (w : World) : Obj := { cls := .type "set", dict := none, data := .set #[] 0 (.fresh 0 0 (!w.params.followText "set-order")) }
theorem set_of_list {l : Addr} {items : Array Value} (xs : List Str) {Q : Value → Shared → Prop} (hh : A.handled = none) (hl : s.heap.IsList l items) (hit : StrsAre items.toList xs) (hb : xs.length + 1 < scanBound)
    (h : ∀ (h' : Heap) (tk : Nat), SetS w h' s.heap.objs.size (putS [] xs) → (∀ b o, s.heap.get? b = some o → h'.get? b = some o) → Q (.ref s.heap.objs.size) { s with heap := h', toks := tk }) :
    wpAny (model P w) A (call (.type "set") [.ref l]) Q E s := by
  have isz : items.size = xs.length := by
    have q := StrsAre.length hit
    rw [Array.length_toList] at q
    exact q
  obtain ⟨c, tl, hmro⟩ := F.called_set.mro
  have hmade := F.called_set.made
  have hsub := F.called_set.sub
  refine wpAny_call (codeAny_of_tree ?_)
  show wpAny _ _ (callAny (.type "set") _) _ _ _
  refine wpAny_pure ⟨Code.quiet_builtin _ (by decide +kernel), codeAny_builtin F.entry_type_call ?_⟩
  rw [Around.under_plain (weight_type_call_type "set" [.ref l] []) rfl]
  have h1 := F.called_set.notType
  have h2 := F.called_set.canCreate
  have hct := F.typeCall_set_1 (.ref l)
  repeat (any_goals (first | assumption | wp_step))
  refine codeAny_mono (code_set_led1 (.ref l) (E := E) (Q₁ := fun obj s₁ => obj = .ref s.heap.objs.size ∧ s₁ = { s with heap := s.heap.push (newO w) }) ⟨rfl, rfl⟩) fun r s₁ hr => ?_
  cases r with
  | error e => exact hr
  | ok fl =>
    cases fl with
    | ret obj =>
      obtain ⟨rfl, rfl⟩ := hr
      have hS : (s.heap.push (newO w)).get? s.heap.objs.size = some (newO w) := Heap.get?_push_size _ rfl
      have hT : Shared.TypeIs { s with heap := s.heap.push (newO w) } (.ref s.heap.objs.size) "set" := ⟨_, hS, rfl⟩
      have hli := F.called_set.init.lookup
      have hbi := F.called_set.init.bind (.ref s.heap.objs.size)
      repeat (any_goals (first | assumption | wp_step))
      refine codeAny_mono (codeAny_call_builtin (R := wants (fun r s₂ => r = .none ∧ ∃ h' tk, s₂ = { s with heap := h', toks := tk } ∧ SetS w h' s.heap.objs.size (putS [] xs) ∧ (∀ b o, s.heap.get? b = some o → h'.get? b = some o)) E) F.called_set.init.plain F.entry_set_init (check_set_init_1 hT ?_)) fun r₂ s₂ hr₂ => ?_
      · obtain ⟨ol, hol, hcl, nl, hdl⟩ := hl
        obtain ⟨ocls, odict, odata, oslots⟩ := ol
        simp only at hcl hdl
        subst hcl; subst hdl
        have hol' : (s.heap.push (newO w)).get? l = some { cls := .type "list", dict := odict, data := .seq items nl, slots := oslots } := Heap.get?_push_of_some _ hol
        have hsls := F.sub_list_set
        have hslf := F.sub_list_frozenset
        have hne : (Value.type "list" == Value.type "dict") = false := by decide
        have hl1 : (s.heap.push (newO w)).IsList l items := ⟨_, hol', rfl, nl, rfl⟩
        unfold Builtin.«set.__init__» noKeywords Builtin.Frozenset.updateFrom
        generalize hPI : pyIter = PI
        wp_walk
        subst hPI
        refine wpAny_pyIter_list hl1 ?_
        refine wpAny_bind (wpAny_runValue ?_)
        have lS : l < s.heap.objs.size := Heap.lt_size hol
        have hh3 : A.in1.in1.in1.handled = none := by simp [hh]
        have nI : l ≠ (s.heap.push (newO w)).objs.size := by
          rw [Heap.size_push]; exact Nat.ne_of_lt (Nat.lt_succ_of_lt lS)
        have nSf : s.heap.objs.size ∉ [(s.heap.push (newO w)).objs.size, l] := by
          rw [Heap.size_push]
          simp only [List.mem_cons, List.mem_singleton, List.not_mem_nil, or_false, not_or]
          exact ⟨Nat.ne_of_lt (Nat.lt_succ_self _), Nat.ne_of_gt lS⟩
        refine fillS ((Walks.list hh3 _ l nI items).toS) s.heap.objs.size nSf xs isz hb (fun i v hv => strs_val hit i v (by rw [Array.getElem?_toList]; exact hv)) (items.size - 0) 0 _ (by omega) (Nat.zero_le _)
          ⟨⟨_, Heap.get?_push_size _ rfl, rfl, rfl⟩, (hl1.push _)⟩ (setS_fresh (Heap.get?_push_of_some _ hS)) ?_
        intro s' hm hS'
        obtain ⟨h', g2, d', tk', os'⟩ := s'
        have eg : g2 = s.gens := hm.gens
        have ed : d' = s.drawn := hm.drawn
        have eo : os' = s.os := hm.os
        subst eg; subst ed; subst eo
        show wpAny _ _ _ _ _ _
        refine wpAny_pure ?_
        show wpAny _ _ (ret Value.none) _ _ _
        refine wpAny_pure ⟨rfl, h', tk', rfl, hS', fun b o e => ?_⟩
        have hb0 : b < s.heap.objs.size := Heap.lt_size e
        have hb2 : b ≠ (s.heap.push (newO w)).objs.size := by
          rw [Heap.size_push]; exact Nat.ne_of_lt (Nat.lt_succ_of_lt hb0)
        exact hm.heap b o (by simp only [List.mem_cons, List.mem_singleton, List.not_mem_nil, or_false, not_or]; exact ⟨Nat.ne_of_lt hb0, hb2⟩) (Heap.get?_push_of_some _ (Heap.get?_push_of_some _ e))
      · cases r₂ with
        | error e => exact hr₂
        | ok fl₂ =>
          cases fl₂ with
          | ret r =>
            obtain ⟨rfl, h', tk, rfl, hS', hk'⟩ := hr₂
            repeat (any_goals (first | assumption | wp_step))
            exact h _ _ hS' hk'
          | _ => exact hr₂.elim
    | _ => exact hr.elim
end
section
variable {X : Cx}
def rSetOfS (K : PySem.W.Frag) (w : World) : List V → Hp → VK → Prop := fun vs H Q => ∃ (l : Addr) (xs : List Str), vs = [V.ref l] ∧ SqL K H l (xs.map V.str) ∧ xs.length + 1 < scanBound ∧ ∀ a, H a = none → Q (.ref a) (upd H a (SetSO w a (putS [] xs)))
theorem cr_setOfS (hc : X.calm = true) : CallR X (.type "set") (rSetOfS X.K X.w) := by
  intro pins s σ H vs us Q I r h
  obtain ⟨l, xs, rfl, hl, hb, q⟩ := h
  rw [Vals.ref1 r]
  obtain ⟨its, rv, pl, hz⟩ := I.list hl
  exact set_of_list xs (I.ok.hd hc) pl.isList (by simpa using rv.strs) hb fun h' tk R k =>
    ⟨.ref s.heap.objs.size, upd H s.heap.objs.size (SetSO X.w s.heap.objs.size (putS [] xs)), I.laid (t' := tk) k (Nat.le_refl _) (setSO_new R), rfl, q _ (I.hok.fresh (Nat.le_refl _))⟩
/-- len(a set of texts) -/
def rLenSS (w : World) : List V → Hp → VK → Prop := fun vs H Q => ∃ (a : Addr) (l : List Str), vs = [V.ref a] ∧ H a = some (SetSO w a l) ∧ Q (.int l.length) H
end
end Rd
namespace Rd
open PySem L2
/-! ### own in, own len -/
def rInO (C : Addr) (sp : Sp) (f : Bool → Bool) : R2 := fun x y H Q => ∃ b dy gs, y = .ref b ∧ H b = some (.ins C dy gs) ∧ sp [.ref b, x] H (fun v H' => ∃ k, v = .bl k ∧ Q (.bl (f k)) H') E0
def rLenO (C : Addr) (sp : Sp) : List V → Hp → VK → Prop := fun vs H Q => ∃ a dx fs, vs = [.ref a] ∧ H a = some (.ins C dx fs) ∧ sp [.ref a] H (fun v H' => ∃ n : Nat, v = .int n ∧ n < 2 ^ 62 ∧ Q (.int n) H') E0
section
variable {X : Cx} {k : Nat} {ps : List Str} {sp : Sp} {c : Str}
theorem op_inO (F : Fm X.prog X.w X.K X.mg X.base CX0 k c "__contains__" ps sp) (hr : Room k X.A) : OpR X (compareOp .In) (rInO (He.ga X.K c) sp id) := by
  obtain ⟨⟨fd, f1, b1⟩, me⟩ := F
  intro pins s σ H x y v u Q I rx ry h
  obtain ⟨b, dy, gs, rfl, hb, q⟩ := h
  cases (show u = Value.ref b from ry)
  obtain ⟨mA, J, _⟩ := ins_get I.hok hb
  obtain ⟨od, J, _⟩ := J.look
  obtain ⟨mm, hF⟩ := I.fr
  refine PySem.W.in_K hF I.ok.mod.kin J me.at_ me.fn (thn (run_fnS (vs := [.ref b, x]) (E := fun _ => E0) f1 hr b1 at0 I (.cons rfl (.cons rx .nil)) q) fun r s' hq => ?_)
  obtain ⟨z, H', I', rz, kk, rfl, q'⟩ := hq
  cases rz
  exact wpAny_truthy_bool ⟨.bl kk, H', I', rfl, q'⟩
theorem op_notInO (F : Fm X.prog X.w X.K X.mg X.base CX0 k c "__contains__" ps sp) (hr : Room k X.A) : OpR X (compareOp .NotIn) (rInO (He.ga X.K c) sp not) := by
  obtain ⟨⟨fd, f1, b1⟩, me⟩ := F
  intro pins s σ H x y v u Q I rx ry h
  obtain ⟨b, dy, gs, rfl, hb, q⟩ := h
  cases (show u = Value.ref b from ry)
  obtain ⟨mA, J, _⟩ := ins_get I.hok hb
  obtain ⟨od, J, _⟩ := J.look
  obtain ⟨mm, hF⟩ := I.fr
  refine PySem.W.notIn_K hF I.ok.mod.kin J me.at_ me.fn (thn (run_fnS (vs := [.ref b, x]) (E := fun _ => E0) f1 hr b1 at0 I (.cons rfl (.cons rx .nil)) q) fun r s' hq => ?_)
  obtain ⟨z, H', I', rz, kk, rfl, q'⟩ := hq
  cases rz
  exact wpAny_truthy_bool ⟨.bl (!kk), H', I', rfl, q'⟩
theorem call_lenO (F : Fm X.prog X.w X.K X.mg X.base CX0 k c "__len__" ps sp) (hr : Room (k + 1) X.A) : CallR X (.builtin "len") (rLenO (He.ga X.K c) sp) := by
  obtain ⟨⟨fd, f1, b1⟩, me⟩ := F
  intro pins s σ H vs us Q I r h
  obtain ⟨a, dx, fs, rfl, ha, q⟩ := h
  rw [Vals.ref1 r]
  obtain ⟨mA, J, _⟩ := ins_get I.hok ha
  obtain ⟨od, J, _⟩ := J.look
  obtain ⟨mm, hF⟩ := I.fr
  have hl := f1.len _ _ _ _ q
  have r2 : Vals [V.ref a] [Value.ref a] := .cons rfl .nil
  have bb := b1 s [.ref a] I.kIn (by simpa using hl)
  refine PySem.W.len_K hF I.ok.mod.kin J me.at_ me.fn (wpAny_call (codeAny_mono (f1.run X.A.in1 X.stack s H ⟨[.ref a], []⟩ [.ref a] [.ref a] _ E0 hr.in1 I.env0.in1 (by simpa using bb) r2 q) fun r s' hq => ?_))
  cases r with
  | error e => exact hq.elim
  | ok fl =>
    cases fl with
    | ret u =>
      obtain ⟨v, H', I', rv, n, rfl, hn, q'⟩ := I.after hq
      obtain ⟨t, rfl⟩ := rv
      exact ⟨⟨by omega, by omega⟩, .int n, H', I'.tok _, ⟨_, rfl⟩, q'⟩
    | next => exact False.elim hq
    | brk => exact False.elim hq
    | cont => exact False.elim hq
end
end Rd
namespace Rd
open PySem L2
theorem _root_.L2.Room.units65 {k : Nat} {A : Around} (r : Room k A) : A.units + 65 < cLine := by have := r.un; omega
end Rd
namespace Rd
open PySem L2
/-! ### rules with the written part named: for comprehensions -/
section
variable {X : Cx} {K : PySem.W.Frag}
theorem kIx {r : PySem.W.Frag → R2} (hK : X.K = K) (h : IxR X (r X.K)) : IxR X (r K) := hK ▸ h
theorem kOp {o : Value → Value → Sem Value} {r : PySem.W.Frag → R2} (hK : X.K = K) (h : OpR X o (r X.K)) : OpR X o (r K) := hK ▸ h
theorem kE {e : Expr} {t : PySem.W.Frag → TE} (hK : X.K = K) (h : PE X e (t X.K)) : PE X e (t K) := hK ▸ h
theorem kSl {r : PySem.W.Frag → _} (hK : X.K = K) (h : SlR X (r X.K)) : SlR X (r K) := hK ▸ h
theorem kCall {f : Value} {r : PySem.W.Frag → List V → Hp → VK → Prop} (hK : X.K = K) (h : CallR X f (r X.K)) : CallR X f (r K) := hK ▸ h
def rLenSq (K : PySem.W.Frag) : List V → Hp → VK → Prop := fun xs H Q => ∃ p ys, xs = [.ref p] ∧ (SqL K H p ys ∨ SqT K H p ys) ∧ Q (.int ys.length) H
theorem call_lenk (hK : X.K = K) : CallR X (.builtin "len") (rLenSq K) := by subst hK; exact call_len_seq
theorem pe_kdk {x : Str} {kvs : List (Str × Int)} {pos : Pos} (hK : X.K = K) (D : Kd X.w X.K X.mg x kvs) (hg : Gl X x := by rfl) (hd : (x == ("__debug__" : Str)) = false := by decide) : PE X (.Name x pos) (tC (.ref (He.ga K x))) := by subst hK; exact pe_kd D hg hd
theorem op_inKk {x : Str} {kvs : List (Str × Int)} (hK : X.K = K) (D : Kd X.w X.K X.mg x kvs) : OpR X (compareOp .In) (rInK K x kvs) := by subst hK; exact op_inK D
theorem op_notInKk {x : Str} {kvs : List (Str × Int)} (hK : X.K = K) (D : Kd X.w X.K X.mg x kvs) : OpR X (compareOp .NotIn) (rNotInK K x kvs) := by subst hK; exact op_notInK D
theorem op_inOk {k : Nat} {ps : List Str} {sp : Sp} {c : Str} (hK : X.K = K) (F : Fm X.prog X.w X.K X.mg X.base CX0 k c "__contains__" ps sp) (hr : Room k X.A) : OpR X (compareOp .In) (rInO (He.ga K c) sp id) := by subst hK; exact op_inO F hr
end
end Rd
namespace Rd
open PySem L2
/-! ### e(..): what e tells is one of some functions of the module -/
def tCallE (K : PySem.W.Frag) (L : List (Str × Sp)) (tf : TE) (t : TA) : TE := fun σ H Q => tf σ H fun x H1 => ∃ p ∈ L, x = .ref (He.ga K p.1) ∧ t σ H1 fun vs H2 => p.2 vs H2 Q E0
section
variable {X : Cx} {k : Nat} {e f : Expr} {es : List Expr} {tf : TE} {t : TA} {pos : Pos}
theorem pe_callE (L : List (Str × Sp)) (hL : ∀ p ∈ L, ∃ ps, Fk X.prog X.w X.K X.mg X.base CX0 k p.1 ps p.2) (hr : Room k X.A) (hf : PE X f tf) (ha : PA X (e :: es) t)
    (hc : eval (.Call f (e :: es) [] pos) X.env = (do callWith pos (← eval f X.env) [] (backTo pos (starEach (e :: es) X.env)) (backToKw pos (keywordEach [] X.env))) := by rfl)
    (he : starEach (e :: es) X.env = (false, eval e X.env) :: starEach es X.env := by rfl) (hpl : (backTo pos (starEach es X.env)).any (·.1) = false := by rfl) :
    PE X (.Call f (e :: es) [] pos) (tCallE X.K L tf t) := by
  refine ⟨fun pins s σ H Q I h => ?_⟩
  rw [hc]
  refine wpAny_bind (thn (hf.run pins s σ H _ I h) fun u s1 ⟨x, H1, I1, rx, p, hp, ex, q⟩ => ?_)
  subst ex
  obtain rfl : u = Value.ref (He.ga X.K p.1) := rx
  obtain ⟨ps, ⟨fd, F, b⟩, g, kp⟩ := hL p hp
  refine PySem.W.callWith_K (first := []) (h₀ := X.base) I1.ok.mod.kin kp (thn (ha.run pos pins _ σ H1 _ I1 q) fun us s2 ⟨vs, H2, I2, r2, q2⟩ => ⟨I2.kIn, ?_⟩) he hpl
  exact run_fnS (E := fun _ => E0) F hr b at0 I2 r2 q2
end
end Rd
namespace Rd
open PySem L2
section
variable {X : Cx}
/-- x in a tuple, data of any depth -/
def rInDT (K : PySem.W.Frag) : R2 := fun x y H Q => ∃ d ds, Dp K H x d ∧ Dp K H y (.tuple ds) ∧ SeqAt.shaped d = true ∧ SeqAt.shaped (.tuple ds) = true ∧ Q (.bl (ds.any fun z => PyData.eqv z d)) H
theorem op_inDT (hu : X.A.units + 65 < cLine) : OpR X (compareOp .In) (rInDT X.K) := by
  intro pins s σ H x y v u Q I rx ry h
  obtain ⟨d, ds, hd, he, sd, se, q⟩ := h
  obtain ⟨as, r1⟩ := Dp.reads I d x v hd rx
  obtain ⟨bs, r2⟩ := Dp.reads I (.tuple ds) y u he ry
  exact SeqAt.in_tuple_reads r2 r1 (SeqAt.canLay_of_shaped se) (SeqAt.canLay_of_shaped sd) (PyProof.Rows.room_in_shaped sd hu) ⟨.bl _, H, I, rfl, q⟩
end
end Rd
/-! Rl: == and != of two dicts with texts or ints as keys and data of any depth as values, where they are equal -/
namespace Rd
open PySem PySem.Spec L2
def DEq (K : PySem.W.Frag) (H : Hp) (x y : V) : Prop := ∃ d e, Dp K H x d ∧ Dp K H y e ∧ SeqAt.shaped d = true ∧ SeqAt.shaped e = true ∧ PyData.eqv d e = true
section
variable {X : Cx} {pins : List (Addr × Obj)} {σ : St} {H : Hp} {s : Shared}
theorem hits_dat (I : Inv X pins σ H s) {A : Around} (hu : A.units + 65 < cLine) {ls : List (Key × V)} {vb : List (Key × Value)} (rb : KV ls vb) {ks : List (Key × V)} {va : List (Key × Value)}
    (ra : KV ks va) : (∀ p ∈ ks, ∃ u, valV ls p.1 = some u ∧ DEq X.K H p.2 u) → PySem.W.KeqHits A.in1 s vb va true := by
  unfold KV at ra
  induction ra with
  | nil => intro _; exact .nil
  | @cons p q ps qs h t k =>
    intro hp
    obtain ⟨h1, h2⟩ := h
    obtain ⟨u, e, d, d', hd, he, sd, se, ev⟩ := hp p List.mem_cons_self
    have rr : RelO (some u) (valueAt vb p.1) := by rw [← e]; exact rb.val p.1
    obtain ⟨y, hy, ry⟩ := rr.some_of
    obtain ⟨key, v⟩ := q
    have h1' : p.1 = key := h1
    rw [h1'] at hy
    obtain ⟨as, r1⟩ := Dp.reads I d _ _ hd h2
    obtain ⟨bs, r2⟩ := Dp.reads I d' _ _ he ry
    have e := PySem.W.keq_at (A := A) r1 r2 sd se (by show A.units + 1 + 64 < cLine; omega)
    rw [ev] at e
    show PySem.W.KeqHits A.in1 s vb ((key, v) :: qs) (true && true)
    exact .hit hy e (k fun p' hm => hp p' (List.mem_cons_of_mem _ hm))
end
section
variable {X : Cx}
def rEqDD (K : PySem.W.Frag) : R2 := fun x y H Q => ∃ a b ks ls, x = .ref a ∧ y = .ref b ∧ H a = some (.dK ks) ∧ H b = some (.dK ls) ∧ ks.length = ls.length ∧ (∀ p ∈ ks, ∃ u, valV ls p.1 = some u ∧ DEq K H p.2 u) ∧ Q (.bl true) H
def rNeDD (K : PySem.W.Frag) : R2 := fun x y H Q => ∃ a b ks ls, x = .ref a ∧ y = .ref b ∧ H a = some (.dK ks) ∧ H b = some (.dK ls) ∧ ks.length = ls.length ∧ (∀ p ∈ ks, ∃ u, valV ls p.1 = some u ∧ DEq K H p.2 u) ∧ Q (.bl false) H
theorem op_eqDD (hu : X.A.units + 65 < cLine) : OpR X (compareOp .Eq) (rEqDD X.K) := by
  intro pins s σ H x y v u Q I rx ry h
  obtain ⟨a, b, ks, ls, rfl, rfl, ea, eb, hlen, hp, q⟩ := h
  obtain rfl : v = Value.ref a := rx
  obtain rfl : u = Value.ref b := ry
  obtain ⟨_, ya, va, ra, da⟩ := (show ObjOk X.prog X.w H s.heap a (.dK ks) from I.hok a _ ea)
  obtain ⟨_, yb, vb, rb, db⟩ := (show ObjOk X.prog X.w H s.heap b (.dK ls) from I.hok b _ eb)
  have hl : va.length = vb.length := by rw [← ra.length, ← rb.length]; exact hlen
  exact PySem.W.keq_eq (knd := mixKind X.prog X.w) (r := true) ya yb da db (by omega) (fun _ => hits_dat I hu rb ra hp) (fin_bl I q (by simp [hl]))
theorem op_neDD (hu : X.A.units + 65 < cLine) : OpR X (compareOp .NotEq) (rNeDD X.K) := by
  intro pins s σ H x y v u Q I rx ry h
  obtain ⟨a, b, ks, ls, rfl, rfl, ea, eb, hlen, hp, q⟩ := h
  obtain rfl : v = Value.ref a := rx
  obtain rfl : u = Value.ref b := ry
  obtain ⟨_, ya, va, ra, da⟩ := (show ObjOk X.prog X.w H s.heap a (.dK ks) from I.hok a _ ea)
  obtain ⟨_, yb, vb, rb, db⟩ := (show ObjOk X.prog X.w H s.heap b (.dK ls) from I.hok b _ eb)
  have hl : va.length = vb.length := by rw [← ra.length, ← rb.length]; exact hlen
  exact PySem.W.keq_ne (knd := mixKind X.prog X.w) (r := true) ya yb da db (by omega) (fun _ => hits_dat I hu rb ra hp) (fin_bl I q (by simp [hl]))
end
/-! ### rules with the written part named, for comprehensions -/
section
variable {X : Cx} {K : PySem.W.Frag}
theorem pg_tupk {es : List Expr} {k : Nat} {pos : Pos} {t : TGs} {n : Nat} (hK : X.K = K) (hc : X.calm = true) (h : PGs X es t)
    (hn : (assignEach es X.env).length = n := by rfl) (hst : (assignEach es X.env).findIdx? (·.1) = none := by rfl) : PG X (.Tuple es k pos) (gTup K n t) := by subst hK; exact pg_tup hc h hn hst
theorem pe_fldk {e : Expr} {f : Str} {pos : Pos} {ta : TE} (hK : X.K = K) (he : PE X e ta) (hb : attributeBase e f X.env (eval e X.env) = eval e X.env) : PE X (.Attribute e f pos) (tFld K ta f) := by subst hK; exact pe_fld he hb
end
/-! ### y = {..: .. for ..} -/
section
variable {X : Cx}
theorem ps_setDc {i : Nat} {y : Str} {py : Pos} {kx vx tg iter : Expr} {ifs : List Expr} {scope : Scope} {own : List (Str × Nat)} {pos spos : Pos} {wi : TI} {g : TG} {tt : TT} {tk tv : TE} (hc : X.calm = true) (hN : X.N.Nodup) (hy : X.N[i]? = some y) (hyl : X.env.scope.names.lookup y = some .local)
    (hsw : swapsWith (.DictComp kx vx [⟨tg, iter, ifs, 0⟩] scope pos) (some (.Name y py)) spos.line X.env = pure true) (hi : PI X tg iter wi) (ok : BlkOk X.N X.env.scope scope own)
    (hg : ∀ (s : Shared) (H : Hp) (C : Addr) (cl : List (Str × Addr)) (fp : List Addr), PG (X.blk s H scope (compEnvC scope cl C X.env) fp) tg g) (ht : ∀ (s : Shared) (H : Hp) (C : Addr) (cl : List (Str × Addr)) (fp : List Addr), PTs (X.blk s H scope (compEnvC scope cl C X.env) fp) ifs tt)
    (hk : ∀ (s : Shared) (H : Hp) (C : Addr) (cl : List (Str × Addr)) (fp : List Addr), PE (X.blk s H scope (compEnvC scope cl C X.env) fp) kx tk)
    (he : ∀ (s : Shared) (H : Hp) (C : Addr) (cl : List (Str × Addr)) (fp : List Addr), PE (X.blk s H scope (compEnvC scope cl C X.env) fp) vx tv) (hs : ∀ x, foldedSetIterable iter X.env x = pure x := by intro _; rfl) :
    PS X (.Assign [.Name y py] (.DictComp kx vx [⟨tg, iter, ifs, 0⟩] scope pos) spos) (tAsg (tDc wi g tt tk tv (own.map (·.2))) (gName i)) := by
  refine ⟨fun pins s σ H D I h => ?_⟩
  rw [exec_Assign_Name_used _ _ _ _ hsw]
  refine wpAny_bind (wpAny_standAt (wpAny_bind ?_))
  show wpAny _ X.A (do let _ ← comprehension (.DictComp kx vx [⟨tg, iter, ifs, 0⟩] scope pos) scope X.env (firstIterPos [⟨tg, iter, ifs, 0⟩] pos) newDict false (eval iter X.env) (some (assign (.Name y py) X.env))) _ _ s
  have h : tDc wi g tt tk tv (own.map (·.2)) σ H (fun x H1 => gName i x σ H1 D.nx) := h
  refine wpAny_bind (thn (dc_core (Qf := fun _ s' => SP X pins D .next s') hc hN I hi ok hg ht hk he hs h fun L C s' m H' I' q hn f => ?_) fun _ s' hq => wpAny_pure (wpAny_pure hq))
  show wpAny _ _ (assign (.Name y py) X.env (.ref L)) _ _ _
  refine wpAny_assign_Name (store_ok2 (v := V.ref L) I' hN hy (.inl hyl) rfl (fun s2 I2 ⟨a, sb, ha⟩ => ?_) (.inr hyl))
  obtain ⟨f0, f1, f2, f3, f4, f5⟩ := f
  have haC : C ≠ a := by
    rcases ha with z | z
    · rw [z]; exact f1
    · exact fun e => f4 y a z e.symm
  refine ⟨m, hn.sameBut sb haC, fun h3 sb3 => ?_⟩
  exact ⟨_, H', I2.turned (t' := s2.toks) (fun b o hb e => (sb3.2 b hb).trans e) f0 f1 f3 f4 f5, q⟩
theorem sw_trueD {kx vx : Expr} {gs : List Comprehension} {scope : Scope} {pos py : Pos} {y : Str} {l : Nat} {env : Env} (hk : env.scope.kind = .function) (hy : env.scope.names.lookup y = some .local) (hl : (py.line == pos.line) = true)
    (ha : (scope.names.any fun (n, k) => n == y && (k == .local || k == .cell)) = false) : swapsWith (.DictComp kx vx gs scope pos) (some (.Name y py)) l env = pure true := by
  have ky : env.kindOf y = some .local := hy
  have hb : env.blockKind = .function := by unfold Env.blockKind; rw [hk]; rfl
  unfold swapsWith
  simp only [hb, ky, ha, Expr.pos, hl]
  rfl
end
end Rd
namespace Rd
open PySem PySem.Spec PyProof.Rows L2
/-- the tuples at a and b, the items in new pairs -/
def Itzt (K : PySem.W.Frag) (a b : Addr) : It :=
  ⟨fun i H => ∃ (xs ys : List V) (x y : V), SqT K H a xs ∧ SqT K H b ys ∧ xs[i]? = some x ∧ ys[i]? = some y,
    fun i H v H' => ∃ T x y, v = .ref T ∧ H T = none ∧ H' = L2.upd H T (.tup [x, y]) ∧ (∀ xs, SqT K H a xs → xs[i]? = some x) ∧ ∀ ys, SqT K H b ys → ys[i]? = some y,
    fun i H => ∃ xs ys : List V, SqT K H a xs ∧ SqT K H b ys ∧ i = min xs.length ys.length⟩
theorem turn_zipT {P : Program} {w : World} {K : PySem.W.Frag} {elts : List Expr} {kk : Nat} {tpos : Pos} {a b z TI TO i1 i2 : Addr} (S : ZipSep2 z TI TO i1 i2 [i1, a] [i2, b]) (hia : a ≠ i1) (hib : b ≠ i2) :
    Turn P w K (.Tuple elts kk tpos) (Itzt K a b) [z, TI, TO, i1, i2] z (fun i h => IsZip h z TI TO .none ∧ IsTupOf2 h TI (.ref i1) (.ref i2) ∧ (∃ x y, IsTupOf2 h TO x y) ∧ h.IsTupleIter i1 a i ∧ h.IsTupleIter i2 b i) where
  mem := by simp
  obj := fun i h st c hc => by
    obtain ⟨hz, hTI, ⟨x, y, hTO⟩, ⟨o1, e1, _, d1⟩, ⟨o2, e2, _, d2⟩⟩ := st
    have e' : c = z ∨ c = TI ∨ c = TO ∨ c = i1 ∨ c = i2 := by simpa using hc
    rcases e' with q | q | q | q | q
    · rw [q]; exact ⟨_, hz, fun v q => nomatch q⟩
    · rw [q]; exact ⟨_, hTI, fun v q => nomatch q⟩
    · rw [q]; exact ⟨_, hTO, fun v q => nomatch q⟩
    · rw [q]; exact ⟨o1, e1, fun v q => by rw [d1] at q; cases q⟩
    · rw [q]; exact ⟨o2, e2, fun v q => by rw [d2] at q; cases q⟩
  keep := fun i h h' st k => by
    obtain ⟨hz, hTI, ⟨x, y, hTO⟩, h1, h2⟩ := st
    exact ⟨k z (by simp) _ hz, k TI (by simp) _ hTI, ⟨x, y, k TO (by simp) _ hTO⟩, h1.at fun o q => k i1 (by simp) o q, h2.at fun o q => k i2 (by simp) o q⟩
  item := by
    intro X hP hw hK hc i pins s σ H E I hf st hg
    subst hP hw hK
    obtain ⟨hz, hTI, hTO, h1, h2⟩ := st
    obtain ⟨xs, ys, x, y, hqx, hqy, hx, hy⟩ := hg
    obtain ⟨its, rv, p, _⟩ := I.tuple hqx
    obtain ⟨its2, rv2, p2, _⟩ := I.tuple hqy
    obtain ⟨u, hu, ru⟩ := rv.get hx
    obtain ⟨u2, hu2, ru2⟩ := rv2.get hy
    have l1 : i < its.length := by
      obtain ⟨q, _⟩ := List.getElem?_eq_some_iff.mp hu
      exact q
    have l2 : i < its2.length := by
      obtain ⟨q, _⟩ := List.getElem?_eq_some_iff.mp hu2
      exact q
    have G := GoesN.zip2 (elts := elts) (x1 := kk) (pos := tpos) (A := X.A) S (Draws.tuple (prog := X.prog) (w := X.w) (A := X.A.in1) (I.ok.hd hc) i1 a hia its.toArray) (Draws.tuple (prog := X.prog) (w := X.w) (A := X.A.in1) (I.ok.hd hc) i2 b hib its2.toArray)
    refine G.goes i s (fun v s2 => ∃ x H', Inv X pins σ H' s2 ∧ RelV x v ∧ (Itzt X.K a b).yld i H x H' ∧ (IsZip s2.heap z TI TO .none ∧ IsTupOf2 s2.heap TI (.ref i1) (.ref i2) ∧ (∃ x y, IsTupOf2 s2.heap TO x y) ∧ s2.heap.IsTupleIter i1 a (i + 1) ∧ s2.heap.IsTupleIter i2 b (i + 1)) ∧ ∀ b ∈ [z, TI, TO, i1, i2], H' b = none) E (by simp; omega) ⟨hz, hTI, hTO, ⟨h1, p⟩, ⟨h2, p2⟩⟩ fun v h' tk hY st' hk htk => ?_
    obtain ⟨T, x', y', rfl, hnew, ex, ey, hT⟩ := hY
    have ex' : x' = u := by
      have : its[i]? = some x' := by simpa using ex
      rw [hu] at this
      exact (Option.some.inj this).symm
    have ey' : y' = u2 := by
      have : its2[i]? = some y' := by simpa using ey
      rw [hu2] at this
      exact (Option.some.inj this).symm
    subst ex' ey'
    obtain ⟨z', hTI', hTO', ⟨h1', _⟩, ⟨h2', _⟩⟩ := st'
    have new : ObjOk X.prog X.w (L2.upd H T (.tup [x, y])) h' T (.tup [x, y]) :=
      ⟨by show 2 ≤ sizeLine; decide, [x', y'], .cons ru (.cons ru2 .nil), hT⟩
    have I1 : Inv X pins σ (L2.upd H T (.tup [x, y])) { s with heap := h', toks := tk } :=
      I.turnedNew (t' := tk) (ch := [z, TI, TO, i1, i2]) (fun c o hb q => hk c o (fun q' => hb (by
        have e' : c = z ∨ c = TO ∨ c = i1 ∨ c = i2 := by simpa using q'
        rcases e' with q | q | q | q <;> simp [q])) q) hf hnew new
    refine ⟨.ref T, _, I1, rfl, ⟨T, x, y, rfl, I.hok.fresh hnew, rfl, fun l hl => by rw [I.tuple_inj hl hqx]; exact hx, fun l hl => by rw [I.tuple_inj hl hqy]; exact hy⟩, ⟨z', hTI', hTO', h1', h2'⟩, fun c hcm => ?_⟩
    have hlt : c < s.heap.objs.size := by
      have e' : c = z ∨ c = TI ∨ c = TO ∨ c = i1 ∨ c = i2 := by simpa using hcm
      obtain ⟨_, _, hTO⟩ := hTO
      rcases e' with q | q | q | q | q
      · rw [q]; exact Heap.lt_size hz
      · rw [q]; exact Heap.lt_size hTI
      · rw [q]; exact Heap.lt_size hTO
      · rw [q]; obtain ⟨_, e1, _⟩ := h1; exact Heap.lt_size e1
      · rw [q]; obtain ⟨_, e2, _⟩ := h2; exact Heap.lt_size e2
    rw [upd_ne (Nat.ne_of_lt (Nat.lt_of_lt_of_le hlt hnew))]
    exact (hf c hcm).1
  done := by
    intro X hP hw hK hc i pins s σ H E I hf st hg
    subst hP hw hK
    obtain ⟨hz, hTI, hTO, h1, h2⟩ := st
    obtain ⟨xs, ys, hqx, hqy, hend⟩ := hg
    obtain ⟨its, rv, p, _⟩ := I.tuple hqx
    obtain ⟨its2, rv2, p2, _⟩ := I.tuple hqy
    have l1 := rv.length
    have l2 := rv2.length
    have G := GoesN.zip2 (elts := elts) (x1 := kk) (pos := tpos) (A := X.A) S (Draws.tuple (prog := X.prog) (w := X.w) (A := X.A.in1) (I.ok.hd hc) i1 a hia its.toArray) (Draws.tuple (prog := X.prog) (w := X.w) (A := X.A.in1) (I.ok.hd hc) i2 b hib its2.toArray)
    have hi : i = min its.toArray.size its2.toArray.size := by simp; omega
    subst hi
    exact G.stops s (fun s1 => Inv X pins σ H s1) E ⟨hz, hTI, hTO, ⟨h1, p⟩, ⟨h2, p2⟩⟩ fun h' tk hk htk => I.turnedL (t' := tk) (ch := [z, TI, TO, i1, i2]) (fun c o hb q => hk c o (fun q' => hb (by
        have e' : c = z ∨ c = TO ∨ c = i1 ∨ c = i2 := by simpa using q'
        rcases e' with q | q | q | q <;> simp [q])) q) hf
  self := fun A i s Q E st h => wpAny_pyIter_zip st.1 h
def iZipT (K : PySem.W.Frag) (ta : TA) : TI := fun σ H R => ta σ H fun vs H1 => ∃ a b xs ys, vs = [.ref a, .ref b] ∧ SqT K H1 a xs ∧ SqT K H1 b ys ∧ R (Itzt K a b) H1
theorem pi_zipT {X : Cx} {e e2 : Expr} {ta : TA} {p pos tpos : Pos} {elts : List Expr} {kk : Nat} (hg : Gl X "zip") (hm : X.mg "zip" = none) (ha : PA X [e, e2] ta)
    (hs : starEach [e, e2] X.env = (false, eval e X.env) :: starEach [e2] X.env := by rfl) (hpl : (backTo pos (starEach [e2] X.env)).any (·.1) = false := by rfl) :
    PI X (.Tuple elts kk tpos) (.Call (.Name "zip" p) [e, e2] [] pos) (iZipT X.K ta) := by
  refine ⟨fun pins s σ H R I h => ?_⟩
  refine Call_ (ld_blt I hg hm PyProof.Rows.boot_zip (PyProof.Rows.callWith_type1 (thn (ha.run pos pins s σ H _ I h) fun us s1 ⟨vs, H1, I1, r1, q1⟩ => ?_) hs hpl))
  obtain ⟨a, b, xs, ys, ex, hqx, hqy, q⟩ := q1
  subst ex
  cases r1 with
  | cons r rr =>
    cases rr with
    | cons r' rr =>
      cases rr
      cases r
      cases r'
      obtain ⟨its, rv, p1, _⟩ := I1.tuple hqx
      obtain ⟨its2, rv2, p2, _⟩ := I1.tuple hqy
      have la : a < s1.heap.objs.size := by obtain ⟨_, e1, _⟩ := p1; exact Heap.lt_size e1
      have lb : b < s1.heap.objs.size := by obtain ⟨_, e1, _⟩ := p2; exact Heap.lt_size e1
      refine zip_begins2 (begins_tuple a its.toArray) (begins_tuple b its2.toArray) p1 p2 fun h' hz hTI hTO h1 h2 hsz hk => wpAny_pyIter_zip hz ?_
      have I2 : Inv X pins σ H1 { s1 with heap := h' } := I1.kept (t' := s1.toks) hk
      refine ⟨s1.heap.objs.size + 4, [s1.heap.objs.size + 4, s1.heap.objs.size + 2, s1.heap.objs.size + 3, s1.heap.objs.size, s1.heap.objs.size + 1], _, _, H1, rfl, I2, turn_zipT (zip_sep2 (fp1 := [a]) (fp2 := [b]) (by simpa using la) (by simpa using lb)) (Nat.ne_of_lt la) (Nat.ne_of_lt (Nat.lt_succ_of_lt lb)), ⟨hz, hTI, ⟨_, _, hTO⟩, ⟨_, h1, rfl, rfl⟩, ⟨_, h2, rfl, rfl⟩⟩, fun c hcm => ?_, q⟩
      have e' : c = s1.heap.objs.size + 4 ∨ c = s1.heap.objs.size + 2 ∨ c = s1.heap.objs.size + 3 ∨ c = s1.heap.objs.size ∨ c = s1.heap.objs.size + 1 := by simpa using hcm
      have hle : s1.heap.objs.size ≤ c := by
        rcases e' with z | z | z | z | z
        · rw [z]; exact Nat.le_add_right _ _
        · rw [z]; exact Nat.le_add_right _ _
        · rw [z]; exact Nat.le_add_right _ _
        · rw [z]; exact Nat.le_refl _
        · rw [z]; exact Nat.le_add_right _ _
      exact I1.fpOk hle (I1.hok.fresh hle)
end Rd
namespace Rd
open PySem L2
theorem pi_zipTk {X : Cx} {K : PySem.W.Frag} {e e2 : Expr} {ta : TA} {p pos tpos : Pos} {elts : List Expr} {kk : Nat} (hK : X.K = K) (hg : Gl X "zip") (hm : X.mg "zip" = none) (ha : PA X [e, e2] ta)
    (hs : starEach [e, e2] X.env = (false, eval e X.env) :: starEach [e2] X.env := by rfl) (hpl : (backTo pos (starEach [e2] X.env)).any (·.1) = false := by rfl) :
    PI X (.Tuple elts kk tpos) (.Call (.Name "zip" p) [e, e2] [] pos) (iZipT K ta) := by subst hK; exact pi_zipT hg hm ha hs hpl
end Rd
namespace PySem
open Sem (wp)
section
variable {prog : Program} {w : World} {A : Around} {E : Value → Shared → Prop} {s : Shared} {z TI TO T i1 i2 : Addr} {fp1 fp2 : List Addr} {n1 n2 i : Nat} {P1 P2 : Nat → Value → Prop} {St1 St2 : Nat → Heap → Prop} {f : Bool} {oT : Obj}
theorem zipH2_next_item {Q : Value → Shared → Prop} (S : ZipSep2 z TI TO i1 i2 fp1 fp2) (D1 : Draws prog w A i1 fp1 n1 P1 St1) (D2 : Draws prog w A i2 fp2 n2 P2 St2)
    (hz : IsZipHeld s.heap z TI TO T f) (hT : s.heap.get? T = some oT) (hTI : IsTupOf2 s.heap TI (.ref i1) (.ref i2)) (st1 : St1 i s.heap) (st2 : St2 i s.heap) (hlt1 : i < n1) (hlt2 : i < n2)
    (hQ : ∀ x1 x2 h' tk, P1 i x1 → P2 i x2 → IsZipHeld h' z TI TO T true → St1 (i + 1) h' → St2 (i + 1) h' → IsTupOf2 h' s.heap.objs.size x1 x2 → h'.objs.size = s.heap.objs.size + 1 →
      (∀ c o, c ≠ z → c ≠ i1 → c ≠ i2 → s.heap.get? c = some o → h'.get? c = some o) → Q (.ref s.heap.objs.size) { s with heap := h', toks := tk }) :
    wpAny (model prog w) A (Builtin.«zip.__next__» ⟨[.ref z], []⟩) (fun fin s' => ∃ v, fin = .done (.ret v) ∧ Q v s') E s := by
  obtain ⟨hp, g, d, tk0, os⟩ := s
  show wpAny _ _ (field (.ref z) 2 >>= _) _ _ _
  refine wpAny_bind (wpAny_field hz rfl (x := .bool false) rfl ?_)
  show wpAny _ _ (field (.ref z) 3 >>= _) _ _ _
  refine wpAny_bind (wpAny_field hz rfl (x := .ref TI) rfl ?_)
  refine wpAny_bind (wpAny_seqItems hTI rfl ?_)
  show wpAny _ _ (Builtin.SmallTypes.ownedTupleIsFree (.ref z) >>= _) _ _ _
  refine wpAny_bind (wpAny_tupleHeld_zip hz hT fun g0 hz0 hs0 => ?_)
  replace hs0 : Heap.SameBut z hp g0 := hs0
  simp only [Bool.false_eq_true, if_false]
  refine wpAny_bind ?_
  rw [← Array.forIn_toList]
  simp only [List.forIn_cons, List.forIn_nil]
  refine wpAny_bind (wpAny_bind (wpAny_holding ?_))
  show wpAny _ _ (Builtin.SmallTypes.nextOf (.ref i1) >>= _) _ _ ⟨g0, g, d, tk0, os⟩
  refine wpAny_bind (D1.item i _ _ _ hlt1 (D1.over st1 hs0 S.zf1) fun x1 p1 tk1 hx1 sn1 hp1 => wpAny_pure ?_)
  replace hp1 : Heap.SameBut i1 g0 p1 := hp1
  refine wpAny_pure ?_
  refine wpAny_bind (wpAny_bind (wpAny_holding ?_))
  show wpAny _ _ (Builtin.SmallTypes.nextOf (.ref i2) >>= _) _ _ ⟨p1, g, d, tk1, os⟩
  refine wpAny_bind (D2.item i _ _ _ hlt2 (D2.over (D2.over st2 hs0 S.zf2) hp1 S.sep1_2) fun x2 p2 tk2 hx2 sn2 hp2 => wpAny_pure ?_)
  replace hp2 : Heap.SameBut i2 p1 p2 := hp2
  refine wpAny_pure (wpAny_pure ?_)
  show wpAny _ _ (newTuple [x1, x2] >>= _) _ _ _
  refine wpAny_bind (wpAny_newTuple ?_)
  have hsz : p2.objs.size = hp.objs.size := by rw [hp2.1, hp1.1, hs0.1]
  have hz₃ : IsZipHeld p2 z TI TO T true := hp2.extBut _ _ S.zi2 (hp1.extBut _ _ S.zi1 hz0)
  have hkk : ∀ c o, c ≠ z → c ≠ i1 → c ≠ i2 → hp.get? c = some o → p2.get? c = some o := fun c o c1 c2 c3 e => hp2.extBut _ _ c3 (hp1.extBut _ _ c2 (hs0.extBut _ _ c1 e))
  have h1₃ : St1 (i + 1) p2 := D1.over sn1 hp2 S.sep2_1
  refine wpAny_pure ⟨_, rfl, ?_⟩
  show Q (.ref p2.objs.size) _
  have hpn : IsTupOf2 (p2.push { cls := .type "tuple", data := .seq #[x1, x2] }) p2.objs.size x1 x2 := Heap.get?_push_size _ rfl
  have hz4 : (p2.push { cls := .type "tuple", data := .seq #[x1, x2] }).objs.size = p2.objs.size + 1 := Heap.size_push ..
  rw [hsz] at hpn hz4 ⊢
  exact hQ x1 x2 _ tk2 hx1 hx2 (Heap.get?_push_of_some _ hz₃) (D1.frame _ _ _ h1₃ fun b _ o e => Heap.get?_push_of_some _ e) (D2.frame _ _ _ sn2 fun b _ o e => Heap.get?_push_of_some _ e) hpn hz4 fun c o c1 c2 c3 e => Heap.get?_push_of_some _ (hkk c o c1 c2 c3 e)
theorem zipH2_next_end {Q : Fin → Shared → Prop} (S : ZipSep2 z TI TO i1 i2 fp1 fp2) (D1 : Draws prog w A i1 fp1 n1 P1 St1)
    (hz : IsZipHeld s.heap z TI TO T f) (hT : s.heap.get? T = some oT) (hTI : IsTupOf2 s.heap TI (.ref i1) (.ref i2)) (st1 : St1 n1 s.heap)
    (hE : ∀ h' e, (∀ c o, c ≠ z → c ≠ i1 → c ≠ i2 → s.heap.get? c = some o → h'.get? c = some o) → (∃ o, h'.get? e = some o ∧ o.cls = .type "StopIteration") → E (.ref e) { s with heap := h' }) :
    wpAny (model prog w) A (Builtin.«zip.__next__» ⟨[.ref z], []⟩) Q E s := by
  obtain ⟨hp, g, d, tk0, os⟩ := s
  show wpAny _ _ (field (.ref z) 2 >>= _) _ _ _
  refine wpAny_bind (wpAny_field hz rfl (x := .bool false) rfl ?_)
  show wpAny _ _ (field (.ref z) 3 >>= _) _ _ _
  refine wpAny_bind (wpAny_field hz rfl (x := .ref TI) rfl ?_)
  refine wpAny_bind (wpAny_seqItems hTI rfl ?_)
  show wpAny _ _ (Builtin.SmallTypes.ownedTupleIsFree (.ref z) >>= _) _ _ _
  refine wpAny_bind (wpAny_tupleHeld_zip hz hT fun g0 hz0 hs0 => ?_)
  replace hs0 : Heap.SameBut z hp g0 := hs0
  simp only [Bool.false_eq_true, if_false]
  refine wpAny_bind ?_
  rw [← Array.forIn_toList]
  simp only [List.forIn_cons, List.forIn_nil]
  refine wpAny_bind (wpAny_bind (wpAny_holding ?_))
  show wpAny _ _ (Builtin.SmallTypes.nextOf (.ref i1) >>= _) _ _ ⟨g0, g, d, tk0, os⟩
  refine wpAny_bind (D1.done ⟨g0, g, d, tk0, os⟩ _ _ (D1.over st1 hs0 S.zf1) fun q e hq he => ?_)
  replace hq : Heap.ExtBut i1 g0 q := hq
  exact hE q e (fun c o c1 c2 _ x => hq _ _ c2 (hs0.extBut _ _ c1 x)) he
theorem pyNext_zipH2_item {Q : Option Value → Shared → Prop} (S : ZipSep2 z TI TO i1 i2 fp1 fp2) (D1 : Draws prog w A.in1 i1 fp1 n1 P1 St1) (D2 : Draws prog w A.in1 i2 fp2 n2 P2 St2)
    (hz : IsZipHeld s.heap z TI TO T f) (hT : s.heap.get? T = some oT) (hTI : IsTupOf2 s.heap TI (.ref i1) (.ref i2)) (st1 : St1 i s.heap) (st2 : St2 i s.heap) (hlt1 : i < n1) (hlt2 : i < n2)
    (hQ : ∀ x1 x2 h' tk, P1 i x1 → P2 i x2 → IsZipHeld h' z TI TO T true → St1 (i + 1) h' → St2 (i + 1) h' → IsTupOf2 h' s.heap.objs.size x1 x2 → h'.objs.size = s.heap.objs.size + 1 →
      (∀ c o, c ≠ z → c ≠ i1 → c ≠ i2 → s.heap.get? c = some o → h'.get? c = some o) → Q (some (.ref s.heap.objs.size)) { s with heap := h', toks := tk }) :
    wpAny (model prog w) A (pyNext (.ref z)) Q E s := by
  have hTy : s.TypeIs (.ref z) "zip" := ⟨_, hz, rfl⟩
  unfold pyNext
  exact wpAny_bind (wpAny_attempt (wpAny_callSpecial?_slot (name := Str.ofString "__next__") hTy F.slot_zip_next
    (wpAny_call_entry F.slot_zip_next hTy F.entry_zip_next
      (zipH2_next_item S D1 D2 hz hT hTI st1 st2 hlt1 hlt2 fun x1 x2 h' tk y1 y2 b1 d1 d2 b5 b6 b7 => wpAny_pure (hQ x1 x2 h' tk y1 y2 b1 d1 d2 b5 b6 b7)) (F.args_zip_next_1 _))))
theorem pyNext_zipH2_end {Q : Option Value → Shared → Prop} (S : ZipSep2 z TI TO i1 i2 fp1 fp2) (D1 : Draws prog w A.in1 i1 fp1 n1 P1 St1)
    (hz : IsZipHeld s.heap z TI TO T f) (hT : s.heap.get? T = some oT) (hTI : IsTupOf2 s.heap TI (.ref i1) (.ref i2)) (st1 : St1 n1 s.heap)
    (hQ : ∀ h', (∀ c o, c ≠ z → c ≠ i1 → c ≠ i2 → s.heap.get? c = some o → h'.get? c = some o) → Q none { s with heap := h' }) : wpAny (model prog w) A (pyNext (.ref z)) Q E s := by
  have hTy : s.TypeIs (.ref z) "zip" := ⟨_, hz, rfl⟩
  unfold pyNext
  refine wpAny_bind (wpAny_attempt (wpAny_callSpecial?_slot (name := Str.ofString "__next__") hTy F.slot_zip_next
    (wpAny_call_entry F.slot_zip_next hTy F.entry_zip_next (zipH2_next_end S D1 hz hT hTI st1 fun h' e hk he => ?_) (F.args_zip_next_1 _))))
  obtain ⟨o, ho, hc⟩ := he
  refine wpAny_bind (wpAny_isInstance (T := "StopIteration") (b := true) ⟨o, ho, hc⟩ isSubtype_stop ?_)
  exact wpAny_pure (hQ _ hk)
end
/-! ### a list filled from an iterator -/
abbrev IsLs (h : Heap) (S : Addr) (acc : Array Value) (c : Nat) : Prop := h.get? S = some { cls := .type "list", dict := none, data := .seq acc c, slots := #[] }
section
variable {prog : Program} {w : World} {A : Around} {R : Result → Shared → Prop} {S I : Addr} {res : Value} {s : Shared} {acc : Array Value} {c : Nat}
theorem ext_item (hn : acc.size < sizeLine) (h : wpAny (model prog w) A.in1 (pyNext (.ref I)) (fun r s' => ∃ v, r = some v ∧ IsLs s'.heap S acc c ∧ ∀ h' c', IsLs h' S (acc.push v) c' → Heap.SameBut S s'.heap h' →
      codeAny (model prog w) A (.builtin "list.extend.loop" ⟨[.ref S, .ref I, res], []⟩) R { s' with heap := h' }) (fun e s' => R (.error e) s') s) :
    codeAny (model prog w) A (.builtin "list.extend.loop" ⟨[.ref S, .ref I, res], []⟩) R s := by
  refine codeAny_builtin F.entry_extend_loop ?_
  rw [Around.under_plainId F.plain_extend_loop _]
  show wpAny _ A.in1 (pyNext (.ref I) >>= _) _ _ s
  refine wpAny_bind (wpAny_mono h (fun r s' ⟨v, hr, hS', k⟩ => ?_) fun _ _ x => x)
  subst hr
  show wpAny _ A.in1 (updateSeq S (·.push v) >>= _) _ _ _
  refine wpAny_bind ?_
  exact wpAny_updateSeq hS' rfl (wpAny_pure ⟨plainId_quiet F.plain_extend_loop _, k _ _ (Heap.get?_update_self _ hS' rfl) (Heap.SameBut.update ..)⟩) (by omega) (by show (acc.push v).size ≤ sizeLine + 1; rw [Array.size_push]; omega)
theorem ext_end (h : wpAny (model prog w) A.in1 (pyNext (.ref I)) (fun r s' => r = none ∧ R (.ok (.ret res)) s') (fun e s' => R (.error e) s') s) :
    codeAny (model prog w) A (.builtin "list.extend.loop" ⟨[.ref S, .ref I, res], []⟩) R s := by
  refine codeAny_builtin F.entry_extend_loop ?_
  rw [Around.under_plainId F.plain_extend_loop _]
  show wpAny _ A.in1 (pyNext (.ref I) >>= _) _ _ s
  refine wpAny_bind (wpAny_mono h (fun r s' ⟨hr, k⟩ => ?_) fun _ _ x => x)
  subst hr
  exact wpAny_pure k
end
namespace F
theorem zip_no_len : typeLookup (.type "zip") "__len__" = pure none := by rw [typeLookup_type, builtinLookup_eq_fast]; kernel_rfl
theorem zip_no_hint : typeLookup (.type "zip") "__length_hint__" = pure none := by rw [typeLookup_type, builtinLookup_eq_fast]; kernel_rfl
end F
section
variable {prog : Program} {w : World} {A : Around} {E : Value → Shared → Prop} {s : Shared} {z TI TO : Addr} {f0 : Value}
/-- list(z), up to its loop -/
theorem call_list_zip {Q : Value → Shared → Prop} (hz : IsZip s.heap z TI TO f0)
    (h : ∀ h' c', IsLs h' s.heap.objs.size #[] c' → (∀ b o, s.heap.get? b = some o → h'.get? b = some o) → h'.objs.size = s.heap.objs.size + 1 →
      codeAny (model prog w) A.in1 (.builtin "list.extend.loop" ⟨[.ref s.heap.objs.size, .ref z, .none], []⟩) (wants (fun r s' => r = Value.none ∧ Q (.ref s.heap.objs.size) s') E) { s with heap := h' }) :
    wpAny (model prog w) A (call (.type "list") [.ref z]) Q E s := by
  have hSz : s.heap.objs.size ≠ z := Nat.ne_of_gt (Heap.lt_size hz)
  refine callType_codes (Q₁ := fun obj s₁ => obj = .ref s.heap.objs.size ∧ s₁ = { s with heap := s.heap.push { cls := .type "list", data := .seq #[] } }) F.called_list (F.typeCall_list_1 _) F.entry_list_init
    (code_list_new _ ⟨rfl, rfl⟩) fun obj s₁ h₁ => ?_
  obtain ⟨rfl, rfl⟩ := h₁
  have hS : (s.heap.push { cls := .type "list", data := .seq #[] }).get? s.heap.objs.size = some { cls := .type "list", data := .seq #[] } := Heap.get?_push_size _ rfl
  refine ⟨⟨_, hS, rfl⟩, F.args_list_init_2 _ _, ?_⟩
  show wpAny _ A.in1.in1 (do let old ← Builtin.List.listItems (.ref s.heap.objs.size); Builtin.List.listUpdate (.ref s.heap.objs.size) (fun _ => #[]); letGo old.toList.reverse; Builtin.List.listExtendWith (.ref s.heap.objs.size) (.ref z) .none) _ _ _
  refine wpAny_bind ?_
  unfold Builtin.List.listItems
  refine wpAny_bind (wpAny_seqItems hS rfl (wpAny_pure ?_))
  show wpAny _ A.in1.in1 (updateSeq s.heap.objs.size (fun _ => #[]) >>= fun _ => letGo (#[] : Array Value).toList.reverse >>= fun _ => Builtin.List.listExtendWith (.ref s.heap.objs.size) (.ref z) .none) _ _ _
  refine wpAny_bind (wpAny_updateSeq hS rfl ?_)
  have hS2 := Heap.get?_update_self (Obj.mapSeq (fun _ => (#[] : Array Value))) hS rfl
  refine wpAny_bind (wpAny_letGo ?_)
  unfold Builtin.List.listExtendWith
  have up : ∀ (h : Heap) (f : Obj → Obj), (∀ b o, s.heap.get? b = some o → h.get? b = some o) → ∀ b o, s.heap.get? b = some o → (h.update s.heap.objs.size f).get? b = some o := fun h f q b o e =>
    (Heap.get?_update_other _ _ (Ne.symm (Nat.ne_of_lt (Heap.lt_size e)))).trans (q b o e)
  have k1 : ∀ b o, s.heap.get? b = some o → (s.heap.push { cls := .type "list", data := .seq #[] }).get? b = some o := fun b o e => Heap.get?_push_of_some _ e
  have k2 := up _ (Obj.mapSeq (fun _ => (#[] : Array Value))) k1
  have gty : ∀ {h : Heap}, (∀ b o, s.heap.get? b = some o → h.get? b = some o) → IsZip h z TI TO f0 := fun {h} q => q _ _ hz
  refine wpAny_bind (wpAny_typeOf (T := "zip") (s := { s with heap := _ }) ⟨_, gty k2, rfl⟩ ?_)
  have h1 : Builtin.List.listSameRef (.ref s.heap.objs.size) (.ref z) = false := by simp [Builtin.List.listSameRef, hSz]
  have h2 : (Value.type "zip" == Value.type "list") = false := by decide
  have h3 : (Value.type "zip" == Value.type "tuple") = false := by decide
  simp only [h1, h2, h3, Bool.or_false, Bool.false_eq_true, if_false]
  refine wpAny_bind (wpAny_pyIter_zip (s := { s with heap := _ }) (gty k2) ?_)
  refine wpAny_bind (wpAny_holding ?_)
  unfold Builtin.List.listLengthHint
  refine wpAny_bind (wpAny_specialOf (T := "zip") (s := { s with heap := _ }) ⟨_, gty k2, rfl⟩ F.zip_no_len ?_)
  show wpAny _ A.in1.in1 (specialOf (Value.ref z) (Str.ofString "__length_hint__") >>= _) _ _ _
  refine wpAny_bind (wpAny_specialOf (T := "zip") (s := { s with heap := _ }) ⟨_, gty k2, rfl⟩ F.zip_no_hint ?_)
  refine wpAny_pure ?_
  show wpAny _ A.in1.in1 (rule "list.extend.makes-room" >>= fun _ => Builtin.List.listTouch (.ref s.heap.objs.size) >>= fun _ =>
    again (.builtin "list.extend.loop" ⟨[.ref s.heap.objs.size, .ref z, .none], []⟩)) _ _ _
  refine wpAny_bind (wpAny_rule ?_)
  refine wpAny_bind ?_
  show wpAny _ A.in1.in1 (updateSeq s.heap.objs.size (·.push .none) >>= fun _ => updateSeq s.heap.objs.size (·.pop)) _ _ _
  refine wpAny_bind (wpAny_updateSeq hS2 rfl ?_)
  have hS3 := Heap.get?_update_self (Obj.mapSeq (·.push Value.none)) hS2 rfl
  refine wpAny_updateSeq (hz := by seq_fits) hS3 rfl ?_
  have hS4 := Heap.get?_update_self (Obj.mapSeq (·.pop)) hS3 rfl
  have k4 := up _ (Obj.mapSeq (·.pop)) (up _ (Obj.mapSeq (·.push Value.none)) k2)
  refine wpAny_pure ⟨plainId_quiet F.plain_extend_loop _, ?_⟩
  refine h _ _ hS4 k4 ?_
  rw [Heap.size_update, Heap.size_update, Heap.size_update, Heap.size_push]
end
end PySem
namespace Rd
open PySem PySem.Spec PyProof.Rows L2
def putP : Hp → List Addr → List (V × V) → Hp
  | H, a :: as, p :: ps => putP (L2.upd H a (.tup [p.1, p.2])) as ps
  | H, _, _ => H
theorem putP_off {b : Addr} : ∀ (as : List Addr) (ps : List (V × V)) (H : Hp), b ∉ as → putP H as ps b = H b
  | [], _, _, _ => rfl
  | _ :: _, [], _, _ => rfl
  | a :: as, p :: ps, H, h => by
    show putP (L2.upd H a (.tup [p.1, p.2])) as ps b = H b
    rw [putP_off as ps _ (fun z => h (List.mem_cons_of_mem _ z)), upd_ne (fun z => h (by rw [z]; exact List.mem_cons_self))]
theorem putP_at : ∀ (as : List Addr) (ps : List (V × V)) (H : Hp), as.length = ps.length → as.Nodup → Paired (fun (t : Addr) (p : V × V) => putP H as ps t = some (.tup [p.1, p.2])) as ps
  | [], [], _, _, _ => .nil
  | [], _ :: _, _, h, _ => by cases h
  | _ :: _, [], _, h, _ => by cases h
  | a :: as, p :: ps, H, h, hn => by
    have hn' := List.nodup_cons.mp hn
    have ih := putP_at as ps (L2.upd H a (.tup [p.1, p.2])) (Nat.succ.inj h) hn'.2
    refine .cons ?_ ih
    show putP (L2.upd H a (.tup [p.1, p.2])) as ps a = some (.tup [p.1, p.2])
    rw [putP_off as ps _ hn'.1, upd_same]
theorem pairs_laid {X : Cx} {pins : List (Addr × Obj)} {σ : L2.St} {H : Hp} {s : Shared} {h' : Heap} {tk : Nat} {ps : List (V × V)} {acc : Array Value} {c S : Addr} {as : List Addr} (I : Inv X pins σ H s) (hz : as.length ≤ sizeLine) (hl : as.length = ps.length)
    (hk : ∀ b o, s.heap.get? b = some o → h'.get? b = some o) (hS : IsLs h' S acc c) (hSn : s.heap.objs.size ≤ S) (hab : ∀ t ∈ as, s.heap.objs.size ≤ t) (nd : as.Nodup) (hSa : S ∉ as)
    (hp : Paired (fun (t : Addr) (p : V × V) => ∃ u1 u2, RelV p.1 u1 ∧ RelV p.2 u2 ∧ IsTupOf2 h' t u1 u2) as ps) (hacc : acc.toList = as.map Value.ref) :
    ∃ H' : Hp, Same H H' ∧ H S = none ∧ H' S = some (.lst (as.map V.ref)) ∧ Paired (fun (t : Addr) (p : V × V) => H' t = some (.tup [p.1, p.2])) as ps ∧ Inv X pins σ H' { s with heap := h', toks := tk } := by
  have new : ∀ t ∈ as, H t = none := fun t ht => I.hok.fresh (hab t ht)
  have newS : H S = none := I.hok.fresh hSn
  have atP := putP_at as ps (L2.upd H S (.lst (as.map V.ref))) hl nd
  have off : ∀ b, b ∉ as → b ≠ S → putP (L2.upd H S (.lst (as.map V.ref))) as ps b = H b := fun b h1 h2 => by rw [putP_off as ps _ h1, upd_ne h2]
  have low : ∀ b o, s.heap.get? b = some o → b ∉ as ∧ b ≠ S := fun b o e => ⟨fun z => absurd (Heap.lt_size e) (Nat.not_lt.mpr (hab b z)), Nat.ne_of_lt (Nat.lt_of_lt_of_le (Heap.lt_size e) hSn)⟩
  have kp : ∀ b u, H b = some u → (putP (L2.upd H S (.lst (as.map V.ref))) as ps) b = some u := fun b u e => by
    rw [off b (fun z => by rw [new b z] at e; cases e) (fun z => by rw [z, newS] at e; cases e)]
    exact e
  have eS : putP (L2.upd H S (.lst (as.map V.ref))) as ps S = some (.lst (as.map V.ref)) := by rw [putP_off as ps _ hSa, upd_same]
  refine ⟨putP (L2.upd H S (.lst (as.map V.ref))) as ps, kp, newS, eS, atP, ?_⟩
  refine I.call' (ch := []) rfl ⟨fun b o q _ _ _ => hk b o q, fun b o q _ _ _ => ⟨o.slots, hk b o q⟩, fun b o q n _ => ?_, fun b o q _ => ⟨o, hk b o q⟩, fun b xs q => kp b _ q, fun b o u q => kp b _ q, fun b ps q => ⟨#[], by rw [kp b _ q]; simp⟩⟩ (fun b u q => ?_) I.bare fun b z => by simp at z
  · obtain ⟨z1, z2⟩ := low b o q
    rw [off b z1 z2]
    exact n
  · by_cases hb : b ∈ as
    · obtain ⟨j, pk, e1, e2, e3⟩ := LiI.paired_ix atP hb
      rw [e3] at q
      cases q
      obtain ⟨y, g1, u1, u2, g2, g3, g4⟩ := LiI.paired_get hp e1
      rw [e2] at g1
      cases g1
      exact ⟨by show 2 ≤ sizeLine; decide, [u1, u2], .cons g2 (.cons g3 .nil), ⟨_, g4, rfl, _, rfl⟩⟩
    · by_cases hb2 : b = S
      · rw [hb2] at q ⊢
        rw [eS] at q
        cases q
        refine ⟨by rw [List.length_map]; exact hz, acc.toList, c, by rw [hacc]; exact LiI.vals_refs as, ?_⟩
        rw [Array.toArray_toList]
        exact hS
      · rw [off b hb hb2] at q
        exact (I.hok b u q).stay (fun d v _ y => hk d v y) (fun d y => kp d _ y) fun d xs y => kp d _ y
def rZipL (K : PySem.W.Frag) : List V → Hp → VK → Prop := fun vs H Q => ∃ (a b : Addr) (xs ys : List V), vs = [.ref a, .ref b] ∧ SqT K H a xs ∧ SqT K H b ys ∧ xs.length = ys.length ∧ 1 ≤ xs.length ∧ xs.length ≤ 2 ∧
  ∀ (H' : Hp) (p : Addr) (ts : List Addr), Same H H' → H p = none → H' p = some (.lst (ts.map V.ref)) → Paired (fun (t : Addr) (q : V × V) => H' t = some (.tup [q.1, q.2])) ts (xs.zip ys) → Q (.ref p) H'
def tZipL (K : PySem.W.Frag) (ta : TA) : TE := fun σ H Q => ta σ H fun vs H1 => rZipL K vs H1 Q
section
variable {X : Cx} {e e2 : Expr} {ta : TA} {p p2 pos pos2 : Pos}
theorem pe_listZip (hc : X.calm = true) (hg : Gl X "list") (hm : X.mg "list" = none) (hg2 : Gl X "zip") (hm2 : X.mg "zip" = none) (ha : PA X [e, e2] ta)
    (hs : starEach [e, e2] X.env = (false, eval e X.env) :: starEach [e2] X.env := by rfl) (hpl : (backTo pos2 (starEach [e2] X.env)).any (·.1) = false := by rfl)
    (na : starEach [.Call (.Name "zip" p2) [e, e2] [] pos2] X.env = (false, eval (.Call (.Name "zip" p2) [e, e2] [] pos2) X.env) :: starEach [] X.env := by rfl) :
    PE X (.Call (.Name "list" p) [.Call (.Name "zip" p2) [e, e2] [] pos2] [] pos) (tZipL X.K ta) := by
  refine ⟨fun pins s σ H Q I h => ?_⟩
  refine Call_ (ld_blt I hg hm boot_list (PyProof.Rows.callWith_type1 (args_cons ?_ na) na))
  refine Call_ (ld_blt I hg2 hm2 PyProof.Rows.boot_zip (PyProof.Rows.callWith_type1 (thn (ha.run pos2 pins s σ H _ I h) fun us s1 ⟨vs, H1, I1, r1, q1⟩ => ?_) hs hpl))
  obtain ⟨a, b, xs, ys, ex, hqx, hqy, hlen, h1n, h2n, q⟩ := q1
  subst ex
  cases r1 with
  | cons r rr =>
    cases rr with
    | cons r' rr =>
      cases rr
      cases r
      cases r'
      obtain ⟨its, rv, p1, _⟩ := I1.tuple hqx
      obtain ⟨its2, rv2, p2', _⟩ := I1.tuple hqy
      have la : a < s1.heap.objs.size := by obtain ⟨_, e1, _⟩ := p1; exact Heap.lt_size e1
      have lb : b < s1.heap.objs.size := by obtain ⟨_, e1, _⟩ := p2'; exact Heap.lt_size e1
      have l1 := rv.length
      have l2 := rv2.length
      have hh := I1.ok.hd hc
      refine zip_begins2 (begins_tuple a its.toArray) (begins_tuple b its2.toArray) p1 p2' fun h0 hz hTI hTO hi1 hi2 hsz hk0 => ?_
      refine args_nil ?_
      refine call_list_zip (s := { s1 with heap := h0 }) hz fun h1 c1 hS1 hk1 hsz1 => ?_
      replace hS1 : IsLs h1 h0.objs.size #[] c1 := hS1
      replace hk1 : ∀ b o, h0.get? b = some o → h1.get? b = some o := hk1
      replace hsz1 : h1.objs.size = h0.objs.size + 1 := hsz1
      have SP := zip_sep2 (fp1 := [a]) (fp2 := [b]) (N := s1.heap.objs.size) (by simpa using la) (by simpa using lb)
      have D1 := Draws.tuple (prog := X.prog) (w := X.w) (A := X.A.in1.in1.in1) hh s1.heap.objs.size a (Nat.ne_of_lt la) its.toArray
      have D2 := Draws.tuple (prog := X.prog) (w := X.w) (A := X.A.in1.in1.in1) hh (s1.heap.objs.size + 1) b (Nat.ne_of_lt (Nat.lt_succ_of_lt lb)) its2.toArray
      obtain ⟨x, xs', rfl⟩ : ∃ x xs', xs = x :: xs' := by
        cases xs with
        | nil => exact absurd h1n (by decide)
        | cons x xs' => exact ⟨x, xs', rfl⟩
      obtain ⟨y, ys', rfl⟩ : ∃ y ys', ys = y :: ys' := by
        cases ys with
        | nil => rw [hlen] at h1n; exact absurd h1n (by decide)
        | cons y ys' => exact ⟨y, ys', rfl⟩
      cases rv with
      | @cons _ u _ ut ru rt =>
      cases rv2 with
      | @cons _ u' _ ut' ru' rt' =>
      have nl : ∀ {c : Addr} {o : Obj} (k : Nat), s1.heap.get? c = some o → c ≠ s1.heap.objs.size + k := fun k e => Nat.ne_of_lt (Nat.lt_of_lt_of_le (Heap.lt_size e) (Nat.le_add_right _ k))
      have nm1 : s1.heap.objs.size + 5 ∉ [s1.heap.objs.size, a] := fun z => by
        rcases List.mem_cons.mp z with e | z
        · exact absurd e (Nat.ne_of_gt (Nat.lt_add_of_pos_right (by decide)))
        · rw [← List.mem_singleton.mp z] at la
          exact absurd la (Nat.not_lt.mpr (Nat.le_add_right _ _))
      have nm2 : s1.heap.objs.size + 5 ∉ [s1.heap.objs.size + 1, b] := fun z => by
        rcases List.mem_cons.mp z with e | z
        · exact absurd e (Nat.ne_of_gt (Nat.add_lt_add_left (by decide) _))
        · rw [← List.mem_singleton.mp z] at lb
          exact absurd lb (Nat.not_lt.mpr (Nat.le_add_right _ _))
      have hS5 : h0.objs.size = s1.heap.objs.size + 5 := hsz
      rw [hS5] at hS1 hsz1 ⊢
      have st1 : h1.IsTupleIter s1.heap.objs.size a 0 ∧ h1.IsTuple a (u :: ut).toArray := ⟨⟨_, hk1 _ _ hi1, rfl, rfl⟩, by obtain ⟨o, e, c, d⟩ := p1; exact ⟨o, hk1 _ _ (hk0 _ _ e), c, d⟩⟩
      have st2 : h1.IsTupleIter (s1.heap.objs.size + 1) b 0 ∧ h1.IsTuple b (u' :: ut').toArray := ⟨⟨_, hk1 _ _ hi2, rfl, rfl⟩, by obtain ⟨o, e, c, d⟩ := p2'; exact ⟨o, hk1 _ _ (hk0 _ _ e), c, d⟩⟩
      refine ext_item (A := X.A.in1) (acc := #[]) (c := c1) (by decide) ?_
      refine wpAny_pyNext_zipD2_item (i := 0) SP D1 D2 (hk1 _ _ hz) (hk1 _ _ hTI) (hk1 _ _ hTO) st1 st2 (by simp) (by simp) fun v1 v1' h2 tk2 px py hz2 hTO2 st12 st22 hT2 hsz2 hk2 => ?_
      replace hk2 : ∀ c o, c ≠ s1.heap.objs.size + 4 → c ≠ s1.heap.objs.size + 3 → c ≠ s1.heap.objs.size → c ≠ s1.heap.objs.size + 1 → h1.get? c = some o → h2.get? c = some o := hk2
      replace hz2 : IsZip h2 (s1.heap.objs.size + 4) (s1.heap.objs.size + 2) (s1.heap.objs.size + 3) (rawInt h1.objs.size) := hz2
      replace hT2 : IsTupOf2 h2 h1.objs.size v1 v1' := hT2
      replace hsz2 : h2.objs.size = h1.objs.size + 1 := hsz2
      have ev : v1 = u := by
        have z : ((u :: ut).toArray)[0]? = some v1 := px
        simpa using z.symm
      have ev' : v1' = u' := by
        have z : ((u' :: ut').toArray)[0]? = some v1' := py
        simpa using z.symm
      subst ev ev'
      rw [hsz1] at hz2 hT2 hsz2
      have hSS : IsLs h2 (s1.heap.objs.size + 5) #[] c1 := hk2 _ _ (by omega) (by omega) (by omega) (by omega) hS1
      refine ⟨_, rfl, hSS, fun h3 c3 hS3 hs3 => ?_⟩
      replace hS3 : IsLs h3 (s1.heap.objs.size + 5) (#[].push (.ref h1.objs.size)) c3 := hS3
      rw [hsz1] at hS3
      have hs3' : Heap.SameBut (s1.heap.objs.size + 5) h2 h3 := hs3
      have e3 : ∀ c o, c ≠ s1.heap.objs.size + 5 → h2.get? c = some o → h3.get? c = some o := fun c o hne e => hs3'.extBut _ _ hne e
      have hz3 : IsZipHeld h3 (s1.heap.objs.size + 4) (s1.heap.objs.size + 2) (s1.heap.objs.size + 3) (s1.heap.objs.size + 5 + 1) false := e3 _ _ (by omega) hz2
      have hT3 : IsTupOf2 h3 (s1.heap.objs.size + 5 + 1) v1 v1' := e3 _ _ (by omega) hT2
      have hTI3 : IsTupOf2 h3 (s1.heap.objs.size + 2) (.ref s1.heap.objs.size) (.ref (s1.heap.objs.size + 1)) := e3 _ _ (by omega) (hk2 _ _ (by omega) (by omega) (by omega) (by omega) (hk1 _ _ hTI))
      have st13 := D1.over st12 hs3' nm1
      have st23 := D2.over st22 hs3' nm2
      have old3 : ∀ c o, s1.heap.get? c = some o → h3.get? c = some o := fun c o e => by
        exact e3 _ _ (nl 5 e) (hk2 _ _ (nl 4 e) (nl 3 e) (nl 0 e) (nl 1 e) (hk1 _ _ (hk0 _ _ e)))
      have hsz3 : h3.objs.size = s1.heap.objs.size + 7 := by rw [hs3'.1, hsz2]
      cases xs' with
      | nil =>
        obtain rfl : ys' = [] := by
          cases ys' with
          | nil => rfl
          | cons _ _ => simp at hlen
        cases rt
        cases rt'
        refine ext_end (A := X.A.in1) ?_
        refine pyNext_zipH2_end SP D1 hz3 hT3 hTI3 st13 fun h4 hk4 => ⟨rfl, rfl, ?_⟩
        replace hk4 : ∀ c o, c ≠ s1.heap.objs.size + 4 → c ≠ s1.heap.objs.size → c ≠ s1.heap.objs.size + 1 → h3.get? c = some o → h4.get? c = some o := hk4
        obtain ⟨H', k1, k2, k3, k4, J⟩ := pairs_laid (tk := tk2) (as := [s1.heap.objs.size + 5 + 1]) (ps := [(x, y)]) (S := s1.heap.objs.size + 5) I1 (by show 1 ≤ sizeLine; decide) rfl (fun c o e => hk4 _ _ (nl 4 e) (nl 0 e) (nl 1 e) (old3 c o e)) (hk4 _ _ (by omega) (by omega) (by omega) hS3) (by omega) (by simp; omega) (by simp) (by simp)
          (.cons ⟨_, _, ru, ru', hk4 _ _ (by omega) (by omega) (by omega) hT3⟩ .nil) rfl
        exact ⟨.ref (s1.heap.objs.size + 5), H', J, rfl, q H' _ _ k1 k2 k3 k4⟩
      | cons x2 xs2 =>
        obtain rfl : xs2 = [] := by
          cases xs2 with
          | nil => rfl
          | cons _ _ => simp at h2n
        obtain ⟨y2, rfl⟩ : ∃ y2, ys' = [y2] := by
          match ys', hlen with
          | [y2], _ => exact ⟨y2, rfl⟩
        cases rt with
        | @cons _ w2 _ _ rw2 rt =>
        cases rt
        cases rt' with
        | @cons _ w2' _ _ rw2' rt' =>
        cases rt'
        refine ext_item (A := X.A.in1) (acc := #[].push (.ref (s1.heap.objs.size + 5 + 1))) (c := c3) (by show 1 < sizeLine; decide) ?_
        refine pyNext_zipH2_item (i := 1) SP D1 D2 hz3 hT3 hTI3 st13 st23 (by simp) (by simp) fun v2 v2' h4 tk4 px2 py2 hz4 st14 st24 hT4 hsz4 hk4 => ?_
        replace hk4 : ∀ c o, c ≠ s1.heap.objs.size + 4 → c ≠ s1.heap.objs.size → c ≠ s1.heap.objs.size + 1 → h3.get? c = some o → h4.get? c = some o := hk4
        replace hz4 : IsZipHeld h4 (s1.heap.objs.size + 4) (s1.heap.objs.size + 2) (s1.heap.objs.size + 3) (s1.heap.objs.size + 5 + 1) true := hz4
        replace hT4 : IsTupOf2 h4 h3.objs.size v2 v2' := hT4
        have ev : v2 = w2 := by
          have z : ([v1, w2].toArray)[1]? = some v2 := px2
          simpa using z.symm
        have ev' : v2' = w2' := by
          have z : ([v1', w2'].toArray)[1]? = some v2' := py2
          simpa using z.symm
        subst ev ev'
        rw [hsz3] at hT4
        refine ⟨_, rfl, hk4 _ _ (by omega) (by omega) (by omega) hS3, fun h5 c5 hS5' hs5 => ?_⟩
        have hs5' : Heap.SameBut (s1.heap.objs.size + 5) h4 h5 := hs5
        have e5 : ∀ c o, c ≠ s1.heap.objs.size + 5 → h4.get? c = some o → h5.get? c = some o := fun c o hne e => hs5'.extBut _ _ hne e
        replace hS5' : IsLs h5 (s1.heap.objs.size + 5) ((#[].push (.ref (s1.heap.objs.size + 5 + 1))).push (.ref h3.objs.size)) c5 := hS5'
        rw [hsz3] at hS5'
        refine ext_end (A := X.A.in1) ?_
        refine pyNext_zipH2_end SP D1 (e5 _ _ (by omega) hz4) (e5 _ _ (by omega) (hk4 _ _ (by omega) (by omega) (by omega) hT3)) (e5 _ _ (by omega) (hk4 _ _ (by omega) (by omega) (by omega) hTI3)) (D1.over st14 hs5' nm1) fun h6 hk6 => ⟨rfl, rfl, ?_⟩
        replace hk6 : ∀ c o, c ≠ s1.heap.objs.size + 4 → c ≠ s1.heap.objs.size → c ≠ s1.heap.objs.size + 1 → h5.get? c = some o → h6.get? c = some o := hk6
        obtain ⟨H', k1, k2, k3, k4, J⟩ := pairs_laid (tk := tk4) (as := [s1.heap.objs.size + 5 + 1, s1.heap.objs.size + 7]) (ps := [(x, y), (x2, y2)]) (S := s1.heap.objs.size + 5) I1 (by show 2 ≤ sizeLine; decide) rfl
          (fun c o e => by
            exact hk6 _ _ (nl 4 e) (nl 0 e) (nl 1 e) (e5 _ _ (nl 5 e) (hk4 _ _ (nl 4 e) (nl 0 e) (nl 1 e) (old3 c o e)))) (hk6 _ _ (by omega) (by omega) (by omega) hS5') (by omega) (by simp; omega) (by simp) (by simp)
          (.cons ⟨_, _, ru, ru', hk6 _ _ (by omega) (by omega) (by omega) (e5 _ _ (by omega) (hk4 _ _ (by omega) (by omega) (by omega) hT3))⟩ (.cons ⟨_, _, rw2, rw2', hk6 _ _ (by omega) (by omega) (by omega) (e5 _ _ (by omega) hT4)⟩ .nil)) rfl
        exact ⟨.ref (s1.heap.objs.size + 5), H', J, rfl, q H' _ _ k1 k2 k3 k4⟩
end
end Rd
namespace Rd
open PySem PySem.Spec PyProof.Rows L2
section
variable {X : Cx} {K : PySem.W.Frag} {o e : Expr} {es : List Expr} {to : TE} {t : TA} {name : Str} {apos cpos : Pos} {T id : String} {r : V → List V → Hp → VK → Prop}
theorem pe_bmk (hK : X.K = K) (pa : PlainAttrs T) (slot : Slot T name id) (hty : typeOf (.builtin id) = pure (.type "method_descriptor")) (hm : MtR X id r) (ho : PE X o to) (ha : PA X (e :: es) t)
    (hbase : attributeBase o name X.env (eval o X.env) = eval o X.env := by rfl)
    (hfew : ((backTo cpos (starEach (e :: es) X.env)).all (fun x => !x.1) && (backToKw cpos (keywordEach [] X.env)).all (fun x => x.1.isSome)
      && decide ((e :: es).length + ([] : List Keyword).length + (if ([] : List Keyword).isEmpty then 0 else 1) < 30)) = true := by rfl)
    (hline : (apos.endLine == cpos.line) = true := by rfl) (hs : starEach (e :: es) X.env = (false, eval e X.env) :: starEach es X.env := by rfl) (hplain : (backTo cpos (starEach es X.env)).any (·.1) = false := by rfl) :
    PE X (.Call (.Attribute o name apos) (e :: es) [] cpos) (tBM K T r to t) := by subst hK; exact pe_bm pa slot hty hm ho ha hbase hfew hline hs hplain
end
end Rd
namespace Rd
open PySem PySem.Spec PyProof.Rows L2
/-- != of two lists with the same objects in them -/
def rNeSame (K : PySem.W.Frag) : R2 := fun x y H Q => ∃ (a b : Addr) (as : List Addr), x = .ref a ∧ y = .ref b ∧ SqL K H a (as.map V.ref) ∧ SqL K H b (as.map V.ref) ∧ Q (.bl false) H
theorem vals_refs_inv : ∀ {as : List Addr} {us : List Value}, Vals (as.map V.ref) us → us = as.map Value.ref
  | [], _, .nil => rfl
  | a :: as, _, .cons h t => by
    cases h
    rw [vals_refs_inv t]
    rfl
theorem op_neSame {X : Cx} (hu : X.A.units < cLine) : OpR X (compareOp .NotEq) (rNeSame X.K) := by
  intro pins s σ H x y v u Q I rx ry h
  obtain ⟨a, b, as, rfl, rfl, h1, h2, q⟩ := h
  cases rx
  cases ry
  obtain ⟨its, r1, p1, _⟩ := I.list h1
  obtain ⟨its2, r2, p2, _⟩ := I.list h2
  rw [vals_refs_inv r1] at p1
  rw [vals_refs_inv r2] at p2
  refine SeqAt.RcNeAt.lists (e := fun _ => true) p1.isList p2.isList rfl hu (fun j _ _ => SeqAt.EqAt.same _) X.prog X.w _ _ ?_
  refine ⟨.bl false, H, I, ?_, q⟩
  have : (!(List.range (as.map Value.ref).toArray.size).all fun _ => true) = false := by simp
  rw [this]
  rfl
end Rd
namespace Rd
open PySem L2
def top (i : Nat) : Stmt := PySem.Challenge.pw_openroads_k12_whole_planted_fillings.main.body.getD i (.Pass ⟨0, 0, 0, 0⟩)
structure Tx (w : World) (K : PySem.W.Frag) (mg : Str → Option Value) : Prop where
  z_len : mg "len" = none
  z_all : mg "all" = none
  z_any : mg "any" = none
  z_abs : mg "abs" = none
  z_int : mg "int" = none
  z_list : mg "list" = none
  z_tuple : mg "tuple" = none
  z_range : mg "range" = none
  z_max : mg "max" = none
  z_min : mg "min" = none
  z_isinstance : mg "isinstance" = none
  z_sorted : mg "sorted" = none
  z_str : mg "str" = none
  z_set : mg "set" = none
  z_dict : mg "dict" = none
  z_enumerate : mg "enumerate" = none
  z_zip : mg "zip" = none
  z_ValueError : mg "ValueError" = none
  z_NotImplemented : mg "NotImplemented" = none
  z_sum : mg "sum" = none
  z_bool : mg "bool" = none
  c_SMALL : ∃ t, mg "SMALL" = some (.str "abcdefghijklmnopqrstuvwxyz" t)
  c_GREAT : ∃ t, mg "GREAT" = some (.str "ABCDEFGHIJKLMNOPQRSTUVWXYZ" t)
  c_DIGITS : ∃ t, mg "DIGITS" = some (.str "0123456789" t)
  D_SIGNS : Kd w K mg "SIGNS" [("pair", 2), ("seal", 2), ("lock", 2), ("mark", 1), ("open", 1), ("own", 1)]
  F_is_word : Fh K mg "is_word" (top 12)
  F_is_unknown : Fh K mg "is_unknown" (top 13)
  F_is_name : Fh K mg "is_name" (top 14)
  F_atom_tree : Fh K mg "atom_tree" (top 15)
  F_is_atom_form : Fh K mg "is_atom_form" (top 16)
  F_check_form : Fh K mg "check_form" (top 17)
  F_parts_of : Fh K mg "parts_of" (top 18)
  F_atoms_of : Fh K mg "atoms_of" (top 19)
  F_filled_tree : Fh K mg "filled_tree" (top 20)
  F_tree_text : Fh K mg "tree_text" (top 21)
  F_made_tree : Fh K mg "made_tree" (top 22)
  F_resolved : Fh K mg "resolved" (top 26)
  F_narrowest_trees : Fh K mg "narrowest_trees" (top 27)
  F_narrowest : Fh K mg "narrowest" (top 28)
  F__law_stream : Fh K mg "_law_stream" (top 30)
  F__law_draw : Fh K mg "_law_draw" (top 31)
  F__law_pick : Fh K mg "_law_pick" (top 32)
  F__law_word : Fh K mg "_law_word" (top 33)
  F__law_name : Fh K mg "_law_name" (top 34)
  F__law_atom : Fh K mg "_law_atom" (top 35)
  F__law_form : Fh K mg "_law_form" (top 36)
  F__law_letter : Fh K mg "_law_letter" (top 37)
  F__law_mix : Fh K mg "_law_mix" (top 38)
  F__law_parts : Fh K mg "_law_parts" (top 39)
  F__law_filled : Fh K mg "_law_filled" (top 40)
  F__law_matched : Fh K mg "_law_matched" (top 41)
  F__law_plain_forms : Fh K mg "_law_plain_forms" (top 42)
  F__law_opened_up : Fh K mg "_law_opened_up" (top 43)
  F__law_planted : Fh K mg "_law_planted" (top 44)
  F__law_is_first : Fh K mg "_law_is_first" (top 45)
  g_RoadError : mg "RoadError" = some (.ref (He.ga K "RoadError"))
  r_RoadError : REx K (He.ga K "RoadError")
  X_BadAtom : Xh K mg "BadAtom" "text" "BadAtom.__init__" (inClass (top 3) 0)
  X_BadForm : Xh K mg "BadForm" "path" "BadForm.__init__" (inClass (top 4) 0)
  X_BadKey : Xh K mg "BadKey" "key" "BadKey.__init__" (inClass (top 5) 0)
  X_BadText : Xh K mg "BadText" "line" "BadText.__init__" (inClass (top 6) 0)
  f_Reader : PySem.W.selfFirst K (He.ga K "Reader") = true
  Y_Reader : IsiC K (He.ga K "Reader")
  k_Reader : Cls K (He.ga K "Reader")
  g_Reader : mg "Reader" = some (.ref (He.ga K "Reader"))
  n_Reader_signs : NoAttr K (He.ga K "Reader") "signs"
  n_Reader_at : NoAttr K (He.ga K "Reader") "at"
  n_Reader_begun : NoAttr K (He.ga K "Reader") "begun"
  J_Reader : Mk K (He.ga K "Reader") (He.ma K (He.ga K "Reader") "__init__")
  M_Reader_init : Mh K "Reader" "__init__" "Reader.__init__" (inClass (top 23) 0)
  M_Reader_takes : Mh K "Reader" "takes" "Reader.takes" (inClass (top 23) 1)
  M_Reader_word_here : Mh K "Reader" "word_here" "Reader.word_here" (inClass (top 23) 2)
  M_Reader_next_atom : Mh K "Reader" "next_atom" "Reader.next_atom" (inClass (top 23) 3)
  M_Reader_closed : Mh K "Reader" "closed" "Reader.closed" (inClass (top 23) 4)
  M_Reader_whole : Mh K "Reader" "whole" "Reader.whole" (inClass (top 23) 5)
  f_Letter : PySem.W.selfFirst K (He.ga K "Letter") = true
  Y_Letter : IsiC K (He.ga K "Letter")
  k_Letter : Cls K (He.ga K "Letter")
  g_Letter : mg "Letter" = some (.ref (He.ga K "Letter"))
  n_Letter_tree : NoAttr K (He.ga K "Letter") "tree"
  I_Letter : Ih K mg "Letter" "Letter.__init__" (inClass (top 24) 0) [.non]
  S_Letter_of : Sh K mg "Letter" "of" "Letter.of" (inClass (top 24) 1)
  S_Letter_read : Sh K mg "Letter" "read" "Letter.read" (inClass (top 24) 2)
  M_Letter_form : Mh K "Letter" "form" "Letter.form" (inClass (top 24) 3)
  M_Letter_written : Mh K "Letter" "written" "Letter.written" (inClass (top 24) 4)
  M_Letter_unknowns : Mh K "Letter" "unknowns" "Letter.unknowns" (inClass (top 24) 5)
  M_Letter_add : Mh K "Letter" "__add__" "Letter.__add__" (inClass (top 24) 8)
  M_Letter_mul : Mh K "Letter" "__mul__" "Letter.__mul__" (inClass (top 24) 9)
  M_Letter_xor : Mh K "Letter" "__xor__" "Letter.__xor__" (inClass (top 24) 10)
  M_Letter_invert : Mh K "Letter" "__invert__" "Letter.__invert__" (inClass (top 24) 11)
  M_Letter_pos : Mh K "Letter" "__pos__" "Letter.__pos__" (inClass (top 24) 12)
  M_Letter_neg : Mh K "Letter" "__neg__" "Letter.__neg__" (inClass (top 24) 13)
  M_Letter_eq : Mh K "Letter" "__eq__" "Letter.__eq__" (inClass (top 24) 14)
  M_Letter_lt : Mh K "Letter" "__lt__" "Letter.__lt__" (inClass (top 24) 15)
  M_Letter_le : Mh K "Letter" "__le__" "Letter.__le__" (inClass (top 24) 16)
  M_Letter_gt : Mh K "Letter" "__gt__" "Letter.__gt__" (inClass (top 24) 17)
  M_Letter_ge : Mh K "Letter" "__ge__" "Letter.__ge__" (inClass (top 24) 18)
  M_Letter_contains : Mh K "Letter" "__contains__" "Letter.__contains__" (inClass (top 24) 19)
  M_Letter_len : Mh K "Letter" "__len__" "Letter.__len__" (inClass (top 24) 20)
section
set_option maxHeartbeats 0
def d0 : He.DefD := ⟨("is_word", none), "is_word", "is_word", defArgs (top 12), defBody (top 12), defScope (top 12), [], []⟩
def d1 : He.DefD := ⟨("is_unknown", none), "is_unknown", "is_unknown", defArgs (top 13), defBody (top 13), defScope (top 13), [], []⟩
def d2 : He.DefD := ⟨("is_name", none), "is_name", "is_name", defArgs (top 14), defBody (top 14), defScope (top 14), [], []⟩
def d3 : He.DefD := ⟨("atom_tree", none), "atom_tree", "atom_tree", defArgs (top 15), defBody (top 15), defScope (top 15), [], []⟩
def d4 : He.DefD := ⟨("is_atom_form", none), "is_atom_form", "is_atom_form", defArgs (top 16), defBody (top 16), defScope (top 16), [], []⟩
def d5 : He.DefD := ⟨("check_form", none), "check_form", "check_form", defArgs (top 17), defBody (top 17), defScope (top 17), [], []⟩
def d6 : He.DefD := ⟨("parts_of", none), "parts_of", "parts_of", defArgs (top 18), defBody (top 18), defScope (top 18), [], []⟩
def d7 : He.DefD := ⟨("atoms_of", none), "atoms_of", "atoms_of", defArgs (top 19), defBody (top 19), defScope (top 19), [], []⟩
def d8 : He.DefD := ⟨("filled_tree", none), "filled_tree", "filled_tree", defArgs (top 20), defBody (top 20), defScope (top 20), [], []⟩
def d9 : He.DefD := ⟨("tree_text", none), "tree_text", "tree_text", defArgs (top 21), defBody (top 21), defScope (top 21), [], []⟩
def d10 : He.DefD := ⟨("made_tree", none), "made_tree", "made_tree", defArgs (top 22), defBody (top 22), defScope (top 22), [], []⟩
def d11 : He.DefD := ⟨("resolved", none), "resolved", "resolved", defArgs (top 26), defBody (top 26), defScope (top 26), [], []⟩
def d12 : He.DefD := ⟨("narrowest_trees", none), "narrowest_trees", "narrowest_trees", defArgs (top 27), defBody (top 27), defScope (top 27), [], []⟩
def d13 : He.DefD := ⟨("narrowest", none), "narrowest", "narrowest", defArgs (top 28), defBody (top 28), defScope (top 28), [], []⟩
def d14 : He.DefD := ⟨("_law_stream", none), "_law_stream", "_law_stream", defArgs (top 30), defBody (top 30), defScope (top 30), [], []⟩
def d15 : He.DefD := ⟨("_law_draw", none), "_law_draw", "_law_draw", defArgs (top 31), defBody (top 31), defScope (top 31), [], []⟩
def d16 : He.DefD := ⟨("_law_pick", none), "_law_pick", "_law_pick", defArgs (top 32), defBody (top 32), defScope (top 32), [], []⟩
def d17 : He.DefD := ⟨("_law_word", none), "_law_word", "_law_word", defArgs (top 33), defBody (top 33), defScope (top 33), [], []⟩
def d18 : He.DefD := ⟨("_law_name", none), "_law_name", "_law_name", defArgs (top 34), defBody (top 34), defScope (top 34), [], []⟩
def d19 : He.DefD := ⟨("_law_atom", none), "_law_atom", "_law_atom", defArgs (top 35), defBody (top 35), defScope (top 35), [], []⟩
def d20 : He.DefD := ⟨("_law_form", none), "_law_form", "_law_form", defArgs (top 36), defBody (top 36), defScope (top 36), [], []⟩
def d21 : He.DefD := ⟨("_law_letter", none), "_law_letter", "_law_letter", defArgs (top 37), defBody (top 37), defScope (top 37), [], []⟩
def d22 : He.DefD := ⟨("_law_mix", none), "_law_mix", "_law_mix", defArgs (top 38), defBody (top 38), defScope (top 38), [], []⟩
def d23 : He.DefD := ⟨("_law_parts", none), "_law_parts", "_law_parts", defArgs (top 39), defBody (top 39), defScope (top 39), [], []⟩
def d24 : He.DefD := ⟨("_law_filled", none), "_law_filled", "_law_filled", defArgs (top 40), defBody (top 40), defScope (top 40), [], []⟩
def d25 : He.DefD := ⟨("_law_matched", none), "_law_matched", "_law_matched", defArgs (top 41), defBody (top 41), defScope (top 41), [], []⟩
def d26 : He.DefD := ⟨("_law_plain_forms", none), "_law_plain_forms", "_law_plain_forms", defArgs (top 42), defBody (top 42), defScope (top 42), [], []⟩
def d27 : He.DefD := ⟨("_law_opened_up", none), "_law_opened_up", "_law_opened_up", defArgs (top 43), defBody (top 43), defScope (top 43), [], []⟩
def d28 : He.DefD := ⟨("_law_planted", none), "_law_planted", "_law_planted", defArgs (top 44), defBody (top 44), defScope (top 44), [], []⟩
def d29 : He.DefD := ⟨("_law_is_first", none), "_law_is_first", "_law_is_first", defArgs (top 45), defBody (top 45), defScope (top 45), [], []⟩
def d30 : He.DefD := ⟨("law", none), "law", "law", defArgs (top 46), defBody (top 46), defScope (top 46), [], []⟩
def d31 : He.DefD := ⟨("BadAtom", some "__init__"), "__init__", "BadAtom.__init__", defArgs (inClass (top 3) 0), defBody (inClass (top 3) 0), defScope (inClass (top 3) 0), [], []⟩
def d32 : He.DefD := ⟨("BadForm", some "__init__"), "__init__", "BadForm.__init__", defArgs (inClass (top 4) 0), defBody (inClass (top 4) 0), defScope (inClass (top 4) 0), [], []⟩
def d33 : He.DefD := ⟨("BadKey", some "__init__"), "__init__", "BadKey.__init__", defArgs (inClass (top 5) 0), defBody (inClass (top 5) 0), defScope (inClass (top 5) 0), [], []⟩
def d34 : He.DefD := ⟨("BadText", some "__init__"), "__init__", "BadText.__init__", defArgs (inClass (top 6) 0), defBody (inClass (top 6) 0), defScope (inClass (top 6) 0), [], []⟩
def d35 : He.DefD := ⟨("Reader", some "__init__"), "__init__", "Reader.__init__", defArgs (inClass (top 23) 0), defBody (inClass (top 23) 0), defScope (inClass (top 23) 0), [], []⟩
def d36 : He.DefD := ⟨("Reader", some "takes"), "takes", "Reader.takes", defArgs (inClass (top 23) 1), defBody (inClass (top 23) 1), defScope (inClass (top 23) 1), [], []⟩
def d37 : He.DefD := ⟨("Reader", some "word_here"), "word_here", "Reader.word_here", defArgs (inClass (top 23) 2), defBody (inClass (top 23) 2), defScope (inClass (top 23) 2), [], []⟩
def d38 : He.DefD := ⟨("Reader", some "next_atom"), "next_atom", "Reader.next_atom", defArgs (inClass (top 23) 3), defBody (inClass (top 23) 3), defScope (inClass (top 23) 3), [], []⟩
def d39 : He.DefD := ⟨("Reader", some "closed"), "closed", "Reader.closed", defArgs (inClass (top 23) 4), defBody (inClass (top 23) 4), defScope (inClass (top 23) 4), [], []⟩
def d40 : He.DefD := ⟨("Reader", some "whole"), "whole", "Reader.whole", defArgs (inClass (top 23) 5), defBody (inClass (top 23) 5), defScope (inClass (top 23) 5), [], []⟩
def d41 : He.DefD := ⟨("Letter", some "__init__"), "__init__", "Letter.__init__", defArgs (inClass (top 24) 0), defBody (inClass (top 24) 0), defScope (inClass (top 24) 0), [.non], []⟩
def d42 : He.DefD := ⟨("Letter", some "form"), "form", "Letter.form", defArgs (inClass (top 24) 3), defBody (inClass (top 24) 3), defScope (inClass (top 24) 3), [], []⟩
def d43 : He.DefD := ⟨("Letter", some "written"), "written", "Letter.written", defArgs (inClass (top 24) 4), defBody (inClass (top 24) 4), defScope (inClass (top 24) 4), [], []⟩
def d44 : He.DefD := ⟨("Letter", some "unknowns"), "unknowns", "Letter.unknowns", defArgs (inClass (top 24) 5), defBody (inClass (top 24) 5), defScope (inClass (top 24) 5), [], []⟩
def d45 : He.DefD := ⟨("Letter", some "__add__"), "__add__", "Letter.__add__", defArgs (inClass (top 24) 8), defBody (inClass (top 24) 8), defScope (inClass (top 24) 8), [], []⟩
def d46 : He.DefD := ⟨("Letter", some "__mul__"), "__mul__", "Letter.__mul__", defArgs (inClass (top 24) 9), defBody (inClass (top 24) 9), defScope (inClass (top 24) 9), [], []⟩
def d47 : He.DefD := ⟨("Letter", some "__xor__"), "__xor__", "Letter.__xor__", defArgs (inClass (top 24) 10), defBody (inClass (top 24) 10), defScope (inClass (top 24) 10), [], []⟩
def d48 : He.DefD := ⟨("Letter", some "__invert__"), "__invert__", "Letter.__invert__", defArgs (inClass (top 24) 11), defBody (inClass (top 24) 11), defScope (inClass (top 24) 11), [], []⟩
def d49 : He.DefD := ⟨("Letter", some "__pos__"), "__pos__", "Letter.__pos__", defArgs (inClass (top 24) 12), defBody (inClass (top 24) 12), defScope (inClass (top 24) 12), [], []⟩
def d50 : He.DefD := ⟨("Letter", some "__neg__"), "__neg__", "Letter.__neg__", defArgs (inClass (top 24) 13), defBody (inClass (top 24) 13), defScope (inClass (top 24) 13), [], []⟩
def d51 : He.DefD := ⟨("Letter", some "__eq__"), "__eq__", "Letter.__eq__", defArgs (inClass (top 24) 14), defBody (inClass (top 24) 14), defScope (inClass (top 24) 14), [], []⟩
def d52 : He.DefD := ⟨("Letter", some "__lt__"), "__lt__", "Letter.__lt__", defArgs (inClass (top 24) 15), defBody (inClass (top 24) 15), defScope (inClass (top 24) 15), [], []⟩
def d53 : He.DefD := ⟨("Letter", some "__le__"), "__le__", "Letter.__le__", defArgs (inClass (top 24) 16), defBody (inClass (top 24) 16), defScope (inClass (top 24) 16), [], []⟩
def d54 : He.DefD := ⟨("Letter", some "__gt__"), "__gt__", "Letter.__gt__", defArgs (inClass (top 24) 17), defBody (inClass (top 24) 17), defScope (inClass (top 24) 17), [], []⟩
def d55 : He.DefD := ⟨("Letter", some "__ge__"), "__ge__", "Letter.__ge__", defArgs (inClass (top 24) 18), defBody (inClass (top 24) 18), defScope (inClass (top 24) 18), [], []⟩
def d56 : He.DefD := ⟨("Letter", some "__contains__"), "__contains__", "Letter.__contains__", defArgs (inClass (top 24) 19), defBody (inClass (top 24) 19), defScope (inClass (top 24) 19), [], []⟩
def d57 : He.DefD := ⟨("Letter", some "__len__"), "__len__", "Letter.__len__", defArgs (inClass (top 24) 20), defBody (inClass (top 24) 20), defScope (inClass (top 24) 20), [], []⟩
def fa0 : List He.Fa := [.free "len", .free "all", .free "any", .free "abs", .free "int", .free "list", .free "tuple", .free "range", .free "max", .free "min", .free "isinstance", .free "sorted", .free "str", .free "set", .free "dict", .free "enumerate", .free "zip", .free "ValueError", .free "NotImplemented", .free "sum", .free "bool", .str "SMALL" "abcdefghijklmnopqrstuvwxyz", .str "GREAT" "ABCDEFGHIJKLMNOPQRSTUVWXYZ", .str "DIGITS" "0123456789", .glo "SIGNS", .glo "is_word", .glo "is_unknown", .glo "is_name", .glo "atom_tree", .glo "is_atom_form"]
def fa1 : List He.Fa := [.glo "check_form", .glo "parts_of", .glo "atoms_of", .glo "filled_tree", .glo "tree_text", .glo "made_tree", .glo "resolved", .glo "narrowest_trees", .glo "narrowest", .glo "_law_stream", .glo "_law_draw", .glo "_law_pick", .glo "_law_word", .glo "_law_name", .glo "_law_atom", .glo "_law_form", .glo "_law_letter", .glo "_law_mix", .glo "_law_parts", .glo "_law_filled", .glo "_law_matched", .glo "_law_plain_forms", .glo "_law_opened_up", .glo "_law_planted", .glo "_law_is_first", .glo "law", .glo "RoadError", .exm "RoadError" "RoadError" true, .glo "BadAtom", .exm "BadAtom" "BadAtom" true]
def fa2 : List He.Fa := [.meth "BadAtom" "__init__", .noat "BadAtom" "text", .glo "BadForm", .exm "BadForm" "BadForm" true, .meth "BadForm" "__init__", .noat "BadForm" "path", .glo "BadKey", .exm "BadKey" "BadKey" true, .meth "BadKey" "__init__", .noat "BadKey" "key", .glo "BadText", .exm "BadText" "BadText" true, .meth "BadText" "__init__", .noat "BadText" "line", .glo "Reader", .cls "Reader", .noat "Reader" "signs", .noat "Reader" "at", .noat "Reader" "begun", .meth "Reader" "__init__", .mkr "Reader", .meth "Reader" "takes", .meth "Reader" "word_here", .meth "Reader" "next_atom", .meth "Reader" "closed", .meth "Reader" "whole", .glo "Letter", .cls "Letter", .noat "Letter" "tree", .meth "Letter" "__init__"]
def fa3 : List He.Fa := [.mkr "Letter", .meth "Letter" "form", .meth "Letter" "written", .meth "Letter" "unknowns", .meth "Letter" "__add__", .meth "Letter" "__mul__", .meth "Letter" "__xor__", .meth "Letter" "__invert__", .meth "Letter" "__pos__", .meth "Letter" "__neg__", .meth "Letter" "__eq__", .meth "Letter" "__lt__", .meth "Letter" "__le__", .meth "Letter" "__gt__", .meth "Letter" "__ge__", .meth "Letter" "__contains__", .meth "Letter" "__len__"]
def fa : List He.Fa := fa0 ++ fa1 ++ fa2 ++ fa3
def fn0 : List He.DefD := [d0, d1, d2, d3, d4, d5, d6, d7, d8, d9, d10, d11, d12, d13, d14, d15, d16, d17, d18, d19, d20, d21, d22, d23, d24, d25, d26, d27, d28, d29]
def fn1 : List He.DefD := [d30, d31, d32, d33, d34, d35, d36, d37, d38, d39, d40, d41, d42, d43, d44, d45, d46, d47, d48, d49, d50, d51, d52, d53, d54, d55, d56, d57]
def fn : List He.DefD := fn0 ++ fn1
def loo0 : List PySem.Str := ["_wall", "RoadError", "BadAtom", "BadForm", "BadKey", "BadText", "SMALL", "GREAT", "DIGITS", "SIGNS", "is_word", "is_unknown", "is_name", "atom_tree", "is_atom_form", "check_form", "parts_of", "atoms_of", "filled_tree", "tree_text", "made_tree", "Reader", "Letter", "resolved", "narrowest_trees", "narrowest", "_law_stream", "_law_draw", "_law_pick", "_law_word"]
def loo1 : List PySem.Str := ["_law_name", "_law_atom", "_law_form", "_law_letter", "_law_mix", "_law_parts", "_law_filled", "_law_matched", "_law_plain_forms", "_law_opened_up", "_law_planted", "_law_is_first"]
def loo : List PySem.Str := loo0 ++ loo1
def e0 : He5.DefA := ⟨fun K => sfn K "Letter" "of", "of", "Letter.of", defArgs (inClass (top 24) 1), defBody (inClass (top 24) 1), defScope (inClass (top 24) 1), [], []⟩
def e1 : He5.DefA := ⟨fun K => sfn K "Letter" "read", "read", "Letter.read", defArgs (inClass (top 24) 2), defBody (inClass (top 24) 2), defScope (inClass (top 24) 2), [], []⟩
def fs : List He5.DefA := [e0, e1]
def ts : List He.Tab := [(fun K => He.ga K "SIGNS", ["pair", "seal", "lock", "mark", "open", "own"])]
def exl (K : PySem.W.Frag) : List Bool := [kdB K (He.ga K "SIGNS") [("pair", 2), ("seal", 2), ("lock", 2), ("mark", 1), ("open", 1), ("own", 1)], oexB K "RoadError", xfB K (He.ga K "RoadError"), rexB K "RoadError", oexB K "BadAtom", xfB K (He.ga K "BadAtom"), oexB K "BadForm", xfB K (He.ga K "BadForm"), oexB K "BadKey", xfB K (He.ga K "BadKey"), oexB K "BadText", xfB K (He.ga K "BadText"), PySem.W.selfFirst K (He.ga K "Reader"), isiB K (He.ga K "Reader"), PySem.W.selfFirst K (He.ga K "Letter"), isiB K (He.ga K "Letter"), statB K "Letter" "of", statB K "Letter" "read"]
def exq : PySem.W.Frag → Bool := fun K => (exl K).all id
theorem exl_ok {K : PySem.W.Frag} (h : exq K = true) (i : Nat) {b : Bool} (e : (exl K)[i]? = some b) : b = true := List.all_eq_true.mp h b (List.mem_of_getElem? e)
abbrev R : PySem.W.OpenRow := PySem.W.OpenLaw.row PySem.Challenge.rw_openroads_k12_whole_planted_fillings
abbrev hk : PySem.W.Hook := hookZ 6 fa fn ts exq fs
def ob (s : PySem.W.SharedT) : AlZ := obsZ 6 fa fn ts exq fs (HandSHeadRun.getT s)
theorem ob_eq (s : PySem.W.SharedT) : ob s = hk.obs s.abs := obsZ_eq (HandSHeadRun.getT_eq s)
abbrev qv : Program := PySem.W.view R.prog [46]
theorem join3 {α β γ δ : Type _} {o : Option α} {f : α → β} {g : α → γ} {h : α → δ} {a : β} {b : γ} {c : δ} (e1 : o.map f = some a) (e2 : o.map g = some b) (e3 : o.map h = some c) : o.map (fun s => (f s, g s, h s)) = some (a, b, c) := by
  cases o with
  | none => cases e1
  | some s =>
    cases e1
    cases e2
    cases e3
    rfl
open PySem PySem.W PySem.Calls PyProof.Rows HandSHeadRun in
theorem run0a (w : World) (os : OsState) : (HandSHeadRun.endF (HandSHeadRun.stepQ (HandSHeadRun.denQ HandSHeadRun.tabQ) R.prog (w.withFollow "special-get-raises" false)) 4000 R.prog (w.withFollow "special-get-raises" false) os).map (fun s => looksF R.prog (boot_heap (w.withFollow "special-get-raises" false).params) s.abs) = some true := by
  kernel_rfl
open PySem PySem.W PySem.Calls PyProof.Rows HandSHeadRun in
theorem run0b (w : World) (os : OsState) : (HandSHeadRun.endF (HandSHeadRun.stepQ (HandSHeadRun.denQ HandSHeadRun.tabQ) R.prog (w.withFollow "special-get-raises" false)) 4000 R.prog (w.withFollow "special-get-raises" false) os).map (fun s => seenQ qv loo (importedModules R.prog.main.body) (fun s => xlAt qv [] s && recOk R.toRowW.records s) s.abs) = some (openGood qv loo) := by
  kernel_rfl
open PySem PySem.W PySem.Calls PyProof.Rows HandSHeadRun in
theorem run0c (w : World) (os : OsState) : (HandSHeadRun.endF (HandSHeadRun.stepQ (HandSHeadRun.denQ HandSHeadRun.tabQ) R.prog (w.withFollow "special-get-raises" false)) 4000 R.prog (w.withFollow "special-get-raises" false) os).map ob = some (hk.val (w.withFollow "special-get-raises" false)) := by
  kernel_rfl
theorem run0 (w : World) : HandSHeadRun.RunEq R qv hk ob 4000 loo (w.withFollow "special-get-raises" false) := fun os => join3 (run0a w os) (run0b w os) (run0c w os)
open PySem PySem.W PySem.Calls PyProof.Rows HandSHeadRun in
theorem run1a (w : World) (os : OsState) : (HandSHeadRun.endF (HandSHeadRun.stepQ (HandSHeadRun.denQ HandSHeadRun.tabQ) R.prog (w.withFollow "special-get-raises" true)) 4000 R.prog (w.withFollow "special-get-raises" true) os).map (fun s => looksF R.prog (boot_heap (w.withFollow "special-get-raises" true).params) s.abs) = some true := by
  kernel_rfl
open PySem PySem.W PySem.Calls PyProof.Rows HandSHeadRun in
theorem run1b (w : World) (os : OsState) : (HandSHeadRun.endF (HandSHeadRun.stepQ (HandSHeadRun.denQ HandSHeadRun.tabQ) R.prog (w.withFollow "special-get-raises" true)) 4000 R.prog (w.withFollow "special-get-raises" true) os).map (fun s => seenQ qv loo (importedModules R.prog.main.body) (fun s => xlAt qv [] s && recOk R.toRowW.records s) s.abs) = some (openGood qv loo) := by
  kernel_rfl
open PySem PySem.W PySem.Calls PyProof.Rows HandSHeadRun in
theorem run1c (w : World) (os : OsState) : (HandSHeadRun.endF (HandSHeadRun.stepQ (HandSHeadRun.denQ HandSHeadRun.tabQ) R.prog (w.withFollow "special-get-raises" true)) 4000 R.prog (w.withFollow "special-get-raises" true) os).map ob = some (hk.val (w.withFollow "special-get-raises" true)) := by
  kernel_rfl
theorem run1 (w : World) : HandSHeadRun.RunEq R qv hk ob 4000 loo (w.withFollow "special-get-raises" true) := fun os => join3 (run1a w os) (run1b w os) (run1c w os)
theorem run (w : World) : HandSHeadRun.RunEq R qv hk ob 4000 loo w := PySem.W.byRow2 "special-get-raises" (P := fun w => HandSHeadRun.RunEq R qv hk ob 4000 loo w) run0 run1 w
end
end Rd
namespace Rd
open PySem L2
def SMALL : Str := "abcdefghijklmnopqrstuvwxyz"
def GREAT : Str := "ABCDEFGHIJKLMNOPQRSTUVWXYZ"
def DIGITS : Str := "0123456789"
def inS (s : Str) (c : Nat) : Bool := decide (c ∈ s.cps.toList)
def isWord (z : Str) : Bool := decide (1 ≤ z.length) && (decide (z.length ≤ 8) && z.cps.toList.all (inS SMALL))
def isUnk (z : Str) : Bool := isWord z && decide (z.length ≤ 7)
def isName (z : Str) : Bool := decide (1 ≤ (Txt.rstripChars z DIGITS).length) && (decide (z.length ≤ 8) && (Txt.rstripChars z DIGITS).cps.toList.all (inS GREAT))
theorem lineBig : 200000 ≤ sizeLine := by decide
theorem allId (l : List Nat) (p : Nat → Bool) : (l.map p).all id = l.all p := by simp [List.all_map]
theorem decNat {a b : Nat} : decide ((a : Int) ≤ (b : Int)) = decide (a ≤ b) := by
  by_cases h : a ≤ b
  · rw [decide_eq_true h, decide_eq_true (by omega)]
  · rw [decide_eq_false h, decide_eq_false (by omega)]
def spTB (f : Str → Bool) : Sp := fun vs H Q _ => ∃ z : Str, vs = [.str z] ∧ z.length ≤ 200000 ∧ ∀ H', Same H H' → Q (.bl (f z)) H'
section
variable {P : Program} {w : World} {K : PySem.W.Frag} {mg : Str → Option Value} {base : Heap}
abbrev s_is_word : Stmt := top 12
theorem sc_is_word : FnScope ["text", "sign"] ["text"] (defScope s_is_word) := ⟨rfl, rfl, rfl, by decide +kernel, rfl, by decide +kernel, by decide +kernel⟩
theorem ok_is_word (T : Tx w K mg) : Fk P w K mg base CX0 1 "is_word" ["text"] (spTB isWord) := by
  refine T.F_is_word.ok0 sc_is_word (fun _ _ _ _ _ _ us hl => match us, hl with | [_], _ => rfl)
    (fun vs H Q E h => ?_) (fun cdv A outer s H vs Q E hr h => ?_)
  · obtain ⟨z, rfl, _⟩ := h
    rfl
  · obtain ⟨z, rfl, hz, k⟩ := h
    have hl : z.length ≤ sizeLine := Nat.le_trans hz lineBig
    refine ⟨_, (pss_one (ps_ret (pe_and (pe_chain op_le op_le pe_int (pe_callB call_len_str (by rfl) T.z_len (by decide +kernel) (pa_cons (pv 0) pa_nil)) pe_int) (pe_one (pe_callB (cr_all rfl) (by rfl) T.z_all (by decide +kernel) (pa_cons (pe_lc (own := [("sign", 1)]) (g := gName 1) (tt := tYes) (by rfl) sc_is_word.nd (pi_str (pv 0)) (blkOk_by (own := [("sign", 1)]) (N := ["text", "sign"]) (sc := defScope s_is_word) (by decide +kernel)) (fun _ _ _ _ _ => (pg_name (i := 1) sc_is_word.nd rfl (Or.inl rfl))) (fun _ _ _ _ _ => pts_nil) (fun _ _ _ _ _ => (pe_cmpR op_in_sign (pv 1) (pe_gstr T.c_SMALL) (by rfl)))) pa_nil)))))), ?_⟩
    refine ⟨_, rfl, z, rfl, hl, _, _, rfl, rfl, _, rfl, ?_⟩
    refine ite2 (fun h1 => ?_) (fun h1 => ⟨false, rfl, ?_⟩)
    · refine ⟨_, _, rfl, rfl, _, rfl, ?_⟩
      refine ite2 (fun h2 => ?_) (fun h2 => ?_)
      · refine ⟨_, rfl, z, rfl, fun D hD => lcs (f := fun c => V.bl (inS SMALL c)) hl (fun c H Q hc q => ⟨_, rfl, _, _, rfl, rfl, q⟩) ?_⟩
        refine ⟨D, z.cps.toList.map (inS SMALL), rfl, SqL.of (by rw [upd_same, List.map_map]; rfl), ?_⟩
        have e : isWord z = (z.cps.toList.map (inS SMALL)).all id := by
          have a1 : decide (1 ≤ z.length) = true := decide_eq_true (by have := of_decide_eq_true h1; omega)
          have a2 : decide (z.length ≤ 8) = true := decide_eq_true (by have := of_decide_eq_true h2; omega)
          rw [isWord, a1, a2, allId] <;> rfl
        show Q (V.bl ((z.cps.toList.map (inS SMALL)).all id)) _
        rw [← e]
        exact k _ (Rd.Same.upd hD)
      · have e : isWord z = false := by
          have a2 : decide (z.length ≤ 8) = false := decide_eq_false (fun q => h2 (decide_eq_true (by omega)))
          rw [isWord, a2] <;> simp
        show Q (V.bl false) _
        rw [← e]
        exact k _ (Same.refl _)
    · have e : isWord z = false := by
        have a1 : decide (1 ≤ z.length) = false := decide_eq_false (fun q => h1 (decide_eq_true (by omega)))
        rw [isWord, a1] <;> rfl
      show Q (V.bl false) _
      rw [← e]
      exact k _ (Same.refl _)
abbrev s_is_unknown : Stmt := top 13
theorem sc_is_unknown : FnScope ["text"] ["text"] (defScope s_is_unknown) := ⟨rfl, rfl, rfl, by decide +kernel, rfl, by decide +kernel, by decide +kernel⟩
theorem ok_is_unknown (T : Tx w K mg) : Fk P w K mg base CX0 2 "is_unknown" ["text"] (spTB isUnk) := by
  refine T.F_is_unknown.ok0 sc_is_unknown (fun _ _ _ _ _ _ us hl => match us, hl with | [_], _ => rfl)
    (fun vs H Q E h => ?_) (fun cdv A outer s H vs Q E hr h => ?_)
  · obtain ⟨z, rfl, _⟩ := h
    rfl
  · obtain ⟨z, rfl, hz, k⟩ := h
    have hl : z.length ≤ sizeLine := Nat.le_trans hz lineBig
    refine ⟨_, (pss_one (ps_ret (pe_and (pe_fk (ok_is_word T) (hr.mono (by omega)) rfl pass0 (pa_cons (pv 0) pa_nil)) (pe_one (pe_cmpR op_le (pe_callB call_len_str (by rfl) T.z_len (by decide +kernel) (pa_cons (pv 0) pa_nil)) pe_int (nomark _)))))), ?_⟩
    refine ⟨_, rfl, z, rfl, hz, fun H1 s1 => ⟨_, rfl, ?_⟩⟩
    refine ite2 (fun h1 => ?_) (fun h1 => ?_)
    · refine ⟨_, rfl, z, rfl, hl, _, _, rfl, rfl, ?_⟩
      have e : isUnk z = decide ((z.length : Int) ≤ 7) := by
        rw [isUnk, h1]
        exact (decNat (b := 7)).symm
      show Q (V.bl (decide ((z.length : Int) ≤ 7))) _
      rw [← e]
      exact k _ s1
    · have e : isUnk z = false := by
        rw [isUnk, Bool.eq_false_iff.mpr h1] <;> rfl
      show Q (V.bl false) _
      rw [← e]
      exact k _ s1
abbrev s_is_name : Stmt := top 14
theorem sc_is_name : FnScope ["text", "letters", "sign"] ["text"] (defScope s_is_name) := ⟨rfl, rfl, rfl, by decide +kernel, rfl, by decide +kernel, by decide +kernel⟩
theorem ok_is_name (T : Tx w K mg) : Fk P w K mg base CX0 1 "is_name" ["text"] (spTB isName) := by
  refine T.F_is_name.ok0 sc_is_name (fun _ _ _ _ _ _ us hl => match us, hl with | [_], _ => rfl)
    (fun vs H Q E h => ?_) (fun cdv A outer s H vs Q E hr h => ?_)
  · obtain ⟨z, rfl, _⟩ := h
    rfl
  · obtain ⟨z, rfl, hz, k⟩ := h
    have hl : z.length ≤ sizeLine := Nat.le_trans hz lineBig
    refine ⟨_, (pss_cons (ps_set (i := 1) sc_is_name.nd rfl (Or.inl rfl) (pe_bm PySem.F.plainAttrs_str PySem.F.slot_str_rstrip PySem.F.type_str_rstrip mt_rstripChars (pv 0) (pa_cons (pe_gstr T.c_DIGITS) pa_nil)))
  (pss_one (ps_ret (pe_and (pe_cmpR op_le pe_int (pe_callB call_len_str (by rfl) T.z_len (by decide +kernel) (pa_cons (pv 1) pa_nil)) (nomark _)) (pe_and (pe_cmpR op_le (pe_callB call_len_str (by rfl) T.z_len (by decide +kernel) (pa_cons (pv 0) pa_nil)) pe_int (nomark _)) (pe_one (pe_callB (cr_all rfl) (by rfl) T.z_all (by decide +kernel) (pa_cons (pe_lc (own := [("sign", 2)]) (g := gName 2) (tt := tYes) (by rfl) sc_is_name.nd (pi_str (pv 1)) (blkOk_by (own := [("sign", 2)]) (N := ["text", "letters", "sign"]) (sc := defScope s_is_name) (by decide +kernel)) (fun _ _ _ _ _ => (pg_name (i := 2) sc_is_name.nd rfl (Or.inl rfl))) (fun _ _ _ _ _ => pts_nil) (fun _ _ _ _ _ => (pe_cmpR op_in_sign (pv 2) (pe_gstr T.c_GREAT) (by rfl)))) pa_nil)))))))), ?_⟩
    have hl2 : (Txt.rstripChars z DIGITS).length ≤ sizeLine := Nat.le_trans (PyProof.Rows.len_rstripChars z DIGITS) hl
    refine ⟨_, rfl, rfl, z, DIGITS, rfl, rfl, hl, ?_⟩
    refine ⟨_, rfl, _, rfl, hl2, _, _, rfl, rfl, _, rfl, ?_⟩
    refine ite2 (fun h1 => ?_) (fun h1 => ?_)
    · refine ⟨_, rfl, z, rfl, hl, _, _, rfl, rfl, _, rfl, ?_⟩
      refine ite2 (fun h2 => ?_) (fun h2 => ?_)
      · refine ⟨_, rfl, _, rfl, fun D hD => lcs (f := fun c => V.bl (inS GREAT c)) hl2 (fun c H Q hc q => ⟨_, rfl, _, _, rfl, rfl, q⟩) ?_⟩
        refine ⟨D, (Txt.rstripChars z DIGITS).cps.toList.map (inS GREAT), rfl, SqL.of (by rw [upd_same, List.map_map]; rfl), ?_⟩
        have e : isName z = ((Txt.rstripChars z DIGITS).cps.toList.map (inS GREAT)).all id := by
          have a1 : decide (1 ≤ (Txt.rstripChars z DIGITS).length) = true := decide_eq_true (by have := of_decide_eq_true h1; omega)
          have a2 : decide (z.length ≤ 8) = true := decide_eq_true (by have := of_decide_eq_true h2; omega)
          rw [isName, a1, a2, allId] <;> rfl
        show Q (V.bl (((Txt.rstripChars z DIGITS).cps.toList.map (inS GREAT)).all id)) _
        rw [← e]
        exact k _ (Rd.Same.upd hD)
      · have e : isName z = false := by
          have a2 : decide (z.length ≤ 8) = false := decide_eq_false (fun q => h2 (decide_eq_true (by omega)))
          rw [isName, a2] <;> simp
        show Q (V.bl false) _
        rw [← e]
        exact k _ (Same.refl _)
    · have e : isName z = false := by
        have a1 : decide (1 ≤ (Txt.rstripChars z DIGITS).length) = false := decide_eq_false (fun q => h1 (decide_eq_true (by omega)))
        rw [isName, a1] <;> rfl
      show Q (V.bl false) _
      rw [← e]
      exact k _ (Same.refl _)
/-- text[1:] -/
def tailS (z : Str) : Str := cutS z (some 1) none
theorem cutS_nat (z : Str) (a b : Nat) (ha : a ≤ z.length) (hb : b ≤ z.length) : (cutS z (some (a : Int)) (some (b : Int))).cps.toList = (z.cps.toList.take b).drop a := by
  show ((z.cps.toList.drop (HT.sIx z.length 0 (some (a : Int)))).take (HT.sIx z.length z.length (some (b : Int)) - HT.sIx z.length 0 (some (a : Int)))) = _
  rw [HT.sIx_nat, HT.sIx_nat, Nat.min_eq_left ha, Nat.min_eq_left hb, List.drop_take]
theorem cutS_from (z : Str) (a : Nat) : (cutS z (some (a : Int)) none).cps.toList = z.cps.toList.drop a := by
  show ((z.cps.toList.drop (HT.sIx z.length 0 (some (a : Int)))).take (z.length - HT.sIx z.length 0 (some (a : Int)))) = _
  have hs : z.cps.toList.length = z.length := by rw [Array.length_toList]; rfl
  rw [HT.sIx_nat, List.take_of_length_le (by rw [List.length_drop, hs]; exact Nat.le_refl _)]
  rcases Nat.le_total a z.length with h | h
  · rw [Nat.min_eq_left h]
  · rw [Nat.min_eq_right h, List.drop_of_length_le (by omega), List.drop_of_length_le (by omega)]
theorem cutS_to (z : Str) (b : Nat) : (cutS z none (some (b : Int))).cps.toList = z.cps.toList.take b := by
  show ((z.cps.toList.drop 0).take (HT.sIx z.length z.length (some (b : Int)) - 0)) = _
  have hs : z.cps.toList.length = z.length := by rw [Array.length_toList]; rfl
  rw [HT.sIx_nat, List.drop_zero, Nat.sub_zero]
  rcases Nat.le_total b z.length with h | h
  · rw [Nat.min_eq_left h]
  · rw [Nat.min_eq_right h, List.take_of_length_le (by omega), List.take_of_length_le (by omega)]
theorem len_list (z : Str) : z.length = z.cps.toList.length := by rw [Array.length_toList]; rfl
theorem tailS_list (z : Str) : (tailS z).cps.toList = z.cps.toList.drop 1 := cutS_from z 1
theorem tailS_len (z : Str) : (tailS z).length ≤ z.length := by
  rw [len_list, len_list, tailS_list, List.length_drop]
  omega
def atomOf (z : Str) : Option (Str × Str) := if isWord z = true then some ("word", z) else if isName z = true then some ("name", z) else if (Txt.startswith z "?" && isUnk (tailS z)) = true then some ("unknown", tailS z) else none
def sp_atom_tree : Sp := fun vs H Q _ => ∃ z : Str, vs = [.str z] ∧ z.length ≤ 200000 ∧ (∀ H', Same H H' → atomOf z = none → Q .non H') ∧ ∀ k x p H', Same H H' → atomOf z = some (k, x) → H p = none → H' p = some (.tup [.str k, .str x]) → Q (.ref p) H'
abbrev s_atom_tree : Stmt := top 15
theorem sc_atom_tree : FnScope ["text"] ["text"] (defScope s_atom_tree) := ⟨rfl, rfl, rfl, by decide +kernel, rfl, by decide +kernel, by decide +kernel⟩
theorem ok_atom_tree (T : Tx w K mg) : Fk P w K mg base CX0 3 "atom_tree" ["text"] sp_atom_tree := by
  refine T.F_atom_tree.ok0 sc_atom_tree (fun _ _ _ _ _ _ us hl => match us, hl with | [_], _ => rfl)
    (fun vs H Q E h => ?_) (fun cdv A outer s H vs Q E hr h => ?_)
  · obtain ⟨z, rfl, _⟩ := h
    rfl
  · obtain ⟨z, rfl, hz, k0, k1⟩ := h
    have hl : z.length ≤ sizeLine := Nat.le_trans hz lineBig
    have hz2 : (tailS z).length ≤ 200000 := Nat.le_trans (tailS_len z) hz
    refine ⟨_, (pss_cons (ps_if (pt_val (pe_fk (ok_is_word T) (hr.mono (by omega)) rfl pass0 (pa_cons (pv 0) pa_nil)))
  (pss_one (ps_ret (pe_tup (pa_cons pe_str (pa_cons (pv 0) pa_nil)))))
  pss_nil)
  (pss_cons (ps_if (pt_val (pe_fk (ok_is_name T) (hr.mono (by omega)) rfl pass0 (pa_cons (pv 0) pa_nil)))
  (pss_one (ps_ret (pe_tup (pa_cons pe_str (pa_cons (pv 0) pa_nil)))))
  pss_nil)
  (pss_cons (ps_if (PW.pt (pw_and (pt_val (pe_bm PySem.F.plainAttrs_str PySem.F.slot_str_startswith PySem.F.type_str_startswith mt_startswith (pv 0) (pa_cons pe_str pa_nil))) (pw_and1 (pt_val (pe_fk (ok_is_unknown T) (hr.mono (by omega)) rfl pass0 (pa_cons (pe_slice sl_str (pv 0) (po_some pe_int) po_none) pa_nil))))))
  (pss_one (ps_ret (pe_tup (pa_cons pe_str (pa_cons (pe_slice sl_str (pv 0) (po_some pe_int) po_none) pa_nil)))))
  pss_nil)
  (pss_one (ps_ret pe_non))))), ?_⟩
    refine ⟨_, rfl, z, rfl, hz, fun H1 s1 => ⟨_, rfl, ite2 (fun h1 => ?_) (fun h1 => ?_)⟩⟩
    · refine ⟨_, rfl, (by show 2 ≤ sizeLine; decide), fun p hp => ?_⟩
      exact k1 _ _ p _ (Rd.Same.upd' s1 hp) (by rw [atomOf, if_pos h1]) (s1.free hp) upd_same
    · refine ⟨_, rfl, z, rfl, hz, fun H2 s2 => ⟨_, rfl, ite2 (fun h2 => ?_) (fun h2 => ?_)⟩⟩
      · refine ⟨_, rfl, (by show 2 ≤ sizeLine; decide), fun p hp => ?_⟩
        exact k1 _ _ p _ (Rd.Same.upd' (s1.trans s2) hp) (by rw [atomOf, if_neg h1, if_pos h2]) ((s1.trans s2).free hp) upd_same
      · refine ⟨_, rfl, rfl, z, "?", rfl, rfl, _, rfl, ite2 (fun h3 => ?_) (fun h3 => ?_)⟩
        · refine ⟨_, rfl, _, rfl, z, rfl, hl, tailS z, rfl, hz2, fun H3 s3 => ⟨_, rfl, ite2 (fun h4 => ?_) (fun h4 => ?_)⟩⟩
          · refine ⟨_, rfl, _, rfl, z, rfl, hl, (by show 2 ≤ sizeLine; decide), fun p hp => ?_⟩
            exact k1 _ _ p _ (Rd.Same.upd' ((s1.trans s2).trans s3) hp) (by rw [atomOf, if_neg h1, if_neg h2, if_pos (by rw [h3, h4]; rfl)]; rfl) (((s1.trans s2).trans s3).free hp) upd_same
          · exact k0 _ ((s1.trans s2).trans s3) (by rw [atomOf, if_neg h1, if_neg h2, if_neg (by rw [Bool.eq_false_iff.mpr h4]; simp)])
        · exact k0 _ (s1.trans s2) (by rw [atomOf, if_neg h1, if_neg h2, if_neg (by rw [Bool.eq_false_iff.mpr h3]; simp)])
end
end Rd
namespace Rd
open PySem L2
theorem str_ext {a b : Str} (h : a.cps.toList = b.cps.toList) : a = b := by
  obtain ⟨⟨a⟩⟩ := a
  obtain ⟨⟨b⟩⟩ := b
  have e : a = b := h
  rw [e]
theorem app_list (a b : Str) : (a ++ b).cps.toList = a.cps.toList ++ b.cps.toList := by
  show (a.cps ++ b.cps).toList = _
  rw [Array.toList_append]
theorem contains_in (s : Str) (c : Nat) : s.cps.contains c = inS s c := by
  unfold inS
  rw [Bool.eq_iff_iff, decide_eq_true_iff, Array.contains_iff_mem]
  exact Array.mem_def
theorem rstrip_list (z s : Str) : (Txt.rstripChars z s).cps.toList = (z.cps.toList.reverse.dropWhile (inS s)).reverse := by
  have e0 : s.cps.contains = inS s := funext (contains_in s)
  show (Txt.stripBy s.cps.contains false true z).cps.toList = _
  rw [PyProof.Rows.stripBy_eq, e0]
  show (z.cps.extract 0 (z.length - ((z.cps.toList.drop 0).reverse.takeWhile (inS s)).length)).toList = _
  rw [List.drop_zero, len_list]
  generalize z.cps = a
  obtain ⟨l⟩ := a
  rw [List.extract_toArray]
  show (l.extract 0 (l.length - (l.reverse.takeWhile (inS s)).length)) = (l.reverse.dropWhile (inS s)).reverse
  rw [List.extract_eq_drop_take, List.drop_zero, Nat.sub_zero]
  have e1 : l.reverse = l.reverse.takeWhile (inS s) ++ l.reverse.dropWhile (inS s) := (List.takeWhile_append_dropWhile).symm
  have e2 : l = (l.reverse.dropWhile (inS s)).reverse ++ (l.reverse.takeWhile (inS s)).reverse := by
    have := congrArg List.reverse e1
    rw [List.reverse_reverse, List.reverse_append] at this
    exact this
  have e3 : l.length = (l.reverse.dropWhile (inS s)).length + (l.reverse.takeWhile (inS s)).length := by
    have := congrArg List.length e2
    rw [List.length_append, List.length_reverse, List.length_reverse] at this
    exact this
  rw [e3, Nat.add_sub_cancel]
  have key : ∀ (A B : List Nat), l = A.reverse ++ B.reverse → l.take A.length = A.reverse := fun A B q => by
    rw [q, List.take_append_of_le_length (by rw [List.length_reverse]; exact Nat.le_refl _), List.take_of_length_le (by rw [List.length_reverse]; exact Nat.le_refl _)]
  exact key _ _ e2
theorem starts_q (z : Str) : Txt.startswith z "?" = true ↔ ∃ r, z.cps.toList = 63 :: r := by
  show (decide (0 + ("?" : Str).length ≤ z.length) && (z.cps.extract 0 (0 + ("?" : Str).length) == ("?" : Str).cps)) = true ↔ _
  have e1 : ("?" : Str).length = 1 := by decide
  have e2 : ("?" : Str).cps = #[63] := by decide +kernel
  rw [e1, e2, len_list]
  generalize z.cps = a
  obtain ⟨l⟩ := a
  cases l with
  | nil => simp
  | cons c r =>
    constructor
    · intro h
      obtain ⟨_, h2⟩ := He.ba h
      have h3 : (⟨c :: r⟩ : Array Nat).extract 0 1 = #[63] := eq_of_beq h2
      have h4 := congrArg Array.toList h3
      simp at h4
      exact ⟨r, by rw [h4]⟩
    · rintro ⟨r', e⟩
      have e' : c :: r = 63 :: r' := e
      injection e' with e3 e4
      subst e3
      simp
theorem q_tail {z : Str} (h : Txt.startswith z "?" = true) : "?" ++ tailS z = z := by
  obtain ⟨r, e⟩ := (starts_q z).mp h
  refine str_ext ?_
  rw [app_list, tailS_list, e]
  have e2 : ("?" : Str).cps.toList = [63] := by decide +kernel
  rw [e2]
  rfl
theorem disj {c : Nat} (h : inS GREAT c = true) : inS DIGITS c = false := by
  have h1 : c ∈ GREAT.cps.toList := of_decide_eq_true h
  have h2 : GREAT.cps.toList.all (fun c => !inS DIGITS c) = true := by decide +kernel
  have h3 := List.all_eq_true.mp h2 c h1
  simpa using h3
theorem disj2 {c : Nat} (h : inS DIGITS c = true) : inS GREAT c = false := by
  cases e : inS GREAT c with
  | false => rfl
  | true => rw [disj e] at h; cases h
theorem dropAll {p : Nat → Bool} : ∀ (l : List Nat), (∀ c ∈ l, p c = true) → l.dropWhile p = []
  | [], _ => rfl
  | a :: r, h => by
    rw [List.dropWhile_cons, if_pos (h a List.mem_cons_self)]
    exact dropAll r fun c hc => h c (List.mem_cons_of_mem _ hc)
theorem name_iff (l : List Nat) : (1 ≤ ((l.reverse.dropWhile (inS DIGITS)).reverse).length ∧ ((l.reverse.dropWhile (inS DIGITS)).reverse).all (inS GREAT) = true) ↔
    ((0 < (l.filter (inS GREAT)).length ∧ (l.take (l.filter (inS GREAT)).length).all (inS GREAT) = true) ∧ (l.drop (l.filter (inS GREAT)).length).all (inS DIGITS) = true) := by
  have e1 : l.reverse = l.reverse.takeWhile (inS DIGITS) ++ l.reverse.dropWhile (inS DIGITS) := (List.takeWhile_append_dropWhile).symm
  have e2 : l = (l.reverse.dropWhile (inS DIGITS)).reverse ++ (l.reverse.takeWhile (inS DIGITS)).reverse := by
    have := congrArg List.reverse e1
    rw [List.reverse_reverse, List.reverse_append] at this
    exact this
  have hD : ∀ c ∈ (l.reverse.takeWhile (inS DIGITS)).reverse, inS DIGITS c = true := fun c hc => by
    rw [List.mem_reverse] at hc
    have := List.all_takeWhile (p := inS DIGITS) (l := l.reverse)
    exact List.all_eq_true.mp this c hc
  constructor
  · rintro ⟨h1, h2⟩
    generalize (l.reverse.dropWhile (inS DIGITS)).reverse = A at e2 h1 h2
    generalize (l.reverse.takeWhile (inS DIGITS)).reverse = B at e2 hD
    subst e2
    have fA : A.filter (inS GREAT) = A := List.filter_eq_self.mpr fun c hc => List.all_eq_true.mp h2 c hc
    have fB : B.filter (inS GREAT) = [] := List.filter_eq_nil_iff.mpr fun c hc q => by rw [disj2 (hD c hc)] at q; cases q
    rw [List.filter_append, fA, fB, List.append_nil]
    refine ⟨⟨h1, ?_⟩, ?_⟩
    · rw [List.take_append_of_le_length (Nat.le_refl _), List.take_length]
      exact h2
    · rw [List.drop_append_of_le_length (Nat.le_refl _), List.drop_length, List.nil_append]
      exact List.all_eq_true.mpr hD
  · rintro ⟨⟨h1, h2⟩, h3⟩
    have hle := List.length_filter_le (inS GREAT) l
    generalize (l.filter (inS GREAT)).length = n at h1 h2 h3 hle
    have el : l = l.take n ++ l.drop n := (List.take_append_drop n l).symm
    have key : l.reverse.dropWhile (inS DIGITS) = (l.take n).reverse := by
      conv => lhs; rw [el]
      rw [List.reverse_append, List.dropWhile_append]
      have z1 : (l.drop n).reverse.dropWhile (inS DIGITS) = [] := by
        exact dropAll _ fun c hc => by
          rw [List.mem_reverse] at hc
          exact List.all_eq_true.mp h3 c hc
      rw [z1]
      simp only [List.isEmpty_nil, if_true]
      cases hr : (l.take n).reverse with
      | nil => rfl
      | cons c r =>
        have hc : c ∈ l.take n := by
          rw [← List.mem_reverse, hr]
          exact List.mem_cons_self
        rw [List.dropWhile_cons, if_neg]
        rw [disj (List.all_eq_true.mp h2 c hc)]
        decide
    rw [key, List.reverse_reverse, List.length_take]
    exact ⟨by omega, h2⟩
theorem isName_first {z : Str} (h : isName z = true) (q : Txt.startswith z "?" = true) : False := by
  obtain ⟨h1, h2⟩ := He.ba h
  obtain ⟨h3, h4⟩ := He.ba h2
  obtain ⟨r, e⟩ := (starts_q z).mp q
  have h1' := of_decide_eq_true h1
  rw [len_list, rstrip_list] at h1'
  rw [rstrip_list] at h4
  obtain ⟨⟨a1, a2⟩, a3⟩ := (name_iff z.cps.toList).mp ⟨h1', h4⟩
  rw [e] at a1 a2
  have hg : inS GREAT 63 = false := by decide +kernel
  generalize ((63 :: r).filter (inS GREAT)).length = n at a1 a2
  cases n with
  | zero => cases a1
  | succ n =>
    have := List.all_eq_true.mp a2 63 (by rw [List.take_succ_cons]; exact List.mem_cons_self)
    rw [hg] at this
    cases this
end Rd
namespace Rd
open PySem L2
/-- a stream's list, with n draws still in the bound -/
def StL (n : Nat) (xs : List V) : Prop := ∃ a b c : Int, xs = [.int a, .int b, .int c] ∧ 0 ≤ a ∧ 0 ≤ b ∧ b ≤ 1099511627776 ∧ 0 ≤ c ∧ c + n ≤ 1099511627776
theorem StL.mono {n m : Nat} {xs : List V} (h : StL n xs) (hm : m ≤ n) : StL m xs := by
  obtain ⟨a, b, c, e, h1, h2, h3, h4, h5⟩ := h
  exact ⟨a, b, c, e, h1, h2, h3, h4, by omega⟩
def sp_stream (K : PySem.W.Frag) : Sp := fun vs H Q _ => ∃ (a : Addr) (ns : List Int) (k : Int), vs = [.ref a, .int k] ∧ SqL K H a (ns.map V.int) ∧ ns.length ≤ 63 ∧ 0 ≤ k ∧ k ≤ 100 ∧
  ∀ p xs H', Same H H' → H p = none → H' p = some (.lst xs) → StL 1000000000 xs → Q (.ref p) H'
def sp_draw : Sp := fun vs H Q _ => ∃ (p : Addr) (xs : List V) (n : Nat) (m : Int), vs = [.ref p, .int m] ∧ H p = some (.lst xs) ∧ StL (n + 1) xs ∧ 0 < m ∧ m < 1073741824 ∧
  ∀ d ys, 0 ≤ d → d < m → StL n ys → Q (.int d) (upd H p (.lst ys))
def sp_pick (K : PySem.W.Frag) : Sp := fun vs H Q _ => ∃ (p a : Addr) (xs us : List V) (n : Nat), vs = [.ref p, .ref a] ∧ H p = some (.lst xs) ∧ StL (n + 1) xs ∧ SqL K H a us ∧ SqL K (upd H p (.lst [])) a us ∧ 0 < us.length ∧ us.length < 1073741824 ∧
  ∀ (j : Nat) v ys, us[j]? = some v → StL n ys → Q v (upd H p (.lst ys))
section
variable {P : Program} {w : World} {K : PySem.W.Frag} {mg : Str → Option Value} {base : Heap}
abbrev s__law_stream : Stmt := top 30
theorem sc__law_stream : FnScope ["_law_script", "_law_k", "_law_cell"] ["_law_script", "_law_k"] (defScope s__law_stream) := ⟨rfl, rfl, rfl, by decide +kernel, rfl, by decide +kernel, by decide +kernel⟩
theorem ok__law_stream (T : Tx w K mg) : Fk P w K mg base CX0 1 "_law_stream" ["_law_script", "_law_k"] (sp_stream K) := by
  refine T.F__law_stream.ok0 sc__law_stream (fun _ _ _ _ _ _ us hl => match us, hl with | [_, _], _ => rfl)
    (fun vs H Q E h => ?_) (fun cdv A outer s H vs Q E hr h => ?_)
  · obtain ⟨a, ns, k, rfl, _⟩ := h
    rfl
  · obtain ⟨a, ns, k, rfl, hS, hn, hk0, hk1, kk⟩ := h
    have fin : ∀ a0 cell : Int, 0 ≤ a0 → ∀ p, H p = none → Q (.ref p) (upd H p (.lst [.int a0, .int (cell % 2147483647 + 31 * k), .int 0])) := fun a0 cell hc p hp => by
      refine kk p _ _ (Rd.Same.upd hp) hp upd_same ⟨_, _, _, rfl, hc, ?_, ?_, by omega, by omega⟩
      · have := Int.emod_nonneg cell (show (2147483647 : Int) ≠ 0 by decide)
        omega
      · have := Int.emod_lt_of_pos cell (show (0 : Int) < 2147483647 by decide)
        omega
    refine ⟨_, (pss_cons (ps_set (i := 2) sc__law_stream.nd rfl (Or.inl rfl) (pe_ifExp (pt_cmpR op_lt (pv 1) (pe_callB call_len_seq (by rfl) T.z_len (by decide +kernel) (pa_cons (pv 0) pa_nil)) (nomark _)) (pe_callB call_abs (by rfl) T.z_abs (by decide +kernel) (pa_cons (pe_ix ix_list (pv 0) (pv 1) (fun _ _ => rfl)) pa_nil)) pe_int))
  (pss_one (ps_ret (pe_lst (pa_cons (pe_ifExp (pt_cmpR op_ge (pv 2) (pe_op op_pow pe_int pe_int) (nomark _)) (pv 2) pe_int) (pa_cons (pe_op op_add (pe_op op_mod (pe_callTy call_int1 (by rfl) T.z_int (by decide +kernel) (pa_cons (pv 2) pa_nil)) pe_int) (pe_op op_mul pe_int (pv 1))) (pa_cons pe_int pa_nil))))))), ?_⟩
    refine ⟨_, rfl, _, rfl, a, _, rfl, .inl hS, _, _, rfl, rfl, _, rfl, ite2 (fun h1 => ?_) (fun h1 => ?_)⟩
    · have hk : k.toNat < ns.length := by
        have := of_decide_eq_true h1
        rw [List.length_map] at this
        omega
      have ea : atI (ns.map V.int) k = some (V.int (ns[k.toNat]'hk)) := at_of (j := k.toNat) (by omega) (by rw [List.getElem?_map, List.getElem?_eq_getElem hk]; rfl)
      refine ⟨_, rfl, _, rfl, a, _, _, _, rfl, rfl, hS, ea, _, rfl, ?_⟩
      refine ⟨_, rfl, _, _, rfl, rfl, ⟨by decide, by decide, by decide⟩, _, _, rfl, rfl, _, rfl, ?_⟩
      refine ite2 (fun h2 => ?_) (fun h2 => ?_)
      · refine ⟨_, rfl, _, rfl, .inl ⟨_, rfl, _, _, rfl, rfl, (by show (0 : Int) < 2147483647; decide), _, rfl, _, _, rfl, rfl, .inl ⟨by decide, by decide⟩, _, _, rfl, rfl, (by show 3 ≤ sizeLine; decide), fun p hp => ?_⟩⟩
        exact fin _ _ (by split <;> omega) p hp
      · refine ⟨_, rfl, .inl ⟨_, rfl, _, _, rfl, rfl, (by show (0 : Int) < 2147483647; decide), _, rfl, _, _, rfl, rfl, .inl ⟨by decide, by decide⟩, _, _, rfl, rfl, (by show 3 ≤ sizeLine; decide), fun p hp => ?_⟩⟩
        exact fin _ _ (Int.le_refl 0) p hp
    · refine ⟨_, rfl, _, _, rfl, rfl, ⟨by decide, by decide, by decide⟩, _, _, rfl, rfl, _, rfl, ?_⟩
      refine ite2 (fun h2 => ?_) (fun h2 => ?_)
      · refine ⟨_, rfl, _, rfl, .inl ⟨_, rfl, _, _, rfl, rfl, (by show (0 : Int) < 2147483647; decide), _, rfl, _, _, rfl, rfl, .inl ⟨by decide, by decide⟩, _, _, rfl, rfl, (by show 3 ≤ sizeLine; decide), fun p hp => ?_⟩⟩
        exact fin _ _ (Int.le_refl 0) p hp
      · refine ⟨_, rfl, .inl ⟨_, rfl, _, _, rfl, rfl, (by show (0 : Int) < 2147483647; decide), _, rfl, _, _, rfl, rfl, .inl ⟨by decide, by decide⟩, _, _, rfl, rfl, (by show 3 ≤ sizeLine; decide), fun p hp => ?_⟩⟩
        exact fin _ _ (Int.le_refl 0) p hp
abbrev s__law_draw : Stmt := top 31
theorem sc__law_draw : FnScope ["_law_stream_here", "_law_many", "_law_digit", "_law_spread"] ["_law_stream_here", "_law_many"] (defScope s__law_draw) := ⟨rfl, rfl, rfl, by decide +kernel, rfl, by decide +kernel, by decide +kernel⟩
theorem ok__law_draw (T : Tx w K mg) : Fk P w K mg base CX0 1 "_law_draw" ["_law_stream_here", "_law_many"] sp_draw := by
  refine T.F__law_draw.ok0 sc__law_draw (fun _ _ _ _ _ _ us hl => match us, hl with | [_, _], _ => rfl)
    (fun vs H Q E h => ?_) (fun cdv A outer s H vs Q E hr h => ?_)
  · obtain ⟨p, xs, n, m, rfl, _⟩ := h
    rfl
  · obtain ⟨p, xs, n, m, rfl, hp, ⟨a, b, c, rfl, ha, hb0, hb1, hc0, hc1⟩, hm0, hm1, k⟩ := h
    refine ⟨_, (pss_cons (ps_if (pt_cmpR op_gt (pe_ix ix_list (pv 0) pe_int (fun _ _ => rfl)) pe_int (nomark _))
  (pss_cons (ps_set (i := 2) sc__law_draw.nd rfl (Or.inl rfl) (pe_op op_mod (pe_callTy call_int1 (by rfl) T.z_int (by decide +kernel) (pa_cons (pe_ix ix_list (pv 0) pe_int (fun _ _ => rfl)) pa_nil)) (pv 1)))
  (pss_cons (ps_asg (pe_op op_fdiv (pe_ix ix_list (pv 0) pe_int (fun _ _ => rfl)) (pv 1)) (pg_sub (pv 0) pe_int set_list))
  (pss_one (ps_ret (pv 2)))))
  pss_nil)
  (pss_cons (ps_asg (pe_op op_add (pe_ix ix_list (pv 0) pe_int (fun _ _ => rfl)) pe_int) (pg_sub (pv 0) pe_int set_list))
  (pss_cons (ps_set (i := 3) sc__law_draw.nd rfl (Or.inl rfl) (pe_op op_mod (pe_op op_pow (pe_callTy call_int1 (by rfl) T.z_int (by decide +kernel) (pa_cons (pe_op op_add (pe_op op_add (pe_ix ix_list (pv 0) pe_int (fun _ _ => rfl)) (pe_op op_mul pe_int (pe_ix ix_list (pv 0) pe_int (fun _ _ => rfl)))) pe_int) pa_nil)) pe_int) pe_int))
  (pss_one (ps_ret (pe_op op_mod (pe_op op_fdiv (pe_op op_mod (pe_callTy call_int1 (by rfl) T.z_int (by decide +kernel) (pa_cons (pe_op op_mul (pe_op op_add (pv 3) (pe_ix ix_list (pv 0) pe_int (fun _ _ => rfl))) pe_int) pa_nil)) pe_int) pe_int) (pv 1))))))), ?_⟩
    refine ⟨_, rfl, p, _, _, _, rfl, rfl, SqL.of hp, at_of (j := 0) rfl rfl, _, _, rfl, rfl, _, rfl, ?_⟩
    refine ite2 (fun h1 => ?_) (fun h1 => ?_)
    · refine ⟨_, rfl, p, _, _, _, rfl, rfl, SqL.of hp, at_of (j := 0) rfl rfl, .inl ⟨_, rfl, _, rfl, _, _, rfl, rfl, hm0, ?_⟩⟩
      refine ⟨_, rfl, p, _, _, _, rfl, rfl, SqL.of hp, at_of (j := 0) rfl rfl, _, rfl, _, _, rfl, rfl, ⟨hm0, hm1⟩, ?_⟩
      refine ⟨_, rfl, p, _, _, 0, rfl, rfl, hp, rfl, _, rfl, ?_⟩
      refine k _ _ (Int.emod_nonneg _ (by omega)) (Int.emod_lt_of_pos _ hm0) ⟨_, _, _, rfl, ?_, hb0, hb1, hc0, by omega⟩
      exact Int.ediv_nonneg ha (by omega)
    · refine ⟨_, rfl, p, _, _, _, rfl, rfl, SqL.of hp, at_of (j := 2) rfl rfl, _, _, rfl, rfl, _, rfl, p, _, _, 2, rfl, rfl, hp, rfl, ?_⟩
      have hp2 : upd H p (.lst [.int a, .int b, .int (c + 1)]) p = some (.lst [.int a, .int b, .int (c + 1)]) := upd_same
      refine ⟨_, rfl, p, _, _, _, rfl, rfl, SqL.of hp2, at_of (j := 1) rfl rfl, _, rfl, p, _, _, _, rfl, rfl, SqL.of hp2, at_of (j := 2) rfl rfl, _, _, rfl, rfl, .inl ⟨by decide, by decide⟩, _, _, rfl, rfl, _, _, rfl, rfl, .inl ⟨_, rfl, _, _, rfl, rfl, ⟨by decide, by decide, ?_⟩, _, _, rfl, rfl, (by show (0 : Int) < 2147483647; decide), ?_⟩⟩
      · show (b + 7919 * (c + 1) + 104729).natAbs < 18446744073709551616
        omega
      · have s0 : 0 ≤ (b + 7919 * (c + 1) + 104729) ^ Int.toNat 5 % 2147483647 := Int.emod_nonneg _ (by decide)
        have s1 : (b + 7919 * (c + 1) + 104729) ^ Int.toNat 5 % 2147483647 < 2147483647 := Int.emod_lt_of_pos _ (by decide)
        refine ⟨_, rfl, _, rfl, p, _, _, _, rfl, rfl, SqL.of hp2, at_of (j := 2) rfl rfl, _, _, rfl, rfl, _, _, rfl, rfl, .inl ⟨?_, ?_⟩, .inl ⟨_, rfl, _, _, rfl, rfl, (by show (0 : Int) < 2147483629; decide), _, _, rfl, rfl, ⟨by decide, by decide⟩, _, rfl, _, _, rfl, rfl, hm0, ?_⟩⟩
        · show -(18446744073709551616 : Int) < (b + 7919 * (c + 1) + 104729) ^ Int.toNat 5 % 2147483647 + (c + 1)
          generalize (b + 7919 * (c + 1) + 104729) ^ Int.toNat 5 % 2147483647 = sp at s0 s1 ⊢
          omega
        · show (b + 7919 * (c + 1) + 104729) ^ Int.toNat 5 % 2147483647 + (c + 1) < (18446744073709551616 : Int)
          generalize (b + 7919 * (c + 1) + 104729) ^ Int.toNat 5 % 2147483647 = sp at s0 s1 ⊢
          omega
        · exact k _ _ (Int.emod_nonneg _ (by omega)) (Int.emod_lt_of_pos _ hm0) ⟨_, _, _, rfl, ha, hb0, hb1, by omega, by omega⟩
abbrev s__law_pick : Stmt := top 32
theorem sc__law_pick : FnScope ["_law_stream_here", "_law_things"] ["_law_stream_here", "_law_things"] (defScope s__law_pick) := ⟨rfl, rfl, rfl, by decide +kernel, rfl, by decide +kernel, by decide +kernel⟩
theorem ok__law_pick (T : Tx w K mg) : Fk P w K mg base CX0 2 "_law_pick" ["_law_stream_here", "_law_things"] (sp_pick K) := by
  refine T.F__law_pick.ok0 sc__law_pick (fun _ _ _ _ _ _ us hl => match us, hl with | [_, _], _ => rfl)
    (fun vs H Q E h => ?_) (fun cdv A outer s H vs Q E hr h => ?_)
  · obtain ⟨p, a, xs, us, n, rfl, _⟩ := h
    rfl
  · obtain ⟨p, a, xs, us, n, rfl, hp, hx, hS, hS2, hu0, hu1, k⟩ := h
    refine ⟨_, (pss_one (ps_ret (pe_ix ix_list (pv 1) (pe_fk (ok__law_draw T) (hr.mono (by omega)) rfl pass0 (pa_cons (pv 0) (pa_cons (pe_callB call_len_seq (by rfl) T.z_len (by decide +kernel) (pa_cons (pv 1) pa_nil)) pa_nil))) (fun _ _ => rfl)))), ?_⟩
    refine ⟨_, rfl, _, rfl, _, rfl, a, us, rfl, .inl hS, p, xs, n, _, rfl, hp, hx, by omega, by omega, fun d ys hd0 hd1 hy => ?_⟩
    have hj : d.toNat < us.length := by omega
    have hS3 : SqL K (upd H p (.lst ys)) a us := by
      by_cases e : a = p
      · subst e
        rcases hS2 with (h | ⟨o, h⟩) | h
        · rw [upd_same] at h
          cases h
          exact absurd hu0 (by decide)
        · rw [upd_same] at h
          cases h
        · exact .inr h
      · rcases hS2 with (h | ⟨o, h⟩) | h
        · rw [upd_ne e] at h
          exact .inl (.inl (by rw [upd_ne e]; exact h))
        · rw [upd_ne e] at h
          exact .inl (.inr ⟨o, by rw [upd_ne e]; exact h⟩)
        · exact .inr h
    exact ⟨a, us, _, _, rfl, rfl, hS3, at_of (j := d.toNat) (by omega) (List.getElem?_eq_getElem hj), k _ _ ys (List.getElem?_eq_getElem hj) hy⟩
end
end Rd
namespace Rd
open PySem L2
/-- all but p stays -/
def But (p : Addr) (H H' : Hp) : Prop := ∀ b o, b ≠ p → H b = some o → H' b = some o
theorem But.refl {p : Addr} {H : Hp} : But p H H := fun _ _ _ e => e
theorem But.trans {p : Addr} {H H1 H2 : Hp} (a : But p H H1) (b : But p H1 H2) : But p H H2 := fun c o hc h => b c o hc (a c o hc h)
theorem But.of_same {p : Addr} {H H' : Hp} (s : Same H H') : But p H H' := fun b o _ e => s b o e
theorem But.upd {p : Addr} {H : Hp} {o : HO} : But p H (L2.upd H p o) := fun b u hb e => by rw [upd_ne hb]; exact e
theorem But.new {p q : Addr} {H : Hp} {o : HO} (h : H q = none) : But p H (L2.upd H q o) := fun b u hb e => by rw [upd_ne (ne_of_none e h)]; exact e
theorem But.free {p q : Addr} {H H' : Hp} {xs : List V} (s : But p H H') (hp : H' p = some (.lst xs)) (h : H' q = none) : H q = none := by
  cases e : H q with
  | none => rfl
  | some o =>
    have hq : q ≠ p := fun z => by rw [z, hp] at h; cases h
    rw [s q o hq e] at h
    cases h
def imm (C : Addr) : HO → Bool
  | .tup _ => true
  | .ins C' _ _ => C' == C
  | _ => false
/-- tuples and instances of C stay -/
def Kp (C : Addr) (H H' : Hp) : Prop := ∀ b o, imm C o = true → H b = some o → H' b = some o
theorem Kp.refl {C : Addr} {H : Hp} : Kp C H H := fun _ _ _ e => e
theorem Kp.trans {C : Addr} {H H1 H2 : Hp} (a : Kp C H H1) (b : Kp C H1 H2) : Kp C H H2 := fun c o hc h => b c o hc (a c o hc h)
theorem Kp.of_same {C : Addr} {H H' : Hp} (s : Same H H') : Kp C H H' := fun b o _ e => s b o e
theorem But.kp {C p : Addr} {H H' : Hp} {xs : List V} (s : But p H H') (hp : H p = some (.lst xs)) : Kp C H H' := fun b o hi e => s b o (fun z => by
  rw [z, hp] at e
  cases e
  cases hi) e
theorem Kp.upd_lst {C D : Addr} {H : Hp} {xs ys : List V} (h : H D = some (.lst xs)) : Kp C H (L2.upd H D (.lst ys)) := fun b o hi e => by
  have hb : b ≠ D := fun z => by
    rw [z, h] at e
    cases e
    cases hi
  rw [upd_ne hb]
  exact e
/-- [.. for _ in range(..)] with draws -/
theorem lcr_draw {C p D : Addr} {σ : St} {i0 m r n : Nat} {lo : Int} {te : TE} {H1 : Hp} {xs0 : List V} {Qd : Hp → Prop} (good : Hp → V → Prop) (gm : ∀ H H' v, Kp C H H' → good H v → good H' v)
    (hp : H1 p = some (.lst xs0)) (hx : StL (n + r * m) xs0) (hD : H1 D = none) (hm : m ≤ 100000)
    (hte : ∀ (i : Nat) (H : Hp) (xs : List V) (n' : Nat) (Q : VK), i < m → But p H1 H → H p = some (.lst xs) → StL (n' + r) xs → (∀ v H' ys, But p H H' → H' p = some (.lst ys) → StL n' ys → good H' v → Q v H') → te ((wipe σ [i0]).set i0 (some (.int (lo + i)))) H Q)
    (hq : ∀ vs H' ys, But p H1 H' → H' p = some (.lst ys) → StL n ys → H' D = some (.lst vs) → vs.length = m → (∀ v ∈ vs, good H' v) → Qd H') :
    ∃ W : Nat → Nat → Hp → Prop, (∃ k, W 0 k (L2.upd H1 D (.lst []))) ∧ ∀ i k H, W i k H →
      ((Itr lo m).stop i H ∧ Qd H) ∨ ((Itr lo m).go i H ∧ ∃ Nx : Hp → Prop, (∀ H', Nx H' → ∃ k', k' < k ∧ W (i + 1) k' H') ∧ ∀ x H', (Itr lo m).yld i H x H' → gName i0 x (wipe σ [i0]) H' fun σ2 H2 => wipe σ2 [i0] = wipe σ [i0] ∧ tYes σ2 H2 fun b H3 =>
        if b = true then te σ2 H3 fun y H4 => ∃ acc, H4 D = some (.lst acc) ∧ acc.length < sizeLine ∧ Nx (L2.upd H4 D (.lst (acc ++ [y]))) else Nx H3) := by
  have nDp : D ≠ p := fun z => by rw [z, hp] at hD; cases hD
  refine lc_range (fun i H => ∃ vs ys, But p H1 H ∧ H p = some (.lst ys) ∧ StL (n + r * (m - i)) ys ∧ H D = some (.lst vs) ∧ vs.length = i ∧ (∀ v ∈ vs, good H v)) ?_ ?_ ?_
  · refine ⟨[], xs0, But.new hD, by rw [upd_ne (Ne.symm nDp)]; exact hp, hx, upd_same, rfl, fun v hv => by cases hv⟩
  · rintro i H hi ⟨vs, ys, b, hpy, hy, hDv, hl, hg⟩
    have hr : n + r * (m - i) = (n + r * (m - (i + 1))) + r := by
      rw [show m - i = (m - (i + 1)) + 1 by omega, Nat.mul_succ, Nat.add_assoc]
    rw [hr] at hy
    refine ⟨by simp [wipe], hte i H ys _ _ hi b hpy hy fun v H' zs b' hpz hz hv => ⟨vs, b' D _ nDp hDv, ?_, ?_⟩⟩
    · have : 100000 < sizeLine := by decide
      omega
    · have hDv' := b' D _ nDp hDv
      refine ⟨vs ++ [v], zs, fun c o hc e => ?_, by rw [upd_ne (Ne.symm nDp)]; exact hpz, hz, upd_same, by rw [List.length_append, hl]; rfl, fun v' hv' => ?_⟩
      · rw [upd_ne (ne_of_none e hD)]
        exact b' c o hc (b c o hc e)
      · rcases List.mem_append.mp hv' with q | q
        · exact gm _ _ _ ((b'.kp hpy).trans (Kp.upd_lst hDv')) (hg v' q)
        · rw [List.mem_singleton.mp q]
          exact gm _ _ _ (Kp.upd_lst hDv') hv
  · rintro H ⟨vs, ys, b, hpy, hy, hDv, hl, hg⟩
    exact hq vs H ys b hpy (by simpa using hy) hDv hl hg
/-- a table of ints at a drawn place -/
theorem atI_of {us : List V} {d : Int} {m : Nat} (h0 : 0 ≤ d) (h1 : d < m) (hm : m = us.length) : ∃ (j : Nat) (v : V), us[j]? = some v ∧ atI us d = some v := by
  have hj : d.toNat < us.length := by omega
  exact ⟨d.toNat, us[d.toNat], List.getElem?_eq_getElem hj, at_of (j := d.toNat) (by omega) (List.getElem?_eq_getElem hj)⟩
theorem atT_of {z : Str} {d : Int} {m : Nat} (h0 : 0 ≤ d) (h1 : d < m) (hm : m = z.cps.toList.length) : ∃ (c : Nat), c ∈ z.cps.toList ∧ atI z.cps.toList d = some c := by
  have hj : d.toNat < z.cps.toList.length := by omega
  refine ⟨z.cps.toList[d.toNat], List.getElem_mem hj, ?_⟩
  have e : d = ((d.toNat : Nat) : Int) := by omega
  have e2 := atI_nat (xs := z.cps.toList) (j := d.toNat) (List.getElem?_eq_getElem hj)
  rw [← e] at e2
  exact e2
/-- signs as Python has them -/
def okS (z : Str) : Prop := ∀ c ∈ z.cps.toList, c < 1114112
theorem okS_by {z : Str} (h : z.cps.toList.all (fun c => decide (c < 1114112)) = true) : okS z := fun c hc => of_decide_eq_true (List.all_eq_true.mp h c hc)
theorem okS_app {a b : Str} (ha : okS a) (hb : okS b) : okS (a ++ b) := fun c hc => by
  have e : (a ++ b).cps.toList = a.cps.toList ++ b.cps.toList := by
    show (a.cps ++ b.cps).toList = _
    rw [Array.toList_append]
  rw [e] at hc
  exact (List.mem_append.mp hc).elim (ha c) (hb c)
theorem strOk_of {z : Str} (h : okS z) : PySem.PyData.strOk z = true := by
  show z.cps.all (fun c => decide (c < 0x110000)) = true
  rw [Array.all_eq_true']
  intro c hc
  exact decide_eq_true (h c (Array.mem_toList_iff.mpr hc))
/-- a text of these codes -/
def ofC (cs : List Nat) : Str := ⟨cs.toArray⟩
theorem ofC_list (cs : List Nat) : (ofC cs).cps.toList = cs := by show cs.toArray.toList = cs; rw [List.toList_toArray]
def sg1 (c : Nat) : V := .str ⟨#[c]⟩
theorem join_signs : ∀ (cs : List Nat), (Str.join "" (cs.map fun c => (⟨#[c]⟩ : Str))).cps.toList = cs
  | [] => by decide +kernel
  | [a] => rfl
  | a :: b :: r => by
    have e := join_signs (b :: r)
    have e0 : ("" : Str).cps.toList = [] := by decide +kernel
    show (((⟨#[a]⟩ : Str) ++ ("" : Str)) ++ Str.join "" ((b :: r).map fun c => (⟨#[c]⟩ : Str))).cps.toList = _
    rw [app_list, app_list, e, e0]
    rfl
theorem glue_signs (cs : List Nat) : Txt.join "" (cs.map fun c => (⟨#[c]⟩ : Str)) = ofC cs := by
  show Builtin.Str.glued "" _ = _
  rw [PySem.StrLaws.glued_eq_join]
  exact str_ext (by rw [join_signs, ofC_list])
/-- a text drawn: at most r draws, of which Pz holds -/
def sp_tx (r : Nat) (Pz : Str → Prop) : Sp := fun vs H Q _ => ∃ (p : Addr) (xs : List V) (n : Nat), vs = [.ref p] ∧ H p = some (.lst xs) ∧ StL (n + r) xs ∧
  ∀ z ys H', But p H H' → H' p = some (.lst ys) → StL n ys → Pz z → Q (.str z) H'
theorem cods_of {z : Str} : ∀ (vs : List V), (∀ v ∈ vs, ∃ c ∈ z.cps.toList, v = sg1 c) → ∃ cs : List Nat, vs = cs.map sg1 ∧ ∀ c ∈ cs, c ∈ z.cps.toList
  | [], _ => ⟨[], rfl, fun c hc => nomatch hc⟩
  | v :: r, h => by
    obtain ⟨c, hc, rfl⟩ := h v List.mem_cons_self
    obtain ⟨cs, rfl, h2⟩ := cods_of r fun v hv => h v (List.mem_cons_of_mem _ hv)
    exact ⟨c :: cs, rfl, fun c' hc' => (List.mem_cons.mp hc').elim (fun e => e ▸ hc) (h2 c')⟩
theorem sum_signs (cs : List Nat) : ((cs.map fun c => (⟨#[c]⟩ : Str)).map (·.length)).sum = cs.length := by
  induction cs with
  | nil => rfl
  | cons a r ih =>
    rw [List.map_cons, List.map_cons, List.sum_cons, ih, List.length_cons]
    show 1 + r.length = _
    omega
def smallV (lo l : Nat) : V → Bool
  | .int i => decide ((lo : Int) ≤ i) && decide (i ≤ l)
  | _ => false
theorem small_of {us : List V} {v : V} {lo l : Nat} (h : v ∈ us) (ha : us.all (smallV lo l) = true) : ∃ m : Nat, v = V.int m ∧ lo ≤ m ∧ m ≤ l := by
  have h1 := List.all_eq_true.mp ha v h
  cases v with
  | int i =>
    obtain ⟨h2, h3⟩ := He.ba (show (decide ((lo : Int) ≤ i) && decide (i ≤ l)) = true from h1)
    have h4 := of_decide_eq_true h2
    have h5 := of_decide_eq_true h3
    exact ⟨i.toNat, by rw [Int.toNat_of_nonneg (by omega)], by omega, by omega⟩
  | _ => cases h1
/-- [..][draw] : an item of a written list at a drawn place -/
theorem rd_tab {K : PySem.W.Frag} {us : List V} {t : TA} {σ : St} {i m n : Nat} {p : Addr} {xs : List V} {H : Hp} {Q : VK} (ht : ∀ (H : Hp) (Q' : List V → Hp → Prop), Q' us H → t σ H Q') (hi : σ[i]? = some (some (.ref p))) (hp : H p = some (.lst xs)) (hx : StL (n + 1) xs)
    (hm : us.length = m) (h0 : 0 < m) (hb : m ≤ 1000) (k : ∀ v H' ys, v ∈ us → But p H H' → H' p = some (.lst ys) → StL n ys → Q v H') : tOp (rIxL K) (tLst t) (tCall sp_draw [] E0 (tCons (tVar i) (tCons (tC (V.int m)) tNil))) σ H Q := by
  have hl : 1000 ≤ sizeLine := by decide
  refine ht _ _ ⟨by omega, fun q hq => ⟨_, hi, p, xs, n, (m : Int), rfl, ?_, hx, by omega, by omega, fun d ys hd0 hd1 hy => ?_⟩⟩
  · rw [upd_ne (ne_of_none hp hq)]
    exact hp
  · obtain ⟨j, v, hv, ha⟩ := atI_of (us := us) (m := m) hd0 hd1 hm.symm
    refine ⟨q, us, d, v, rfl, rfl, SqL.of ?_, ha, k v _ ys (List.mem_of_getElem? hv) ((But.new hq).trans But.upd) upd_same hy⟩
    rw [upd_ne (Ne.symm (ne_of_none hp hq)), upd_same]
/-- draw(many) -/
theorem rd_draw {σ : St} {i m n : Nat} {p : Addr} {xs : List V} {H : Hp} {Q : VK} (hi : σ[i]? = some (some (.ref p))) (hp : H p = some (.lst xs)) (hx : StL (n + 1) xs) (h0 : 0 < m) (hb : m ≤ 1000)
    (k : ∀ (d : Nat) H' ys, d < m → But p H H' → H' p = some (.lst ys) → StL n ys → Q (.int d) H') : tCall sp_draw [] E0 (tCons (tVar i) (tCons (tC (V.int m)) tNil)) σ H Q := by
  refine ⟨_, hi, p, xs, n, (m : Int), rfl, hp, hx, by omega, by omega, fun d ys hd0 hd1 hy => ?_⟩
  obtain ⟨e, rfl⟩ := Int.eq_ofNat_of_zero_le hd0
  exact k e _ ys (by omega) But.upd upd_same hy
theorem rd_sign {σ : St} {i m n : Nat} {z : Str} {p : Addr} {xs : List V} {H : Hp} {Q : VK} (hi : σ[i]? = some (some (.ref p))) (hp : H p = some (.lst xs)) (hx : StL (n + 1) xs) (hm : z.cps.toList.length = m) (h0 : 0 < m) (hb : m ≤ 1000)
    (k : ∀ (c : Nat) H' ys, c ∈ z.cps.toList → But p H H' → H' p = some (.lst ys) → StL n ys → Q (.str ⟨#[c]⟩) H') : tOp rIxS (tC (.str z)) (tCall sp_draw [] E0 (tCons (tVar i) (tCons (tC (V.int m)) tNil))) σ H Q := by
  refine rd_draw hi hp hx h0 hb fun d H' ys hd b hp' hy => ?_
  obtain ⟨c, hc, ha⟩ := atT_of (z := z) (d := (d : Int)) (m := m) (by omega) (by omega) hm.symm
  have hl : 1000 ≤ sizeLine := by decide
  have hz : z.length = m := by rw [← hm, Array.length_toList]; rfl
  exact ⟨z, _, c, rfl, rfl, by omega, ha, k c H' ys hc b hp' hy⟩
/-- ['..'[draw(M)] for _ in range(m)] -/
theorem rd_signs {σ : St} {i i0 m M n : Nat} {lo : Int} {z : Str} {p D : Addr} {xs : List V} {H1 : Hp} {Qd : Hp → Prop} (hi : ∀ x, ((wipe σ [i0]).set i0 (some x))[i]? = some (some (.ref p))) (hp : H1 p = some (.lst xs)) (hx : StL (n + m) xs) (hD : H1 D = none) (hm : m ≤ 1000)
    (hM : z.cps.toList.length = M) (h0 : 0 < M) (hb : M ≤ 1000)
    (k : ∀ (cs : List Nat) H' ys, But p H1 H' → H' p = some (.lst ys) → StL n ys → H' D = some (.lst (cs.map sg1)) → cs.length = m → (∀ c ∈ cs, c ∈ z.cps.toList) → Qd H') :
    ∃ W : Nat → Nat → Hp → Prop, (∃ k, W 0 k (L2.upd H1 D (.lst []))) ∧ ∀ j k H, W j k H →
      ((Itr lo m).stop j H ∧ Qd H) ∨ ((Itr lo m).go j H ∧ ∃ Nx : Hp → Prop, (∀ H', Nx H' → ∃ k', k' < k ∧ W (j + 1) k' H') ∧ ∀ x H', (Itr lo m).yld j H x H' → gName i0 x (wipe σ [i0]) H' fun σ2 H2 => wipe σ2 [i0] = wipe σ [i0] ∧ tYes σ2 H2 fun b H3 =>
        if b = true then (tOp rIxS (tC (.str z)) (tCall sp_draw [] E0 (tCons (tVar i) (tCons (tC (V.int M)) tNil)))) σ2 H3 fun y H4 => ∃ acc, H4 D = some (.lst acc) ∧ acc.length < sizeLine ∧ Nx (L2.upd H4 D (.lst (acc ++ [y]))) else Nx H3) := by
  refine lcr_draw (C := 0) (r := 1) (n := n) (fun _ v => ∃ c ∈ z.cps.toList, v = sg1 c) (fun _ _ _ _ h => h) hp (by rw [Nat.one_mul]; exact hx) hD (by omega) (fun j H2 zs n' Q2 hj b hz hsz kq => ?_) (fun vs H2 zs b hz hsz hDv hl hg => ?_)
  · exact rd_sign (hi _) hz hsz hM h0 hb fun c H' ys hc b' hp' hy => kq _ _ ys b' hp' hy ⟨c, hc, rfl⟩
  · obtain ⟨cs, rfl, ho⟩ := cods_of vs hg
    rw [List.length_map] at hl
    exact k cs H2 zs b hz hsz hDv hl ho
theorem allIn {s : Str} {cs : List Nat} (h : ∀ c ∈ cs, c ∈ s.cps.toList) : cs.all (inS s) = true := List.all_eq_true.mpr fun c hc => decide_eq_true (h c hc)
theorem word_of {cs : List Nat} (h1 : 1 ≤ cs.length) (h8 : cs.length ≤ 8) (h : ∀ c ∈ cs, c ∈ SMALL.cps.toList) : isWord (ofC cs) = true := by
  have e : (ofC cs).length = cs.length := by rw [len_list, ofC_list]
  rw [isWord, e, ofC_list, allIn h, decide_eq_true h1, decide_eq_true h8]
  rfl
theorem name_of {as ds : List Nat} (h1 : 1 ≤ as.length) (h8 : as.length + ds.length ≤ 8) (ha : ∀ c ∈ as, c ∈ GREAT.cps.toList) (hd : ∀ c ∈ ds, c ∈ DIGITS.cps.toList) : isName (ofC (as ++ ds)) = true := by
  have e : (ofC (as ++ ds)).length = as.length + ds.length := by rw [len_list, ofC_list, List.length_append]
  have fA : as.filter (inS GREAT) = as := List.filter_eq_self.mpr fun c hc => decide_eq_true (ha c hc)
  have fB : ds.filter (inS GREAT) = [] := List.filter_eq_nil_iff.mpr fun c hc q => by rw [disj2 (decide_eq_true (hd c hc))] at q; cases q
  have key := (name_iff (as ++ ds)).mpr (by
    rw [List.filter_append, fA, fB, List.append_nil, List.take_append_of_le_length (Nat.le_refl _), List.take_length, List.drop_append_of_le_length (Nat.le_refl _), List.drop_length, List.nil_append]
    exact ⟨⟨h1, allIn ha⟩, allIn hd⟩)
  rw [isName, e, decide_eq_true h8, len_list, rstrip_list, ofC_list, key.2, decide_eq_true key.1]
  rfl
theorem word_noname {z : Str} (h : isName z = true) : isWord z = false := by
  cases e : isWord z with
  | false => rfl
  | true =>
    obtain ⟨h1, h2⟩ := He.ba h
    obtain ⟨h3, h4⟩ := He.ba h2
    have h1' := of_decide_eq_true h1
    rw [len_list, rstrip_list] at h1'
    rw [rstrip_list] at h4
    obtain ⟨⟨a1, a2⟩, a3⟩ := (name_iff z.cps.toList).mp ⟨h1', h4⟩
    obtain ⟨w1, w2⟩ := He.ba e
    obtain ⟨w3, w4⟩ := He.ba w2
    obtain ⟨c, hc⟩ := List.exists_mem_of_length_pos a1
    rw [List.mem_filter] at hc
    have s1 := List.all_eq_true.mp w4 c hc.1
    have dj : GREAT.cps.toList.all (fun c => !inS SMALL c) = true := by decide +kernel
    have s2 := List.all_eq_true.mp dj c (of_decide_eq_true hc.2)
    rw [s1] at s2
    cases s2
theorem word_len {z : Str} (h : isWord z = true) : 1 ≤ z.length ∧ z.length ≤ 8 ∧ okS z := by
  obtain ⟨h1, h2⟩ := He.ba h
  obtain ⟨h3, h4⟩ := He.ba h2
  have dj : SMALL.cps.toList.all (fun c => decide (c < 1114112)) = true := by decide +kernel
  exact ⟨of_decide_eq_true h1, of_decide_eq_true h3, fun c hc => of_decide_eq_true (List.all_eq_true.mp dj c (of_decide_eq_true (List.all_eq_true.mp h4 c hc)))⟩
theorem name_len {z : Str} (h : isName z = true) : z.length ≤ 8 ∧ okS z := by
  obtain ⟨h1, h2⟩ := He.ba h
  obtain ⟨h3, h4⟩ := He.ba h2
  have h1' := of_decide_eq_true h1
  rw [len_list, rstrip_list] at h1'
  rw [rstrip_list] at h4
  obtain ⟨⟨a1, a2⟩, a3⟩ := (name_iff z.cps.toList).mp ⟨h1', h4⟩
  have dj : GREAT.cps.toList.all (fun c => decide (c < 1114112)) = true := by decide +kernel
  have dk : DIGITS.cps.toList.all (fun c => decide (c < 1114112)) = true := by decide +kernel
  refine ⟨of_decide_eq_true h3, fun c hc => ?_⟩
  rw [← List.take_append_drop (z.cps.toList.filter (inS GREAT)).length z.cps.toList] at hc
  rcases List.mem_append.mp hc with q | q
  · exact of_decide_eq_true (List.all_eq_true.mp dj c (of_decide_eq_true (List.all_eq_true.mp a2 c q)))
  · exact of_decide_eq_true (List.all_eq_true.mp dk c (of_decide_eq_true (List.all_eq_true.mp a3 c q)))
section
variable {P : Program} {w : World} {K : PySem.W.Frag} {mg : Str → Option Value} {base : Heap}
abbrev s__law_word : Stmt := top 33
theorem sc__law_word : FnScope ["_law_stream_here", "_law_size", "_law_k"] ["_law_stream_here"] (defScope s__law_word) := ⟨rfl, rfl, rfl, by decide +kernel, rfl, by decide +kernel, by decide +kernel⟩
theorem ok__law_word (T : Tx w K mg) : Fk P w K mg base CX0 2 "_law_word" ["_law_stream_here"] (sp_tx 9 fun z => isWord z = true) := by
  refine T.F__law_word.ok0 sc__law_word (fun _ _ _ _ _ _ us hl => match us, hl with | [_], _ => rfl)
    (fun vs H Q E h => ?_) (fun cdv A outer s H vs Q E hr h => ?_)
  · obtain ⟨p, xs, n, rfl, _⟩ := h
    rfl
  · obtain ⟨p, xs, n, rfl, hp, hx, k⟩ := h
    refine ⟨_, (pss_cons (ps_set (i := 1) sc__law_word.nd rfl (Or.inl rfl) (pe_ix ix_list (pe_lst (pa_cons pe_int (pa_cons pe_int (pa_cons pe_int (pa_cons pe_int (pa_cons pe_int (pa_cons pe_int pa_nil))))))) (pe_fk (ok__law_draw T) (hr.mono (by omega)) rfl pass0 (pa_cons (pv 0) (pa_cons pe_int pa_nil))) (fun _ _ => rfl)))
  (pss_one (ps_ret (pe_join pe_str (pe_lc (own := [("_law_k", 2)]) (g := gName 2) (tt := tYes) (by rfl) sc__law_word.nd (pi_range1 rfl T.z_range (pa_cons (pv 1) pa_nil)) (blkOk_by (own := [("_law_k", 2)]) (N := ["_law_stream_here", "_law_size", "_law_k"]) (sc := defScope s__law_word) (by decide +kernel)) (fun _ _ _ _ _ => (pg_name (i := 2) sc__law_word.nd rfl (Or.inl rfl))) (fun _ _ _ _ _ => pts_nil) (fun _ _ _ _ _ => (pe_ix ix_str pe_str (pe_fk (ok__law_draw T) (hr.mono (by omega)) rfl pass0 (pa_cons (pv 0) (pa_cons pe_int pa_nil))) (fun _ _ => rfl)))))))), ?_⟩
    refine rd_tab (us := [.int 1, .int 1, .int 2, .int 3, .int 5, .int 8]) (m := 6) (n := n + 8) (by intro _ _ q; exact q) (by rfl) hp hx rfl (by decide) (by decide) fun v H1 ys hv b1 hp1 hy => ?_
    obtain ⟨m, rfl, hm1, hm⟩ : ∃ m : Nat, v = V.int m ∧ 1 ≤ m ∧ m ≤ 8 := small_of hv (by decide)
    refine ⟨⟨_, rfl⟩, _, rfl, (m : Int), rfl, by omega, by omega, fun D hD => ?_⟩
    refine rd_signs (n := n) (M := 26) (fun _ => by rfl) hp1 (hy.mono (by omega)) hD (by omega) rfl (by decide) (by decide) fun cs H2 zs b2 hp2 hz hDv hl hs => ?_
    refine ⟨_, D, cs.map fun c => (⟨#[c]⟩ : Str), rfl, rfl, .inl (SqL.of (by rw [hDv, List.map_map]; rfl)), ?_, k _ zs H2 (b1.trans b2) hp2 hz ?_⟩
    · rw [sum_signs, List.length_map]
      show cs.length + cs.length * 0 ≤ _
      omega
    · show isWord (Txt.join "" (cs.map fun c => (⟨#[c]⟩ : Str))) = true
      rw [glue_signs]
      exact word_of (by omega) (by omega) hs
abbrev s__law_name : Stmt := top 34
theorem sc__law_name : FnScope ["_law_stream_here", "_law_size", "_law_many", "_law_letters", "_law_k"] ["_law_stream_here"] (defScope s__law_name) := ⟨rfl, rfl, rfl, by decide +kernel, rfl, by decide +kernel, by decide +kernel⟩
theorem ok__law_name (T : Tx w K mg) : Fk P w K mg base CX0 2 "_law_name" ["_law_stream_here"] (sp_tx 20 fun z => isName z = true) := by
  refine T.F__law_name.ok0 sc__law_name (fun _ _ _ _ _ _ us hl => match us, hl with | [_], _ => rfl)
    (fun vs H Q E h => ?_) (fun cdv A outer s H vs Q E hr h => ?_)
  · obtain ⟨p, xs, n, rfl, _⟩ := h
    rfl
  · obtain ⟨p, xs, n, rfl, hp, hx, k⟩ := h
    refine ⟨_, (pss_cons (ps_set (i := 1) sc__law_name.nd rfl (Or.inl rfl) (pe_ix ix_list (pe_lst (pa_cons pe_int (pa_cons pe_int (pa_cons pe_int (pa_cons pe_int (pa_cons pe_int (pa_cons pe_int pa_nil))))))) (pe_fk (ok__law_draw T) (hr.mono (by omega)) rfl pass0 (pa_cons (pv 0) (pa_cons pe_int pa_nil))) (fun _ _ => rfl)))
  (pss_cons (ps_set (i := 2) sc__law_name.nd rfl (Or.inl rfl) (pe_ix ix_list (pe_lst (pa_cons pe_int (pa_cons pe_int (pa_cons pe_int (pa_cons pe_int (pa_cons pe_int pa_nil)))))) (pe_fk (ok__law_draw T) (hr.mono (by omega)) rfl pass0 (pa_cons (pv 0) (pa_cons pe_int pa_nil))) (fun _ _ => rfl)))
  (pss_cons (ps_setLc (i := 3) (own := [("_law_k", 4)]) (g := gName 4) (tt := tYes) (by rfl) sc__law_name.nd rfl rfl (sw_true rfl rfl rfl (by decide +kernel)) (pi_range1 rfl T.z_range (pa_cons (pe_callB (cr_max rfl) (by rfl) T.z_max (by decide +kernel) (pa_cons (pe_lst (pa_cons pe_int (pa_cons (pe_op op_sub (pv 1) (pv 2)) pa_nil))) pa_nil)) pa_nil)) (blkOk_by (own := [("_law_k", 4)]) (N := ["_law_stream_here", "_law_size", "_law_many", "_law_letters", "_law_k"]) (sc := defScope s__law_name) (by decide +kernel)) (fun _ _ _ _ _ => (pg_name (i := 4) sc__law_name.nd rfl (Or.inl rfl))) (fun _ _ _ _ _ => pts_nil) (fun _ _ _ _ _ => (pe_ix ix_str pe_str (pe_fk (ok__law_draw T) (hr.mono (by omega)) rfl pass0 (pa_cons (pv 0) (pa_cons pe_int pa_nil))) (fun _ _ => rfl))))
  (pss_one (ps_ret (pe_join pe_str (pe_op op_cat (pv 3) (pe_lc (own := [("_law_k", 4)]) (g := gName 4) (tt := tYes) (by rfl) sc__law_name.nd (pi_range1 rfl T.z_range (pa_cons (pe_op op_sub (pv 1) (pe_callB call_len_seq (by rfl) T.z_len (by decide +kernel) (pa_cons (pv 3) pa_nil))) pa_nil)) (blkOk_by (own := [("_law_k", 4)]) (N := ["_law_stream_here", "_law_size", "_law_many", "_law_letters", "_law_k"]) (sc := defScope s__law_name) (by decide +kernel)) (fun _ _ _ _ _ => (pg_name (i := 4) sc__law_name.nd rfl (Or.inl rfl))) (fun _ _ _ _ _ => pts_nil) (fun _ _ _ _ _ => (pe_ix ix_str pe_str (pe_fk (ok__law_draw T) (hr.mono (by omega)) rfl pass0 (pa_cons (pv 0) (pa_cons pe_int pa_nil))) (fun _ _ => rfl))))))))))), ?_⟩
    refine rd_tab (us := [.int 1, .int 1, .int 2, .int 3, .int 6, .int 8]) (m := 6) (n := n + 19) (by intro _ _ q; exact q) (by rfl) hp hx rfl (by decide) (by decide) fun v H1 ys hv b1 hp1 hy => ?_
    obtain ⟨m, rfl, hm1, hm⟩ : ∃ m : Nat, v = V.int m ∧ 1 ≤ m ∧ m ≤ 8 := small_of hv (by decide)
    refine gName_k ?_
    dsimp only
    refine seqAsg ?_
    refine rd_tab (us := [.int 0, .int 0, .int 0, .int 1, .int 2]) (m := 5) (n := n + 18) (by intro _ _ q; exact q) (by rfl) hp1 hy rfl (by decide) (by decide) fun v H2 zs hv b2 hp2 hz => ?_
    obtain ⟨l, rfl, _, hl⟩ : ∃ m : Nat, v = V.int m ∧ 0 ≤ m ∧ m ≤ 2 := small_of hv (by decide)
    refine ⟨_, rfl, _, rfl, _, _, rfl, rfl, (by show 2 ≤ sizeLine; decide), fun q hq => ?_⟩
    have nqp : p ≠ q := ne_of_none hp2 hq
    refine ⟨q, [1, (m : Int) - l], rfl, SqL.of upd_same, (by show 0 < 2; decide), fun u hu hle => ?_⟩
    obtain ⟨e, rfl, he1, he⟩ : ∃ e : Nat, u = (e : Int) ∧ 1 ≤ e ∧ e ≤ m := by
      have h1 := hle 1 List.mem_cons_self
      rcases List.mem_cons.mp hu with rfl | hu
      · exact ⟨1, rfl, by omega, by omega⟩
      · have h2 := List.mem_singleton.mp hu
        exact ⟨u.toNat, by omega, by omega, by omega⟩
    refine ⟨(e : Int), rfl, by omega, by omega, fun D hD => ?_⟩
    have hp3 : upd H2 q (.lst [.int 1, .int ((m : Int) - l)]) p = some (.lst zs) := by rw [upd_ne nqp]; exact hp2
    refine rd_signs (n := n + 8) (M := 26) (fun _ => by rfl) hp3 (hz.mono (by omega)) hD (by omega) rfl (by decide) (by decide) fun cs H4 ws b4 hp4 hw hDv hl4 hs => ?_
    have hlm : (cs.map sg1).length = e := by rw [List.length_map, hl4]; omega
    refine ⟨⟨_, rfl⟩, _, rfl, _, rfl, _, rfl, D, _, rfl, .inl (SqL.of hDv), _, _, rfl, rfl, _, rfl, by omega, by omega, fun D2 hD2 => ?_⟩
    refine rd_signs (n := n) (M := 10) (fun _ => by rfl) hp4 (hw.mono (by omega)) hD2 (by omega) rfl (by decide) (by decide) fun cs2 H5 vs5 b5 hp5 hv5 hDv2 hl5 hs2 => ?_
    have nDp : D ≠ p := fun z => by rw [z, hp3] at hD; cases hD
    have hDv5 : H5 D = some (.lst (cs.map sg1)) := b5 D _ nDp hDv
    have hl2 : (cs2.map sg1).length ≤ 8 := by rw [List.length_map, hl5]; omega
    refine ⟨D, D2, _, _, rfl, rfl, hDv5, hDv2, ?_, fun r hr5 => ?_⟩
    · have : 100 ≤ sizeLine := by decide
      omega
    · have hl6 : cs2.length = m - e := by rw [hl5]; omega
      rw [List.length_map] at hlm hl2
      refine ⟨_, r, (cs ++ cs2).map fun c => (⟨#[c]⟩ : Str), rfl, rfl, .inl (SqL.of (by rw [upd_same, List.map_map, List.map_append]; rfl)), ?_, k _ vs5 _ ?_ ?_ hv5 ?_⟩
      · rw [sum_signs, List.length_map, List.length_append]
        show cs.length + cs2.length + (cs.length + cs2.length) * 0 ≤ _
        omega
      · exact ((((b1.trans b2).trans (But.new hq)).trans b4).trans b5).trans (But.new hr5)
      · rw [upd_ne (ne_of_none hp5 hr5)]
        exact hp5
      · show isName (Txt.join "" ((cs ++ cs2).map fun c => (⟨#[c]⟩ : Str))) = true
        rw [glue_signs]
        exact name_of (by omega) (by omega) hs hs2
end
end Rd
namespace Rd
open PySem L2
/-! ### forms -/
inductive Tr where
  | am (k x : Str)
  | un (s : Str) (a : Tr)
  | bi (s : Str) (a b : Tr)
  deriving DecidableEq
def Tr.dep : Tr → Nat
  | .am _ _ => 0
  | .un _ a => a.dep + 1
  | .bi _ a b => max a.dep b.dep + 1
def Tr.nod : Tr → Nat
  | .am _ _ => 0
  | .un _ a => a.nod + 1
  | .bi _ a b => a.nod + b.nod + 1
/-- how large a drawn form is -/
def Tr.unkIn (us : List V) : Tr → Prop
  | .am k x => k = "unknown" → V.str x ∈ us
  | .un _ a => a.unkIn us
  | .bi _ a b => a.unkIn us ∧ b.unkIn us
def dpN (d : Nat) (us : List V) (t : Tr) : Prop := t.dep ≤ 2 * d ∧ t.nod + 2 ≤ 2 ^ (d + 1) ∧ t.unkIn us
theorem dpN.am {d : Nat} {us : List V} {k x : Str} (h : k = "unknown" → V.str x ∈ us) : dpN d us (.am k x) := by
  refine ⟨Nat.zero_le _, ?_, h⟩
  show 0 + 2 ≤ 2 ^ (d + 1)
  rw [Nat.pow_succ]
  have := Nat.pow_pos (n := d) (show 0 < 2 by decide)
  omega
theorem dpN.un {d : Nat} {us : List V} {s : Str} {a : Tr} (h : dpN d us a) : dpN (d + 1) us (.un s a) := by
  obtain ⟨h1, h2, h3⟩ := h
  have e : 2 ^ (d + 1 + 1) = 2 * 2 ^ (d + 1) := by rw [Nat.pow_succ]; omega
  refine ⟨?_, ?_, h3⟩
  · show a.dep + 1 ≤ 2 * (d + 1)
    omega
  · show a.nod + 1 + 2 ≤ 2 ^ (d + 1 + 1)
    omega
theorem dpN.bi {d : Nat} {us : List V} {s : Str} {a b : Tr} (h : dpN d us a) (g : dpN d us b) : dpN (d + 1) us (.bi s a b) := by
  obtain ⟨h1, h2, h3⟩ := h
  obtain ⟨g1, g2, g3⟩ := g
  have e : 2 ^ (d + 1 + 1) = 2 * 2 ^ (d + 1) := by rw [Nat.pow_succ]; omega
  refine ⟨?_, ?_, h3, g3⟩
  · show max a.dep b.dep + 1 ≤ 2 * (d + 1)
    omega
  · show a.nod + b.nod + 1 + 2 ≤ 2 ^ (d + 1 + 1)
    omega
theorem dpN.lk {d : Nat} {us : List V} {s s' : Str} {a b : Tr} (h : dpN d us a) (g : dpN d us b) : dpN (d + 1) us (.bi s a (.un s' b)) := by
  obtain ⟨h1, h2, h3⟩ := h
  obtain ⟨g1, g2, g3⟩ := g
  have e : 2 ^ (d + 1 + 1) = 2 * 2 ^ (d + 1) := by rw [Nat.pow_succ]; omega
  refine ⟨?_, ?_, h3, g3⟩
  · show max a.dep (b.dep + 1) + 1 ≤ 2 * (d + 1)
    omega
  · show a.nod + (b.nod + 1) + 1 + 2 ≤ 2 ^ (d + 1 + 1)
    omega
def kindOk (k x : Str) : Prop := (k = "word" ∧ isWord x = true) ∨ (k = "name" ∧ isName x = true) ∨ (k = "unknown" ∧ isUnk x = true)
inductive Wf : Tr → Prop
  | am {k x : Str} : kindOk k x → Wf (.am k x)
  | un {s : Str} {a : Tr} : s ∈ (["mark", "open", "own"] : List Str) → Wf a → Wf (.un s a)
  | bi {s : Str} {a b : Tr} : s ∈ (["pair", "seal"] : List Str) → Wf a → Wf b → Wf (.bi s a b)
  | lk {s : Str} {a b : Tr} : s ∈ (["open", "own"] : List Str) → Wf a → Wf b → Wf (.bi "lock" a (.un s b))
def IsT (H : Hp) : Tr → V → Prop
  | .am k x, v => ∃ p, v = .ref p ∧ H p = some (.tup [.str k, .str x])
  | .un s a, v => ∃ p u, v = .ref p ∧ H p = some (.tup [.str s, u]) ∧ IsT H a u
  | .bi s a b, v => ∃ p u1 u2, v = .ref p ∧ H p = some (.tup [.str s, u1, u2]) ∧ IsT H a u1 ∧ IsT H b u2
theorem IsT.mono {C : Addr} {H H' : Hp} (k : Kp C H H') : ∀ {t : Tr} {v : V}, IsT H t v → IsT H' t v
  | .am _ _, _, ⟨p, e, h⟩ => ⟨p, e, k p _ rfl h⟩
  | .un _ _, _, ⟨p, u, e, h, h1⟩ => ⟨p, u, e, k p _ rfl h, IsT.mono k h1⟩
  | .bi _ _ _, _, ⟨p, u1, u2, e, h, h1, h2⟩ => ⟨p, u1, u2, e, k p _ rfl h, IsT.mono k h1, IsT.mono k h2⟩
theorem IsT.same {H H' : Hp} {t : Tr} {v : V} (s : Same H H') (h : IsT H t v) : IsT H' t v := h.mono (C := 0) (Kp.of_same s)
theorem IsT.but {p : Addr} {H H' : Hp} {xs : List V} {t : Tr} {v : V} (s : But p H H') (hp : H p = some (.lst xs)) (h : IsT H t v) : IsT H' t v := h.mono (C := 0) (s.kp hp)
theorem IsT.ref {H : Hp} {t : Tr} {v : V} (h : IsT H t v) : ∃ p, v = .ref p := by
  cases t with
  | am k x => obtain ⟨p, e, _⟩ := h; exact ⟨p, e⟩
  | un s a => obtain ⟨p, u, e, _⟩ := h; exact ⟨p, e⟩
  | bi s a b => obtain ⟨p, u, u2, e, _⟩ := h; exact ⟨p, e⟩
/-- a form drawn -/
def unkL (us : List V) : Prop := us.length ≤ 100 ∧ ∀ v ∈ us, ∃ z : Str, v = .str z ∧ isUnk z = true
theorem unk_len {z : Str} (h : isUnk z = true) : z.length ≤ 7 ∧ 1 ≤ z.length ∧ okS z := by
  obtain ⟨h1, h2⟩ := He.ba h
  obtain ⟨a, b, c⟩ := word_len h1
  exact ⟨of_decide_eq_true h2, a, c⟩
def unkB : V → Bool
  | .str z => isUnk z
  | _ => false
theorem unkL_by {us : List V} (hl : us.length ≤ 100) (h : us.all unkB = true) : unkL us := ⟨hl, fun v hv => by
  have h1 := List.all_eq_true.mp h v hv
  cases v with
  | str z => exact ⟨z, rfl, h1⟩
  | _ => cases h1⟩
theorem dpL {K : PySem.W.Frag} {H : Hp} : ∀ (us : List V), (∀ v ∈ us, ∃ z : Str, v = .str z ∧ isUnk z = true) → ∃ ds : List PyData, DpAll K H us ds ∧ ds.length = us.length ∧ PySem.PyData.canLayAll0 ds = true ∧ PySem.PyData.depthAll ds = 0
  | [], _ => ⟨[], .nil, rfl, rfl, rfl⟩
  | v :: r, h => by
    obtain ⟨z, rfl, hz⟩ := h v List.mem_cons_self
    obtain ⟨ds, h1, h2, h3, h4⟩ := dpL (K := K) (H := H) r fun v hv => h v (List.mem_cons_of_mem _ hv)
    refine ⟨.str z :: ds, .cons (.str z) h1, by rw [List.length_cons, h2]; rfl, ?_, ?_⟩
    · show (PySem.PyData.strOk z && PySem.PyData.canLayAll0 ds) = true
      rw [strOk_of (unk_len hz).2.2, h3]
      rfl
    · show max 0 (PySem.PyData.depthAll ds) = 0
      rw [h4]
      rfl
def sp_atom : Sp := fun vs H Q _ => ∃ (p u : Addr) (xs us : List V) (n : Nat), vs = [.ref p, .ref u] ∧ H p = some (.lst xs) ∧ StL (n + 30) xs ∧ u ≠ p ∧ H u = some (.lst us) ∧ unkL us ∧
  ∀ k x v ys H', But p H H' → H' p = some (.lst ys) → StL n ys → kindOk k x → (k = "unknown" → V.str x ∈ us) → IsT H' (.am k x) v → Q v H'
def dr (d : Nat) : Nat := 40 * 3 ^ d
def sp_drawnForm (d : Nat) : Sp := fun vs H Q _ => ∃ (p u : Addr) (xs us : List V) (n : Nat), vs = [.ref p, .ref u, .int d] ∧ H p = some (.lst xs) ∧ StL (n + dr d) xs ∧ u ≠ p ∧ H u = some (.lst us) ∧ unkL us ∧
  ∀ t v ys H', But p H H' → H' p = some (.lst ys) → StL n ys → Wf t → dpN d us t → IsT H' t v → Q v H'
/-- the promise at recursive calls of a form at most d deep -/
def spR : Nat → Sp
  | 0 => fun _ _ _ _ => False
  | d + 1 => sp_drawnForm d
/-- pick(stream, [..]) -/
theorem rd_pick {K : PySem.W.Frag} {p a : Addr} {xs us : List V} {n : Nat} {H : Hp} {Q : VK} (hp : H p = some (.lst xs)) (hx : StL (n + 1) xs) (ha : H a = some (.lst us)) (ne : a ≠ p) (h0 : 0 < us.length) (h1 : us.length ≤ 1000)
    (k : ∀ v H' ys, v ∈ us → But p H H' → H' p = some (.lst ys) → StL n ys → Q v H') : sp_pick K [.ref p, .ref a] H Q E0 :=
  ⟨p, a, xs, us, n, rfl, hp, hx, SqL.of ha, SqL.of (by rw [upd_ne ne]; exact ha), h0, by omega, fun j v ys hv hy => k v _ ys (List.mem_of_getElem? hv) But.upd upd_same hy⟩
def strIn (l : List Str) : V → Bool
  | .str z => decide (z ∈ l)
  | _ => false
theorem str_of {us : List V} {v : V} {l : List Str} (h : v ∈ us) (ha : us.all (strIn l) = true) : ∃ z : Str, v = V.str z ∧ z ∈ l := by
  have h1 := List.all_eq_true.mp ha v h
  cases v with
  | str z => exact ⟨z, rfl, of_decide_eq_true h1⟩
  | _ => cases h1
theorem eqv_nil (ds : List PyData) : PyData.eqv (.list ds) (.list []) = ds.isEmpty := by cases ds <;> rfl
section
variable {P : Program} {w : World} {K : PySem.W.Frag} {mg : Str → Option Value} {base : Heap}
abbrev s__law_atom : Stmt := top 35
theorem sc__law_atom : FnScope ["_law_stream_here", "_law_unknowns", "_law_way"] ["_law_stream_here", "_law_unknowns"] (defScope s__law_atom) := ⟨rfl, rfl, rfl, by decide +kernel, rfl, by decide +kernel, by decide +kernel⟩
theorem ok__law_atom (T : Tx w K mg) : Fk P w K mg base CX0 3 "_law_atom" ["_law_stream_here", "_law_unknowns"] sp_atom := by
  refine T.F__law_atom.ok0 sc__law_atom (fun _ _ _ _ _ _ us hl => match us, hl with | [_, _], _ => rfl)
    (fun vs H Q E h => ?_) (fun cdv A outer s H vs Q E hr h => ?_)
  · obtain ⟨p, u, xs, us, n, rfl, _⟩ := h
    rfl
  · obtain ⟨p, u, xs, us, n, rfl, hp, hx, nup, hu, hU, k⟩ := h
    refine ⟨_, (pss_cons (ps_set (i := 2) sc__law_atom.nd rfl (Or.inl rfl) (pe_fk (ok__law_draw T) (hr.mono (by omega)) rfl pass0 (pa_cons (pv 0) (pa_cons pe_int pa_nil))))
  (pss_cons (ps_if (PW.pt (pw_and (pt_cmpR op_lt (pv 2) pe_int (nomark _)) (pw_and1 (pt_cmpR (op_neD hr.units) (pv 1) (pe_lst pa_nil) (nomark _)))))
  (pss_one (ps_ret (pe_tup (pa_cons pe_str (pa_cons (pe_fk (ok__law_pick T) (hr.mono (by omega)) rfl pass0 (pa_cons (pv 0) (pa_cons (pv 1) pa_nil))) pa_nil)))))
  pss_nil)
  (pss_cons (ps_if (pt_cmpR op_lt (pv 2) pe_int (nomark _))
  (pss_one (ps_ret (pe_tup (pa_cons pe_str (pa_cons (pe_fk (ok__law_pick T) (hr.mono (by omega)) rfl pass0 (pa_cons (pv 0) (pa_cons (pe_lst (pa_cons pe_str (pa_cons pe_str (pa_cons pe_str (pa_cons pe_str (pa_cons (pe_fk (ok__law_name T) (hr.mono (by omega)) rfl pass0 (pa_cons (pv 0) pa_nil)) pa_nil)))))) pa_nil))) pa_nil)))))
  pss_nil)
  (pss_one (ps_ret (pe_tup (pa_cons pe_str (pa_cons (pe_fk (ok__law_pick T) (hr.mono (by omega)) rfl pass0 (pa_cons (pv 0) (pa_cons (pe_lst (pa_cons pe_str (pa_cons pe_str (pa_cons pe_str (pa_cons pe_str (pa_cons (pe_fk (ok__law_word T) (hr.mono (by omega)) rfl pass0 (pa_cons (pv 0) pa_nil)) pa_nil)))))) pa_nil))) pa_nil)))))))), ?_⟩
    refine seqAsg (rd_draw (m := 6) (n := n + 29) (by rfl) hp hx (by decide) (by decide) fun d H1 y1 hd b1 hp1 hy1 => ?_)
    refine gName_k ?_
    try dsimp only
    have hu1 := b1 u _ nup hu
    obtain ⟨ds, hds, hdl, hdc, hdd⟩ := dpL (K := K) (H := H1) us hU.2
    have mono : ∀ {H' : Hp}, Same H1 H' → DpAll K H' us ds := fun {H'} s' => by
      obtain ⟨es, h1, _, _, _⟩ := dpL (K := K) (H := H') us hU.2
      have key : ∀ {l : List V} {a b : List PyData}, (∀ v ∈ l, ∃ z : Str, v = .str z ∧ isUnk z = true) → DpAll K H1 l a → DpAll K H' l b → DpAll K H' l a := by
        intro l
        induction l with
        | nil => intro a b _ ha _; cases ha; exact .nil
        | cons v r ih =>
          intro a b hv ha hb
          obtain ⟨z, rfl, hz⟩ := hv v List.mem_cons_self
          cases ha with
          | cons a1 a2 =>
            cases hb with
            | cons b1 b2 =>
              cases a1
              exact .cons (.str z) (ih (fun v hv' => hv v (List.mem_cons_of_mem _ hv')) a2 b2)
      exact key hU.2 hds h1
    have sd : SeqAt.shaped (.list ds) = true := by
      show (PySem.PyData.canLayAll0 ds && decide (PySem.PyData.depthAll ds + 1 ≤ 64)) = true
      rw [hdc, hdd]
      rfl
    refine seqIf (tb_and (fun R r => ⟨_, rfl, _, _, rfl, rfl, _, rfl, r _ (Same.refl _)⟩) fun H2 s2 _ R r => ⟨_, rfl, Nat.zero_le _, fun q hq => ⟨.list ds, .list [], .lst (SqL.of ((s2.trans (Rd.Same.upd hq)) _ _ hu1)) (mono (s2.trans (Rd.Same.upd hq))), .lst (SqL.of upd_same) .nil, sd, rfl, _, rfl, r _ (Rd.Same.upd hq)⟩⟩) fun H2 s2 => ?_
    rw [eqv_nil]
    have B2 : But p H H2 := b1.trans (But.of_same s2)
    have hp2 := s2 _ _ hp1
    have hu2 := s2 _ _ hu1
    refine ite2 (fun h1 => ?_) (fun h1 => ?_)
    · have h0 : 0 < us.length := by
        obtain ⟨_, h3⟩ := He.ba h1
        rw [← hdl]
        cases ds with
        | nil => cases h3
        | cons a b => exact Nat.succ_pos _
      refine ⟨_, rfl, _, rfl, rd_pick (n := n + 28) hp2 hy1 hu2 nup h0 (by have := hU.1; omega) fun v H3 y3 hv b3 hp3 hy3 => ⟨(by show 2 ≤ sizeLine; decide), fun q hq => ?_⟩⟩
      obtain ⟨z, rfl, hz⟩ := hU.2 v hv
      exact k "unknown" z _ y3 _ ((B2.trans b3).trans (But.new hq)) (by rw [upd_ne (ne_of_none hp3 hq)]; exact hp3) (hy3.mono (by omega)) (.inr (.inr ⟨rfl, hz⟩)) (fun _ => hv) ⟨q, rfl, upd_same⟩
    refine nxt ?_
    try dsimp only
    refine seqIf (fun R r => ⟨_, rfl, _, _, rfl, rfl, _, rfl, r _ (Same.refl _)⟩) fun H3 s3 => ?_
    have B3 : But p H H3 := B2.trans (But.of_same s3)
    have hp3 := s3 _ _ hp2
    refine ite2 (fun h2 => ?_) (fun h2 => ?_)
    · refine ⟨_, rfl, _, rfl, p, y1, n + 9, rfl, hp3, hy1, fun z1 y4 H4 b4 hp4 hy4 hz1 => ⟨(by show 5 ≤ sizeLine; decide), fun q hq => ?_⟩⟩
      have nqp : q ≠ p := fun z => by rw [z, hp4] at hq; cases hq
      refine rd_pick (n := n + 8) (by rw [upd_ne (Ne.symm nqp)]; exact hp4) hy4 upd_same nqp (by show 0 < 5; decide) (by show 5 ≤ 1000; decide) fun v H5 y5 hv b5 hp5 hy5 => ⟨(by show 2 ≤ sizeLine; decide), fun q2 hq2 => ?_⟩
      obtain ⟨z, rfl, hz⟩ : ∃ z : Str, v = .str z ∧ isName z = true := by
        rcases List.mem_cons.mp hv with rfl | hv
        · exact ⟨_, rfl, by decide +kernel⟩
        rcases List.mem_cons.mp hv with rfl | hv
        · exact ⟨_, rfl, by decide +kernel⟩
        rcases List.mem_cons.mp hv with rfl | hv
        · exact ⟨_, rfl, by decide +kernel⟩
        rcases List.mem_cons.mp hv with rfl | hv
        · exact ⟨_, rfl, by decide +kernel⟩
        exact ⟨z1, List.mem_singleton.mp hv, hz1⟩
      exact k "name" z _ y5 _ ((((B3.trans b4).trans (But.new hq)).trans b5).trans (But.new hq2)) (by rw [upd_ne (ne_of_none hp5 hq2)]; exact hp5) (hy5.mono (by omega)) (.inr (.inl ⟨rfl, hz⟩)) (fun e => absurd e (by decide +kernel)) ⟨q2, rfl, upd_same⟩
    · refine ⟨_, rfl, _, rfl, p, y1, n + 20, rfl, hp3, hy1, fun z1 y4 H4 b4 hp4 hy4 hz1 => ⟨(by show 5 ≤ sizeLine; decide), fun q hq => ?_⟩⟩
      have nqp : q ≠ p := fun z => by rw [z, hp4] at hq; cases hq
      refine rd_pick (n := n + 19) (by rw [upd_ne (Ne.symm nqp)]; exact hp4) hy4 upd_same nqp (by show 0 < 5; decide) (by show 5 ≤ 1000; decide) fun v H5 y5 hv b5 hp5 hy5 => ⟨(by show 2 ≤ sizeLine; decide), fun q2 hq2 => ?_⟩
      obtain ⟨z, rfl, hz⟩ : ∃ z : Str, v = .str z ∧ isWord z = true := by
        rcases List.mem_cons.mp hv with rfl | hv
        · exact ⟨_, rfl, by decide +kernel⟩
        rcases List.mem_cons.mp hv with rfl | hv
        · exact ⟨_, rfl, by decide +kernel⟩
        rcases List.mem_cons.mp hv with rfl | hv
        · exact ⟨_, rfl, by decide +kernel⟩
        rcases List.mem_cons.mp hv with rfl | hv
        · exact ⟨_, rfl, by decide +kernel⟩
        exact ⟨z1, List.mem_singleton.mp hv, hz1⟩
      exact k "word" z _ y5 _ ((((B3.trans b4).trans (But.new hq)).trans b5).trans (But.new hq2)) (by rw [upd_ne (ne_of_none hp5 hq2)]; exact hp5) (hy5.mono (by omega)) (.inl ⟨rfl, hz⟩) (fun e => absurd e (by decide +kernel)) ⟨q2, rfl, upd_same⟩
abbrev s__law_form : Stmt := top 36
theorem sc__law_form : FnScope ["_law_stream_here", "_law_unknowns", "_law_deep", "_law_way", "_law_one", "_law_other"] ["_law_stream_here", "_law_unknowns", "_law_deep"] (defScope s__law_form) := ⟨rfl, rfl, rfl, by decide +kernel, rfl, by decide +kernel, by decide +kernel⟩
theorem form_step (T : Tx w K mg) (d : Nat) (ih : Fk P w K mg base CX0 (d + 4) "_law_form" ["_law_stream_here", "_law_unknowns", "_law_deep"] (spR d)) : Fk P w K mg base CX0 (d + 5) "_law_form" ["_law_stream_here", "_law_unknowns", "_law_deep"] (sp_drawnForm d) := by
  refine T.F__law_form.ok0 sc__law_form (fun _ _ _ _ _ _ us hl => match us, hl with | [_, _, _], _ => rfl)
    (fun vs H Q E h => ?_) (fun cdv A outer s H vs Q E hr h => ?_)
  · obtain ⟨p, u, xs, us, n, rfl, _⟩ := h
    rfl
  · obtain ⟨p, u, xs, us, n, rfl, hp, hx, nup, hu, hU, k⟩ := h
    refine ⟨_, (pss_cons (ps_set (i := 3) sc__law_form.nd rfl (Or.inl rfl) (pe_ifExp (pt_cmpR op_gt (pv 2) pe_int (nomark _)) (pe_fk (ok__law_draw T) (hr.mono (by omega)) rfl pass0 (pa_cons (pv 0) (pa_cons pe_int pa_nil))) pe_int))
  (pss_cons (ps_if (pt_cmpR op_lt (pv 3) pe_int (nomark _))
  (pss_one (ps_ret (pe_fk (ok__law_atom T) (hr.mono (by omega)) rfl pass0 (pa_cons (pv 0) (pa_cons (pv 1) pa_nil)))))
  pss_nil)
  (pss_cons (ps_set (i := 4) sc__law_form.nd rfl (Or.inl rfl) (pe_fk ih (hr.mono (by omega)) rfl pass0 (pa_cons (pv 0) (pa_cons (pv 1) (pa_cons (pe_op op_sub (pv 2) pe_int) pa_nil)))))
  (pss_cons (ps_if (pt_cmpR op_gt (pv 3) pe_int (nomark _))
  (pss_one (ps_ret (pe_tup (pa_cons (pe_ix ix_list (pe_lst (pa_cons pe_str (pa_cons pe_str (pa_cons pe_str pa_nil)))) (pe_fk (ok__law_draw T) (hr.mono (by omega)) rfl pass0 (pa_cons (pv 0) (pa_cons pe_int pa_nil))) (fun _ _ => rfl)) (pa_cons (pv 4) pa_nil)))))
  pss_nil)
  (pss_cons (ps_set (i := 5) sc__law_form.nd rfl (Or.inl rfl) (pe_fk ih (hr.mono (by omega)) rfl pass0 (pa_cons (pv 0) (pa_cons (pv 1) (pa_cons (pe_op op_sub (pv 2) pe_int) pa_nil)))))
  (pss_cons (ps_if (pt_cmpR op_gt (pv 3) pe_int (nomark _))
  (pss_one (ps_ret (pe_tup (pa_cons pe_str (pa_cons (pv 4) (pa_cons (pe_tup (pa_cons (pe_ix ix_list (pe_lst (pa_cons pe_str (pa_cons pe_str pa_nil))) (pe_fk (ok__law_draw T) (hr.mono (by omega)) rfl pass0 (pa_cons (pv 0) (pa_cons pe_int pa_nil))) (fun _ _ => rfl)) (pa_cons (pv 5) pa_nil))) pa_nil))))))
  pss_nil)
  (pss_one (ps_ret (pe_tup (pa_cons (pe_ix ix_list (pe_lst (pa_cons pe_str (pa_cons pe_str pa_nil))) (pe_op op_mod (pe_callTy call_int1 (by rfl) T.z_int (by decide +kernel) (pa_cons (pv 3) pa_nil)) pe_int) (fun _ _ => rfl)) (pa_cons (pv 4) (pa_cons (pv 5) pa_nil)))))))))))), ?_⟩
    have d40 : 40 ≤ dr d := by
      have := Nat.pow_pos (n := d) (show 0 < 3 by decide)
      unfold dr
      omega
    have atomc : ∀ {H1 : Hp} {y1 : List V}, But p H H1 → H1 p = some (.lst y1) → StL (n + 30) y1 → sp_atom [.ref p, .ref u] H1 Q E0 := fun {H1 y1} b hp1 hy =>
      ⟨p, u, y1, us, n, rfl, hp1, hy, nup, b u _ nup hu, hU, fun k' x v ys H' b' hp' hy' ko un it => k (.am k' x) v ys H' (b.trans b') hp' hy' (.am ko) (dpN.am un) it⟩
    refine ⟨_, rfl, _, _, rfl, rfl, _, rfl, ite2 (fun h1 => ?_) (fun h1 => ?_)⟩
    · cases d with
      | zero => exact absurd (of_decide_eq_true h1) (by decide)
      | succ d =>
        have hD : dr (d + 1) = 3 * dr d := by
          unfold dr
          rw [Nat.pow_succ]
          omega
        have dd40 : 40 ≤ dr d := by
          have := Nat.pow_pos (n := d) (show 0 < 3 by decide)
          unfold dr
          omega
        have ed : (((d + 1 : Nat) : Int) - 1) = (d : Int) := by omega
        refine rd_draw (m := 11) (n := n + 3 * dr d - 1) (by rfl) hp (hx.mono (by omega)) (by decide) (by decide) fun way H1 y1 hw b1 hp1 hy1 => ?_
        have hu1 := b1 u _ nup hu
        refine gName_k ?_
        try dsimp only
        refine ⟨_, rfl, _, _, rfl, rfl, _, rfl, ite2 (fun h2 => ?_) (fun h2 => ?_)⟩
        · exact ⟨_, rfl, _, rfl, atomc b1 hp1 (hy1.mono (by omega))⟩
        refine ⟨_, rfl, _, rfl, _, rfl, _, _, rfl, rfl, p, u, y1, us, n + 2 * dr d - 1, ?_, hp1, hy1.mono (by omega), nup, hu1, hU, fun t1 v1 y2 H2 b2 hp2 hy2 wf1 dp1 it1 => ?_⟩
        · show [V.ref p, V.ref u, V.int (((d + 1 : Nat) : Int) - 1)] = _
          rw [ed]
        have hu2 := b2 u _ nup hu1
        have B2 := b1.trans b2
        refine ⟨_, rfl, _, _, rfl, rfl, _, rfl, ite2 (fun h3 => ?_) (fun h3 => ?_)⟩
        · refine rd_tab (us := [.str "mark", .str "open", .str "own"]) (m := 3) (n := n) (by intro _ _ q; exact q) (by rfl) hp2 (hy2.mono (by omega)) rfl (by decide) (by decide) fun v H3 y3 hv b3 hp3 hy3 => ?_
          obtain ⟨s3, rfl, hs3⟩ : ∃ s3 : Str, v = .str s3 ∧ s3 ∈ (["mark", "open", "own"] : List Str) := str_of hv (by decide +kernel)
          refine ⟨_, rfl, (by show 2 ≤ sizeLine; decide), fun q hq => ?_⟩
          exact k (.un s3 t1) _ y3 _ ((B2.trans b3).trans (But.new hq)) (by rw [upd_ne (ne_of_none hp3 hq)]; exact hp3) hy3 (.un hs3 wf1) dp1.un ⟨q, v1, rfl, upd_same, (it1.but b3 hp2).same (Rd.Same.upd hq)⟩
        refine ⟨_, rfl, _, rfl, _, rfl, _, _, rfl, rfl, p, u, y2, us, n + dr d - 1, ?_, hp2, hy2.mono (by omega), nup, hu2, hU, fun t2 v2 y3 H3 b3 hp3 hy3 wf2 dp2 it2 => ?_⟩
        · show [V.ref p, V.ref u, V.int (((d + 1 : Nat) : Int) - 1)] = _
          rw [ed]
        have B3 := B2.trans b3
        have it1' := it1.but b3 hp2
        refine ⟨_, rfl, _, _, rfl, rfl, _, rfl, ite2 (fun h4 => ?_) (fun h4 => ?_)⟩
        · refine ⟨_, rfl, rd_tab (us := [.str "open", .str "own"]) (m := 2) (n := n) (by intro _ _ q; exact q) (by rfl) hp3 (hy3.mono (by omega)) rfl (by decide) (by decide) fun v H4 y4 hv b4 hp4 hy4 => ?_⟩
          obtain ⟨s4, rfl, hs4⟩ : ∃ s4 : Str, v = .str s4 ∧ s4 ∈ (["open", "own"] : List Str) := str_of hv (by decide +kernel)
          refine ⟨_, rfl, (by show 2 ≤ sizeLine; decide), fun q hq => ⟨(by show 3 ≤ sizeLine; decide), fun q2 hq2 => ?_⟩⟩
          have sq := Rd.Same.upd (o := .tup [.str s4, v2]) hq
          have sq2 := sq.trans (Rd.Same.upd (o := .tup [.str "lock", v1, .ref q]) hq2)
          refine k (.bi "lock" t1 (.un s4 t2)) _ y4 _ ((B3.trans b4).trans (But.of_same sq2)) (sq2 _ _ hp4) hy4 (.lk hs4 wf1 wf2) (dp1.lk dp2) ⟨q2, v1, _, rfl, upd_same, (it1'.but b4 hp3).same sq2, q, v2, rfl, ?_, (it2.but b4 hp3).same sq2⟩
          rw [upd_ne (fun z => by rw [← z, upd_same] at hq2; cases hq2), upd_same]
        · refine ⟨(by show 2 ≤ sizeLine; decide), fun q hq => ?_⟩
          have sq := Rd.Same.upd (o := .lst [.str "pair", .str "seal"]) hq
          have hj : ((way : Int) % 2).toNat < 2 := by omega
          obtain ⟨v, hv⟩ : ∃ v, ([.str "pair", .str "seal"] : List V)[((way : Int) % 2).toNat]? = some v := ⟨_, List.getElem?_eq_getElem (by show _ < 2; exact hj)⟩
          obtain ⟨s4, rfl, hs4⟩ : ∃ s4 : Str, v = .str s4 ∧ s4 ∈ (["pair", "seal"] : List Str) := str_of (List.mem_of_getElem? hv) (by decide +kernel)
          refine ⟨_, rfl, .inl ⟨_, rfl, _, _, rfl, rfl, (by show (0 : Int) < 2; decide), q, _, _, .str s4, rfl, rfl, SqL.of upd_same, at_of (j := ((way : Int) % 2).toNat) (by omega) hv, _, rfl, _, rfl, (by show 3 ≤ sizeLine; decide), fun q2 hq2 => ?_⟩⟩
          have sq2 := sq.trans (Rd.Same.upd (o := .tup [.str s4, v1, v2]) hq2)
          exact k (.bi s4 t1 t2) _ y3 _ (B3.trans (But.of_same sq2)) (sq2 _ _ hp3) (hy3.mono (by omega)) (.bi hs4 wf1 wf2) (dp1.bi dp2) ⟨q2, v1, v2, rfl, upd_same, it1'.same sq2, it2.same sq2⟩
    · refine gName_k ?_
      try dsimp only
      refine ⟨_, rfl, _, _, rfl, rfl, _, rfl, ite2 (fun h2 => ?_) (fun h2 => absurd (by decide) h2)⟩
      exact ⟨_, rfl, _, rfl, atomc But.refl hp (hx.mono (by omega))⟩
theorem form_none (T : Tx w K mg) : Fk P w K mg base CX0 1 "_law_form" ["_law_stream_here", "_law_unknowns", "_law_deep"] (spR 0) := by
  refine T.F__law_form.ok0 sc__law_form (fun _ _ _ _ _ _ us hl => match us, hl with | [_, _, _], _ => rfl) (fun vs H Q E h => h.elim) (fun cdv A outer s H vs Q E hr h => h.elim)
theorem ok__law_form (T : Tx w K mg) : ∀ d : Nat, Fk P w K mg base CX0 (d + 5) "_law_form" ["_law_stream_here", "_law_unknowns", "_law_deep"] (sp_drawnForm d)
  | 0 => form_step T 0 ((form_none T).mono (by decide))
  | d + 1 => form_step T (d + 1) (ok__law_form T d)
end
end Rd
namespace Rd
open PySem L2
section
variable {P : Program} {w : World} {K : PySem.W.Frag} {mg : Str → Option Value} {base : Heap}
abbrev s_BadAtom_init : Stmt := inClass (top 3) 0
theorem sc_BadAtom_init : FnScope ["self", "text"] ["self", "text"] (defScope s_BadAtom_init) := ⟨rfl, rfl, rfl, by decide +kernel, rfl, by decide +kernel, by decide +kernel⟩
theorem ok_BadAtom (T : Tx w K mg) : Fm P w K mg base CX0 1 "BadAtom" "__init__" ["self", "text"] (spX1 K "text") := by
  refine T.X_BadAtom.init.ok0 sc_BadAtom_init (fun _ _ _ _ _ _ us hl => match us, hl with | [_, _], _ => rfl)
    (fun vs H Q E h => ?_) (fun cdv A outer s H vs Q E hr h => ?_)
  · obtain ⟨a, C, v, rfl, _⟩ := h
    rfl
  · obtain ⟨a, C, v, rfl, TC, no, ha, k⟩ := h
    refine ⟨_, (pss_cons (ps_expr (pe_reinit rfl T.g_RoadError T.r_RoadError (pa_cons (pv 0) (pa_cons pe_str pa_nil))))
  (pss_one (ps_ost (pv 0) (pv 1)))), ?_⟩
    refine ⟨_, rfl, a, C, [.str "no atom"], rfl, (by show 1 ≤ 1000; decide), TC, ha, _, rfl, _, rfl, a, C, rfl, TC, no, .inl ⟨ha, fun dx hdx ne => k dx hdx ne⟩⟩
/-- Letter(text), Letter("", tree) -/
def sp_Linit (K : PySem.W.Frag) : Sp := fun vs H Q E => ∃ (x dx : Addr) (z : Str) (v : V), vs = [.ref x, .str z, v] ∧ H x = some (.ins (He.ga K "Letter") dx []) ∧
  ((v ≠ .non ∧ Q .non (upd H x (.ins (He.ga K "Letter") dx [("tree", v)]))) ∨
   (v = .non ∧ z.length ≤ 200000 ∧ (∀ k y p H', But x H H' → atomOf z = some (k, y) → H p = none → H' p = some (.tup [.str k, .str y]) → H' x = some (.ins (He.ga K "Letter") dx [("tree", .ref p)]) → Q .non H') ∧
     ∀ d H', But x H H' → atomOf z = none → H d = none → H' d = some (.xd [("text", .str z)]) → E (.ref (He.ga K "BadAtom")) (some d) H'))
theorem look1 (v : V) : ([("tree", v)] : List (Str × V)).lookup ("tree" : Str) = some v := by simp [List.lookup]
theorem putTree (v u : V) : putF "tree" u ([("tree", v)] : List (Str × V)) = ([("tree", u)] : List (Str × V)) := by
  show (if ("tree" : Str) = "tree" then ([(("tree" : Str), u)] : List (Str × V)) else _) = _
  rw [if_pos rfl]
abbrev s_Letter_init : Stmt := inClass (top 24) 0
theorem sc_Letter_init : FnScope ["self", "atom", "tree"] ["self", "atom", "tree"] (defScope s_Letter_init) := ⟨rfl, rfl, rfl, by decide +kernel, rfl, by decide +kernel, by decide +kernel⟩
theorem ok_Letter (T : Tx w K mg) : Fi P w K mg base (L2N.CX P w) 4 "Letter" ["self", "atom", "tree"] (sp_Linit K) .non := by
  refine T.I_Letter.ok (n := 2) sc_Letter_init rfl (fun _ _ _ _ _ _ _ us its hu hi => match us, its, hu, hi with | [_, _], [_], _, _ => ⟨_, rfl, rfl⟩) (fun _ _ _ _ _ _ _ us its hu hi => match us, its, hu, hi with | [_, _, _], [_], _, _ => ⟨_, rfl, rfl⟩)
    (fun vs H Q E h => ?_) (fun cdv A outer s H vs Q E hr h => ?_)
  · obtain ⟨x, dx, z, v, rfl, _⟩ := h
    rfl
  · obtain ⟨x, dx, z, v, rfl, hx, hv⟩ := h
    refine ⟨_, (pss_cons (ps_fld (pv 0) (pv 2) rfl)
  (pss_one (ps_if (pt_cmpR op_isN (pv 2) pe_non (nomark _))
  (pss_cons (ps_fld (pv 0) (pe_fk (ok_atom_tree T) (hr.mono (by omega)) rfl pass0 (pa_cons (pv 1) pa_nil)) rfl)
  (pss_one (ps_if (pt_cmpR op_isN (pe_fld (pv 0) rfl) pe_non (nomark _))
  (pss_one (L2N.ps_raise rfl (L2N.takes_of rfl rfl rfl rfl) (pmk_xN T.X_BadAtom (ok_BadAtom T) (hr.mono (by omega)) rfl (pa_cons (pv 1) pa_nil))))
  pss_nil)))
  pss_nil))), ?_⟩
    refine ⟨_, rfl, _, rfl, x, _, dx, [], rfl, hx, T.k_Letter, T.n_Letter_tree, (by show 0 < 1000; decide), ?_⟩
    refine ⟨_, rfl, rfl, _, rfl, ?_⟩
    rcases hv with ⟨hne, q⟩ | ⟨rfl, hz, k1, k0⟩
    · exact ite2 (fun h => absurd (of_decide_eq_true h) hne) (fun _ => q)
    refine ite2 (fun _ => ?_) (fun h => absurd (decide_eq_true rfl) h)
    have b0 : But x H (upd H x (.ins (He.ga K "Letter") dx [("tree", .non)])) := But.upd
    refine ⟨_, rfl, z, rfl, hz, fun H1 s1 en => ?_, fun k y p H1 s1 es hp hp1 => ?_⟩
    · have hx1 : H1 x = some (.ins (He.ga K "Letter") dx [("tree", .non)]) := s1 x _ upd_same
      refine ⟨_, rfl, x, _, dx, _, rfl, hx1, T.k_Letter, T.n_Letter_tree, (by show 1 < 1000; decide), ?_⟩
      refine ⟨_, rfl, x, _, dx, _, .non, rfl, upd_same, T.k_Letter, T.n_Letter_tree, (by rw [putTree]; exact look1 _), rfl, _, rfl, ite2 (fun _ => ?_) (fun h => absurd (decide_eq_true rfl) h)⟩
      refine ⟨_, rfl, rd_raise1 T.X_BadAtom.oex T.X_BadAtom.no fun d H' s' nd hd => k0 d H' ?_ en ?_ hd⟩
      · exact ((b0.trans (But.of_same s1)).trans But.upd).trans (But.of_same s')
      · have nx : d ≠ x := fun e => by rw [e, upd_same] at nd; cases nd
        rw [upd_ne nx] at nd
        have n2 := s1.free nd
        rw [upd_ne nx] at n2
        exact n2
    · have hx1 : H1 x = some (.ins (He.ga K "Letter") dx [("tree", .non)]) := s1 x _ upd_same
      have npx : p ≠ x := fun e => by rw [e, hx1] at hp1; cases hp1
      refine ⟨_, rfl, x, _, dx, _, rfl, hx1, T.k_Letter, T.n_Letter_tree, (by show 1 < 1000; decide), ?_⟩
      refine ⟨_, rfl, x, _, dx, _, .ref p, rfl, upd_same, T.k_Letter, T.n_Letter_tree, (by rw [putTree]; exact look1 _), rfl, _, rfl, ite2 (fun h => absurd (of_decide_eq_true h) (fun e => by cases e)) (fun _ => ?_)⟩
      refine k1 k y p _ ((b0.trans (But.of_same s1)).trans But.upd) es ?_ (by rw [upd_ne npx]; exact hp1) (by rw [upd_same, putTree])
      rw [upd_ne npx] at hp
      exact hp
/-- an atom's form -/
def IsAtm (H : Hp) (v : V) (k x : Str) : Prop := ∃ p, v = .ref p ∧ H p = some (.tup [.str k, .str x])
abbrev s_Letter_form : Stmt := inClass (top 24) 3
theorem sc_Letter_form : FnScope ["self"] ["self"] (defScope s_Letter_form) := ⟨rfl, rfl, rfl, by decide +kernel, rfl, by decide +kernel, by decide +kernel⟩
/-- a letter at a: its field -/
def IsL (K : PySem.W.Frag) (H : Hp) (a : Addr) (v : V) : Prop := ∃ dx, H a = some (.ins (He.ga K "Letter") dx [("tree", v)])
def sp_form (K : PySem.W.Frag) : Sp := fun vs H Q _ => ∃ (a : Addr) (v : V), vs = [.ref a] ∧ IsL K H a v ∧ Q v H
theorem ok_form (T : Tx w K mg) : Fm P w K mg base CX0 1 "Letter" "form" ["self"] (sp_form K) := by
  refine T.M_Letter_form.ok0 sc_Letter_form (fun _ _ _ _ _ _ us hl => match us, hl with | [_], _ => rfl)
    (fun vs H Q E h => ?_) (fun cdv A outer s H vs Q E hr h => ?_)
  · obtain ⟨a, v, rfl, _⟩ := h
    rfl
  · obtain ⟨a, v, rfl, ⟨dx, ha⟩, k⟩ := h
    refine ⟨_, (pss_one (ps_ret (pe_fld (pv 0) rfl))), ?_⟩
    exact ⟨_, rfl, a, _, dx, _, v, rfl, ha, T.k_Letter, T.n_Letter_tree, look1 _, k⟩
end
end Rd
namespace Rd
open PySem L2
theorem lookT {m : Str} {v : V} (h : (m == ("tree" : Str)) = false) : ([("tree", v)] : List (Str × V)).lookup m = none := by simp [List.lookup, h]
theorem lookX {f : Str} (v : V) : ([(f, v)] : List (Str × V)).lookup f = some v := by simp [List.lookup]
theorem IsL.mono {K : PySem.W.Frag} {H H' : Hp} {a : Addr} {v : V} (k : Kp (He.ga K "Letter") H H') (h : IsL K H a v) : IsL K H' a v := by
  obtain ⟨dx, e⟩ := h
  exact ⟨dx, k a _ (by show ((He.ga K "Letter") == (He.ga K "Letter")) = true; exact beq_self_eq_true _) e⟩
theorem IsL.same {K : PySem.W.Frag} {H H' : Hp} {a : Addr} {v : V} (k : Same H H') (h : IsL K H a v) : IsL K H' a v := h.mono (Kp.of_same k)
/-- a letter with a form -/
def IsLet (K : PySem.W.Frag) (H : Hp) (t : Tr) (v : V) : Prop := ∃ a u, v = .ref a ∧ IsL K H a u ∧ IsT H t u
theorem IsLet.mono {K : PySem.W.Frag} {H H' : Hp} {t : Tr} {v : V} (k : Kp (He.ga K "Letter") H H') (h : IsLet K H t v) : IsLet K H' t v := by
  obtain ⟨a, u, e, h1, h2⟩ := h
  exact ⟨a, u, e, h1.mono k, h2.mono k⟩
theorem IsLet.same {K : PySem.W.Frag} {H H' : Hp} {t : Tr} {v : V} (k : Same H H') (h : IsLet K H t v) : IsLet K H' t v := h.mono (Kp.of_same k)
def Tr.head : Tr → Str
  | .am k _ => k
  | .un s _ => s
  | .bi s _ _ => s
def isKey (t : Tr) : Bool := decide (t.head ∈ (["open", "own"] : List Str))
theorem IsT.hd {H : Hp} {t : Tr} {v : V} (h : IsT H t v) : ∃ p us, v = .ref p ∧ H p = some (.tup (.str t.head :: us)) := by
  cases t with
  | am k x => obtain ⟨p, e, h⟩ := h; exact ⟨p, _, e, h⟩
  | un s a => obtain ⟨p, u, e, h, _⟩ := h; exact ⟨p, _, e, h⟩
  | bi s a b => obtain ⟨p, u, u2, e, h, _⟩ := h; exact ⟨p, _, e, h⟩
/-- a sign of two letters, of one -/
def sp_bin (K : PySem.W.Frag) (s : Str) : Sp := fun vs H Q _ => ∃ (a b : Addr) (u1 u2 : V), vs = [.ref a, .ref b] ∧ IsL K H a u1 ∧ IsL K H b u2 ∧
  ∀ x q H', Same H H' → IsL K H' x (.ref q) → H' q = some (.tup [.str s, u1, u2]) → Q (.ref x) H'
def sp_one (K : PySem.W.Frag) (s : Str) : Sp := fun vs H Q _ => ∃ (a : Addr) (u1 : V), vs = [.ref a] ∧ IsL K H a u1 ∧
  ∀ x q H', Same H H' → IsL K H' x (.ref q) → H' q = some (.tup [.str s, u1]) → Q (.ref x) H'
def sp_xor (K : PySem.W.Frag) : Sp := fun vs H Q E => ∃ (a b : Addr) (u1 u2 : V) (t2 : Tr), vs = [.ref a, .ref b] ∧ IsL K H a u1 ∧ IsL K H b u2 ∧ IsT H t2 u2 ∧
  (isKey t2 = true → ∀ x q H', Same H H' → IsL K H' x (.ref q) → H' q = some (.tup [.str "lock", u1, u2]) → Q (.ref x) H') ∧
  (isKey t2 = false → ∀ d H', Same H H' → H' d = some (.xd [("key", .ref b)]) → E (.ref (He.ga K "BadKey")) (some d) H')
/-- Letter("", tree) behind its arguments -/
theorem rd_mkL {K : PySem.W.Frag} {H1 : Hp} {q : Addr} {Q : VK} {E : XK} {xs : List V} (hq : H1 q = some (.tup xs))
    (k : ∀ x H', Same H1 H' → IsL K H' x (.ref q) → Q (.ref x) H') :
    ∀ x dx, H1 x = none → H1 dx = none → dx ≠ x → sp_Linit K (.ref x :: ([.str "", .ref q] ++ [])) (upd (upd H1 dx (.own x)) x (.ins (He.ga K "Letter") dx [])) (fun v H2 => v = .non ∧ Q (.ref x) H2) E := fun x dx nx ndx ne => by
  refine ⟨x, dx, "", .ref q, rfl, upd_same, .inl ⟨(fun e => by cases e), rfl, k x _ (fun b o e => ?_) ⟨dx, upd_same⟩⟩⟩
  rw [upd_ne (ne_of_none e nx), upd_ne (ne_of_none e nx), upd_ne (ne_of_none e ndx)]
  exact e
section
variable {P : Program} {w : World} {K : PySem.W.Frag} {mg : Str → Option Value} {base : Heap}
abbrev s_Letter_add : Stmt := inClass (top 24) 8
theorem sc_Letter_add : FnScope ["self", "other"] ["self", "other"] (defScope s_Letter_add) := ⟨rfl, rfl, rfl, by decide +kernel, rfl, by decide +kernel, by decide +kernel⟩
theorem ok_Ladd (T : Tx w K mg) : Fm P w K mg base CX0 6 "Letter" "__add__" ["self", "other"] (sp_bin K "pair") := by
  refine T.M_Letter_add.ok0 sc_Letter_add (fun _ _ _ _ _ _ us hl => match us, hl with | [_, _], _ => rfl)
    (fun vs H Q E h => ?_) (fun cdv A outer s H vs Q E hr h => ?_)
  · obtain ⟨a, b, u1, u2, rfl, _⟩ := h
    rfl
  · obtain ⟨a, b, u1, u2, rfl, ⟨dx, ha⟩, ⟨dy, hb⟩, k⟩ := h
    refine ⟨_, (pss_one (ps_ret (pe_mk2 (ok_Letter T) (hr.mono (by omega)) (by rfl) passN (pa_cons pe_str (pa_cons (pe_tup (pa_cons pe_str (pa_cons (pe_fld (pv 0) rfl) (pa_cons (pe_fld (pv 1) rfl) pa_nil)))) pa_nil))))), ?_⟩
    refine ⟨_, rfl, a, _, dx, _, _, rfl, ha, T.k_Letter, T.n_Letter_tree, look1 _, _, rfl, b, _, dy, _, _, rfl, hb, T.k_Letter, T.n_Letter_tree, look1 _, (by show 3 ≤ sizeLine; decide), fun q hq => ?_⟩
    exact rd_mkL upd_same fun x H' s' hx => k x q H' ((Rd.Same.upd hq).trans s') hx (s' _ _ upd_same)
abbrev s_Letter_mul : Stmt := inClass (top 24) 9
theorem sc_Letter_mul : FnScope ["self", "key"] ["self", "key"] (defScope s_Letter_mul) := ⟨rfl, rfl, rfl, by decide +kernel, rfl, by decide +kernel, by decide +kernel⟩
theorem ok_Lmul (T : Tx w K mg) : Fm P w K mg base CX0 6 "Letter" "__mul__" ["self", "key"] (sp_bin K "seal") := by
  refine T.M_Letter_mul.ok0 sc_Letter_mul (fun _ _ _ _ _ _ us hl => match us, hl with | [_, _], _ => rfl)
    (fun vs H Q E h => ?_) (fun cdv A outer s H vs Q E hr h => ?_)
  · obtain ⟨a, b, u1, u2, rfl, _⟩ := h
    rfl
  · obtain ⟨a, b, u1, u2, rfl, ⟨dx, ha⟩, ⟨dy, hb⟩, k⟩ := h
    refine ⟨_, (pss_one (ps_ret (pe_mk2 (ok_Letter T) (hr.mono (by omega)) (by rfl) passN (pa_cons pe_str (pa_cons (pe_tup (pa_cons pe_str (pa_cons (pe_fld (pv 0) rfl) (pa_cons (pe_fld (pv 1) rfl) pa_nil)))) pa_nil))))), ?_⟩
    refine ⟨_, rfl, a, _, dx, _, _, rfl, ha, T.k_Letter, T.n_Letter_tree, look1 _, _, rfl, b, _, dy, _, _, rfl, hb, T.k_Letter, T.n_Letter_tree, look1 _, (by show 3 ≤ sizeLine; decide), fun q hq => ?_⟩
    exact rd_mkL upd_same fun x H' s' hx => k x q H' ((Rd.Same.upd hq).trans s') hx (s' _ _ upd_same)
abbrev s_Letter_invert : Stmt := inClass (top 24) 11
theorem sc_Letter_invert : FnScope ["self"] ["self"] (defScope s_Letter_invert) := ⟨rfl, rfl, rfl, by decide +kernel, rfl, by decide +kernel, by decide +kernel⟩
theorem ok_Linvert (T : Tx w K mg) : Fm P w K mg base CX0 6 "Letter" "__invert__" ["self"] (sp_one K "mark") := by
  refine T.M_Letter_invert.ok0 sc_Letter_invert (fun _ _ _ _ _ _ us hl => match us, hl with | [_], _ => rfl)
    (fun vs H Q E h => ?_) (fun cdv A outer s H vs Q E hr h => ?_)
  · obtain ⟨a, u1, rfl, _⟩ := h
    rfl
  · obtain ⟨a, u1, rfl, ⟨dx, ha⟩, k⟩ := h
    refine ⟨_, (pss_one (ps_ret (pe_mk2 (ok_Letter T) (hr.mono (by omega)) (by rfl) passN (pa_cons pe_str (pa_cons (pe_tup (pa_cons pe_str (pa_cons (pe_fld (pv 0) rfl) pa_nil))) pa_nil))))), ?_⟩
    refine ⟨_, rfl, a, _, dx, _, _, rfl, ha, T.k_Letter, T.n_Letter_tree, look1 _, (by show 2 ≤ sizeLine; decide), fun q hq => ?_⟩
    exact rd_mkL upd_same fun x H' s' hx => k x q H' ((Rd.Same.upd hq).trans s') hx (s' _ _ upd_same)
abbrev s_Letter_pos : Stmt := inClass (top 24) 12
theorem sc_Letter_pos : FnScope ["self"] ["self"] (defScope s_Letter_pos) := ⟨rfl, rfl, rfl, by decide +kernel, rfl, by decide +kernel, by decide +kernel⟩
theorem ok_Lpos (T : Tx w K mg) : Fm P w K mg base CX0 6 "Letter" "__pos__" ["self"] (sp_one K "open") := by
  refine T.M_Letter_pos.ok0 sc_Letter_pos (fun _ _ _ _ _ _ us hl => match us, hl with | [_], _ => rfl)
    (fun vs H Q E h => ?_) (fun cdv A outer s H vs Q E hr h => ?_)
  · obtain ⟨a, u1, rfl, _⟩ := h
    rfl
  · obtain ⟨a, u1, rfl, ⟨dx, ha⟩, k⟩ := h
    refine ⟨_, (pss_one (ps_ret (pe_mk2 (ok_Letter T) (hr.mono (by omega)) (by rfl) passN (pa_cons pe_str (pa_cons (pe_tup (pa_cons pe_str (pa_cons (pe_fld (pv 0) rfl) pa_nil))) pa_nil))))), ?_⟩
    refine ⟨_, rfl, a, _, dx, _, _, rfl, ha, T.k_Letter, T.n_Letter_tree, look1 _, (by show 2 ≤ sizeLine; decide), fun q hq => ?_⟩
    exact rd_mkL upd_same fun x H' s' hx => k x q H' ((Rd.Same.upd hq).trans s') hx (s' _ _ upd_same)
abbrev s_Letter_neg : Stmt := inClass (top 24) 13
theorem sc_Letter_neg : FnScope ["self"] ["self"] (defScope s_Letter_neg) := ⟨rfl, rfl, rfl, by decide +kernel, rfl, by decide +kernel, by decide +kernel⟩
theorem ok_Lneg (T : Tx w K mg) : Fm P w K mg base CX0 6 "Letter" "__neg__" ["self"] (sp_one K "own") := by
  refine T.M_Letter_neg.ok0 sc_Letter_neg (fun _ _ _ _ _ _ us hl => match us, hl with | [_], _ => rfl)
    (fun vs H Q E h => ?_) (fun cdv A outer s H vs Q E hr h => ?_)
  · obtain ⟨a, u1, rfl, _⟩ := h
    rfl
  · obtain ⟨a, u1, rfl, ⟨dx, ha⟩, k⟩ := h
    refine ⟨_, (pss_one (ps_ret (pe_mk2 (ok_Letter T) (hr.mono (by omega)) (by rfl) passN (pa_cons pe_str (pa_cons (pe_tup (pa_cons pe_str (pa_cons (pe_fld (pv 0) rfl) pa_nil))) pa_nil))))), ?_⟩
    refine ⟨_, rfl, a, _, dx, _, _, rfl, ha, T.k_Letter, T.n_Letter_tree, look1 _, (by show 2 ≤ sizeLine; decide), fun q hq => ?_⟩
    exact rd_mkL upd_same fun x H' s' hx => k x q H' ((Rd.Same.upd hq).trans s') hx (s' _ _ upd_same)
abbrev s_BadKey_init : Stmt := inClass (top 5) 0
theorem sc_BadKey_init : FnScope ["self", "key"] ["self", "key"] (defScope s_BadKey_init) := ⟨rfl, rfl, rfl, by decide +kernel, rfl, by decide +kernel, by decide +kernel⟩
theorem ok_BadKey (T : Tx w K mg) : Fm P w K mg base CX0 1 "BadKey" "__init__" ["self", "key"] (spX1 K "key") := by
  refine T.X_BadKey.init.ok0 sc_BadKey_init (fun _ _ _ _ _ _ us hl => match us, hl with | [_, _], _ => rfl)
    (fun vs H Q E h => ?_) (fun cdv A outer s H vs Q E hr h => ?_)
  · obtain ⟨a, C, v, rfl, _⟩ := h
    rfl
  · obtain ⟨a, C, v, rfl, TC, no, ha, k⟩ := h
    refine ⟨_, (pss_cons (ps_expr (pe_reinit rfl T.g_RoadError T.r_RoadError (pa_cons (pv 0) (pa_cons pe_str pa_nil))))
  (pss_one (ps_ost (pv 0) (pv 1)))), ?_⟩
    refine ⟨_, rfl, a, C, [.str "no key of a pair"], rfl, (by show 1 ≤ 1000; decide), TC, ha, _, rfl, _, rfl, a, C, rfl, TC, no, .inl ⟨ha, fun dx hdx ne => k dx hdx ne⟩⟩
abbrev s_Letter_xor : Stmt := inClass (top 24) 10
theorem sc_Letter_xor : FnScope ["self", "key"] ["self", "key"] (defScope s_Letter_xor) := ⟨rfl, rfl, rfl, by decide +kernel, rfl, by decide +kernel, by decide +kernel⟩
theorem ok_Lxor (T : Tx w K mg) : Fm P w K mg base (L2N.CX P w) 6 "Letter" "__xor__" ["self", "key"] (sp_xor K) := by
  refine T.M_Letter_xor.ok sc_Letter_xor (fun _ _ _ _ _ _ us hl => match us, hl with | [_, _], _ => rfl)
    (fun vs H Q E h => ?_) (fun cdv A outer s H vs Q E hr h => ?_)
  · obtain ⟨a, b, u1, u2, t2, rfl, _⟩ := h
    rfl
  · obtain ⟨a, b, u1, u2, t2, rfl, ⟨dx, ha⟩, ⟨dy, hb⟩, it, k1, k0⟩ := h
    obtain ⟨p2, us, rfl, hp2⟩ := it.hd
    refine ⟨_, (pss_cons (ps_if (pt_cmpR op_notInT (pe_ix ix_tup (pe_fld (pv 1) rfl) pe_int (fun _ _ => rfl)) (pe_tup (pa_cons pe_str (pa_cons pe_str pa_nil))) (by rfl))
  (pss_one (L2N.ps_raise rfl (L2N.takes_of rfl rfl rfl rfl) (pmk_xN T.X_BadKey (ok_BadKey T) (hr.mono (by omega)) rfl (pa_cons (pv 1) pa_nil))))
  pss_nil)
  (pss_one (ps_ret (pe_mk2 (ok_Letter T) (hr.mono (by omega)) (by rfl) passN (pa_cons pe_str (pa_cons (pe_tup (pa_cons pe_str (pa_cons (pe_fld (pv 0) rfl) (pa_cons (pe_fld (pv 1) rfl) pa_nil)))) pa_nil)))))), ?_⟩
    refine ⟨_, rfl, b, _, dy, _, _, rfl, hb, T.k_Letter, T.n_Letter_tree, look1 _, p2, _, _, _, rfl, rfl, SqT.of hp2, at_of (j := 0) rfl rfl, (by show 2 ≤ sizeLine; decide), fun q hq => ?_⟩
    have sq := Rd.Same.upd (o := .tup [.str "open", .str "own"]) hq
    refine ⟨_, q, ["open", "own"], rfl, rfl, SqT.of upd_same, _, rfl, ?_⟩
    show if (!isKey t2) = true then _ else _
    cases hk : isKey t2 with
    | false =>
      refine iteT ?_
      exact ⟨_, rfl, rd_raise1 T.X_BadKey.oex T.X_BadKey.no fun d H' s' nd hd => k0 hk d H' (sq.trans s') hd⟩
    | true =>
      refine iteF ?_
      refine ⟨_, rfl, a, _, dx, _, _, rfl, sq _ _ ha, T.k_Letter, T.n_Letter_tree, look1 _, _, rfl, b, _, dy, _, _, rfl, sq _ _ hb, T.k_Letter, T.n_Letter_tree, look1 _, (by show 3 ≤ sizeLine; decide), fun q2 hq2 => ?_⟩
      exact rd_mkL upd_same fun x H' s' hx => k1 hk x q2 H' ((sq.trans (Rd.Same.upd hq2)).trans s') hx (s' _ _ upd_same)
end
end Rd
namespace Rd
open PySem L2
theorem SqT.kept {K : PySem.W.Frag} {H H' : Hp} {a : Addr} {xs : List V} (h : SqT K H a xs) (s : Same H H') : SqT K H' a xs := by
  rcases h with (h | ⟨n, h⟩) | h
  · exact .inl (.inl (s _ _ h))
  · exact .inl (.inr ⟨n, s _ _ h⟩)
  · exact .inr h
theorem iteN {c A B : Prop} [Decidable c] (h : ¬ c) (b : B) : if c then A else B := ite2 (fun q => absurd q h) fun _ => b
theorem iteP {c A B : Prop} [Decidable c] (h : c) (a : A) : if c then A else B := ite2 (fun _ => a) fun q => absurd h q
def Tr.parts : Tr → List Tr
  | .am _ _ => []
  | .un _ a => [a]
  | .bi _ a b => [a, b]
theorem mem_to {l m : List Str} {z : Str} (h : l.all (fun y => decide (y ∈ m)) = true) (hz : z ∈ l) : z ∈ m := of_decide_eq_true (List.all_eq_true.mp h z hz)
theorem Wf.sign {t : Tr} (h : Wf t) (hn : t.parts ≠ []) : t.head ∈ (["mark", "open", "own", "pair", "seal", "lock"] : List Str) ∧ (∀ u ∈ t.parts, Wf u ∧ u.dep + 1 ≤ t.dep) := by
  cases h with
  | am => exact absurd rfl hn
  | @un s a hs w =>
    refine ⟨mem_to (by decide +kernel) hs, fun u hu => ?_⟩
    rw [List.mem_singleton.mp hu]
    exact ⟨w, Nat.le_refl _⟩
  | @bi s a b hs wa wb =>
    refine ⟨mem_to (by decide +kernel) hs, fun u hu => ?_⟩
    have e : (Tr.bi s a b).dep = max a.dep b.dep + 1 := rfl
    rcases List.mem_cons.mp hu with rfl | hu
    · exact ⟨wa, by omega⟩
    · rw [List.mem_singleton.mp hu]
      exact ⟨wb, by omega⟩
  | @lk s a b hs wa wb =>
    have hs' : s ∈ (["mark", "open", "own"] : List Str) := List.mem_cons_of_mem _ hs
    refine ⟨mem_to (l := ["lock"]) (by decide +kernel) List.mem_cons_self, fun u hu => ?_⟩
    have e : (Tr.bi "lock" a (.un s b)).dep = max a.dep (Tr.un s b).dep + 1 := rfl
    rcases List.mem_cons.mp hu with rfl | hu
    · exact ⟨wa, by omega⟩
    · rw [List.mem_singleton.mp hu]
      exact ⟨.un hs' wb, by omega⟩
theorem IsT.parts {H : Hp} {t : Tr} {v : V} (h : IsT H t v) (hn : t.parts ≠ []) : ∃ p us, v = .ref p ∧ H p = some (.tup (.str t.head :: us)) ∧ us.length = t.parts.length ∧ us.length ≤ 2 ∧ us ≠ [] ∧ ∀ (i : Nat) u, us[i]? = some u → ∃ r, t.parts[i]? = some r ∧ IsT H r u := by
  cases t with
  | am k x => exact absurd rfl hn
  | un s a =>
    obtain ⟨p, u, e, h, h1⟩ := h
    refine ⟨p, [u], e, h, rfl, (by show 1 ≤ 2; decide), (fun e => by cases e), fun i v hv => ?_⟩
    cases i with
    | zero => cases hv; exact ⟨a, rfl, h1⟩
    | succ i => cases i <;> cases hv
  | bi s a b =>
    obtain ⟨p, u, u2, e, h, h1, h2⟩ := h
    refine ⟨p, [u, u2], e, h, rfl, Nat.le_refl _, (fun e => by cases e), fun i v hv => ?_⟩
    cases i with
    | zero => cases hv; exact ⟨a, rfl, h1⟩
    | succ i =>
      cases i with
      | zero => cases hv; exact ⟨b, rfl, h2⟩
      | succ i => cases i <;> cases hv
theorem cut1 {x : V} {us : List V} : cutV (x :: us) (some 1) none = us := by
  unfold cutV
  have e : HT.sIx (x :: us).length 0 (some 1) = 1 := by
    rw [show (1 : Int) = ((1 : Nat) : Int) from rfl, HT.sIx_nat, List.length_cons]
    omega
  have e2 : HT.sIx (x :: us).length (x :: us).length none = us.length + 1 := rfl
  rw [e, e2]
  show us.take (us.length + 1 - 1) = us
  rw [Nat.add_sub_cancel, List.take_length]
/-- [e for x in a tuple], each item's value by R -/
theorem lct {K : PySem.W.Frag} {C a D : Addr} {xs : List V} {te : TE} {i0 : Nat} {σ : St} {H1 : Hp} {Qd : Hp → Prop} (R : Nat → Hp → V → Prop) (rm : ∀ i H H' v, Kp C H H' → R i H v → R i H' v) (hS : SqT K H1 a xs) (hl : xs.length ≤ 100000) (hD : H1 D = none)
    (hte : ∀ (i : Nat) (x : V) (H : Hp) (Q : VK), xs[i]? = some x → Same H1 H → (∀ v H', Same H H' → R i H' v → Q v H') → te ((wipe σ [i0]).set i0 (some x)) H Q)
    (hq : ∀ vs H', Same H1 H' → H' D = some (.lst vs) → vs.length = xs.length → (∀ (i : Nat) v, vs[i]? = some v → R i H' v) → Qd H') :
    ∃ W : Nat → Nat → Hp → Prop, (∃ m, W 0 m (L2.upd H1 D (.lst []))) ∧ ∀ i m H, W i m H →
      ((Itt K a).stop i H ∧ Qd H) ∨ ((Itt K a).go i H ∧ ∃ Nx : Hp → Prop, (∀ H', Nx H' → ∃ m', m' < m ∧ W (i + 1) m' H') ∧ ∀ x H', (Itt K a).yld i H x H' → gName i0 x (wipe σ [i0]) H' fun σ2 H2 => wipe σ2 [i0] = wipe σ [i0] ∧ tYes σ2 H2 fun b H3 =>
        if b = true then te σ2 H3 fun y H4 => ∃ acc, H4 D = some (.lst acc) ∧ acc.length < sizeLine ∧ Nx (L2.upd H4 D (.lst (acc ++ [y]))) else Nx H3) := by
  refine lc_tup (K := K) (a := a) (xs := xs) (fun i H => ∃ vs, Same H1 H ∧ H D = some (.lst vs) ∧ vs.length = i ∧ (∀ (j : Nat) v, vs[j]? = some v → R j H v)) ?_ ?_ ?_ ?_
  · exact ⟨[], Rd.Same.upd hD, upd_same, rfl, fun j v h => by simp at h⟩
  · rintro i H hi ⟨vs, s, _⟩
    exact SqT.kept hS s
  · rintro i x H hx ⟨vs, s, hDv, hlv, hg⟩
    refine ⟨by simp [wipe], hte i x H _ hx s fun v H' s' hv => ⟨vs, s' _ _ hDv, ?_, ?_⟩⟩
    · have : 100000 < sizeLine := by decide
      have := (List.getElem?_eq_some_iff.mp hx).1
      omega
    · have hDv' := s' _ _ hDv
      refine ⟨vs ++ [v], fun c o e => ?_, upd_same, by rw [List.length_append, hlv]; rfl, fun j v' hv' => ?_⟩
      · rw [upd_ne (ne_of_none e hD)]
        exact s' c o (s c o e)
      · have kp := Kp.upd_lst (C := C) (ys := vs ++ [v]) hDv'
        by_cases hj : j < vs.length
        · rw [List.getElem?_append_left hj] at hv'
          exact rm _ _ _ _ kp (rm _ _ _ _ (Kp.of_same s') (hg j v' hv'))
        · have e : j = vs.length := by
            have := (List.getElem?_eq_some_iff.mp hv').1
            rw [List.length_append, List.length_singleton] at this
            omega
          subst e
          rw [List.getElem?_append_right (Nat.le_refl _), Nat.sub_self] at hv'
          have e2 : v = v' := Option.some.inj hv'
          rw [← e2, hlv]
          exact rm _ _ _ _ kp hv
  · rintro H ⟨vs, s, hDv, hlv, hg⟩
    exact hq vs H s hDv hlv hg
theorem q_starts (x : Str) : Txt.startswith ("?" ++ x) "?" = true := by
  rw [starts_q, app_list]
  have e2 : ("?" : Str).cps.toList = [63] := by decide +kernel
  exact ⟨_, by rw [e2]; rfl⟩
theorem q_tail2 (x : Str) : tailS ("?" ++ x) = x := by
  refine str_ext ?_
  rw [tailS_list, app_list]
  have e2 : ("?" : Str).cps.toList = [63] := by decide +kernel
  rw [e2]
  rfl
theorem atomOf_word {x : Str} (h : isWord x = true) : atomOf x = some (("word" : Str), x) := by rw [atomOf, if_pos h]
theorem atomOf_name {x : Str} (h : isName x = true) : atomOf x = some (("name" : Str), x) := by rw [atomOf, if_neg (by rw [word_noname h]; decide), if_pos h]
theorem atomOf_unk {x : Str} (h : isUnk x = true) : atomOf ("?" ++ x) = some (("unknown" : Str), x) := by
  have hw : ¬ isWord ("?" ++ x) = true := fun q => by
    obtain ⟨_, h2⟩ := He.ba q
    obtain ⟨_, h4⟩ := He.ba h2
    have e2 : ("?" : Str).cps.toList = [63] := by decide +kernel
    have := List.all_eq_true.mp h4 63 (by rw [app_list, e2]; exact List.mem_cons_self)
    have e3 : inS SMALL 63 = false := by decide +kernel
    rw [e3] at this
    cases this
  rw [atomOf, if_neg hw, if_neg (fun q => isName_first q (q_starts x)), q_starts, q_tail2, h]
  rfl
/-- Letter(text) of an atom's text -/
theorem rd_mkA {K : PySem.W.Frag} {H1 : Hp} {z k y : Str} {Q : VK} {E : XK} (hz : z.length ≤ 200000) (ha : atomOf z = some (k, y)) (kk : ∀ x H', Same H1 H' → IsLet K H' (.am k y) (.ref x) → Q (.ref x) H') :
    ∀ x dx, H1 x = none → H1 dx = none → dx ≠ x → sp_Linit K (.ref x :: ([.str z] ++ [.non])) (upd (upd H1 dx (.own x)) x (.ins (He.ga K "Letter") dx [])) (fun v H2 => v = .non ∧ Q (.ref x) H2) E := fun x dx nx ndx ne => by
  refine ⟨x, dx, z, .non, rfl, upd_same, .inr ⟨rfl, hz, fun k' y' p H' b' es np hp hx => ⟨rfl, ?_⟩, fun d H' b' en _ _ => ?_⟩⟩
  · rw [ha] at es
    cases es
    refine kk x H' (fun b o e => b' b o (ne_of_none e nx) ?_) ⟨x, .ref p, rfl, ⟨dx, hx⟩, p, rfl, hp⟩
    rw [upd_ne (ne_of_none e nx), upd_ne (ne_of_none e ndx)]
    exact e
  · rw [ha] at en
    cases en
def sp_letter (K : PySem.W.Frag) (d : Nat) : Sp := fun vs H Q _ => ∃ (v : V) (t : Tr), vs = [v] ∧ IsT H t v ∧ Wf t ∧ t.dep ≤ d ∧ ∀ v' H', Same H H' → IsLet K H' t v' → Q v' H'
def spLR (K : PySem.W.Frag) : Nat → Sp
  | 0 => fun _ _ _ _ => False
  | d + 1 => sp_letter K d
section
variable {P : Program} {w : World} {K : PySem.W.Frag} {mg : Str → Option Value} {base : Heap}
abbrev s__law_letter : Stmt := top 37
theorem sc__law_letter : FnScope ["_law_form_here", "_law_inner", "_law_part"] ["_law_form_here"] (defScope s__law_letter) := ⟨rfl, rfl, rfl, by decide +kernel, rfl, by decide +kernel, by decide +kernel⟩
theorem letter_step (T : Tx w K mg) (d : Nat) (ih : Fk P w K mg base CX0 (d + 7) "_law_letter" ["_law_form_here"] (spLR K d)) : Fk P w K mg base CX0 (d + 8) "_law_letter" ["_law_form_here"] (sp_letter K d) := by
  refine T.F__law_letter.ok0 sc__law_letter (fun _ _ _ _ _ _ us hl => match us, hl with | [_], _ => rfl)
    (fun vs H Q E h => ?_) (fun cdv A outer s H vs Q E hr h => ?_)
  · obtain ⟨v, t, rfl, _⟩ := h
    rfl
  · obtain ⟨v, t, rfl, it, wf, dp, k⟩ := h
    skip
    refine ⟨_, (pss_cons (ps_if (pt_cmpR op_eq (pe_ix ix_tup (pv 0) pe_int (fun _ _ => rfl)) pe_str (nomark _))
  (pss_one (ps_ret (pe_mk1 (ok_Letter T) (hr.mono (by omega)) (by rfl) passN (pa_cons (pe_op op_add_str pe_str (pe_ix ix_tup (pv 0) pe_int (fun _ _ => rfl))) pa_nil))))
  pss_nil)
  (pss_cons (ps_if (pt_cmpR op_inT (pe_ix ix_tup (pv 0) pe_int (fun _ _ => rfl)) (pe_tup (pa_cons pe_str (pa_cons pe_str pa_nil))) (by rfl))
  (pss_one (ps_ret (pe_mk1 (ok_Letter T) (hr.mono (by omega)) (by rfl) passN (pa_cons (pe_ix ix_tup (pv 0) pe_int (fun _ _ => rfl)) pa_nil))))
  pss_nil)
  (pss_cons (ps_setLc (i := 1) (own := [("_law_part", 2)]) (g := gName 2) (tt := tYes) (by rfl) sc__law_letter.nd rfl rfl (sw_true rfl rfl rfl (by decide +kernel)) (pi_tup (pe_slice sl_tup (pv 0) (po_some pe_int) po_none)) (blkOk_by (own := [("_law_part", 2)]) (N := ["_law_form_here", "_law_inner", "_law_part"]) (sc := defScope s__law_letter) (by decide +kernel)) (fun _ _ _ _ _ => (pg_name (i := 2) sc__law_letter.nd rfl (Or.inl rfl))) (fun _ _ _ _ _ => pts_nil) (fun _ _ _ _ _ => (pe_fk ih (hr.mono (by omega)) rfl pass0 (pa_cons (pv 2) pa_nil))))
  (pss_cons (ps_if (pt_cmpR op_eq (pe_ix ix_tup (pv 0) pe_int (fun _ _ => rfl)) pe_str (nomark _))
  (pss_one (ps_ret (pe_bo (pe_ix ix_list (pv 1) pe_int (fun _ _ => rfl)) (pe_ix ix_list (pv 1) pe_int (fun _ _ => rfl)) T.f_Letter (ok_Ladd T) (hr.mono (by omega)) (fun _ => at0))))
  pss_nil)
  (pss_cons (ps_if (pt_cmpR op_eq (pe_ix ix_tup (pv 0) pe_int (fun _ _ => rfl)) pe_str (nomark _))
  (pss_one (ps_ret (pe_bo (pe_ix ix_list (pv 1) pe_int (fun _ _ => rfl)) (pe_ix ix_list (pv 1) pe_int (fun _ _ => rfl)) T.f_Letter (ok_Lmul T) (hr.mono (by omega)) (fun _ => at0))))
  pss_nil)
  (pss_cons (ps_if (pt_cmpR op_eq (pe_ix ix_tup (pv 0) pe_int (fun _ _ => rfl)) pe_str (nomark _))
  (pss_one (ps_ret (pe_bo (pe_ix ix_list (pv 1) pe_int (fun _ _ => rfl)) (pe_ix ix_list (pv 1) pe_int (fun _ _ => rfl)) T.f_Letter (ok_Lxor T) (hr.mono (by omega)) (fun _ => atN))))
  pss_nil)
  (pss_cons (ps_if (pt_cmpR op_eq (pe_ix ix_tup (pv 0) pe_int (fun _ _ => rfl)) pe_str (nomark _))
  (pss_one (ps_ret (pe_uo (pe_ix ix_list (pv 1) pe_int (fun _ _ => rfl)) (ok_Linvert T) (hr.mono (by omega)) (fun _ => at0) (.inl ⟨rfl, rfl⟩))))
  pss_nil)
  (pss_one (ps_ret (pe_ifExp (pt_cmpR op_eq (pe_ix ix_tup (pv 0) pe_int (fun _ _ => rfl)) pe_str (nomark _)) (pe_uo (pe_ix ix_list (pv 1) pe_int (fun _ _ => rfl)) (ok_Lpos T) (hr.mono (by omega)) (fun _ => at0) (.inr (.inl ⟨rfl, rfl⟩))) (pe_uo (pe_ix ix_list (pv 1) pe_int (fun _ _ => rfl)) (ok_Lneg T) (hr.mono (by omega)) (fun _ => at0) (.inr (.inr ⟨rfl, rfl⟩))))))))))))), ?_⟩
    by_cases hpt : t.parts ≠ []
    · obtain ⟨hsg, hws⟩ := wf.sign hpt
      obtain ⟨p, us, rfl, hp, hlu, hl2, hne, hus⟩ := it.parts hpt
      have h3 : ¬ decide (t.head ∈ (["word", "name"] : List Str)) = true := by
        have : ∀ z ∈ (["mark", "open", "own", "pair", "seal", "lock"] : List Str), ¬ decide (z ∈ (["word", "name"] : List Str)) = true := by decide +kernel
        exact this _ hsg
      have h4 : ¬ decide (V.str t.head = V.str "unknown") = true := by
        have : ∀ z ∈ (["mark", "open", "own", "pair", "seal", "lock"] : List Str), ¬ decide (V.str z = V.str "unknown") = true := by decide +kernel
        exact this _ hsg
      refine ⟨_, rfl, p, _, _, _, rfl, rfl, SqT.of hp, at_of (j := 0) rfl rfl, rfl, _, rfl, iteN h4 ?_⟩
      refine ⟨_, rfl, p, _, _, _, rfl, rfl, SqT.of hp, at_of (j := 0) rfl rfl, (by show 2 ≤ sizeLine; decide), fun q hq => ?_⟩
      have sq := Rd.Same.upd (o := .tup [.str "word", .str "name"]) hq
      refine ⟨_, q, ["word", "name"], rfl, rfl, SqT.of upd_same, _, rfl, iteN h3 ?_⟩
      refine ⟨_, rfl, _, rfl, p, _, rfl, SqT.of (sq _ _ hp), ?_, fun p2 hp2 => ?_⟩
      · rintro ⟨z, _⟩
        rw [show (1 : Int) = ((1 : Nat) : Int) from rfl, HT.sIx_nat, List.length_cons] at z
        omega
      rw [cut1]
      have sq2 := sq.trans (Rd.Same.upd (o := .tup us) hp2)
      refine ⟨p2, rfl, ⟨_, SqT.of upd_same⟩, fun D hD => ?_⟩
      refine lct (C := He.ga K "Letter") (fun i H v => ∃ r, t.parts[i]? = some r ∧ IsLet K H r v) (fun i H H' v kp ⟨r, h1, h2⟩ => ⟨r, h1, h2.mono kp⟩) (SqT.of upd_same) (by omega) hD (fun i x H1 Q1 hx s1 k1 => ?_) fun vs H1 s1 hD1 hlv hvs => ?_
      · obtain ⟨r, hr1, hr2⟩ := hus i x hx
        obtain ⟨w1, w2⟩ := hws r (List.mem_of_getElem? hr1)
        cases d with
        | zero => exact absurd dp (by omega)
        | succ d =>
          exact ⟨_, rfl, x, r, rfl, hr2.same (sq2.trans s1), w1, (by omega), fun v' H' s' h' => k1 v' H' s' ⟨r, hr1, h'⟩⟩
      · have s2 := sq2.trans s1
        have hp1 := s2 _ _ hp
        refine gName_k ?_
        try dsimp only
        cases wf with
        | am => exact absurd rfl hpt
        | @un s0 a0 hs wf0 =>
          obtain ⟨v1, rfl⟩ : ∃ v1, vs = [v1] := by
            match vs, hlv.trans hlu with
            | [v1], _ => exact ⟨v1, rfl⟩
          obtain ⟨r, hr1, x1, u1, rfl, ⟨dx1, hx1⟩, hT1⟩ := hvs 0 v1 rfl
          cases hr1
          rcases List.mem_cons.mp hs with rfl | hs
          · have hp1 : H1 p = some (.tup (.str "mark" :: us)) := hp1
            refine ⟨_, rfl, p, _, _, _, rfl, rfl, SqT.of hp1, at_of (j := 0) rfl rfl, rfl, _, rfl, iteN (by decide +kernel) ?_⟩
            refine ⟨_, rfl, p, _, _, _, rfl, rfl, SqT.of hp1, at_of (j := 0) rfl rfl, rfl, _, rfl, iteN (by decide +kernel) ?_⟩
            refine ⟨_, rfl, p, _, _, _, rfl, rfl, SqT.of hp1, at_of (j := 0) rfl rfl, rfl, _, rfl, iteN (by decide +kernel) ?_⟩
            refine ⟨_, rfl, p, _, _, _, rfl, rfl, SqT.of hp1, at_of (j := 0) rfl rfl, rfl, _, rfl, iteP (by decide +kernel) ?_⟩
            refine ⟨_, rfl, D, _, _, _, rfl, rfl, SqL.of hD1, at_of (j := 0) rfl rfl, x1, dx1, _, rfl, hx1, x1, u1, rfl, ⟨dx1, hx1⟩, fun x q H' s' hl hq' => ?_⟩
            exact k _ H' (s2.trans s') ⟨x, _, rfl, hl, q, u1, rfl, hq', hT1.same s'⟩
          rcases List.mem_cons.mp hs with rfl | hs
          · have hp1 : H1 p = some (.tup (.str "open" :: us)) := hp1
            refine ⟨_, rfl, p, _, _, _, rfl, rfl, SqT.of hp1, at_of (j := 0) rfl rfl, rfl, _, rfl, iteN (by decide +kernel) ?_⟩
            refine ⟨_, rfl, p, _, _, _, rfl, rfl, SqT.of hp1, at_of (j := 0) rfl rfl, rfl, _, rfl, iteN (by decide +kernel) ?_⟩
            refine ⟨_, rfl, p, _, _, _, rfl, rfl, SqT.of hp1, at_of (j := 0) rfl rfl, rfl, _, rfl, iteN (by decide +kernel) ?_⟩
            refine ⟨_, rfl, p, _, _, _, rfl, rfl, SqT.of hp1, at_of (j := 0) rfl rfl, rfl, _, rfl, iteN (by decide +kernel) ?_⟩
            refine ⟨_, rfl, p, _, _, _, rfl, rfl, SqT.of hp1, at_of (j := 0) rfl rfl, rfl, _, rfl, iteP (by decide +kernel) ?_⟩
            refine ⟨_, rfl, D, _, _, _, rfl, rfl, SqL.of hD1, at_of (j := 0) rfl rfl, x1, dx1, _, rfl, hx1, x1, u1, rfl, ⟨dx1, hx1⟩, fun x q H' s' hl hq' => ?_⟩
            exact k _ H' (s2.trans s') ⟨x, _, rfl, hl, q, u1, rfl, hq', hT1.same s'⟩
          cases List.mem_singleton.mp hs
          have hp1 : H1 p = some (.tup (.str "own" :: us)) := hp1
          refine ⟨_, rfl, p, _, _, _, rfl, rfl, SqT.of hp1, at_of (j := 0) rfl rfl, rfl, _, rfl, iteN (by decide +kernel) ?_⟩
          refine ⟨_, rfl, p, _, _, _, rfl, rfl, SqT.of hp1, at_of (j := 0) rfl rfl, rfl, _, rfl, iteN (by decide +kernel) ?_⟩
          refine ⟨_, rfl, p, _, _, _, rfl, rfl, SqT.of hp1, at_of (j := 0) rfl rfl, rfl, _, rfl, iteN (by decide +kernel) ?_⟩
          refine ⟨_, rfl, p, _, _, _, rfl, rfl, SqT.of hp1, at_of (j := 0) rfl rfl, rfl, _, rfl, iteN (by decide +kernel) ?_⟩
          refine ⟨_, rfl, p, _, _, _, rfl, rfl, SqT.of hp1, at_of (j := 0) rfl rfl, rfl, _, rfl, iteN (by decide +kernel) ?_⟩
          refine ⟨_, rfl, D, _, _, _, rfl, rfl, SqL.of hD1, at_of (j := 0) rfl rfl, x1, dx1, _, rfl, hx1, x1, u1, rfl, ⟨dx1, hx1⟩, fun x q H' s' hl hq' => ?_⟩
          exact k _ H' (s2.trans s') ⟨x, _, rfl, hl, q, u1, rfl, hq', hT1.same s'⟩
        | @bi s0 a0 b0 hs wfa wfb =>
          obtain ⟨v1, v2, rfl⟩ : ∃ v1 v2, vs = [v1, v2] := by
            match vs, hlv.trans hlu with
            | [v1, v2], _ => exact ⟨v1, v2, rfl⟩
          obtain ⟨r, hr1, x1, u1, rfl, ⟨dx1, hx1⟩, hT1⟩ := hvs 0 v1 rfl
          cases hr1
          obtain ⟨r, hr1, x2, u2, rfl, ⟨dx2, hx2⟩, hT2⟩ := hvs 1 v2 rfl
          cases hr1
          rcases List.mem_cons.mp hs with rfl | hs
          · have hp1 : H1 p = some (.tup (.str "pair" :: us)) := hp1
            refine ⟨_, rfl, p, _, _, _, rfl, rfl, SqT.of hp1, at_of (j := 0) rfl rfl, rfl, _, rfl, iteP (by decide +kernel) ?_⟩
            refine ⟨_, rfl, D, _, _, _, rfl, rfl, SqL.of hD1, at_of (j := 0) rfl rfl, _, rfl, D, _, _, _, rfl, rfl, SqL.of hD1, at_of (j := 1) rfl rfl, x1, x2, dx1, dx2, _, _, rfl, rfl, hx1, hx2, x1, x2, u1, u2, rfl, ⟨dx1, hx1⟩, ⟨dx2, hx2⟩, fun x q H' s' hl hq' => ?_⟩
            exact k _ H' (s2.trans s') ⟨x, _, rfl, hl, q, u1, u2, rfl, hq', hT1.same s', hT2.same s'⟩
          cases List.mem_singleton.mp hs
          have hp1 : H1 p = some (.tup (.str "seal" :: us)) := hp1
          refine ⟨_, rfl, p, _, _, _, rfl, rfl, SqT.of hp1, at_of (j := 0) rfl rfl, rfl, _, rfl, iteN (by decide +kernel) ?_⟩
          refine ⟨_, rfl, p, _, _, _, rfl, rfl, SqT.of hp1, at_of (j := 0) rfl rfl, rfl, _, rfl, iteP (by decide +kernel) ?_⟩
          refine ⟨_, rfl, D, _, _, _, rfl, rfl, SqL.of hD1, at_of (j := 0) rfl rfl, _, rfl, D, _, _, _, rfl, rfl, SqL.of hD1, at_of (j := 1) rfl rfl, x1, x2, dx1, dx2, _, _, rfl, rfl, hx1, hx2, x1, x2, u1, u2, rfl, ⟨dx1, hx1⟩, ⟨dx2, hx2⟩, fun x q H' s' hl hq' => ?_⟩
          exact k _ H' (s2.trans s') ⟨x, _, rfl, hl, q, u1, u2, rfl, hq', hT1.same s', hT2.same s'⟩
        | @lk s0 a0 b0 hs wfa wfb =>
          obtain ⟨v1, v2, rfl⟩ : ∃ v1 v2, vs = [v1, v2] := by
            match vs, hlv.trans hlu with
            | [v1, v2], _ => exact ⟨v1, v2, rfl⟩
          obtain ⟨r, hr1, x1, u1, rfl, ⟨dx1, hx1⟩, hT1⟩ := hvs 0 v1 rfl
          cases hr1
          obtain ⟨r, hr1, x2, u2, rfl, ⟨dx2, hx2⟩, hT2⟩ := hvs 1 v2 rfl
          cases hr1
          have hp1 : H1 p = some (.tup (.str "lock" :: us)) := hp1
          refine ⟨_, rfl, p, _, _, _, rfl, rfl, SqT.of hp1, at_of (j := 0) rfl rfl, rfl, _, rfl, iteN (by decide +kernel) ?_⟩
          refine ⟨_, rfl, p, _, _, _, rfl, rfl, SqT.of hp1, at_of (j := 0) rfl rfl, rfl, _, rfl, iteN (by decide +kernel) ?_⟩
          refine ⟨_, rfl, p, _, _, _, rfl, rfl, SqT.of hp1, at_of (j := 0) rfl rfl, rfl, _, rfl, iteP (by decide +kernel) ?_⟩
          refine ⟨_, rfl, D, _, _, _, rfl, rfl, SqL.of hD1, at_of (j := 0) rfl rfl, _, rfl, D, _, _, _, rfl, rfl, SqL.of hD1, at_of (j := 1) rfl rfl, x1, x2, dx1, dx2, _, _, rfl, rfl, hx1, hx2, x1, x2, u1, u2, _, rfl, ⟨dx1, hx1⟩, ⟨dx2, hx2⟩, hT2, fun _ x q H' s' hl hq' => ?_, fun hk => ?_⟩
          · exact k _ H' (s2.trans s') ⟨x, _, rfl, hl, q, u1, u2, rfl, hq', hT1.same s', hT2.same s'⟩
          · exact absurd (decide_eq_true hs) (by rw [isKey] at hk; rw [show decide (s0 ∈ (["open", "own"] : List Str)) = false from hk]; decide)
    cases wf with
    | @am k0 x0 ko =>
      obtain ⟨p, rfl, hp⟩ := it
      refine ⟨_, rfl, p, _, _, _, rfl, rfl, SqT.of hp, at_of (j := 0) rfl rfl, rfl, _, rfl, ?_⟩
      rcases ko with ⟨rfl, hx⟩ | ⟨rfl, hx⟩ | ⟨rfl, hx⟩
      · refine ite2 (fun h => absurd h (by decide +kernel)) (fun _ => ?_)
        refine ⟨_, rfl, p, _, _, _, rfl, rfl, SqT.of hp, at_of (j := 0) rfl rfl, (by show 2 ≤ sizeLine; decide), fun q hq => ?_⟩
        have sq := Rd.Same.upd (o := .tup [.str "word", .str "name"]) hq
        refine ⟨_, q, ["word", "name"], rfl, rfl, SqT.of upd_same, _, rfl, ite2 (fun _ => ?_) (fun h => absurd (by decide +kernel) h)⟩
        refine ⟨_, rfl, p, _, _, _, rfl, rfl, SqT.of (sq _ _ hp), at_of (j := 1) rfl rfl, ?_⟩
        exact rd_mkA (k := "word") (by have := (word_len hx); omega) (atomOf_word hx) fun x H' s' h' => k _ H' (sq.trans s') h'
      · refine ite2 (fun h => absurd h (by decide +kernel)) (fun _ => ?_)
        refine ⟨_, rfl, p, _, _, _, rfl, rfl, SqT.of hp, at_of (j := 0) rfl rfl, (by show 2 ≤ sizeLine; decide), fun q hq => ?_⟩
        have sq := Rd.Same.upd (o := .tup [.str "word", .str "name"]) hq
        refine ⟨_, q, ["word", "name"], rfl, rfl, SqT.of upd_same, _, rfl, ite2 (fun _ => ?_) (fun h => absurd (by decide +kernel) h)⟩
        refine ⟨_, rfl, p, _, _, _, rfl, rfl, SqT.of (sq _ _ hp), at_of (j := 1) rfl rfl, ?_⟩
        exact rd_mkA (k := "name") (by have := (name_len hx); omega) (atomOf_name hx) fun x H' s' h' => k _ H' (sq.trans s') h'
      · refine ite2 (fun _ => ?_) (fun h => absurd (by decide +kernel) h)
        have hl := unk_len hx
        have h1 : (("?" : Str) ++ x0).length ≤ 200000 := by
          have e : ("?" : Str).cps.toList.length = 1 := by decide +kernel
          have e2 := len_list x0
          rw [len_list, app_list, List.length_append]
          omega
        have h2 : ("?" : Str).length + x0.length ≤ sizeLine := by
          have e : ("?" : Str).length = 1 := by decide +kernel
          have : 200000 ≤ sizeLine := by decide
          omega
        refine ⟨_, rfl, p, _, _, _, rfl, rfl, SqT.of hp, at_of (j := 1) rfl rfl, _, _, rfl, rfl, h2, ?_⟩
        exact rd_mkA (k := "unknown") h1 (atomOf_unk hx) fun x H' s' h' => k _ H' s' h'
    | _ => exact absurd (fun e => by cases e) hpt
theorem letter_none (T : Tx w K mg) : Fk P w K mg base CX0 1 "_law_letter" ["_law_form_here"] (spLR K 0) := by
  refine T.F__law_letter.ok0 sc__law_letter (fun _ _ _ _ _ _ us hl => match us, hl with | [_], _ => rfl) (fun vs H Q E h => h.elim) (fun cdv A outer s H vs Q E hr h => h.elim)
theorem ok__law_letter (T : Tx w K mg) : ∀ d : Nat, Fk P w K mg base CX0 (d + 8) "_law_letter" ["_law_form_here"] (sp_letter K d)
  | 0 => letter_step T 0 ((letter_none T).mono (by decide))
  | d + 1 => letter_step T (d + 1) (ok__law_letter T d)
end
end Rd
namespace Rd
open PySem L2
/-! ### forms as plain data -/
def dat : Tr → PyData
  | .am k x => .tuple [.str k, .str x]
  | .un s a => .tuple [.str s, dat a]
  | .bi s a b => .tuple [.str s, dat a, dat b]
theorem IsT.dp {K : PySem.W.Frag} {H : Hp} : ∀ {t : Tr} {v : V}, IsT H t v → Dp K H v (dat t)
  | .am _ _, _, ⟨p, e, h⟩ => by subst e; exact .tup (SqT.of h) (.cons (.str _) (.cons (.str _) .nil))
  | .un _ _, _, ⟨p, u, e, h, h1⟩ => by subst e; exact .tup (SqT.of h) (.cons (.str _) (.cons (IsT.dp h1) .nil))
  | .bi _ _ _, _, ⟨p, u1, u2, e, h, h1, h2⟩ => by subst e; exact .tup (SqT.of h) (.cons (.str _) (.cons (IsT.dp h1) (.cons (IsT.dp h2) .nil)))
def Tr.fine : Tr → Prop
  | .am k x => okS k ∧ okS x
  | .un s a => okS s ∧ a.fine
  | .bi s a b => okS s ∧ a.fine ∧ b.fine
theorem okS_of {l : List Str} {z : Str} (h : l.all (fun y => y.cps.toList.all (fun c => decide (c < 1114112))) = true) (hz : z ∈ l) : okS z := by
  exact okS_by (List.all_eq_true.mp h z hz)
theorem dat_lay : ∀ {t : Tr}, t.fine → (dat t).canLay0 = true
  | .am k x, ⟨h1, h2⟩ => by
    show (PySem.PyData.strOk k && (PySem.PyData.strOk x && true)) = true
    rw [strOk_of h1, strOk_of h2]
    rfl
  | .un s a, ⟨h1, h2⟩ => by
    show (PySem.PyData.strOk s && ((dat a).canLay0 && true)) = true
    rw [strOk_of h1, dat_lay h2]
    rfl
  | .bi s a b, ⟨h1, h2, h3⟩ => by
    show (PySem.PyData.strOk s && ((dat a).canLay0 && ((dat b).canLay0 && true))) = true
    rw [strOk_of h1, dat_lay h2, dat_lay h3]
    rfl
theorem dat_dep : ∀ {t : Tr}, (dat t).depth ≤ t.dep + 1
  | .am k x => by show max 0 (max 0 0) + 1 ≤ 0 + 1; decide
  | .un s a => by
    show max 0 (max (dat a).depth 0) + 1 ≤ a.dep + 1 + 1
    have := dat_dep (t := a)
    omega
  | .bi s a b => by
    show max 0 (max (dat a).depth (max (dat b).depth 0)) + 1 ≤ max a.dep b.dep + 1 + 1
    have := dat_dep (t := a)
    have := dat_dep (t := b)
    omega
theorem dat_shaped {t : Tr} (h : t.fine) (hd : t.dep ≤ 60) : SeqAt.shaped (dat t) = true := by
  have := dat_dep (t := t)
  show ((dat t).canLay0 && decide ((dat t).depth ≤ 64)) = true
  rw [dat_lay h, decide_eq_true (by omega)]
  rfl
theorem kindOk.fine {k x : Str} (h : kindOk k x) : okS k ∧ okS x := by
  rcases h with ⟨rfl, h⟩ | ⟨rfl, h⟩ | ⟨rfl, h⟩
  · exact ⟨okS_of (l := ["word"]) (by decide +kernel) List.mem_cons_self, (word_len h).2.2⟩
  · exact ⟨okS_of (l := ["name"]) (by decide +kernel) List.mem_cons_self, (name_len h).2⟩
  · exact ⟨okS_of (l := ["unknown"]) (by decide +kernel) List.mem_cons_self, (unk_len h).2.2⟩
theorem Wf.fine {t : Tr} (h : Wf t) : t.fine := by
  induction h with
  | am h => exact h.fine
  | un hs _ ih => exact ⟨okS_of (by decide +kernel) hs, ih⟩
  | bi hs _ _ ih1 ih2 => exact ⟨okS_of (by decide +kernel) hs, ih1, ih2⟩
  | lk hs _ _ ih1 ih2 => exact ⟨okS_of (l := ["lock"]) (by decide +kernel) List.mem_cons_self, ih1, okS_of (by decide +kernel) hs, ih2⟩
/-- x != y of equal forms -/
theorem rd_neT {K : PySem.W.Frag} {H : Hp} {t : Tr} {v u : V} {Q : VK} (ht : t.fine) (hd : t.dep ≤ 60) (h1 : IsT H t v) (h2 : IsT H t u) (q : Q (.bl false) H) : rNeD K v u H Q := by
  refine ⟨dat t, dat t, h1.dp, h2.dp, dat_shaped ht hd, dat_shaped ht hd, ?_⟩
  rw [SeqAt.eqv_refl _ (dat_lay ht)]
  exact q
/-- a form drawn over a written list of unknowns -/
theorem rd_form {d n : Nat} {p : Addr} {H : Hp} {xs us : List V} {Q : VK} (hp : H p = some (.lst xs)) (hx : StL (n + dr d) xs) (hU : unkL us)
    (k : ∀ t v ys H', But p H H' → H' p = some (.lst ys) → StL n ys → Wf t → dpN d us t → IsT H' t v → Q v H') : us.length ≤ sizeLine ∧ ∀ q, H q = none → sp_drawnForm d [.ref p, .ref q, .int d] (upd H q (.lst us)) Q E0 := by
  refine ⟨?_, fun q hq => ?_⟩
  · have := hU.1
    have : 100 ≤ sizeLine := by decide
    omega
  · have nqp : q ≠ p := fun z => by rw [z, hp] at hq; cases hq
    exact ⟨p, q, xs, us, n, rfl, by rw [upd_ne (Ne.symm nqp)]; exact hp, hx, nqp, upd_same, hU, fun t v ys H' b h1 h2 h3 h4 h5 => k t v ys H' ((But.new hq).trans b) h1 h2 h3 h4 h5⟩
theorem unkOk {l : List Str} (h : l.all isUnk = true) (hl : l.length ≤ 100) : unkL (l.map V.str) := by
  refine ⟨by rw [List.length_map]; exact hl, fun v hv => ?_⟩
  obtain ⟨z, hz, rfl⟩ := List.mem_map.mp hv
  exact ⟨z, rfl, List.all_eq_true.mp h z hz⟩
theorem seqJoin {s1 rest : TS} {D : Ends} {σ : St} {H : Hp} (R : St → Hp → Prop) (h : ∀ K : St → Hp → Prop, (∀ σ' H', R σ' H' → K σ' H') → s1 { D with nx := K } σ H) (hR : ∀ σ' H', R σ' H' → rest D σ' H') : tSeq s1 rest D σ H := h _ hR
theorem But.fresh {p : Addr} {H0 H H' : Hp} (s : Same H0 H) (n : H0 p = none) (b : But p H H') : Same H0 H' := fun c o e => b c o (ne_of_none e n) (s c o e)
theorem SqL.kept {K : PySem.W.Frag} {H H' : Hp} {a : Addr} {xs : List V} (h : SqL K H a xs) (s : Same H H') : SqL K H' a xs := by
  rcases h with (h | ⟨n, h⟩) | h
  · exact .inl (.inl (s _ _ h))
  · exact .inl (.inr ⟨n, s _ _ h⟩)
  · exact .inr h
section
variable {P : Program} {w : World} {K : PySem.W.Frag} {mg : Str → Option Value} {base : Heap}
theorem ok_formH (T : Tx w K mg) : FmH P w K mg base CX0 1 "Letter" "form" ["self"] (sp_form K) := by
  refine T.M_Letter_form.okH sc_Letter_form (fun _ _ _ _ _ _ us hl => match us, hl with | [_], _ => rfl)
    (fun vs H Q E h => ?_) (fun cdv A outer s H vs Q E pp hp hr h => ?_)
  · obtain ⟨a, v, rfl, _⟩ := h
    rfl
  · obtain ⟨a, v, rfl, ⟨dx, ha⟩, k⟩ := h
    refine ⟨_, (pss_one (ps_ret (pe_fld (pv 0) rfl))), ?_⟩
    exact ⟨_, rfl, a, _, dx, _, v, rfl, ha, T.k_Letter, T.n_Letter_tree, look1 _, k⟩
end
end Rd
namespace Rd
open PySem L2
theorem Wf.parts_wf {t : Tr} (h : Wf t) : ∀ u ∈ t.parts, Wf u := by
  by_cases hp : t.parts ≠ []
  · exact fun u hu => ((h.sign hp).2 u hu).1
  · intro u hu
    cases t with
    | am => cases hu
    | un => exact absurd (fun e => by cases e) hp
    | bi => exact absurd (fun e => by cases e) hp
/-! ### all parts of a form -/
def Tr.all : Tr → List Tr
  | .am k x => [.am k x]
  | .un s a => .un s a :: a.all
  | .bi s a b => .bi s a b :: (a.all ++ b.all)
theorem all_len : ∀ t : Tr, t.all.length + 1 ≤ 2 ^ (t.dep + 1)
  | .am k x => by show 1 + 1 ≤ 2 ^ 1; decide
  | .un s a => by
    have := all_len a
    show a.all.length + 1 + 1 ≤ 2 ^ (a.dep + 1 + 1)
    rw [Nat.pow_succ]
    have : 1 ≤ 2 ^ (a.dep + 1) := Nat.one_le_two_pow
    omega
  | .bi s a b => by
    have h1 := all_len a
    have h2 := all_len b
    show (a.all ++ b.all).length + 1 + 1 ≤ 2 ^ (max a.dep b.dep + 1 + 1)
    rw [List.length_append, Nat.pow_succ]
    have e1 : 2 ^ (a.dep + 1) ≤ 2 ^ (max a.dep b.dep + 1) := Nat.pow_le_pow_right (by decide) (by omega)
    have e2 : 2 ^ (b.dep + 1) ≤ 2 ^ (max a.dep b.dep + 1) := Nat.pow_le_pow_right (by decide) (by omega)
    omega
theorem all_parts (t : Tr) : t.all = t :: t.parts.flatMap Tr.all := by
  cases t with
  | am k x => rfl
  | un s a => show _ :: a.all = _ :: (a.all ++ []); rw [List.append_nil]
  | bi s a b => show _ :: (a.all ++ b.all) = _ :: (a.all ++ (b.all ++ [])); rw [List.append_nil]
theorem all_wf {t : Tr} (h : Wf t) : ∀ u ∈ t.all, Wf u ∧ u.dep ≤ t.dep := by
  induction t with
  | am k x => intro u hu; rw [List.mem_singleton.mp hu]; exact ⟨h, Nat.le_refl _⟩
  | un s a ih =>
    intro u hu
    rcases List.mem_cons.mp hu with rfl | hu
    · exact ⟨h, Nat.le_refl _⟩
    · have := ih (h.parts_wf a List.mem_cons_self) u hu
      exact ⟨this.1, by show _ ≤ a.dep + 1; omega⟩
  | bi s a b iha ihb =>
    intro u hu
    rcases List.mem_cons.mp hu with rfl | hu
    · exact ⟨h, Nat.le_refl _⟩
    · rcases List.mem_append.mp hu with hu | hu
      · have := iha (h.parts_wf a List.mem_cons_self) u hu
        exact ⟨this.1, by show _ ≤ max a.dep b.dep + 1; omega⟩
      · have := ihb (h.parts_wf b (List.mem_cons_of_mem _ List.mem_cons_self)) u hu
        exact ⟨this.1, by show _ ≤ max a.dep b.dep + 1; omega⟩
/-- values that are the forms ts, one behind another -/
structure TsAt (H : Hp) (ts : List Tr) (vs : List V) : Prop where
  len : vs.length = ts.length
  get : ∀ (i : Nat) t v, ts[i]? = some t → vs[i]? = some v → IsT H t v
theorem TsAt.mono {C : Addr} {H H' : Hp} {ts : List Tr} {vs : List V} (k : Kp C H H') (h : TsAt H ts vs) : TsAt H' ts vs := ⟨h.len, fun i t v h1 h2 => (h.get i t v h1 h2).mono k⟩
theorem TsAt.same {H H' : Hp} {ts : List Tr} {vs : List V} (s : Same H H') (h : TsAt H ts vs) : TsAt H' ts vs := h.mono (C := 0) (Kp.of_same s)
theorem TsAt.one {H : Hp} {t : Tr} {v : V} (h : IsT H t v) : TsAt H [t] [v] := ⟨rfl, fun i t' v' h1 h2 => by
  cases i with
  | zero => cases h1; cases h2; exact h
  | succ i => cases i <;> cases h1⟩
theorem TsAt.app {H : Hp} {ts us : List Tr} {vs ws : List V} (h : TsAt H ts vs) (g : TsAt H us ws) : TsAt H (ts ++ us) (vs ++ ws) := ⟨by rw [List.length_append, List.length_append, h.len, g.len], fun i t v h1 h2 => by
  by_cases hi : i < ts.length
  · rw [List.getElem?_append_left hi] at h1
    rw [List.getElem?_append_left (by rw [h.len]; exact hi)] at h2
    exact h.get i t v h1 h2
  · rw [List.getElem?_append_right (by omega)] at h1
    rw [List.getElem?_append_right (by rw [h.len]; omega), h.len] at h2
    exact g.get _ t v h1 h2⟩
theorem TsAt.mem {H : Hp} {ts : List Tr} {vs : List V} (h : TsAt H ts vs) {v : V} (hv : v ∈ vs) : ∃ t ∈ ts, IsT H t v := by
  obtain ⟨i, hi⟩ := List.mem_iff_getElem?.mp hv
  have hl := (List.getElem?_eq_some_iff.mp hi).1
  rw [h.len] at hl
  exact ⟨_, List.getElem_mem hl, h.get i _ v (List.getElem?_eq_getElem hl) hi⟩
theorem TsAt.at_ {H : Hp} {ts : List Tr} {vs : List V} (h : TsAt H ts vs) {i : Nat} {v : V} (hv : vs[i]? = some v) : ∃ t, ts[i]? = some t ∧ IsT H t v := by
  have hl := (List.getElem?_eq_some_iff.mp hv).1
  rw [h.len] at hl
  exact ⟨_, List.getElem?_eq_getElem hl, h.get i _ v (List.getElem?_eq_getElem hl) hv⟩
def sp_parts (d : Nat) : Sp := fun vs H Q _ => ∃ (v : V) (t : Tr), vs = [v] ∧ IsT H t v ∧ Wf t ∧ t.dep ≤ d ∧ d ≤ 12 ∧ ∀ p ws H', Same H H' → H p = none → H' p = some (.lst ws) → TsAt H' t.all ws → Q (.ref p) H'
def spPR : Nat → Sp
  | 0 => fun _ _ _ _ => False
  | d + 1 => sp_parts d
/-- the loop over a form's parts: p holds what is found, p2 the parts -/
structure PInv (H0 : Hp) (p p2 : Addr) (us : List V) (t : Tr) (i : Nat) (H : Hp) : Prop where
  same : Same H0 H
  free : H0 p = none
  tup : H p2 = some (.tup us)
  found : ∃ ws, H p = some (.lst ws) ∧ TsAt H (t :: (t.parts.take i).flatMap Tr.all) ws
theorem take_flat {l : List Tr} {i : Nat} {r : Tr} (h : l[i]? = some r) : (l.take (i + 1)).flatMap Tr.all = (l.take i).flatMap Tr.all ++ r.all := by
  rw [List.take_add_one, h, List.flatMap_append]
  simp
theorem flat_le {t : Tr} (i : Nat) : ((t.parts.take i).flatMap Tr.all).length + 1 ≤ t.all.length := by
  rw [all_parts t, List.length_cons]
  have e : t.parts.flatMap Tr.all = (t.parts.take i).flatMap Tr.all ++ (t.parts.drop i).flatMap Tr.all := by rw [← List.flatMap_append, List.take_append_drop]
  rw [e, List.length_append]
  omega
/-- [e for x in a list], each item's value by R -/
theorem lcl {K : PySem.W.Frag} {C a D : Addr} {xs : List V} {te : TE} {i0 : Nat} {σ : St} {H1 : Hp} {Qd : Hp → Prop} (R : Nat → Hp → V → Prop) (rm : ∀ i H H' v, Kp C H H' → R i H v → R i H' v) (hS : SqL K H1 a xs) (hl : xs.length ≤ 100000) (hD : H1 D = none)
    (hte : ∀ (i : Nat) (x : V) (H : Hp) (Q : VK), xs[i]? = some x → Same H1 H → (∀ v H', Same H H' → R i H' v → Q v H') → te ((wipe σ [i0]).set i0 (some x)) H Q)
    (hq : ∀ vs H', Same H1 H' → H' D = some (.lst vs) → vs.length = xs.length → (∀ (i : Nat) v, vs[i]? = some v → R i H' v) → Qd H') :
    ∃ W : Nat → Nat → Hp → Prop, (∃ m, W 0 m (L2.upd H1 D (.lst []))) ∧ ∀ i m H, W i m H →
      ((Itl K a).stop i H ∧ Qd H) ∨ ((Itl K a).go i H ∧ ∃ Nx : Hp → Prop, (∀ H', Nx H' → ∃ m', m' < m ∧ W (i + 1) m' H') ∧ ∀ x H', (Itl K a).yld i H x H' → gName i0 x (wipe σ [i0]) H' fun σ2 H2 => wipe σ2 [i0] = wipe σ [i0] ∧ tYes σ2 H2 fun b H3 =>
        if b = true then te σ2 H3 fun y H4 => ∃ acc, H4 D = some (.lst acc) ∧ acc.length < sizeLine ∧ Nx (L2.upd H4 D (.lst (acc ++ [y]))) else Nx H3) := by
  refine lc_list (K := K) (a := a) (xs := xs) (fun i H => ∃ vs, Same H1 H ∧ H D = some (.lst vs) ∧ vs.length = i ∧ (∀ (j : Nat) v, vs[j]? = some v → R j H v)) ?_ ?_ ?_ ?_
  · exact ⟨[], Rd.Same.upd hD, upd_same, rfl, fun j v h => by simp at h⟩
  · rintro i H hi ⟨vs, s, _⟩
    exact SqL.kept hS s
  · rintro i x H hx ⟨vs, s, hDv, hlv, hg⟩
    refine ⟨by simp [wipe], hte i x H _ hx s fun v H' s' hv => ⟨vs, s' _ _ hDv, ?_, ?_⟩⟩
    · have : 100000 < sizeLine := by decide
      have := (List.getElem?_eq_some_iff.mp hx).1
      omega
    · have hDv' := s' _ _ hDv
      refine ⟨vs ++ [v], fun c o e => ?_, upd_same, by rw [List.length_append, hlv]; rfl, fun j v' hv' => ?_⟩
      · rw [upd_ne (ne_of_none e hD)]
        exact s' c o (s c o e)
      · have kp := Kp.upd_lst (C := C) (ys := vs ++ [v]) hDv'
        by_cases hj : j < vs.length
        · rw [List.getElem?_append_left hj] at hv'
          exact rm _ _ _ _ kp (rm _ _ _ _ (Kp.of_same s') (hg j v' hv'))
        · have e : j = vs.length := by
            have := (List.getElem?_eq_some_iff.mp hv').1
            rw [List.length_append, List.length_singleton] at this
            omega
          subst e
          rw [List.getElem?_append_right (Nat.le_refl _), Nat.sub_self] at hv'
          have e2 : v = v' := Option.some.inj hv'
          rw [← e2, hlv]
          exact rm _ _ _ _ kp hv
  · rintro H ⟨vs, s, hDv, hlv, hg⟩
    exact hq vs H s hDv hlv hg
/-- (a, b) != (c, d) of truths, all four known -/
theorem tb_pair {K : PySem.W.Frag} {e1 e2 e3 e4 : TE} {σ : St} {H : Hp} {b1 b2 : Bool} (h1 : ∀ H' Q, Same H H' → Q (.bl b1) H' → e1 σ H' Q) (h2 : ∀ H' Q, Same H H' → Q (.bl b2) H' → e2 σ H' Q) (h3 : ∀ H' Q, Same H H' → Q (.bl b1) H' → e3 σ H' Q) (h4 : ∀ H' Q, Same H H' → Q (.bl b2) H' → e4 σ H' Q) :
    TB (tTest (tOp (rNeD K) (tTup (tCons e1 (tCons e2 tNil))) (tTup (tCons e3 (tCons e4 tNil))))) σ H false := by
  intro Q k
  refine h1 H _ (Same.refl _) (h2 H _ (Same.refl _) ⟨(by show 2 ≤ sizeLine; decide), fun q hq => ?_⟩)
  have sq := Rd.Same.upd (o := .tup [.bl b1, .bl b2]) hq
  refine h3 _ _ sq (h4 _ _ sq ⟨(by show 2 ≤ sizeLine; decide), fun q2 hq2 => ?_⟩)
  have sq2 := Rd.Same.upd (o := .tup [.bl b1, .bl b2]) hq2
  have hd : SeqAt.shaped (.tuple [.bool b1, .bool b2]) = true := rfl
  refine ⟨.tuple [.bool b1, .bool b2], .tuple [.bool b1, .bool b2], .tup (SqT.of (sq2 _ _ upd_same)) (.cons (.bl _) (.cons (.bl _) .nil)), .tup (SqT.of upd_same) (.cons (.bl _) (.cons (.bl _) .nil)), hd, hd, _, rfl, ?_⟩
  rw [SeqAt.eqv_refl _ (SeqAt.canLay_of_shaped hd)]
  exact k _ (sq.trans sq2)
theorem at_end {xs : List V} {v : V} : atI (xs ++ [v]) (-1) = some v := by
  have e : ixN (xs ++ [v]).length (-1) = some xs.length := by
    unfold ixN
    rw [if_neg (by decide), List.length_append, List.length_singleton]
    rw [if_pos (by omega)]
    exact congrArg some (by omega)
  unfold atI
  rw [e]
  show (xs ++ [v])[xs.length]? = some v
  rw [List.getElem?_append_right (Nat.le_refl _), Nat.sub_self]
  rfl
end Rd
namespace Rd
open PySem L2
/-! ### equal forms, lists of forms and of texts as data -/
theorem eqv_dat : ∀ t u : Tr, PyData.eqv (dat t) (dat u) = decide (t = u)
  | .am k x, .am k' x' => by
    show ((k == k') && ((x == x') && true)) = _
    by_cases h : k = k'
    · subst h
      by_cases h2 : x = x'
      · subst h2
        simp
      · simp [h2]
    · simp [h]
  | .am k x, .un s a => by
    have e : PyData.eqv (.str x) (dat a) = false := by cases a <;> rfl
    show ((k == s) && (PyData.eqv (.str x) (dat a) && true)) = _
    rw [e]
    simp
  | .am k x, .bi s a b => by
    show ((k == s) && (PyData.eqv (.str x) (dat a) && false)) = _
    simp
  | .un s a, .am k x => by
    have e : PyData.eqv (dat a) (.str x) = false := by cases a <;> rfl
    show ((s == k) && (PyData.eqv (dat a) (.str x) && true)) = _
    rw [e]
    simp
  | .un s a, .un s' a' => by
    show ((s == s') && (PyData.eqv (dat a) (dat a') && true)) = _
    rw [eqv_dat a a']
    by_cases h : s = s'
    · subst h
      by_cases h2 : a = a'
      · subst h2
        simp
      · simp [h2]
    · simp [h]
  | .un s a, .bi s' a' b' => by
    show ((s == s') && (PyData.eqv (dat a) (dat a') && false)) = _
    simp
  | .bi s a b, .am k x => by
    show ((s == k) && (PyData.eqv (dat a) (.str x) && false)) = _
    simp
  | .bi s a b, .un s' a' => by
    show ((s == s') && (PyData.eqv (dat a) (dat a') && false)) = _
    simp
  | .bi s a b, .bi s' a' b' => by
    show ((s == s') && (PyData.eqv (dat a) (dat a') && (PyData.eqv (dat b) (dat b') && true))) = _
    rw [eqv_dat a a', eqv_dat b b']
    by_cases h : s = s'
    · subst h
      by_cases h2 : a = a'
      · subst h2
        by_cases h3 : b = b'
        · subst h3
          simp
        · simp [h3]
      · simp [h2]
    · simp [h]
theorem eqvAll_dat : ∀ ts us : List Tr, PyData.eqvAll (ts.map dat) (us.map dat) = decide (ts = us)
  | [], [] => rfl
  | [], u :: us => rfl
  | t :: ts, [] => rfl
  | t :: ts, u :: us => by
    show (PyData.eqv (dat t) (dat u) && PyData.eqvAll (ts.map dat) (us.map dat)) = _
    rw [eqv_dat, eqvAll_dat ts us]
    by_cases h : t = u
    · subst h
      by_cases h2 : ts = us
      · subst h2
        simp
      · simp [h2]
    · simp [h]
theorem eqvAll_str : ∀ xs ys : List Str, PyData.eqvAll (xs.map PyData.str) (ys.map PyData.str) = decide (xs = ys)
  | [], [] => rfl
  | [], u :: us => rfl
  | t :: ts, [] => rfl
  | t :: ts, u :: us => by
    show ((t == u) && PyData.eqvAll (ts.map PyData.str) (us.map PyData.str)) = _
    rw [eqvAll_str ts us]
    by_cases h : t = u
    · subst h
      by_cases h2 : ts = us
      · subst h2
        simp
      · simp [h2]
    · simp [h]
theorem dpAll_ts {K : PySem.W.Frag} {H : Hp} : ∀ {ts : List Tr} {vs : List V}, TsAt H ts vs → DpAll K H vs (ts.map dat)
  | [], [], _ => .nil
  | [], _ :: _, h => by cases h.len
  | _ :: _, [], h => by cases h.len
  | t :: ts, v :: vs, h => .cons (h.get 0 t v rfl rfl).dp (dpAll_ts (ts := ts) ⟨Nat.succ.inj h.len, fun i t' v' h1 h2 => h.get (i + 1) t' v' h1 h2⟩)
theorem dpAll_str {K : PySem.W.Frag} {H : Hp} : ∀ (xs : List Str), DpAll K H (xs.map V.str) (xs.map PyData.str)
  | [] => .nil
  | x :: xs => .cons (.str x) (dpAll_str xs)
theorem layAll_ts : ∀ {ts : List Tr}, (∀ t ∈ ts, t.fine) → PyData.canLayAll0 (ts.map dat) = true
  | [], _ => rfl
  | t :: ts, h => by
    show ((dat t).canLay0 && PyData.canLayAll0 (ts.map dat)) = true
    rw [dat_lay (h t List.mem_cons_self), layAll_ts fun u hu => h u (List.mem_cons_of_mem _ hu)]
    rfl
theorem depAll_ts {n : Nat} : ∀ {ts : List Tr}, (∀ t ∈ ts, t.dep ≤ n) → PyData.depthAll (ts.map dat) ≤ n + 1
  | [], _ => Nat.zero_le _
  | t :: ts, h => by
    show max (dat t).depth (PyData.depthAll (ts.map dat)) ≤ n + 1
    have h1 := dat_dep (t := t)
    have h2 := h t List.mem_cons_self
    have h3 := depAll_ts (n := n) fun u hu => h u (List.mem_cons_of_mem _ hu)
    omega
theorem ts_shaped {ts : List Tr} (h : ∀ t ∈ ts, t.fine ∧ t.dep ≤ 60) : SeqAt.shaped (.list (ts.map dat)) = true := by
  have h1 := layAll_ts fun t ht => (h t ht).1
  have h2 := depAll_ts fun t ht => (h t ht).2
  show (PyData.canLayAll0 (ts.map dat) && decide (PyData.depthAll (ts.map dat) + 1 ≤ 64)) = true
  rw [h1, decide_eq_true (by omega)]
  rfl
theorem str_shaped : ∀ {xs : List Str}, (∀ x ∈ xs, okS x) → SeqAt.shaped (.list (xs.map PyData.str)) = true := by
  intro xs h
  have h1 : ∀ {l : List Str}, (∀ x ∈ l, okS x) → PyData.canLayAll0 (l.map PyData.str) = true ∧ PyData.depthAll (l.map PyData.str) = 0 := by
    intro l
    induction l with
    | nil => exact fun _ => ⟨rfl, rfl⟩
    | cons x r ih =>
      intro h
      obtain ⟨a, b⟩ := ih fun y hy => h y (List.mem_cons_of_mem _ hy)
      refine ⟨?_, ?_⟩
      · show (PyData.strOk x && PyData.canLayAll0 (r.map PyData.str)) = true
        rw [strOk_of (h x List.mem_cons_self), a]
        rfl
      · show max 0 (PyData.depthAll (r.map PyData.str)) = 0
        rw [b]
        rfl
  obtain ⟨a, b⟩ := h1 h
  show (PyData.canLayAll0 (xs.map PyData.str) && decide (PyData.depthAll (xs.map PyData.str) + 1 ≤ 64)) = true
  rw [a, b]
  rfl
end Rd
namespace Rd
open PySem L2
/-! ### forms with unknowns replaced -/
def fill (m : Str → Option Tr) : Tr → Tr
  | .am k x => if k = "unknown" then (m x).getD (.am k x) else .am k x
  | .un s a => .un s (fill m a)
  | .bi s a b => .bi s (fill m a) (fill m b)
/-- the dict at a holds the forms m -/
def DTr (H : Hp) (a : Addr) (m : Str → Option Tr) : Prop := ∃ kvs, L2.Rd H a (.dK kvs) ∧ (∀ x t, m x = some t → ∃ v, valV kvs (.inr x) = some v ∧ IsT H t v) ∧ ∀ x, m x = none → valV kvs (.inr x) = none
theorem DTr.same {H H' : Hp} {a : Addr} {m : Str → Option Tr} (s : Same H H') (h : DTr H a m) : DTr H' a m := by
  obtain ⟨kvs, h1, h2, h3⟩ := h
  refine ⟨kvs, ?_, fun x t e => ?_, h3⟩
  · rcases h1 with h | ⟨o, h⟩
    · exact .inl (s _ _ h)
    · exact .inr ⟨o, s _ _ h⟩
  · obtain ⟨v, e1, e2⟩ := h2 x t e
    exact ⟨v, e1, e2.same s⟩
theorem DTr.get {H : Hp} {a : Addr} {m : Str → Option Tr} {x : Str} (h : DTr H a m) : ∃ o, DGet H a (.str x) o ∧ (∀ t, m x = some t → ∃ v, o = some v ∧ IsT H t v) ∧ (m x = none → o = none) := by
  obtain ⟨kvs, h1, h2, h3⟩ := h
  exact ⟨valV kvs (.inr x), .inl ⟨kvs, .inr x, h1, rfl, rfl⟩, fun t e => h2 x t e, h3 x⟩
theorem DTr.isD {H : Hp} {a : Addr} {m : Str → Option Tr} (h : DTr H a m) : IsD H a := by
  obtain ⟨kvs, h1, _⟩ := h
  exact .inl ⟨kvs, h1⟩
theorem fill_tup {H : Hp} {m : Str → Option Tr} {t : Tr} {q : Addr} {vs : List V} (hpt : t.parts ≠ []) (hq : H q = some (.tup (.str t.head :: vs))) (hl : vs.length = t.parts.length) (hv : ∀ (i : Nat) v, vs[i]? = some v → ∃ r, t.parts[i]? = some r ∧ IsT H (fill m r) v) : IsT H (fill m t) (.ref q) := by
  cases t with
  | am => exact absurd rfl hpt
  | un s a =>
    match vs, hl with
    | [v1], _ =>
      obtain ⟨r, e, h⟩ := hv 0 v1 rfl
      cases (show some a = some r from e)
      exact ⟨q, v1, rfl, hq, h⟩
  | bi s a b =>
    match vs, hl with
    | [v1, v2], _ =>
      obtain ⟨r, e, h⟩ := hv 0 v1 rfl
      cases (show some a = some r from e)
      obtain ⟨r2, e2, h2⟩ := hv 1 v2 rfl
      cases (show some b = some r2 from e2)
      exact ⟨q, v1, v2, rfl, hq, h, h2⟩
def sp_fill (d : Nat) : Sp := fun vs H Q _ => ∃ (v : V) (a : Addr) (t : Tr) (m : Str → Option Tr), vs = [v, .ref a] ∧ IsT H t v ∧ Wf t ∧ t.dep ≤ d ∧ DTr H a m ∧ ∀ u H', Same H H' → IsT H' (fill m t) u → Q u H'
def spFR : Nat → Sp
  | 0 => fun _ _ _ _ => False
  | d + 1 => sp_fill d
/-! ### dicts from unknowns to forms or letters, in their order -/
def Al (R : Hp → Tr → V → Prop) (H : Hp) : List (Str × Tr) → List (Key × V) → Prop
  | [], [] => True
  | (x, t) :: l, (k, v) :: kvs => k = .inr x ∧ R H t v ∧ Al R H l kvs
  | _, _ => False
def look (l : List (Str × Tr)) (x : Str) : Option Tr := (l.find? fun p => decide (p.1 = x)).map (·.2)
theorem Al.len {R : Hp → Tr → V → Prop} {H : Hp} : ∀ {l : List (Str × Tr)} {kvs : List (Key × V)}, Al R H l kvs → kvs.length = l.length
  | [], [], _ => rfl
  | (x, t) :: l, (k, v) :: kvs, h => congrArg (· + 1) (Al.len h.2.2)
theorem Al.mono {R S : Hp → Tr → V → Prop} {H H' : Hp} (m : ∀ t v, R H t v → S H' t v) : ∀ {l : List (Str × Tr)} {kvs : List (Key × V)}, Al R H l kvs → Al S H' l kvs
  | [], [], _ => trivial
  | (x, t) :: l, (k, v) :: kvs, h => ⟨h.1, m _ _ h.2.1, Al.mono m h.2.2⟩
theorem Al.get {R : Hp → Tr → V → Prop} {H : Hp} : ∀ {l : List (Str × Tr)} {kvs : List (Key × V)} {i : Nat} {k : Key} {v : V}, Al R H l kvs → kvs[i]? = some (k, v) → ∃ x t, l[i]? = some (x, t) ∧ k = .inr x ∧ R H t v
  | (x, t) :: l, (k, v) :: kvs, 0, _, _, h, e => by
    cases e
    exact ⟨x, t, rfl, h.1, h.2.1⟩
  | (x, t) :: l, (k, v) :: kvs, i + 1, _, _, h, e => by
    obtain ⟨y, u, e1, e2, e3⟩ := Al.get (l := l) (kvs := kvs) (i := i) h.2.2 (by simpa using e)
    exact ⟨y, u, by simpa using e1, e2, e3⟩
  | [], [], _, _, _, _, e => by simp at e
theorem Al.snoc {R : Hp → Tr → V → Prop} {H : Hp} {x : Str} {t : Tr} {v : V} (r : R H t v) : ∀ {l : List (Str × Tr)} {kvs : List (Key × V)}, Al R H l kvs → Al R H (l ++ [(x, t)]) (kvs ++ [(.inr x, v)])
  | [], [], _ => ⟨rfl, r, trivial⟩
  | (y, u) :: l, (k, z) :: kvs, h => ⟨h.1, h.2.1, Al.snoc r h.2.2⟩
theorem Al.look {R : Hp → Tr → V → Prop} {H : Hp} {x : Str} : ∀ {l : List (Str × Tr)} {kvs : List (Key × V)}, Al R H l kvs → (∀ t, look l x = some t → ∃ v, valV kvs (.inr x) = some v ∧ R H t v) ∧ (look l x = none → valV kvs (.inr x) = none)
  | [], [], _ => ⟨fun t e => (by cases e), fun _ => rfl⟩
  | (y, u) :: l, (k, z) :: kvs, h => by
    obtain ⟨rfl, h2, h3⟩ := h
    by_cases e : y = x
    · subst e
      refine ⟨fun t e => ?_, fun e => ?_⟩
      · rw [show Rd.look ((y, u) :: l) y = some u by simp [Rd.look]] at e
        cases e
        exact ⟨z, valV_pos rfl, h2⟩
      · rw [show Rd.look ((y, u) :: l) y = some u by simp [Rd.look]] at e
        cases e
    · have e1 : Rd.look ((y, u) :: l) x = Rd.look l x := by simp [Rd.look, e]
      rw [e1, valV_neg (fun q => e (by cases q; rfl))]
      exact Al.look h3
theorem look_none {l : List (Str × Tr)} {x : Str} (h : x ∉ l.map (·.1)) : look l x = none := by
  unfold look
  rw [List.find?_eq_none.mpr fun p hp => by
    intro e
    exact h (List.mem_map.mpr ⟨p, hp, of_decide_eq_true e⟩)]
  rfl
theorem Kp.upd_dK {C D : Addr} {H : Hp} {xs ys : List (Key × V)} (h : H D = some (.dK xs)) : Kp C H (L2.upd H D (.dK ys)) := fun b o hi e => by
  have hb : b ≠ D := fun z => by
    rw [z, h] at e
    cases e
    cases hi
  rw [upd_ne hb]
  exact e
/-- {x: f(v) for x, v in d.items()} -/
theorem dci {K : PySem.W.Frag} {C d D : Addr} {o : Obj} {kvs : List (Key × V)} {l : List (Str × Tr)} {R1 R2 : Hp → Tr → V → Prop} (f : Tr → Tr) {tv : TE} {i0 i1 : Nat} {σ : St} {H1 : Hp} {Qd : Hp → Prop}
    (m1 : ∀ H H' t v, Kp C H H' → R1 H t v → R1 H' t v) (m2 : ∀ H H' t v, Kp C H H' → R2 H t v → R2 H' t v) (hd : H1 d = some (.frz o (.dK kvs))) (al : Al R1 H1 l kvs) (nd : (l.map (·.1)).Nodup) (hl : l.length ≤ 1000) (hD : H1 D = none)
    (hsl : ∀ p q : V, (((wipe σ [i0, i1]).set i0 (some p)).set i1 (some q))[i0]? = some (some p)) (hw : ∀ p q : V, wipe (((wipe σ [i0, i1]).set i0 (some p)).set i1 (some q)) [i0, i1] = wipe σ [i0, i1])
    (hte : ∀ (i : Nat) (x : Str) (t : Tr) (v : V) (σ2 : St) (H : Hp) (Q : VK), l[i]? = some (x, t) → Same H1 H → R1 H t v → σ2 = (((wipe σ [i0, i1]).set i0 (some (.str x))).set i1 (some v)) → (∀ z H', Same H H' → R2 H' (f t) z → Q z H') → tv σ2 H Q)
    (hq : ∀ kvs' H', Same H1 H' → H' D = some (.dK kvs') → Al R2 H' (l.map fun p => (p.1, f p.2)) kvs' → Qd H') :
    ∃ W : Nat → Nat → Hp → Prop, (∃ m, W 0 m (L2.upd H1 D (.dK []))) ∧ ∀ i m H, W i m H →
      ((Iti d o kvs).stop i H ∧ Qd H) ∨ ((Iti d o kvs).go i H ∧ ∃ Nx : Hp → Prop, (∀ H', Nx H' → ∃ m', m' < m ∧ W (i + 1) m' H') ∧ ∀ x H', (Iti d o kvs).yld i H x H' → gTup K 2 (gCons (gName i0) (gCons (gName i1) gNil)) x (wipe σ [i0, i1]) H' fun σ2 H2 => wipe σ2 [i0, i1] = wipe σ [i0, i1] ∧ tYes σ2 H2 fun b H3 =>
        if b = true then tVar i0 σ2 H3 fun y H4 => tv σ2 H4 fun z H5 => ∃ kvs' k, y = kV k ∧ H5 D = some (.dK kvs') ∧ kvs'.length < sizeLine ∧ Nx (L2.upd H5 D (.dK (putK kvs' k z))) else Nx H3) := by
  have hlen := al.len
  have big : 100000 ≤ sizeLine := by decide
  refine ⟨fun i m H => m = kvs.length - i ∧ i ≤ kvs.length ∧ ∃ acc, Same H1 H ∧ H D = some (.dK acc) ∧ Al R2 H ((l.take i).map fun p => (p.1, f p.2)) acc, ⟨_, rfl, Nat.zero_le _, [], Rd.Same.upd hD, upd_same, trivial⟩, ?_⟩
  rintro i m H ⟨rfl, hi, acc, s, hDa, ala⟩
  by_cases hlt : i < kvs.length
  · refine .inr ⟨⟨s _ _ hd, hlt⟩, fun H' => ∃ acc, Same H1 H' ∧ H' D = some (.dK acc) ∧ Al R2 H' ((l.take (i + 1)).map fun p => (p.1, f p.2)) acc, fun H' h => ⟨kvs.length - (i + 1), by omega, rfl, hlt, h⟩, ?_⟩
    rintro _ _ ⟨Tq, k, v, hk, rfl, hT, rfl⟩
    obtain ⟨x, t, hx, rfl, r1⟩ := al.get hk
    have sT := Rd.Same.upd (o := .tup [kV (.inr x), v]) hT
    refine ⟨Tq, [kV (.inr x), v], rfl, SqT.of upd_same, rfl, _, _, rfl, _, _, rfl, rfl, hw _ _, ?_⟩
    unfold tYes
    refine iteT ⟨_, hsl _ _, hte i x t v _ _ _ hx (s.trans sT) (m1 _ _ _ _ (Kp.of_same (s.trans sT)) r1) rfl fun z H' s' hz => ?_⟩
    have hD' := s' _ _ (sT _ _ hDa)
    have hal := ala.len
    rw [List.length_map, List.length_take] at hal
    have etk : l.take (i + 1) = l.take i ++ [(x, t)] := by rw [List.take_succ, hx]; rfl
    have hno : look ((l.take i).map fun p => (p.1, f p.2)) x = none := by
      refine look_none ?_
      rw [List.map_map]
      have n2 : ((l.take (i + 1)).map (·.1)).Nodup := ((List.take_sublist _ _).map _).nodup nd
      rw [etk, List.map_append] at n2
      have := (List.nodup_append.mp n2).2.2
      intro hm
      exact this x hm x (List.mem_singleton.mpr rfl) rfl
    have hv0 := (ala.look (x := x)).2 hno
    refine ⟨acc, .inr x, rfl, hD', by omega, acc ++ [(.inr x, z)], fun c o e => ?_, ?_, ?_⟩
    · rw [upd_ne (ne_of_none e hD)]
      exact s' _ _ (sT _ _ (s _ _ e))
    · rw [upd_same, putK_new z hv0]
    · rw [putK_new z hv0, etk, List.map_append]
      have kp := Kp.upd_dK (C := C) (ys := acc ++ [(.inr x, z)]) hD'
      exact Al.snoc (m2 _ _ _ _ kp hz) (ala.mono fun t v h => m2 _ _ _ _ kp (m2 _ _ _ _ (Kp.of_same (sT.trans s')) h))
  · refine .inl ⟨⟨s _ _ hd, by omega⟩, hq acc H s hDa ?_⟩
    rw [List.take_of_length_le (by omega)] at ala
    exact ala
theorem mergeK_app : ∀ (more acc : List (Key × V)), ((acc ++ more).map (·.1)).Nodup → mergeK acc more = acc ++ more
  | [], acc, _ => (List.append_nil acc).symm
  | p :: r, acc, h => by
    show mergeK (putK acc p.1 p.2) r = _
    have e : valV acc p.1 = none := by
      have h2 := h
      rw [List.map_append, List.map_cons] at h2
      have h3 := (List.nodup_append.mp h2).2.2
      unfold valV
      rw [List.find?_eq_none.mpr fun q hq => by
        intro z
        exact h3 p.1 (List.mem_map.mpr ⟨q, hq, of_decide_eq_true z⟩) p.1 List.mem_cons_self rfl]
      rfl
    rw [putK_new p.2 e, mergeK_app r (acc ++ [(p.1, p.2)]) (by rw [List.append_assoc]; exact h), List.append_assoc]
    rfl
theorem Al.keys {R : Hp → Tr → V → Prop} {H : Hp} : ∀ {l : List (Str × Tr)} {kvs : List (Key × V)}, Al R H l kvs → kvs.map (·.1) = l.map fun p => Sum.inr p.1
  | [], [], _ => rfl
  | (x, t) :: l, (k, v) :: kvs, h => by
    rw [List.map_cons, List.map_cons, Al.keys h.2.2, h.1]
theorem Al.merge {R : Hp → Tr → V → Prop} {H : Hp} {l : List (Str × Tr)} {kvs : List (Key × V)} (al : Al R H l kvs) (nd : (l.map (·.1)).Nodup) : mergeK [] kvs = kvs := by
  refine mergeK_app kvs [] ?_
  rw [List.nil_append, al.keys]
  have : (l.map fun p => (Sum.inr p.1 : Key)) = (l.map (·.1)).map Sum.inr := by rw [List.map_map]; rfl
  rw [this]
  exact List.Pairwise.map _ (fun a b h e => h (by cases e; rfl)) nd
def Pq (H : Hp) : List Addr → List (Key × V) → Prop
  | [], [] => True
  | p :: ps, kv :: kq => H p = some (.tup [kV kv.1, kv.2]) ∧ Pq H ps kq
  | _, _ => False
theorem Pq.mono {C : Addr} {H H' : Hp} (k : Kp C H H') : ∀ {ps : List Addr} {kq : List (Key × V)}, Pq H ps kq → Pq H' ps kq
  | [], [], _ => trivial
  | _ :: _, _ :: _, h => ⟨k _ _ rfl h.1, Pq.mono k h.2⟩
theorem Pq.snoc {H : Hp} {p : Addr} {kv : Key × V} (e : H p = some (.tup [kV kv.1, kv.2])) : ∀ {ps : List Addr} {kq : List (Key × V)}, Pq H ps kq → Pq H (ps ++ [p]) (kq ++ [kv])
  | [], [], _ => ⟨e, trivial⟩
  | _ :: _, _ :: _, h => ⟨h.1, Pq.snoc e h.2⟩
theorem Pq.paired {K : PySem.W.Frag} {H : Hp} : ∀ {ps : List Addr} {kq : List (Key × V)}, Pq H ps kq → Paired (fun p kv => SqT K H p [kV kv.1, kv.2]) ps kq
  | [], [], _ => .nil
  | _ :: _, _ :: _, h => .cons (SqT.of h.1) (Pq.paired h.2)
theorem Pq.len {H : Hp} : ∀ {ps : List Addr} {kq : List (Key × V)}, Pq H ps kq → ps.length = kq.length
  | [], [], _ => rfl
  | _ :: _, _ :: _, h => congrArg (· + 1) (Pq.len h.2)
theorem look_get {x : Str} {t : Tr} : ∀ {l : List (Str × Tr)} {i : Nat}, (l.map (·.1)).Nodup → l[i]? = some (x, t) → look l x = some t
  | (y, u) :: l, 0, _, e => by
    cases e
    simp [look]
  | (y, u) :: l, i + 1, h, e => by
    have e : l[i]? = some (x, t) := by simpa using e
    have h : (y :: l.map (·.1)).Nodup := h
    have hne : ¬ y = x := fun z => (List.nodup_cons.mp h).1 (List.mem_map.mpr ⟨_, List.mem_of_getElem? e, z.symm⟩)
    have := look_get (List.nodup_cons.mp h).2 e
    simp only [look, List.find?_cons, hne, decide_false]
    exact this
/-- [(x, f(d[x])) for x in d] -/
theorem lck {C d D : Addr} {o : Obj} {kvs : List (Key × V)} {l : List (Str × Tr)} {R1 R2 : Hp → Tr → V → Prop} (f : Tr → Tr) {tv : TE} {i0 : Nat} {σ : St} {H1 : Hp} {Qd : Hp → Prop}
    (m1 : ∀ H H' t v, Kp C H H' → R1 H t v → R1 H' t v) (m2 : ∀ H H' t v, Kp C H H' → R2 H t v → R2 H' t v) (hd : H1 d = some (.frz o (.dK kvs))) (al : Al R1 H1 l kvs) (nd : (l.map (·.1)).Nodup) (hl : l.length ≤ 1000) (hD : H1 D = none)
    (hsl : ∀ p : V, ((wipe σ [i0]).set i0 (some p))[i0]? = some (some p)) (hw : ∀ p : V, wipe ((wipe σ [i0]).set i0 (some p)) [i0] = wipe σ [i0])
    (hte : ∀ (i : Nat) (x : Str) (t : Tr) (v : V) (σ2 : St) (H : Hp) (Q : VK), l[i]? = some (x, t) → Same H1 H → R1 H t v → DGet H d (.str x) (some v) → σ2 = (wipe σ [i0]).set i0 (some (.str x)) → (∀ z H', Same H H' → R2 H' (f t) z → Q z H') → tv σ2 H Q)
    (hq : ∀ ps kq H', Same H1 H' → H' D = some (.lst (ps.map V.ref)) → Pq H' ps kq → Al R2 H' (l.map fun p => (p.1, f p.2)) kq → Qd H') :
    ∃ W : Nat → Nat → Hp → Prop, (∃ m, W 0 m (L2.upd H1 D (.lst []))) ∧ ∀ i m H, W i m H →
      ((Itk d o kvs).stop i H ∧ Qd H) ∨ ((Itk d o kvs).go i H ∧ ∃ Nx : Hp → Prop, (∀ H', Nx H' → ∃ m', m' < m ∧ W (i + 1) m' H') ∧ ∀ x H', (Itk d o kvs).yld i H x H' → gName i0 x (wipe σ [i0]) H' fun σ2 H2 => wipe σ2 [i0] = wipe σ [i0] ∧ tYes σ2 H2 fun b H3 =>
        if b = true then tTup (tCons (tVar i0) (tCons tv tNil)) σ2 H3 fun y H4 => ∃ acc, H4 D = some (.lst acc) ∧ acc.length < sizeLine ∧ Nx (L2.upd H4 D (.lst (acc ++ [y]))) else Nx H3) := by
  have hlen := al.len
  have big : 100000 ≤ sizeLine := by decide
  refine ⟨fun i m H => m = kvs.length - i ∧ i ≤ kvs.length ∧ ∃ ps kq, Same H1 H ∧ H D = some (.lst (ps.map V.ref)) ∧ Pq H ps kq ∧ Al R2 H ((l.take i).map fun p => (p.1, f p.2)) kq, ⟨_, rfl, Nat.zero_le _, [], [], Rd.Same.upd hD, upd_same, trivial, trivial⟩, ?_⟩
  rintro i m H ⟨rfl, hi, ps, kq, s, hDa, pq, ala⟩
  by_cases hlt : i < kvs.length
  · refine .inr ⟨⟨s _ _ hd, hlt⟩, fun H' => ∃ ps kq, Same H1 H' ∧ H' D = some (.lst (ps.map V.ref)) ∧ Pq H' ps kq ∧ Al R2 H' ((l.take (i + 1)).map fun p => (p.1, f p.2)) kq, fun H' h => ⟨kvs.length - (i + 1), by omega, rfl, hlt, h⟩, ?_⟩
    rintro _ _ ⟨rfl, k, v0, hk, rfl⟩
    obtain ⟨x, t, hx, rfl, _⟩ := al.get hk
    obtain ⟨v, ev, r1⟩ := (al.look (x := x)).1 t (look_get nd hx)
    have etk : l.take (i + 1) = l.take i ++ [(x, t)] := by rw [List.take_succ, hx]; rfl
    refine ⟨hw _, ?_⟩
    unfold tYes
    have hal := ala.len
    have hpl := pq.len
    rw [List.length_map, List.length_take] at hal
    refine iteT ⟨_, hsl _, hte i x t v _ _ _ hx s (m1 _ _ _ _ (Kp.of_same s) r1) (.inl ⟨kvs, .inr x, .inr ⟨o, s _ _ hd⟩, rfl, ev.symm⟩) rfl fun z H' s' hz => ⟨(by show 2 ≤ sizeLine; decide), fun q hq' => ?_⟩⟩
    have sq := Rd.Same.upd (o := .tup [kV (.inr x), z]) hq'
    have hD' := sq _ _ (s' _ _ hDa)
    refine ⟨_, hD', by rw [List.length_map]; omega, ps ++ [q], kq ++ [(.inr x, z)], fun c o e => ?_, ?_, ?_, ?_⟩
    · rw [upd_ne (ne_of_none e hD)]
      exact sq _ _ (s' _ _ (s _ _ e))
    · rw [upd_same, List.map_append]
      rfl
    · have kp := Kp.upd_lst (C := C) (ys := ps.map V.ref ++ [V.ref q]) hD'
      exact Pq.snoc (kp _ _ rfl upd_same) ((pq.mono (C := C) (Kp.of_same (s'.trans sq))).mono kp)
    · have kp := Kp.upd_lst (C := C) (ys := ps.map V.ref ++ [V.ref q]) hD'
      rw [etk, List.map_append]
      exact Al.snoc (m2 _ _ _ _ kp (m2 _ _ _ _ (Kp.of_same sq) hz)) (ala.mono fun t v h => m2 _ _ _ _ kp (m2 _ _ _ _ (Kp.of_same (s'.trans sq)) h))
  · refine .inl ⟨⟨s _ _ hd, by omega⟩, hq ps kq H s hDa pq ?_⟩
    rw [List.take_of_length_le (by omega)] at ala
    exact ala
section
variable {X : Cx} {CX : CXT} {k : Nat} {c m : Str} {ps : List Str} {sp : Sp} {o : Expr} {ta : TE} {E : XK} {apos pos : Pos} {K : PySem.W.Frag}
theorem pe_fm0k {pl : Sem Bool} (hK : X.K = K) (he : PE X o ta) (cl : Cls X.K (He.ga X.K c)) (F : Fm X.prog X.w X.K X.mg X.base CX k c m ps sp) (hr : Room k X.A) (hx : Passes CX X E)
    (ht : eval (.Call (.Attribute o m apos) [] [] pos) X.env = (do
      let ov ← eval o X.env
      standAt apos.atName
      let (f, first) ← holding [ov] (getMethod ov m pl)
      callWith pos f first (backTo pos (starEach [] X.env)) (backToKw pos (keywordEach [] X.env))) := by rfl) :
    PE X (.Call (.Attribute o m apos) [] [] pos) (tMeth (He.ga K c) m sp [] E ta tNil) := by subst hK; exact pe_fm0 he cl F hr hx ht
end
end Rd
namespace Rd
open PySem L2
/-! ### texts ascending, each once -/
def ltS (a b : Str) : Bool := PySem.Spec.ltCps a.cps.toList b.cps.toList
theorem ltC_irr : ∀ a : List Nat, PySem.Spec.ltCps a a = false
  | [] => rfl
  | a :: r => by
    show (decide (a < a) || (a == a && PySem.Spec.ltCps r r)) = false
    rw [ltC_irr r]
    simp
theorem ltC_trans : ∀ {a b c : List Nat}, PySem.Spec.ltCps a b = true → PySem.Spec.ltCps b c = true → PySem.Spec.ltCps a c = true
  | [], [], _, h, _ => by cases h
  | [], _ :: _, [], _, h => by cases h
  | [], _ :: _, _ :: _, _, _ => rfl
  | _ :: _, [], _, h, _ => by cases h
  | _ :: _, _ :: _, [], _, h => by cases h
  | a :: r, b :: s, c :: t, h1, h2 => by
    have g1 : (decide (a < b) || (a == b && PySem.Spec.ltCps r s)) = true := h1
    have g2 : (decide (b < c) || (b == c && PySem.Spec.ltCps s t)) = true := h2
    show (decide (a < c) || (a == c && PySem.Spec.ltCps r t)) = true
    rw [Bool.or_eq_true, Bool.and_eq_true, decide_eq_true_eq, beq_iff_eq] at g1 g2 ⊢
    rcases g1 with g1 | ⟨e1, g1⟩
    · rcases g2 with g2 | ⟨e2, g2⟩
      · exact .inl (Nat.lt_trans g1 g2)
      · exact .inl (by omega)
    · rcases g2 with g2 | ⟨e2, g2⟩
      · exact .inl (by omega)
      · exact .inr ⟨by omega, ltC_trans g1 g2⟩
theorem ltC_tot : ∀ {a b : List Nat}, PySem.Spec.ltCps a b = false → PySem.Spec.ltCps b a = false → a = b
  | [], [], _, _ => rfl
  | [], _ :: _, h, _ => by cases h
  | _ :: _, [], _, h => by cases h
  | a :: r, b :: s, h1, h2 => by
    have h1 : (decide (a < b) || (a == b && PySem.Spec.ltCps r s)) = false := h1
    have h2 : (decide (b < a) || (b == a && PySem.Spec.ltCps s r)) = false := h2
    rw [Bool.or_eq_false_iff, decide_eq_false_iff_not] at h1 h2
    have e : a = b := by omega
    subst e
    rw [beq_self_eq_true, Bool.true_and] at h1 h2
    rw [ltC_tot h1.2 h2.2]
theorem ltS_irr (a : Str) : ltS a a = false := ltC_irr _
theorem ltS_trans {a b c : Str} (h1 : ltS a b = true) (h2 : ltS b c = true) : ltS a c = true := ltC_trans h1 h2
theorem ltS_tot {a b : Str} (h1 : ltS a b = false) (h2 : ltS b a = false) : a = b := by
  have e := ltC_tot h1 h2
  cases a; cases b
  exact congrArg Str.mk (Array.toList_inj.mp e)
def asc (l : List Str) : Prop := l.Pairwise fun a b => ltS a b = true
theorem asc_of : ∀ {l : List Str}, PyProof.Rows.sortedS l = true → l.Nodup → asc l
  | [], _, _ => List.Pairwise.nil
  | [x], _, _ => List.pairwise_singleton _ _
  | x :: y :: r, h, n => by
    have h : (!ltS y x && PyProof.Rows.risingS y r) = true := h
    rw [Bool.and_eq_true, Bool.not_eq_true'] at h
    have ih : asc (y :: r) := asc_of (l := y :: r) h.2 (List.nodup_cons.mp n).2
    have ne : x ≠ y := fun e => (List.nodup_cons.mp n).1 (by rw [e]; exact List.mem_cons_self)
    have xy : ltS x y = true := by
      cases e : ltS x y with
      | true => rfl
      | false => exact absurd (ltS_tot e h.1) ne
    refine List.pairwise_cons.mpr ⟨fun z hz => ?_, ih⟩
    rcases List.mem_cons.mp hz with rfl | hz
    · exact xy
    · exact ltS_trans xy ((List.pairwise_cons.mp ih).1 z hz)
theorem asc_uniq : ∀ {l m : List Str}, asc l → asc m → (∀ x, x ∈ l ↔ x ∈ m) → l = m
  | [], [], _, _, _ => rfl
  | [], y :: m, _, _, h => by cases (h y).2 List.mem_cons_self
  | x :: l, [], _, _, h => by cases (h x).1 List.mem_cons_self
  | x :: l, y :: m, hl, hm, h => by
    obtain ⟨l1, l2⟩ := List.pairwise_cons.mp hl
    obtain ⟨m1, m2⟩ := List.pairwise_cons.mp hm
    have e : x = y := by
      rcases List.mem_cons.mp ((h x).1 List.mem_cons_self) with e | e
      · exact e
      · rcases List.mem_cons.mp ((h y).2 List.mem_cons_self) with e' | e'
        · exact e'.symm
        · have a := ltS_trans (m1 x e) (l1 y e')
          rw [ltS_irr] at a
          cases a
    subst e
    rw [asc_uniq l2 m2 fun z => ?_]
    constructor
    · intro hz
      rcases List.mem_cons.mp ((h z).1 (List.mem_cons_of_mem _ hz)) with e | e
      · have a := l1 z hz
        rw [e, ltS_irr] at a
        cases a
      · exact e
    · intro hz
      rcases List.mem_cons.mp ((h z).2 (List.mem_cons_of_mem _ hz)) with e | e
      · have a := m1 z hz
        rw [e, ltS_irr] at a
        cases a
      · exact e
def insS (x : Str) : List Str → List Str
  | [] => [x]
  | y :: r => if x = y then y :: r else if ltS x y = true then x :: y :: r else y :: insS x r
def uniS : List Str → List Str
  | [] => []
  | x :: r => insS x (uniS r)
theorem insS_mem {x z : Str} : ∀ {l : List Str}, z ∈ insS x l ↔ z = x ∨ z ∈ l
  | [] => by simp [insS]
  | y :: r => by
    unfold insS
    split
    · rename_i e
      subst e
      exact ⟨.inr, fun h => h.elim (fun e => by rw [e]; exact List.mem_cons_self) id⟩
    · split
      · exact List.mem_cons
      · rw [List.mem_cons, insS_mem, List.mem_cons]
        constructor
        · rintro (a | a | a)
          · exact .inr (.inl a)
          · exact .inl a
          · exact .inr (.inr a)
        · rintro (a | a | a)
          · exact .inr (.inl a)
          · exact .inl a
          · exact .inr (.inr a)
theorem insS_asc {x : Str} : ∀ {l : List Str}, asc l → asc (insS x l)
  | [], _ => List.pairwise_singleton _ _
  | y :: r, h => by
    obtain ⟨h1, h2⟩ := List.pairwise_cons.mp h
    unfold insS
    split
    · exact h
    · rename_i ne
      split
      · rename_i lt
        refine List.pairwise_cons.mpr ⟨fun z hz => ?_, h⟩
        rcases List.mem_cons.mp hz with rfl | hz
        · exact lt
        · exact ltS_trans lt (h1 z hz)
      · rename_i lt
        have yx : ltS y x = true := by
          cases e : ltS y x with
          | true => rfl
          | false => exact absurd (ltS_tot (by simpa using lt) e) ne
        refine List.pairwise_cons.mpr ⟨fun z hz => ?_, insS_asc h2⟩
        rcases insS_mem.mp hz with rfl | hz
        · exact yx
        · exact h1 z hz
theorem uniS_mem {z : Str} : ∀ {l : List Str}, z ∈ uniS l ↔ z ∈ l
  | [] => Iff.rfl
  | x :: r => by rw [uniS, insS_mem, uniS_mem, List.mem_cons]
theorem uniS_asc : ∀ {l : List Str}, asc (uniS l)
  | [] => List.Pairwise.nil
  | x :: r => insS_asc uniS_asc
theorem uniS_of {l ys : List Str} (h1 : ys.Nodup) (h2 : PyProof.Rows.sortedS ys = true) (h : ∀ x, x ∈ ys ↔ x ∈ l) : ys = uniS l :=
  asc_uniq (asc_of h2 h1) uniS_asc fun x => (h x).trans uniS_mem.symm
theorem insS_len {x : Str} : ∀ {l : List Str}, (insS x l).length ≤ l.length + 1
  | [] => Nat.le_refl _
  | y :: r => by
    unfold insS
    split
    · exact Nat.le_succ _
    · split
      · exact Nat.le_refl _
      · have := insS_len (x := x) (l := r)
        rw [List.length_cons, List.length_cons]
        omega
theorem uniS_len : ∀ {l : List Str}, (uniS l).length ≤ l.length
  | [] => Nat.le_refl _
  | x :: r => by
    have h1 := insS_len (x := x) (l := uniS r)
    have h2 := uniS_len (l := r)
    rw [uniS, List.length_cons]
    omega
/-- the texts of a form's atoms of one kind, as often as they stand -/
def Tr.txt (k : Str) : Tr → List Str
  | .am k' x => if k' = k then [x] else []
  | .un _ a => a.txt k
  | .bi _ a b => a.txt k ++ b.txt k
def txt1 (k : Str) : Tr → List Str
  | .am k' x => if k' = k then [x] else []
  | _ => []
theorem txt_all (k : Str) : ∀ t : Tr, t.all.flatMap (txt1 k) = t.txt k
  | .am k' x => by
    show txt1 k (.am k' x) ++ [] = _
    rw [List.append_nil]
    rfl
  | .un s a => by
    show txt1 k (.un s a) ++ a.all.flatMap (txt1 k) = a.txt k
    rw [txt_all k a]
    rfl
  | .bi s a b => by
    show txt1 k (.bi s a b) ++ (a.all ++ b.all).flatMap (txt1 k) = a.txt k ++ b.txt k
    rw [List.flatMap_append, txt_all k a, txt_all k b]
    rfl
theorem txts_len (k : Str) : ∀ t : Tr, (t.txt k).length ≤ t.all.length
  | .am k' x => by
    show (if k' = k then [x] else []).length ≤ 1
    split
    · exact Nat.le_refl _
    · exact Nat.zero_le _
  | .un s a => Nat.le_succ_of_le (txts_len k a)
  | .bi s a b => by
    show (a.txt k ++ b.txt k).length ≤ (a.all ++ b.all).length + 1
    rw [List.length_append, List.length_append]
    have := txts_len k a
    have := txts_len k b
    omega
end Rd
namespace Rd
open PySem L2
theorem take_flat1 {τ α : Type} {f : τ → List α} {l : List τ} {i : Nat} {r : τ} (h : l[i]? = some r) : (l.take (i + 1)).flatMap f = (l.take i).flatMap f ++ f r := by
  rw [List.take_add_one, h, List.flatMap_append]
  simp
theorem flat1_le {τ α : Type} {f : τ → List α} (hf : ∀ t, (f t).length ≤ 1) : ∀ l : List τ, (l.flatMap f).length ≤ l.length
  | [] => Nat.le_refl _
  | t :: l => by
    rw [List.flatMap_cons, List.length_append, List.length_cons]
    have := hf t
    have := flat1_le hf l
    omega
/-- {text for x in a list if ..}: f tells of each item no text or one -/
theorem scl {w : World} {K : PySem.W.Frag} {a D : Addr} {xs : List V} {τ : Type} {ts : List τ} {tt : TT} {te : TE} {i0 : Nat} {σ : St} {H1 : Hp} {Qd : Hp → Prop} (f : τ → List Str) (hf : ∀ t, (f t).length ≤ 1) (hS : SqL K H1 a xs) (he : xs.length = ts.length) (hl : xs.length + 1 < scanBound) (hD : H1 D = none)
    (hte : ∀ (i : Nat) (x : V) (t : τ) (H : Hp) (Q : VK), xs[i]? = some x → ts[i]? = some t → Same H1 H → (f t = [] → tt ((wipe σ [i0]).set i0 (some x)) H fun b H' => b = false ∧ H' = H) ∧ ∀ c, f t = [c] → (tt ((wipe σ [i0]).set i0 (some x)) H fun b H' => b = true ∧ H' = H) ∧ (Q (.str c) H → te ((wipe σ [i0]).set i0 (some x)) H Q))
    (tm : ∀ (σ : St) (H : Hp) (P Q : Bool → Hp → Prop), (∀ b H', P b H' → Q b H') → tt σ H P → tt σ H Q)
    (hq : ∀ H', Same H1 H' → H' D = some (SetSO w D (putS [] (ts.flatMap f))) → Qd H') :
    ∃ W : Nat → Nat → Hp → Prop, (∃ m, W 0 m (L2.upd H1 D (SetSO w D []))) ∧ ∀ i m H, W i m H →
      ((Itl K a).stop i H ∧ Qd H) ∨ ((Itl K a).go i H ∧ ∃ Nx : Hp → Prop, (∀ H', Nx H' → ∃ m', m' < m ∧ W (i + 1) m' H') ∧ ∀ x H', (Itl K a).yld i H x H' → gName i0 x (wipe σ [i0]) H' fun σ2 H2 => wipe σ2 [i0] = wipe σ [i0] ∧ tt σ2 H2 fun b H3 =>
        if b = true then te σ2 H3 fun y H4 => ∃ (c : Str) (l : List Str), y = .str c ∧ H4 D = some (SetSO w D l) ∧ l.length + 1 < scanBound ∧ Nx (L2.upd H4 D (SetSO w D (addS l c))) else Nx H3) := by
  refine ⟨fun i m H => m = xs.length - i ∧ i ≤ xs.length ∧ Same H1 H ∧ H D = some (SetSO w D (putS [] ((ts.take i).flatMap f))), ⟨xs.length, by simp, Nat.zero_le _, Rd.Same.upd hD, upd_same⟩, ?_⟩
  rintro i m H ⟨rfl, hi, sm, hd⟩
  have q := SqL.kept hS sm
  by_cases hlt : i < xs.length
  · refine .inr ⟨⟨xs, xs[i], q, by simp [hlt]⟩, fun H' => Same H1 H' ∧ H' D = some (SetSO w D (putS [] ((ts.take (i + 1)).flatMap f))), fun H' p' => ⟨xs.length - (i + 1), by omega, rfl, hlt, p'⟩, fun x H' y => ?_⟩
    obtain ⟨e, y⟩ := y
    subst e
    have hx := y xs q
    have ht : ts[i]? = some ts[i] := List.getElem?_eq_getElem (by omega)
    refine gName_k ⟨by simp [wipe], ?_⟩
    cases hft : f ts[i] with
    | nil =>
      refine tm _ _ _ _ (fun b H2 z => ?_) ((hte i x ts[i] H' (fun _ _ => True) hx ht sm).1 hft)
      obtain ⟨rfl, rfl⟩ := z
      refine iteF ⟨sm, ?_⟩
      rw [take_flat1 ht, hft, List.append_nil]
      exact hd
    | cons c r =>
      have hr : r = [] := by
        have := hf ts[i]
        rw [hft, List.length_cons] at this
        exact List.eq_nil_of_length_eq_zero (by omega)
      subst hr
      refine tm _ _ _ _ (fun b H2 z => ?_) ((hte i x ts[i] H' (fun _ _ => True) hx ht sm).2 c hft).1
      obtain ⟨rfl, rfl⟩ := z
      refine iteT (((hte i x ts[i] _ _ hx ht sm).2 c hft).2 ⟨c, _, rfl, hd, ?_, fun b o e => ?_, ?_⟩)
      · have h1 := putS_len (l := []) (r := (ts.take i).flatMap f)
        have h2 := flat1_le hf (ts.take i)
        rw [List.length_take] at h2
        rw [List.length_nil] at h1
        omega
      · rw [upd_ne (ne_of_none e hD)]
        exact sm _ _ e
      · rw [upd_same, take_flat1 ht, hft, putS_app]
        rfl
  · have e : i = xs.length := by omega
    subst e
    refine .inl ⟨⟨xs, q, Nat.le_refl _⟩, hq H sm ?_⟩
    rw [he, List.take_length] at hd
    exact hd
/-- [text for x in a list if ..] -/
theorem lclF {K : PySem.W.Frag} {a D : Addr} {xs : List V} {τ : Type} {ts : List τ} {tt : TT} {te : TE} {i0 : Nat} {σ : St} {H1 : Hp} {Qd : Hp → Prop} (f : τ → List V) (hf : ∀ t, (f t).length ≤ 1) (hS : SqL K H1 a xs) (he : xs.length = ts.length) (hl : xs.length ≤ 100000) (hD : H1 D = none)
    (hte : ∀ (i : Nat) (x : V) (t : τ) (H : Hp) (Q : VK), xs[i]? = some x → ts[i]? = some t → Same H1 H → (f t = [] → tt ((wipe σ [i0]).set i0 (some x)) H fun b H' => b = false ∧ H' = H) ∧ ∀ c, f t = [c] → (tt ((wipe σ [i0]).set i0 (some x)) H fun b H' => b = true ∧ H' = H) ∧ (Q c H → te ((wipe σ [i0]).set i0 (some x)) H Q))
    (tm : ∀ (σ : St) (H : Hp) (P Q : Bool → Hp → Prop), (∀ b H', P b H' → Q b H') → tt σ H P → tt σ H Q)
    (hq : ∀ H', Same H1 H' → H' D = some (.lst (ts.flatMap f)) → Qd H') :
    ∃ W : Nat → Nat → Hp → Prop, (∃ m, W 0 m (L2.upd H1 D (.lst []))) ∧ ∀ i m H, W i m H →
      ((Itl K a).stop i H ∧ Qd H) ∨ ((Itl K a).go i H ∧ ∃ Nx : Hp → Prop, (∀ H', Nx H' → ∃ m', m' < m ∧ W (i + 1) m' H') ∧ ∀ x H', (Itl K a).yld i H x H' → gName i0 x (wipe σ [i0]) H' fun σ2 H2 => wipe σ2 [i0] = wipe σ [i0] ∧ tt σ2 H2 fun b H3 =>
        if b = true then te σ2 H3 fun y H4 => ∃ acc, H4 D = some (.lst acc) ∧ acc.length < sizeLine ∧ Nx (L2.upd H4 D (.lst (acc ++ [y]))) else Nx H3) := by
  refine lc_list (K := K) (a := a) (xs := xs) (fun i H => Same H1 H ∧ H D = some (.lst ((ts.take i).flatMap f))) ⟨Rd.Same.upd hD, upd_same⟩ (fun i H _ p => SqL.kept hS p.1) ?_ ?_
  · rintro i x H hx ⟨sm, hd⟩
    have hlt := (List.getElem?_eq_some_iff.mp hx).1
    have ht : ts[i]? = some ts[i] := List.getElem?_eq_getElem (by omega)
    refine gName_k ⟨by simp [wipe], ?_⟩
    cases hft : f ts[i] with
    | nil =>
      refine tm _ _ _ _ (fun b H2 z => ?_) ((hte i x ts[i] H (fun _ _ => True) hx ht sm).1 hft)
      obtain ⟨rfl, rfl⟩ := z
      refine iteF ⟨sm, ?_⟩
      rw [take_flat1 ht, hft, List.append_nil]
      exact hd
    | cons c r =>
      have hr : r = [] := by
        have := hf ts[i]
        rw [hft, List.length_cons] at this
        exact List.eq_nil_of_length_eq_zero (by omega)
      subst hr
      refine tm _ _ _ _ (fun b H2 z => ?_) ((hte i x ts[i] H (fun _ _ => True) hx ht sm).2 c hft).1
      obtain ⟨rfl, rfl⟩ := z
      refine iteT (((hte i x ts[i] _ _ hx ht sm).2 c hft).2 ⟨_, hd, ?_, fun b o e => ?_, ?_⟩)
      · have h2 := flat1_le hf (ts.take i)
        rw [List.length_take] at h2
        have : 100000 < sizeLine := by decide
        omega
      · rw [upd_ne (ne_of_none e hD)]
        exact sm _ _ e
      · rw [upd_same, take_flat1 ht, hft]
  · rintro H ⟨sm, hd⟩
    rw [he, List.take_length] at hd
    exact hq H sm hd
theorem txt1_le (k : Str) : ∀ t : Tr, (txt1 k t).length ≤ 1
  | .am k' x => by
    show (if k' = k then [x] else []).length ≤ 1
    split
    · exact Nat.le_refl _
    · exact Nat.zero_le _
  | .un _ _ => Nat.zero_le _
  | .bi _ _ _ => Nat.zero_le _
end Rd
namespace Rd
open PySem L2
def sgns : List Str := ([("pair", 2), ("seal", 2), ("lock", 2), ("mark", 1), ("open", 1), ("own", 1)] : List (Str × Int)).map (·.1)
theorem sgn_yes {t : Tr} (wf : Wf t) (h : t.parts ≠ []) : decide (t.head ∈ sgns) = true := by
  have : ∀ z ∈ (["mark", "open", "own", "pair", "seal", "lock"] : List Str), decide (z ∈ sgns) = true := by decide +kernel
  exact this _ (wf.sign h).1
theorem sgn_no {k x : Str} (ko : kindOk k x) : decide ((Tr.am k x).head ∈ sgns) = false := by
  rcases ko with ⟨rfl, _⟩ | ⟨rfl, _⟩ | ⟨rfl, _⟩
  · show decide (("word" : Str) ∈ sgns) = false; decide +kernel
  · show decide (("name" : Str) ∈ sgns) = false; decide +kernel
  · show decide (("unknown" : Str) ∈ sgns) = false; decide +kernel
section
variable {P : Program} {w : World} {K : PySem.W.Frag} {mg : Str → Option Value} {base : Heap}
abbrev s_parts_of : Stmt := top 18
theorem sc_parts_of : FnScope ["tree", "found", "part"] ["tree"] (defScope s_parts_of) := ⟨rfl, rfl, rfl, by decide +kernel, rfl, by decide +kernel, by decide +kernel⟩
theorem partsOf_step (T : Tx w K mg) (d : Nat) (ih : Fk P w K mg base CX0 (d + 1) "parts_of" ["tree"] (spPR d)) : Fk P w K mg base CX0 (d + 2) "parts_of" ["tree"] (sp_parts d) := by
  refine T.F_parts_of.ok0 sc_parts_of (fun _ _ _ _ _ _ us hl => match us, hl with | [_], _ => rfl)
    (fun vs H Q E h => ?_) (fun cdv A outer s H vs Q E hr h => ?_)
  · obtain ⟨v, t, rfl, _⟩ := h
    rfl
  · obtain ⟨v, t, rfl, it, wf, dp, d12, k⟩ := h
    obtain ⟨pf, vs0, rfl, hpv⟩ := it.hd
    refine ⟨_, (pss_cons (ps_set (i := 1) sc_parts_of.nd rfl (Or.inl rfl) (pe_lst (pa_cons (pv 0) pa_nil)))
  (pss_cons (ps_if (pt_cmpR (op_inK T.D_SIGNS) (pe_ix ix_tup (pv 0) pe_int (fun _ _ => rfl)) (pe_kd T.D_SIGNS) (by rfl))
  (pss_one (ps_for PassesOwn.never rfl (pi_tup (pe_slice sl_tup (pv 0) (po_some pe_int) po_none)) (pg_name (i := 2) sc_parts_of.nd rfl (Or.inl rfl))
  (pss_one (ps_expr (pe_bm PySem.F.plainAttrs_list PySem.F.slot_list_extend PySem.F.type_list_extend mt_extend (pv 1) (pa_cons (pe_fk ih (hr.mono (by omega)) rfl pass0 (pa_cons (pv 2) pa_nil)) pa_nil))))))
  pss_nil)
  (pss_one (ps_ret (pv 1))))), ?_⟩
    refine ⟨_, rfl, (by show 1 ≤ sizeLine; decide), fun p np => ?_⟩
    refine gName_k ?_
    try dsimp only
    have s1 := Rd.Same.upd (o := .lst [.ref pf]) np
    refine ⟨_, rfl, pf, _, _, _, rfl, rfl, SqT.of (s1 _ _ hpv), at_of (j := 0) rfl rfl, _, rfl, rfl, _, rfl, ?_⟩
    show if decide (t.head ∈ sgns) = true then _ else _
    by_cases hpt : t.parts ≠ []
    · obtain ⟨hsg, hws⟩ := wf.sign hpt
      obtain ⟨p', us, e, hpu, hlu, hl2, hne, hus⟩ := it.parts hpt
      cases e
      refine iteP (sgn_yes wf hpt) ?_
      refine ⟨_, rfl, _, rfl, pf, _, rfl, SqT.of (s1 _ _ hpu), ?_, fun p2 hp2 => ?_⟩
      · rintro ⟨z, _⟩
        rw [show (1 : Int) = ((1 : Nat) : Int) from rfl, HT.sIx_nat, List.length_cons] at z
        omega
      rw [cut1]
      have s2 := Rd.Same.upd (o := .tup us) hp2
      refine ⟨p2, rfl, ⟨_, SqT.of upd_same⟩, ?_⟩
      refine for_tup (xs := us) (fun i σ H' => PInv H p p2 us t i H' ∧ ∃ t2, σ = [some (.ref pf), some (.ref p), t2]) ⟨⟨s1.trans s2, np, upd_same, [.ref pf], s2 _ _ upd_same, TsAt.one (it.same (s1.trans s2))⟩, _, rfl⟩ ?_ ?_ ?_
      · rintro i σ H' hi ⟨hI, _⟩
        exact SqT.of hI.tup
      · rintro i x σ H1 hx ⟨⟨sm, _, htu, ws, hws1, hts⟩, t2, rfl⟩
        refine gName_k ?_
        try dsimp only
        obtain ⟨r, hr1, hr2⟩ := hus i x hx
        obtain ⟨w1, w2⟩ := hws r (List.mem_of_getElem? hr1)
        cases d with
        | zero => exact absurd dp (by omega)
        | succ d =>
          refine ⟨_, rfl, .inl ⟨rfl, _, SqL.of hws1⟩, _, rfl, x, r, rfl, hr2.same sm, w1, (by omega), (by omega), fun b zs H2 sm2 nb hb htz => ?_⟩
          have hl1 := all_len t
          have hf := flat_le (t := t) (i + 1)
          rw [take_flat hr1, List.length_append] at hf
          have hpw : 2 ^ (t.dep + 1) ≤ 2 ^ 13 := Nat.pow_le_pow_right (by decide) (by omega)
          have h13 : 2 ^ 13 ≤ sizeLine := by decide
          have e1 := hts.len
          have e2 := htz.len
          rw [List.length_cons] at e1
          refine ⟨p, b, ws, zs, rfl, rfl, sm2 _ _ hws1, hb, (by omega), ?_⟩
          have kp := Kp.upd_lst (C := 0) (ys := ws ++ zs) (sm2 _ _ hws1)
          have nbp : b ≠ p := fun z => by rw [z, hws1] at nb; cases nb
          refine ⟨⟨fun c o e => ?_, np, ?_, ws ++ zs, upd_same, ?_⟩, _, rfl⟩
          · rw [upd_ne (ne_of_none e np)]
            exact sm2 _ _ (sm _ _ e)
          · rw [upd_ne (fun z => by rw [z, hws1] at htu; cases htu)]
            exact sm2 _ _ htu
          · rw [take_flat hr1, ← List.cons_append]
            exact ((hts.same sm2).mono kp).app (htz.mono kp)
      · rintro σ H1 ⟨⟨sm, _, htu, ws, hws1, hts⟩, t2, rfl⟩
        refine ⟨_, rfl, k p ws H1 sm np hws1 ?_⟩
        rw [all_parts]
        rw [hlu, List.take_length] at hts
        exact hts
    · cases wf with
      | @am k0 x0 ko =>
        rw [sgn_no ko]
        exact iteF ⟨_, rfl, k p _ _ s1 np upd_same (TsAt.one (it.same s1))⟩
      | _ => exact absurd (fun e => by cases e) hpt
theorem partsOf_none (T : Tx w K mg) : Fk P w K mg base CX0 1 "parts_of" ["tree"] (spPR 0) := by
  refine T.F_parts_of.ok0 sc_parts_of (fun _ _ _ _ _ _ us hl => match us, hl with | [_], _ => rfl) (fun vs H Q E h => h.elim) (fun cdv A outer s H vs Q E hr h => h.elim)
theorem ok_parts_of (T : Tx w K mg) : ∀ d : Nat, Fk P w K mg base CX0 (d + 2) "parts_of" ["tree"] (sp_parts d)
  | 0 => partsOf_step T 0 (partsOf_none T)
  | d + 1 => partsOf_step T (d + 1) (ok_parts_of T d)
/-- the texts of the atoms of one kind, ascending, each once, in a new list -/
def sp_atoms (d : Nat) : Sp := fun vs H Q _ => ∃ (v : V) (t : Tr) (kd : Str), vs = [v, .str kd] ∧ IsT H t v ∧ Wf t ∧ t.dep ≤ d ∧ d ≤ 10 ∧ ∀ p H', Same H H' → H p = none → H' p = some (.lst ((uniS (t.txt kd)).map V.str)) → Q (.ref p) H'
/-- part[0] == kind, part[1] of a form's part -/
theorem txt_at {H : Hp} {t : Tr} {v : V} {kd : Str} (it : IsT H t v) (wf : Wf t) : ∃ p us, v = .ref p ∧ H p = some (.tup (.str t.head :: us)) ∧ (txt1 kd t = [] → t.head ≠ kd ∨ ∃ u, us[0]? = some u ∧ ¬ ∃ z, u = .str z) ∧ ∀ c, txt1 kd t = [c] → t.head = kd ∧ us = [.str c] := by
  cases t with
  | am k x =>
    obtain ⟨p, rfl, h⟩ := it
    refine ⟨p, [.str x], rfl, h, fun e => .inl fun z => ?_, fun c e => ?_⟩
    · have e : (if k = kd then [x] else []) = [] := e
      rw [if_pos (show k = kd from z)] at e
      cases e
    · have e : (if k = kd then [x] else []) = [c] := e
      by_cases z : k = kd
      · rw [if_pos z] at e
        cases e
        exact ⟨z, rfl⟩
      · rw [if_neg z] at e
        cases e
  | un s a =>
    obtain ⟨p, u, rfl, h, i1⟩ := it
    refine ⟨p, [u], rfl, h, fun _ => .inr ⟨u, rfl, fun ⟨z, e⟩ => ?_⟩, fun c e => by cases e⟩
    obtain ⟨q, e'⟩ := i1.ref
    rw [e'] at e
    cases e
  | bi s a b =>
    obtain ⟨p, u, u2, rfl, h, i1, i2⟩ := it
    refine ⟨p, [u, u2], rfl, h, fun _ => .inr ⟨u, rfl, fun ⟨z, e⟩ => ?_⟩, fun c e => by cases e⟩
    obtain ⟨q, e'⟩ := i1.ref
    rw [e'] at e
    cases e
def kinds : List Str := ["word", "name", "unknown"]
theorem head_kd {t : Tr} {kd : Str} (wf : Wf t) (hk : kd ∈ kinds) (h : txt1 kd t = []) : t.head ≠ kd := fun e => by
  by_cases hp : t.parts ≠ []
  · have a := (wf.sign hp).1
    have : ∀ z ∈ (["mark", "open", "own", "pair", "seal", "lock"] : List Str), z ∉ kinds := by decide +kernel
    exact this _ a (by rw [e]; exact hk)
  · cases t with
    | am k x =>
      have h : (if k = kd then [x] else []) = [] := h
      rw [if_pos (show k = kd from e)] at h
      cases h
    | un s a => exact hp (fun e => by cases e)
    | bi s a b => exact hp (fun e => by cases e)
abbrev s_atoms_of : Stmt := top 19
theorem sc_atoms_of : FnScope ["tree", "kind", "part"] ["tree", "kind"] (defScope s_atoms_of) := ⟨rfl, rfl, rfl, by decide +kernel, rfl, by decide +kernel, by decide +kernel⟩
theorem ok_atoms_of (T : Tx w K mg) (d : Nat) : Fk P w K mg base CX0 (d + 3) "atoms_of" ["tree", "kind"] (fun vs H Q E => sp_atoms d vs H Q E ∧ ∃ kd ∈ kinds, vs[1]? = some (.str kd)) := by
  refine T.F_atoms_of.ok0 sc_atoms_of (fun _ _ _ _ _ _ us hl => match us, hl with | [_, _], _ => rfl)
    (fun vs H Q E h => ?_) (fun cdv A outer s H vs Q E hr h => ?_)
  · obtain ⟨⟨v, t, kd, rfl, _⟩, _⟩ := h
    rfl
  · obtain ⟨⟨v, t, kd, rfl, it, wf, dp, d10, k⟩, kd', hk, e⟩ := h
    obtain rfl : kd = kd' := by cases e; rfl
    refine ⟨_, (pss_one (ps_ret (pe_callB (cr_sortedSS rfl) (by rfl) T.z_sorted (by decide +kernel) (pa_cons (pe_scS (own := [("part", 2)]) (g := gName 2)  (by rfl) sc_atoms_of.nd (pi_list (pe_fk (ok_parts_of T d) (hr.mono (by omega)) rfl pass0 (pa_cons (pv 0) pa_nil))) (blkOk_by (own := [("part", 2)]) (N := ["tree", "kind", "part"]) (sc := defScope s_atoms_of) (by decide +kernel)) (fun _ _ _ _ _ => (pg_name (i := 2) sc_atoms_of.nd rfl (Or.inl rfl))) (fun _ _ _ _ _ => (pts_one (pt_cmpR op_eq (pe_ix (kIx (r := rIxT) (K := K) rfl ix_tup) (pv 2) pe_int (fun _ _ => rfl)) (pv 1) (nomark _)))) (fun _ _ _ _ _ => (pe_ix (kIx (r := rIxT) (K := K) rfl ix_tup) (pv 2) pe_int (fun _ _ => rfl)))) pa_nil)))), ?_⟩
    refine ⟨_, rfl, v, t, rfl, it, wf, dp, (by omega), fun p ws H1 s1 np hp htz => ?_⟩
    refine ⟨p, rfl, ⟨_, SqL.of hp⟩, fun D hD => ?_⟩
    have hl1 := all_len t
    have hpw : 2 ^ (t.dep + 1) ≤ 2 ^ 11 := Nat.pow_le_pow_right (by decide) (by omega)
    have h13 : 2 ^ 11 + 1 < scanBound := by decide
    refine scl (txt1 kd) (txt1_le kd) (SqL.of hp) htz.len (by rw [htz.len]; omega) hD (fun i x t1 H2 Q2 hx ht s2 => ?_) (fun σ H P Q h z => ?_) fun H2 s2 hD2 => ?_
    · have i1 := (htz.get i t1 x ht hx).same s2
      have w1 := (all_wf wf t1 (List.mem_of_getElem? ht)).1
      obtain ⟨q, us, rfl, hq, _, h1⟩ := txt_at (kd := kd) i1 w1
      refine ⟨fun e => ?_, fun c e => ⟨?_, fun z => ?_⟩⟩
      · exact ⟨_, rfl, q, _, _, _, rfl, rfl, SqT.of hq, at_of (j := 0) rfl rfl, _, rfl, rfl, _, rfl, decide_eq_false (fun z => head_kd w1 hk e (by cases z; rfl)), rfl⟩
      · exact ⟨_, rfl, q, _, _, _, rfl, rfl, SqT.of hq, at_of (j := 0) rfl rfl, _, rfl, rfl, _, rfl, decide_eq_true (by rw [(h1 c e).1]), rfl⟩
      · rw [(h1 c e).2] at hq
        exact ⟨_, rfl, q, _, _, _, rfl, rfl, SqT.of hq, at_of (j := 1) rfl rfl, z⟩
    · obtain ⟨_, h1, q, a, b, c, h2, h3, h4, h5, d, h6, h7, e, h8, h9⟩ := z
      exact ⟨_, h1, q, a, b, c, h2, h3, h4, h5, d, h6, h7, e, h8, h _ _ h9⟩
    · refine ⟨D, _, rfl, hD2, fun ys q pm nd so hq => ?_⟩
      have e : ys = uniS (t.txt kd) := uniS_of nd so fun z => by rw [pm.mem_iff, putS_mem, txt_all]; simp
      rw [e]
      exact k q _ ((s1.trans s2).trans (Rd.Same.upd hq)) ((s1.trans s2).free hq) upd_same
def sp_txts (K : PySem.W.Frag) (d : Nat) (kd : Str) : Sp := fun vs H Q _ => ∃ (a : Addr) (v : V) (t : Tr), vs = [.ref a] ∧ IsL K H a v ∧ IsT H t v ∧ Wf t ∧ t.dep ≤ d ∧ d ≤ 10 ∧ ∀ p H', Same H H' → H p = none → H' p = some (.lst ((uniS (t.txt kd)).map V.str)) → Q (.ref p) H'
abbrev s_Letter_unknowns : Stmt := inClass (top 24) 5
theorem sc_Letter_unknowns : FnScope ["self"] ["self"] (defScope s_Letter_unknowns) := ⟨rfl, rfl, rfl, by decide +kernel, rfl, by decide +kernel, by decide +kernel⟩
theorem ok_unknowns (T : Tx w K mg) (d : Nat) : Fm P w K mg base CX0 (d + 4) "Letter" "unknowns" ["self"] (sp_txts K d "unknown") := by
  refine T.M_Letter_unknowns.ok0 sc_Letter_unknowns (fun _ _ _ _ _ _ us hl => match us, hl with | [_], _ => rfl)
    (fun vs H Q E h => ?_) (fun cdv A outer s H vs Q E hr h => ?_)
  · obtain ⟨a, v, t, rfl, _⟩ := h
    rfl
  · obtain ⟨a, v, t, rfl, ⟨dx, ha⟩, it, wf, dp, d10, k⟩ := h
    refine ⟨_, (pss_one (ps_ret (pe_fk (ok_atoms_of T d) (hr.mono (by omega)) rfl pass0 (pa_cons (pe_fld (pv 0) rfl) (pa_cons pe_str pa_nil))))), ?_⟩
    exact ⟨_, rfl, a, _, dx, _, v, rfl, ha, T.k_Letter, T.n_Letter_tree, look1 _, ⟨v, t, "unknown", rfl, it, wf, dp, d10, k⟩, "unknown", (by decide +kernel), rfl⟩
end
end Rd
namespace Rd
open PySem L2
section
variable {P : Program} {w : World} {K : PySem.W.Frag} {mg : Str → Option Value} {base : Heap}
abbrev s_filled_tree : Stmt := top 20
theorem sc_filled_tree : FnScope ["tree", "trees", "part"] ["tree", "trees"] (defScope s_filled_tree) := ⟨rfl, rfl, rfl, by decide +kernel, rfl, by decide +kernel, by decide +kernel⟩
theorem ft_step (T : Tx w K mg) (d : Nat) (ih : Fk P w K mg base CX0 (d + 1) "filled_tree" ["tree", "trees"] (spFR d)) : Fk P w K mg base CX0 (d + 2) "filled_tree" ["tree", "trees"] (sp_fill d) := by
  refine T.F_filled_tree.ok0 sc_filled_tree (fun _ _ _ _ _ _ us hl => match us, hl with | [_, _], _ => rfl)
    (fun vs H Q E h => ?_) (fun cdv A outer s H vs Q E hr h => ?_)
  · obtain ⟨v, a, t, m, rfl, _⟩ := h
    rfl
  · obtain ⟨v, a, t, m, rfl, it, wf, dp, hm, k⟩ := h
    refine ⟨_, (pss_cons (ps_if (pt_cmpR op_eq (pe_ix ix_tup (pv 0) pe_int (fun _ _ => rfl)) pe_str (nomark _))
  (pss_one (ps_ret (pe_dget2 (hu_of hr) (pv 1) (pe_ix ix_tup (pv 0) pe_int (fun _ _ => rfl)) (pv 0) ⟨by rfl, by rfl, by rfl, by rfl⟩)))
  pss_nil)
  (pss_cons (ps_if (pt_cmpR (op_inK T.D_SIGNS) (pe_ix ix_tup (pv 0) pe_int (fun _ _ => rfl)) (pe_kd T.D_SIGNS) (by rfl))
  (pss_one (ps_ret (pe_op op_catT (pe_tup (pa_cons (pe_ix ix_tup (pv 0) pe_int (fun _ _ => rfl)) pa_nil)) (pe_callTy call_tuple_of (by rfl) T.z_tuple (by decide +kernel) (pa_cons (pe_lc (own := [("part", 2)]) (g := gName 2) (tt := tYes) (by rfl) sc_filled_tree.nd (pi_tup (pe_slice sl_tup (pv 0) (po_some pe_int) po_none)) (blkOk_by (own := [("part", 2)]) (N := ["tree", "trees", "part"]) (sc := defScope s_filled_tree) (by decide +kernel)) (fun _ _ _ _ _ => (pg_name (i := 2) sc_filled_tree.nd rfl (Or.inl rfl))) (fun _ _ _ _ _ => pts_nil) (fun _ _ _ _ _ => (pe_fk ih (hr.mono (by omega)) rfl pass0 (pa_cons (pv 2) (pa_cons (pv 1) pa_nil))))) pa_nil)))))
  pss_nil)
  (pss_one (ps_ret (pv 0))))), ?_⟩
    have big : 16777216 ≤ sizeLine := by decide
    by_cases hpt : t.parts ≠ []
    · obtain ⟨hsg, hws⟩ := wf.sign hpt
      obtain ⟨pf, us, rfl, hp, hlu, hl2, hne, hus⟩ := it.parts hpt
      have h4 : ¬ decide (V.str t.head = V.str "unknown") = true := by
        have : ∀ z ∈ (["mark", "open", "own", "pair", "seal", "lock"] : List Str), ¬ decide (V.str z = V.str "unknown") = true := by decide +kernel
        exact this _ hsg
      refine ⟨_, rfl, pf, _, _, _, rfl, rfl, SqT.of hp, at_of (j := 0) rfl rfl, rfl, _, rfl, iteN h4 ?_⟩
      refine ⟨_, rfl, pf, _, _, _, rfl, rfl, SqT.of hp, at_of (j := 0) rfl rfl, _, rfl, rfl, _, rfl, iteP (decide_eq_true (mem_to (by decide +kernel) hsg)) ?_⟩
      refine ⟨_, rfl, pf, _, _, _, rfl, rfl, SqT.of hp, at_of (j := 0) rfl rfl, (by show 1 ≤ sizeLine; decide), fun q hq => ?_⟩
      have sq := Rd.Same.upd (o := .tup [.str t.head]) hq
      have hq1 : upd H q (.tup [.str t.head]) q = some (.tup [.str t.head]) := upd_same
      generalize upd H q (.tup [.str t.head]) = Hq at sq hq1
      refine ⟨_, rfl, _, rfl, pf, _, rfl, SqT.of (sq _ _ hp), ?_, fun p2 hp2 => ?_⟩
      · rintro ⟨z, _⟩
        rw [show (1 : Int) = ((1 : Nat) : Int) from rfl, HT.sIx_nat, List.length_cons] at z
        omega
      rw [cut1]
      have s2 := Rd.Same.upd (o := .tup us) hp2
      refine ⟨p2, rfl, ⟨_, SqT.of upd_same⟩, fun D hD => ?_⟩
      refine lct (C := 0) (fun i H v => ∃ r, t.parts[i]? = some r ∧ IsT H (fill m r) v) (fun i H H' v kp h => ?_) (SqT.of upd_same) (by omega) hD (fun i x H1 Q1 hx s1 k1 => ?_) fun vs H1 s1 hD1 hlv hvs => ?_
      · obtain ⟨r, e, h⟩ := h
        exact ⟨r, e, h.mono kp⟩
      · obtain ⟨r, hr1, hr2⟩ := hus i x hx
        obtain ⟨w1, w2⟩ := hws r (List.mem_of_getElem? hr1)
        have s01 := (sq.trans s2).trans s1
        cases d with
        | zero => exact absurd dp (by omega)
        | succ d => exact ⟨_, rfl, _, rfl, x, a, r, m, rfl, hr2.same s01, w1, (by omega), hm.same s01, fun u H' s' hu => k1 _ H' s' ⟨r, hr1, hu⟩⟩
      have hlv2 : vs.length = t.parts.length := hlv.trans hlu
      refine ⟨D, vs, rfl, .inl ⟨SqL.of hD1, fun l' hl' => ?_⟩⟩
      have sl := Rd.Same.upd (o := .tup vs) hl'
      have sb := (s2.trans s1).trans sl
      refine ⟨q, l', [.str t.head], vs, rfl, rfl, SqT.of (sb _ _ hq1), SqT.of upd_same, (fun e => by cases e), (by show 1 + vs.length ≤ sizeLine; omega), fun e => ?_, fun _ p hp3 => ?_⟩
      · subst e
        exact absurd hlv (by intro h; exact hpt (List.length_eq_zero_iff.mp (by rw [← hlv2]; rfl)))
      have sp := Rd.Same.upd (o := .tup ([.str t.head] ++ vs)) hp3
      refine k (.ref p) _ ((sq.trans sb).trans sp) (fill_tup hpt upd_same hlv2 fun i v hv => ?_)
      obtain ⟨r, e, h⟩ := hvs i v hv
      exact ⟨r, e, (h.same sl).same sp⟩
    · cases wf with
      | @am k0 x0 ko =>
        have ikeep := it
        obtain ⟨pf, rfl, hp⟩ := it
        refine ⟨_, rfl, pf, _, _, _, rfl, rfl, SqT.of hp, at_of (j := 0) rfl rfl, rfl, _, rfl, ?_⟩
        rcases ko with ⟨rfl, hx⟩ | ⟨rfl, hx⟩ | ⟨rfl, hx⟩
        · refine iteN (by decide +kernel) ?_
          refine ⟨_, rfl, pf, _, _, _, rfl, rfl, SqT.of hp, at_of (j := 0) rfl rfl, _, rfl, rfl, _, rfl, iteN (by decide +kernel) ?_⟩
          refine ⟨_, rfl, k _ H (Same.refl _) ?_⟩
          rw [fill, if_neg (by decide +kernel)]
          exact ikeep
        · refine iteN (by decide +kernel) ?_
          refine ⟨_, rfl, pf, _, _, _, rfl, rfl, SqT.of hp, at_of (j := 0) rfl rfl, _, rfl, rfl, _, rfl, iteN (by decide +kernel) ?_⟩
          refine ⟨_, rfl, k _ H (Same.refl _) ?_⟩
          rw [fill, if_neg (by decide +kernel)]
          exact ikeep
        · refine iteP (by decide +kernel) ?_
          obtain ⟨o, g1, g2, g3⟩ := hm.get (x := x0)
          refine ⟨_, rfl, a, rfl, hm.isD, _, rfl, pf, _, _, _, rfl, rfl, SqT.of hp, at_of (j := 1) rfl rfl, _, rfl, o, g1, k _ H (Same.refl _) ?_⟩
          rw [fill, if_pos rfl]
          cases e : m x0 with
          | none => rw [g3 e]; exact ikeep
          | some t => obtain ⟨v, e2, iv⟩ := g2 t e; rw [e2]; exact iv
      | _ => exact absurd (fun e => by cases e) hpt
theorem ft_none (T : Tx w K mg) : Fk P w K mg base CX0 1 "filled_tree" ["tree", "trees"] (spFR 0) := by
  refine T.F_filled_tree.ok0 sc_filled_tree (fun _ _ _ _ _ _ us hl => match us, hl with | [_, _], _ => rfl) (fun vs H Q E h => h.elim) (fun cdv A outer s H vs Q E hr h => h.elim)
theorem ok_filled_tree (T : Tx w K mg) : ∀ d : Nat, Fk P w K mg base CX0 (d + 2) "filled_tree" ["tree", "trees"] (sp_fill d)
  | 0 => ft_step T 0 (ft_none T)
  | d + 1 => ft_step T (d + 1) (ok_filled_tree T d)
end
end Rd
namespace Rd
open PySem L2
section
variable {P : Program} {w : World} {K : PySem.W.Frag} {mg : Str → Option Value} {base : Heap}
abbrev s__law_filled : Stmt := top 40
theorem sc__law_filled : FnScope ["_law_form_here", "_law_forms", "_law_part"] ["_law_form_here", "_law_forms"] (defScope s__law_filled) := ⟨rfl, rfl, rfl, by decide +kernel, rfl, by decide +kernel, by decide +kernel⟩
theorem lf_step (T : Tx w K mg) (d : Nat) (ih : Fk P w K mg base CX0 (d + 1) "_law_filled" ["_law_form_here", "_law_forms"] (spFR d)) : Fk P w K mg base CX0 (d + 2) "_law_filled" ["_law_form_here", "_law_forms"] (sp_fill d) := by
  refine T.F__law_filled.ok0 sc__law_filled (fun _ _ _ _ _ _ us hl => match us, hl with | [_, _], _ => rfl)
    (fun vs H Q E h => ?_) (fun cdv A outer s H vs Q E hr h => ?_)
  · obtain ⟨v, a, t, m, rfl, _⟩ := h
    rfl
  · obtain ⟨v, a, t, m, rfl, it, wf, dp, hm, k⟩ := h
    refine ⟨_, (pss_cons (ps_if (pt_cmpR op_eq (pe_ix ix_tup (pv 0) pe_int (fun _ _ => rfl)) pe_str (nomark _))
  (pss_one (ps_ret (pe_dget2 (hu_of hr) (pv 1) (pe_ix ix_tup (pv 0) pe_int (fun _ _ => rfl)) (pv 0) ⟨by rfl, by rfl, by rfl, by rfl⟩)))
  pss_nil)
  (pss_cons (ps_if (pt_cmpR op_inT (pe_ix ix_tup (pv 0) pe_int (fun _ _ => rfl)) (pe_tup (pa_cons pe_str (pa_cons pe_str pa_nil))) (by rfl))
  (pss_one (ps_ret (pv 0)))
  pss_nil)
  (pss_one (ps_ret (pe_op op_catT (pe_tup (pa_cons (pe_ix ix_tup (pv 0) pe_int (fun _ _ => rfl)) pa_nil)) (pe_callTy call_tuple_of (by rfl) T.z_tuple (by decide +kernel) (pa_cons (pe_lc (own := [("_law_part", 2)]) (g := gName 2) (tt := tYes) (by rfl) sc__law_filled.nd (pi_tup (pe_slice sl_tup (pv 0) (po_some pe_int) po_none)) (blkOk_by (own := [("_law_part", 2)]) (N := ["_law_form_here", "_law_forms", "_law_part"]) (sc := defScope s__law_filled) (by decide +kernel)) (fun _ _ _ _ _ => (pg_name (i := 2) sc__law_filled.nd rfl (Or.inl rfl))) (fun _ _ _ _ _ => pts_nil) (fun _ _ _ _ _ => (pe_fk ih (hr.mono (by omega)) rfl pass0 (pa_cons (pv 2) (pa_cons (pv 1) pa_nil))))) pa_nil))))))), ?_⟩
    have big : 16777216 ≤ sizeLine := by decide
    by_cases hpt : t.parts ≠ []
    · obtain ⟨hsg, hws⟩ := wf.sign hpt
      obtain ⟨pf, us, rfl, hp, hlu, hl2, hne, hus⟩ := it.parts hpt
      have h4 : ¬ decide (V.str t.head = V.str "unknown") = true := by
        have : ∀ z ∈ (["mark", "open", "own", "pair", "seal", "lock"] : List Str), ¬ decide (V.str z = V.str "unknown") = true := by decide +kernel
        exact this _ hsg
      have h5 : ¬ decide (t.head ∈ (["word", "name"] : List Str)) = true := by
        have : ∀ z ∈ (["mark", "open", "own", "pair", "seal", "lock"] : List Str), ¬ decide (z ∈ (["word", "name"] : List Str)) = true := by decide +kernel
        exact this _ hsg
      refine ⟨_, rfl, pf, _, _, _, rfl, rfl, SqT.of hp, at_of (j := 0) rfl rfl, rfl, _, rfl, iteN h4 ?_⟩
      refine ⟨_, rfl, pf, _, _, _, rfl, rfl, SqT.of hp, at_of (j := 0) rfl rfl, (by show 2 ≤ sizeLine; decide), fun q0 hq0 => ⟨_, q0, ["word", "name"], rfl, rfl, SqT.of upd_same, _, rfl, iteN h5 ?_⟩⟩
      have s0 := Rd.Same.upd (o := .tup [.str "word", .str "name"]) hq0
      generalize upd H q0 (.tup [.str "word", .str "name"]) = H0 at s0
      refine ⟨_, rfl, pf, _, _, _, rfl, rfl, SqT.of (s0 _ _ hp), at_of (j := 0) rfl rfl, (by show 1 ≤ sizeLine; decide), fun q hq => ?_⟩
      have sq := s0.trans (Rd.Same.upd (o := .tup [.str t.head]) hq)
      have hq1 : upd H0 q (.tup [.str t.head]) q = some (.tup [.str t.head]) := upd_same
      generalize upd H0 q (.tup [.str t.head]) = Hq at sq hq1
      refine ⟨_, rfl, _, rfl, pf, _, rfl, SqT.of (sq _ _ hp), ?_, fun p2 hp2 => ?_⟩
      · rintro ⟨z, _⟩
        rw [show (1 : Int) = ((1 : Nat) : Int) from rfl, HT.sIx_nat, List.length_cons] at z
        omega
      rw [cut1]
      have s2 := Rd.Same.upd (o := .tup us) hp2
      refine ⟨p2, rfl, ⟨_, SqT.of upd_same⟩, fun D hD => ?_⟩
      refine lct (C := 0) (fun i H v => ∃ r, t.parts[i]? = some r ∧ IsT H (fill m r) v) (fun i H H' v kp h => ?_) (SqT.of upd_same) (by omega) hD (fun i x H1 Q1 hx s1 k1 => ?_) fun vs H1 s1 hD1 hlv hvs => ?_
      · obtain ⟨r, e, h⟩ := h
        exact ⟨r, e, h.mono kp⟩
      · obtain ⟨r, hr1, hr2⟩ := hus i x hx
        obtain ⟨w1, w2⟩ := hws r (List.mem_of_getElem? hr1)
        have s01 := (sq.trans s2).trans s1
        cases d with
        | zero => exact absurd dp (by omega)
        | succ d => exact ⟨_, rfl, _, rfl, x, a, r, m, rfl, hr2.same s01, w1, (by omega), hm.same s01, fun u H' s' hu => k1 _ H' s' ⟨r, hr1, hu⟩⟩
      have hlv2 : vs.length = t.parts.length := hlv.trans hlu
      refine ⟨D, vs, rfl, .inl ⟨SqL.of hD1, fun l' hl' => ?_⟩⟩
      have sl := Rd.Same.upd (o := .tup vs) hl'
      have sb := (s2.trans s1).trans sl
      refine ⟨q, l', [.str t.head], vs, rfl, rfl, SqT.of (sb _ _ hq1), SqT.of upd_same, (fun e => by cases e), (by show 1 + vs.length ≤ sizeLine; omega), fun e => ?_, fun _ p hp3 => ?_⟩
      · subst e
        exact absurd hlv (by intro h; exact hpt (List.length_eq_zero_iff.mp (by rw [← hlv2]; rfl)))
      have sp := Rd.Same.upd (o := .tup ([.str t.head] ++ vs)) hp3
      refine k (.ref p) _ ((sq.trans sb).trans sp) (fill_tup hpt upd_same hlv2 fun i v hv => ?_)
      obtain ⟨r, e, h⟩ := hvs i v hv
      exact ⟨r, e, (h.same sl).same sp⟩
    · cases wf with
      | @am k0 x0 ko =>
        have ikeep := it
        obtain ⟨pf, rfl, hp⟩ := it
        refine ⟨_, rfl, pf, _, _, _, rfl, rfl, SqT.of hp, at_of (j := 0) rfl rfl, rfl, _, rfl, ?_⟩
        rcases ko with ⟨rfl, hx⟩ | ⟨rfl, hx⟩ | ⟨rfl, hx⟩
        · refine iteN (by decide +kernel) ?_
          refine ⟨_, rfl, pf, _, _, _, rfl, rfl, SqT.of hp, at_of (j := 0) rfl rfl, (by show 2 ≤ sizeLine; decide), fun q0 hq0 => ⟨_, q0, ["word", "name"], rfl, rfl, SqT.of upd_same, _, rfl, iteP (by decide +kernel) ?_⟩⟩
          refine ⟨_, rfl, k _ _ (Rd.Same.upd hq0) ?_⟩
          rw [fill, if_neg (by decide +kernel)]
          exact ikeep.same (Rd.Same.upd hq0)
        · refine iteN (by decide +kernel) ?_
          refine ⟨_, rfl, pf, _, _, _, rfl, rfl, SqT.of hp, at_of (j := 0) rfl rfl, (by show 2 ≤ sizeLine; decide), fun q0 hq0 => ⟨_, q0, ["word", "name"], rfl, rfl, SqT.of upd_same, _, rfl, iteP (by decide +kernel) ?_⟩⟩
          refine ⟨_, rfl, k _ _ (Rd.Same.upd hq0) ?_⟩
          rw [fill, if_neg (by decide +kernel)]
          exact ikeep.same (Rd.Same.upd hq0)
        · refine iteP (by decide +kernel) ?_
          obtain ⟨o, g1, g2, g3⟩ := hm.get (x := x0)
          refine ⟨_, rfl, a, rfl, hm.isD, _, rfl, pf, _, _, _, rfl, rfl, SqT.of hp, at_of (j := 1) rfl rfl, _, rfl, o, g1, k _ H (Same.refl _) ?_⟩
          rw [fill, if_pos rfl]
          cases e : m x0 with
          | none => rw [g3 e]; exact ikeep
          | some t => obtain ⟨v, e2, iv⟩ := g2 t e; rw [e2]; exact iv
      | _ => exact absurd (fun e => by cases e) hpt
theorem lf_none (T : Tx w K mg) : Fk P w K mg base CX0 1 "_law_filled" ["_law_form_here", "_law_forms"] (spFR 0) := by
  refine T.F__law_filled.ok0 sc__law_filled (fun _ _ _ _ _ _ us hl => match us, hl with | [_, _], _ => rfl) (fun vs H Q E h => h.elim) (fun cdv A outer s H vs Q E hr h => h.elim)
theorem ok__law_filled (T : Tx w K mg) : ∀ d : Nat, Fk P w K mg base CX0 (d + 2) "_law_filled" ["_law_form_here", "_law_forms"] (sp_fill d)
  | 0 => lf_step T 0 (lf_none T)
  | d + 1 => lf_step T (d + 1) (ok__law_filled T d)
end
end Rd
namespace Rd
open PySem L2
/-! ### a pattern becomes a form, its unknowns being bound on the way -/
def mtl : Tr → Tr → List (Str × Tr) → Bool × List (Str × Tr)
  | .am k x, t, l => if k = "unknown" then (match look l x with
    | some u => (decide (u = t), l)
    | none => (true, l ++ [(x, t)])) else (decide (Tr.am k x = t), l)
  | .un s a, t, l => match t with
    | .un s' b => if s = s' then mtl a b l else (false, l)
    | _ => (false, l)
  | .bi s a b, t, l => match t with
    | .bi s' c d => if s = s' then (if (mtl a c l).1 = true then mtl b d (mtl a c l).2 else (false, (mtl a c l).2)) else (false, l)
    | _ => (false, l)
def mtls : List (Tr × Tr) → List (Str × Tr) → Bool × List (Str × Tr)
  | [], l => (true, l)
  | p :: r, l => if (mtl p.1 p.2 l).1 = true then mtls r (mtl p.1 p.2 l).2 else (false, (mtl p.1 p.2 l).2)
theorem mtls_one {p : Tr × Tr} {l : List (Str × Tr)} : mtls [p] l = mtl p.1 p.2 l := by
  rw [mtls, mtls]
  rcases e : mtl p.1 p.2 l with ⟨b, l'⟩
  cases b <;> rfl
theorem sgNe {s s' : Str} (h1 : s ∈ (["mark", "open", "own"] : List Str)) (h2 : s' ∈ (["pair", "seal", "lock"] : List Str)) : s ≠ s' := by
  have : ∀ a ∈ (["mark", "open", "own"] : List Str), ∀ b ∈ (["pair", "seal", "lock"] : List Str), a ≠ b := by decide +kernel
  exact this _ h1 _ h2
theorem sgNk {s k x : Str} (h1 : s ∈ (["mark", "open", "own", "pair", "seal", "lock"] : List Str)) (h2 : kindOk k x) : s ≠ k := by
  have : ∀ a ∈ (["mark", "open", "own", "pair", "seal", "lock"] : List Str), ∀ b ∈ (["word", "name", "unknown"] : List Str), a ≠ b := by decide +kernel
  refine this _ h1 _ ?_
  rcases h2 with ⟨rfl, _⟩ | ⟨rfl, _⟩ | ⟨rfl, _⟩ <;> decide +kernel
theorem Wf.shape {t : Tr} (h : Wf t) : (∃ k x, t = .am k x ∧ kindOk k x) ∨ (∃ s a, t = .un s a ∧ s ∈ (["mark", "open", "own"] : List Str)) ∨ ∃ s a b, t = .bi s a b ∧ s ∈ (["pair", "seal", "lock"] : List Str) := by
  cases h with
  | am ko => exact .inl ⟨_, _, rfl, ko⟩
  | un hs _ => exact .inr (.inl ⟨_, _, rfl, hs⟩)
  | bi hs _ _ => exact .inr (.inr ⟨_, _, _, rfl, mem_to (by decide +kernel) hs⟩)
  | lk hs _ _ => exact .inr (.inr ⟨_, _, _, rfl, by decide +kernel⟩)
theorem mtl_head {p t : Tr} {l : List (Str × Tr)} (hp : p.parts ≠ []) (hh : p.head ≠ t.head) : mtl p t l = (false, l) := by
  cases p with
  | am k x => exact absurd rfl hp
  | un s a =>
    cases t with
    | un s' b => rw [mtl]; exact if_neg hh
    | _ => rfl
  | bi s a b =>
    cases t with
    | bi s' c d => rw [mtl]; exact if_neg hh
    | _ => rfl
theorem mtl_parts {p t : Tr} {l : List (Str × Tr)} (hp : p.parts ≠ []) (wp : Wf p) (wt : Wf t) (hh : p.head = t.head) : mtl p t l = mtls (p.parts.zip t.parts) l ∧ p.parts.length = t.parts.length := by
  rcases wp.shape with ⟨k, x, rfl, ko⟩ | ⟨s, a, rfl, hs⟩ | ⟨s, a, b, rfl, hs⟩
  · exact absurd rfl hp
  · rcases wt.shape with ⟨k, x, rfl, ko⟩ | ⟨s', a', rfl, hs'⟩ | ⟨s', a', b', rfl, hs'⟩
    · exact absurd hh (sgNk (mem_to (by decide +kernel) hs) ko)
    · have hh : s = s' := hh
      subst hh
      refine ⟨?_, rfl⟩
      show _ = mtls [(a, a')] l
      rw [mtls_one, mtl, if_pos rfl]
    · exact absurd hh (sgNe hs hs')
  · rcases wt.shape with ⟨k, x, rfl, ko⟩ | ⟨s', a', rfl, hs'⟩ | ⟨s', a', b', rfl, hs'⟩
    · exact absurd hh (sgNk (mem_to (by decide +kernel) hs) ko)
    · exact absurd hh.symm (sgNe hs' hs)
    · have hh : s = s' := hh
      subst hh
      refine ⟨?_, rfl⟩
      show _ = mtls [(a, a'), (b, b')] l
      rw [mtls, mtls_one, mtl, if_pos rfl]
def Bn (n : Nat) (l : List (Str × Tr)) : Prop := l.length ≤ n ∧ (l.map (·.1)).Nodup ∧ ∀ p ∈ l, Wf p.2 ∧ p.2.dep ≤ 60
theorem Bn.mono {n m : Nat} {l : List (Str × Tr)} (h : Bn n l) (e : n ≤ m) : Bn m l := ⟨Nat.le_trans h.1 e, h.2⟩
theorem Bn.snoc {n : Nat} {l : List (Str × Tr)} {x : Str} {t : Tr} (h : Bn n l) (e : look l x = none) (w : Wf t) (d : t.dep ≤ 60) : Bn (n + 1) (l ++ [(x, t)]) := by
  obtain ⟨h1, h2, h3⟩ := h
  refine ⟨by rw [List.length_append]; exact Nat.succ_le_succ h1, ?_, fun p hp => ?_⟩
  · rw [List.map_append]
    refine List.nodup_append.mpr ⟨h2, by simp, fun a ha b hb z => ?_⟩
    have hb : b = x := by simpa using hb
    obtain ⟨q, hq, eq⟩ := List.mem_map.mp ha
    obtain ⟨i, hi⟩ := List.getElem?_of_mem hq
    obtain ⟨y, u⟩ := q
    have hy : y = x := by rw [← hb, ← z]; exact eq
    subst hy
    rw [look_get h2 hi] at e
    cases e
  · rcases List.mem_append.mp hp with h | h
    · exact h3 p h
    · have : p = (x, t) := by simpa using h
      subst this
      exact ⟨w, d⟩
def MR (p t : Tr) (l : List (Str × Tr)) (b : Bool) (l' : List (Str × Tr)) : Prop := b = (mtl p t l).1 ∧ (b = true → l' = (mtl p t l).2)
def sp_mt (d : Nat) : Sp := fun vs H Q _ => ∃ (v1 v2 : V) (B : Addr) (p t : Tr) (kvs : List (Key × V)) (l : List (Str × Tr)) (n : Nat), vs = [v1, v2, .ref B] ∧ IsT H p v1 ∧ IsT H t v2 ∧ Wf p ∧ Wf t ∧ p.dep ≤ d ∧ t.dep ≤ 60 ∧ H B = some (.dK kvs) ∧ Al IsT H l kvs ∧ Bn n l ∧ n + p.nod + 1 ≤ 100000 ∧
  ∀ b l' kvs' H', But B H H' → H' B = some (.dK kvs') → Al IsT H' l' kvs' → Bn (n + p.nod + 1) l' → MR p t l b l' → Q (.bl b) H'
def spMR : Nat → Sp
  | 0 => fun _ _ _ _ => False
  | d + 1 => sp_mt d
end Rd
namespace Rd
open PySem L2
theorem look_mem {l : List (Str × Tr)} {x : Str} {t : Tr} (h : look l x = some t) : (x, t) ∈ l := by
  unfold look at h
  cases e : l.find? (fun p => decide (p.1 = x)) with
  | none => rw [e] at h; cases h
  | some p =>
    rw [e] at h
    have h1 := List.mem_of_find?_eq_some e
    have h2 := List.find?_some e
    have h3 : p.1 = x := of_decide_eq_true h2
    cases h
    rw [← h3]
    exact h1
theorem notIn_no {z : Str} {l : List Str} (h : z ∈ l) : ¬ (!decide (z ∈ l)) = true := by rw [decide_eq_true h]; decide
theorem sum_take (l : List (Tr × Tr)) : ∀ i : Nat, ((l.take i).map fun q => q.1.nod + 1).sum ≤ (l.map fun q => q.1.nod + 1).sum := by
  induction l with
  | nil => intro i; simp
  | cons a l ih =>
    intro i
    cases i with
    | zero => simp
    | succ i =>
      have := ih i
      simp only [List.take_succ_cons, List.map_cons, List.sum_cons]
      omega
theorem nod_sum (p : Tr) (l : List Tr) : ((p.parts.zip l).map fun q => q.1.nod + 1).sum ≤ p.nod + 1 := by
  cases p with
  | am k x => exact Nat.zero_le _
  | un s a =>
    cases l with
    | nil => exact Nat.zero_le _
    | cons x l =>
      show a.nod + 1 + 0 ≤ a.nod + 1 + 1
      omega
  | bi s a b =>
    cases l with
    | nil => exact Nat.zero_le _
    | cons x l =>
      cases l with
      | nil =>
        show a.nod + 1 + 0 ≤ a.nod + b.nod + 1 + 1
        omega
      | cons y l =>
        show a.nod + 1 + (b.nod + 1 + 0) ≤ a.nod + b.nod + 1 + 1
        omega
section
variable {P : Program} {w : World} {K : PySem.W.Frag} {mg : Str → Option Value} {base : Heap}
end
end Rd
namespace Rd
open PySem L2
section
variable {P : Program} {w : World} {K : PySem.W.Frag} {mg : Str → Option Value} {base : Heap}
abbrev s__law_matched : Stmt := top 41
theorem sc__law_matched : FnScope ["_law_pattern", "_law_form_here", "_law_bound", "_law_one", "_law_other"] ["_law_pattern", "_law_form_here", "_law_bound"] (defScope s__law_matched) := ⟨rfl, rfl, rfl, by decide +kernel, rfl, by decide +kernel, by decide +kernel⟩
theorem lm_step (T : Tx w K mg) (d : Nat) (h60 : d ≤ 60) (ih : Fk P w K mg base CX0 (d + 1) "_law_matched" ["_law_pattern", "_law_form_here", "_law_bound"] (spMR d)) : Fk P w K mg base CX0 (d + 2) "_law_matched" ["_law_pattern", "_law_form_here", "_law_bound"] (sp_mt d) := by
  refine T.F__law_matched.ok0 sc__law_matched (fun _ _ _ _ _ _ us hl => match us, hl with | [_, _, _], _ => rfl)
    (fun vs H Q E h => ?_) (fun cdv A outer s H vs Q E hr h => ?_)
  · obtain ⟨v1, v2, B, p, t, kvs, l, n, rfl, _⟩ := h
    rfl
  · obtain ⟨v1, v2, B, p, t, kvs, l, n, rfl, ip, it, wp, wt, dp, dt, hB, al, bn, hn, k⟩ := h
    refine ⟨_, (pss_cons (ps_if (pt_cmpR op_eq (pe_ix ix_tup (pv 0) pe_int (fun _ _ => rfl)) pe_str (nomark _))
  (pss_cons (ps_if (pt_cmp (pc_dnotin (hu_of hr) (pe_ix ix_tup (pv 0) pe_int (fun _ _ => rfl)) (pv 2)))
  (pss_one (ps_dput (hu_of hr) (pv 2) (pe_ix ix_tup (pv 0) pe_int (fun _ _ => rfl)) (pv 1) (by rfl)))
  pss_nil)
  (pss_one (ps_ret (pe_cmpR (op_eqD hr.units) (pe_dget (hu_of hr) (pv 2) (pe_ix ix_tup (pv 0) pe_int (fun _ _ => rfl)) (fun _ _ => rfl)) (pv 1) (nomark _)))))
  pss_nil)
  (pss_cons (ps_if (PW.pt (pw_or (pt_cmpR op_inT (pe_ix ix_tup (pv 0) pe_int (fun _ _ => rfl)) (pe_tup (pa_cons pe_str (pa_cons pe_str pa_nil))) (by rfl)) (pw_or1 (pt_cmpR op_ne (pe_ix ix_tup (pv 0) pe_int (fun _ _ => rfl)) (pe_ix ix_tup (pv 1) pe_int (fun _ _ => rfl)) (nomark _)))))
  (pss_one (ps_ret (pe_cmpR (op_eqD hr.units) (pv 0) (pv 1) (nomark _))))
  pss_nil)
  (pss_cons (ps_for PassesOwn.never rfl (pi_zipTk (K := K) rfl rfl T.z_zip (pa_cons (pe_slice sl_tup (pv 0) (po_some pe_int) po_none) (pa_cons (pe_slice sl_tup (pv 1) (po_some pe_int) po_none) pa_nil))) (pg_tup rfl (pgs_cons (pg_name (i := 3) sc__law_matched.nd rfl (Or.inl rfl)) (pgs_cons (pg_name (i := 4) sc__law_matched.nd rfl (Or.inl rfl)) pgs_nil)))
  (pss_one (ps_if (pt_not (pt_val (pe_fk ih (hr.mono (by omega)) rfl pass0 (pa_cons (pv 3) (pa_cons (pv 4) (pa_cons (pv 2) pa_nil))))))
  (pss_one (ps_ret pe_bl))
  pss_nil)))
  (pss_one (ps_ret pe_bl))))), ?_⟩
    have big : 16777216 ≤ sizeLine := by decide
    have wt' := wt.fine
    have hlen := al.len
    have hln := bn.1
    have dtk := dat_shaped wt' dt
    by_cases hpt : p.parts ≠ []
    · obtain ⟨hsg, hws⟩ := wp.sign hpt
      have wp' := wp.fine
      have ikeep := ip
      have tkeep := it
      obtain ⟨pf, us, rfl, hp, hlu, hl2, hne, hus⟩ := ip.parts hpt
      obtain ⟨pg, us2, rfl, hp2⟩ := it.hd
      have h4 : ¬ decide (V.str p.head = V.str "unknown") = true := by
        have : ∀ z ∈ (["mark", "open", "own", "pair", "seal", "lock"] : List Str), ¬ decide (V.str z = V.str "unknown") = true := by decide +kernel
        exact this _ hsg
      refine ⟨_, rfl, pf, _, _, _, rfl, rfl, SqT.of hp, at_of (j := 0) rfl rfl, rfl, _, rfl, iteN h4 (nxt ?_)⟩
      try dsimp only
      have h5 : ¬ (p.head ∈ (["word", "name"] : List Str)) := by
        have : ∀ z ∈ (["mark", "open", "own", "pair", "seal", "lock"] : List Str), ¬ (z ∈ (["word", "name"] : List Str)) := by decide +kernel
        exact this _ hsg
      have tb1 : ∀ {Q2 : Bool → Hp → Prop}, (∀ H', Same H H' → Q2 false H') → 2 ≤ sizeLine ∧ ∀ q0, H q0 = none → ∃ (x : Str) (b : Addr) (xs : List Str), (V.str p.head : V) = .str x ∧ (V.ref q0 : V) = .ref b ∧ SqT K (upd H q0 (.tup [.str "word", .str "name"])) b (xs.map V.str) ∧ ∃ k, V.bl (decide (x ∈ xs)) = .bl k ∧ Q2 k (upd H q0 (.tup [.str "word", .str "name"])) := fun kq => ⟨by decide, fun q0 hq0 => ⟨_, q0, ["word", "name"], rfl, rfl, SqT.of upd_same, _, rfl, by rw [decide_eq_false h5]; exact kq _ (Rd.Same.upd hq0)⟩⟩
      by_cases hh : p.head = t.head
      · refine seqIf (tb_or (b := false) (c := false) (fun Q2 kq => ⟨_, rfl, pf, _, _, _, rfl, rfl, SqT.of hp, at_of (j := 0) rfl rfl, tb1 kq⟩) (fun H' s' _ Q2 kq => ?_)) fun H0 s0 => iteF (nxt ?_)
        · refine ⟨_, rfl, pf, _, _, _, rfl, rfl, SqT.of (s' _ _ hp), at_of (j := 0) rfl rfl, _, rfl, pg, _, _, _, rfl, rfl, SqT.of (s' _ _ hp2), at_of (j := 0) rfl rfl, rfl, _, rfl, ?_⟩
          rw [hh, decide_eq_true rfl]
          exact kq _ (Same.refl _)
        try dsimp only
        obtain ⟨em, el⟩ := mtl_parts (l := l) hpt wp wt hh
        have htp : t.parts ≠ [] := fun e => hpt (List.length_eq_zero_iff.mp (by rw [el, e]; rfl))
        obtain ⟨pg', us', e', hp2', hlu2, _, _, hus2⟩ := it.parts htp
        cases e'
        rw [hp2] at hp2'
        cases hp2'
        have hwt := (wt.sign htp).2
        refine ⟨_, rfl, _, rfl, pf, _, rfl, SqT.of (s0 _ _ hp), ?_, fun p2 hp2n => ?_⟩
        · rintro ⟨z, _⟩
          rw [show (1 : Int) = ((1 : Nat) : Int) from rfl, HT.sIx_nat, List.length_cons] at z
          omega
        rw [cut1]
        have s2 := s0.trans (Rd.Same.upd (o := .tup us) hp2n)
        have h22 : upd H0 p2 (.tup us) p2 = some (.tup us) := upd_same
        generalize upd H0 p2 (.tup us) = H2 at s2 h22 ⊢
        refine ⟨_, rfl, _, rfl, pg, _, rfl, SqT.of (s2 _ _ hp2), ?_, fun p3 hp3 => ?_⟩
        · rintro ⟨z, _⟩
          rw [show (1 : Int) = ((1 : Nat) : Int) from rfl, HT.sIx_nat, List.length_cons] at z
          omega
        rw [cut1]
        have sx := Rd.Same.upd (o := .tup us2) hp3
        have s3 := s2.trans sx
        have h23 := sx _ _ h22
        have h33 : upd H2 p3 (.tup us2) p3 = some (.tup us2) := upd_same
        generalize upd H2 p3 (.tup us2) = H3 at s3 h23 h33 ⊢
        have hB3 := s3 _ _ hB
        have n2B : p2 ≠ B := fun z => by rw [z, hB3] at h23; cases h23
        have n3B : p3 ≠ B := fun z => by rw [z, hB3] at h33; cases h33
        have hzl : (p.parts.zip t.parts).length = us.length := by rw [List.length_zip, ← el, Nat.min_self, hlu]
        have hsum : (((p.parts.zip t.parts)).map fun q => q.1.nod + 1).sum ≤ p.nod + 1 := nod_sum p t.parts
        have kp0 : ∀ {Hc : Hp}, (∀ c o, c ≠ B → H3 c = some o → Hc c = some o) → Kp 0 H3 Hc := fun {Hc} fr c o hi e => fr c o (fun z => by rw [z, hB3] at e; cases e; cases hi) e
        refine ⟨p2, p3, us, us2, rfl, SqT.of h23, SqT.of h33, ?_⟩
        refine ⟨fun i m σ Hc => m = us.length - i ∧ i ≤ us.length ∧ (∃ t3 t4 : Option V, σ = [some (.ref pf), some (.ref pg), some (.ref B), t3, t4]) ∧ (∀ c o, c ≠ B → H3 c = some o → Hc c = some o) ∧ ∃ (lc : List (Str × Tr)) (kc : List (Key × V)), Hc B = some (.dK kc) ∧ Al IsT Hc lc kc ∧ Bn (n + (((p.parts.zip t.parts).take i).map fun q => q.1.nod + 1).sum) lc ∧ mtls (p.parts.zip t.parts) l = mtls ((p.parts.zip t.parts).drop i) lc, ⟨_, rfl, Nat.zero_le _, ⟨_, _, rfl⟩, fun c o _ e => e, l, kvs, hB3, al.mono (S := IsT) (fun t v h => h.same s3), bn, rfl⟩, ?_⟩
        rintro i m σ Hc ⟨rfl, hi, ⟨t3, t4, rfl⟩, fr, lc, kc, hBc, alc, bnc, ht⟩
        by_cases hlt : i < us.length
        · obtain ⟨r1, hr1, ir1⟩ := hus i us[i] (List.getElem?_eq_getElem hlt)
          have hlt2 : i < us2.length := by omega
          obtain ⟨r2, hr2, ir2⟩ := hus2 i us2[i] (List.getElem?_eq_getElem hlt2)
          obtain ⟨w1, w2⟩ := hws r1 (List.mem_of_getElem? hr1)
          obtain ⟨w3, w4⟩ := hwt r2 (List.mem_of_getElem? hr2)
          have hz : (p.parts.zip t.parts)[i]? = some (r1, r2) := List.getElem?_zip_eq_some.mpr ⟨hr1, hr2⟩
          have etk : (p.parts.zip t.parts).take (i + 1) = (p.parts.zip t.parts).take i ++ [(r1, r2)] := by rw [List.take_succ, hz]; rfl
          have edr : (p.parts.zip t.parts).drop i = (r1, r2) :: (p.parts.zip t.parts).drop (i + 1) := by
            obtain ⟨h1, h2⟩ := List.getElem?_eq_some_iff.mp hz
            rw [← h2]
            exact List.drop_eq_getElem_cons h1
          have hsum2 : (((p.parts.zip t.parts).take (i + 1)).map fun q => q.1.nod + 1).sum ≤ p.nod + 1 := Nat.le_trans (sum_take _ (i + 1)) hsum
          rw [etk, List.map_append, List.sum_append] at hsum2
          have hsum3 : (((p.parts.zip t.parts).take i).map fun q => q.1.nod + 1).sum + (r1.nod + 1) ≤ p.nod + 1 := hsum2
          have q2 : SqT K Hc p2 us := SqT.of (fr _ _ n2B h23)
          have q3 : SqT K Hc p3 us2 := SqT.of (fr _ _ n3B h33)
          refine .inr ⟨⟨us, us2, us[i], us2[i], q2, q3, List.getElem?_eq_getElem hlt, List.getElem?_eq_getElem hlt2⟩, fun σ Hc => (∃ t3 t4 : Option V, σ = [some (.ref pf), some (.ref pg), some (.ref B), t3, t4]) ∧ (∀ c o, c ≠ B → H3 c = some o → Hc c = some o) ∧ ∃ (lc : List (Str × Tr)) (kc : List (Key × V)), Hc B = some (.dK kc) ∧ Al IsT Hc lc kc ∧ Bn (n + (((p.parts.zip t.parts).take (i + 1)).map fun q => q.1.nod + 1).sum) lc ∧ mtls (p.parts.zip t.parts) l = mtls ((p.parts.zip t.parts).drop (i + 1)) lc, fun σ' H' h => ⟨us.length - (i + 1), by omega, rfl, hlt, h⟩, ?_⟩
          rintro _ _ ⟨Tq, x, y, rfl, hT, rfl, gx, gy⟩
          have ex := gx _ q2
          have ey := gy _ q3
          rw [List.getElem?_eq_getElem hlt] at ex
          rw [List.getElem?_eq_getElem hlt2] at ey
          cases ex
          cases ey
          have sT := Rd.Same.upd (o := .tup [us[i], us2[i]]) hT
          refine ⟨Tq, [us[i], us2[i]], rfl, SqT.of upd_same, rfl, _, _, rfl, _, _, rfl, rfl, ?_⟩
          have kcT : Kp 0 H _ := ((Kp.of_same s3).trans (kp0 fr)).trans (Kp.of_same sT)
          cases d with
          | zero => exact absurd dp (by omega)
          | succ d =>
            refine ⟨_, rfl, _, rfl, _, rfl, us[i], us2[i], B, r1, r2, kc, lc, n + (((p.parts.zip t.parts).take i).map fun q => q.1.nod + 1).sum, rfl, ir1.mono kcT, ir2.mono kcT, w1, w3, (by omega), (by omega), sT _ _ hBc, alc.mono (fun t v h => h.same sT), bnc, (by omega), fun b l' kvs' H' bt hB' al' bn' mr => ?_⟩
            obtain ⟨m1, m2⟩ := mr
            have frn : ∀ c o, c ≠ B → H3 c = some o → H' c = some o := fun c o h1 e => bt c o h1 (sT _ _ (fr c o h1 e))
            refine ⟨_, rfl, ?_⟩
            cases b with
            | false =>
              refine iteP (by decide) ?_
              refine k false l' kvs' H' (fun c o hc e => frn c o hc (s3 _ _ e)) hB' al' (bn'.mono (by omega)) ⟨?_, fun e => by cases e⟩
              rw [em, ht, edr, mtls, if_neg (by rw [← m1]; decide)]
            | true =>
              refine iteN (by decide) ?_
              refine ⟨⟨_, _, rfl⟩, frn, l', kvs', hB', al', ?_, ?_⟩
              · rw [etk, List.map_append, List.sum_append]
                exact bn'.mono (by show _ ≤ n + (_ + (r1.nod + 1)); omega)
              · rw [ht, edr, mtls, if_pos m1.symm, m2 rfl]
        · have hie : i = us.length := by omega
          refine .inl ⟨⟨us, us2, SqT.of (fr _ _ n2B h23), SqT.of (fr _ _ n3B h33), by omega⟩, ?_⟩
          rw [List.drop_of_length_le (by omega)] at ht
          rw [List.take_of_length_le (by omega)] at bnc
          refine k true lc kc Hc (fun c o hc e => fr c o hc (s3 _ _ e)) hBc alc (bnc.mono (by omega)) ⟨?_, fun e => ?_⟩
          · rw [em, ht]
            rfl
          · rw [em, ht]
            rfl
      · refine seqIf (tb_or (b := false) (c := true) (fun Q2 kq => ⟨_, rfl, pf, _, _, _, rfl, rfl, SqT.of hp, at_of (j := 0) rfl rfl, tb1 kq⟩) (fun H' s' _ Q2 kq => ?_)) fun H0 s0 => iteT ?_
        · refine ⟨_, rfl, pf, _, _, _, rfl, rfl, SqT.of (s' _ _ hp), at_of (j := 0) rfl rfl, _, rfl, pg, _, _, _, rfl, rfl, SqT.of (s' _ _ hp2), at_of (j := 0) rfl rfl, rfl, _, rfl, ?_⟩
          rw [decide_eq_false (fun e => hh (V.str.inj e))]
          exact kq _ (Same.refl _)
        refine ⟨_, rfl, _, rfl, dat p, dat t, (ikeep.same s0).dp, (tkeep.same s0).dp, dat_shaped wp' (by omega), dtk, ?_⟩
        rw [eqv_dat, decide_eq_false (fun e => hh (by rw [e]))]
        refine k false l kvs H0 (fun _ _ _ e => s0 _ _ e) (s0 _ _ hB) (al.mono fun t v h => h.same s0) (bn.mono (by omega)) ⟨?_, fun e => by cases e⟩
        rw [mtl_head hpt hh]
    · cases wp with
      | @am k0 x0 ko =>
        have ikeep := ip
        obtain ⟨pf, rfl, hp⟩ := ip
        refine ⟨_, rfl, pf, _, _, _, rfl, rfl, SqT.of hp, at_of (j := 0) rfl rfl, rfl, _, rfl, ?_⟩
        have plain : ∀ (hk : k0 ≠ "unknown") H0, Same H H0 → Q (.bl (PyData.eqv (dat (.am k0 x0)) (dat t))) H0 := fun hk H0 s0 => by
          refine k _ l kvs H0 (fun _ _ _ e => s0 _ _ e) (s0 _ _ hB) (al.mono fun t v h => h.same s0) (bn.mono (by omega)) ⟨?_, fun _ => ?_⟩
          · rw [mtl, if_neg hk, eqv_dat]
          · rw [mtl, if_neg hk]
        rcases ko with ⟨rfl, hx⟩ | ⟨rfl, hx⟩ | ⟨rfl, hx⟩
        · refine iteN (by decide +kernel) (nxt ?_)
          try dsimp only
          refine ⟨_, rfl, pf, _, _, _, rfl, rfl, SqT.of hp, at_of (j := 0) rfl rfl, (by show 2 ≤ sizeLine; decide), fun q0 hq0 => ⟨_, q0, ["word", "name"], rfl, rfl, SqT.of upd_same, _, rfl, ?_⟩⟩
          have s0 := Rd.Same.upd (o := .tup [.str "word", .str "name"]) hq0
          generalize upd H q0 (.tup [.str "word", .str "name"]) = H0 at s0 ⊢
          refine iteP (by decide +kernel) (iteP (by decide +kernel) ?_)
          exact ⟨_, rfl, _, rfl, _, dat t, (ikeep.same s0).dp, (it.same s0).dp, dat_shaped (Wf.am (.inl ⟨rfl, hx⟩)).fine (Nat.zero_le _), dtk, plain (by decide +kernel) H0 s0⟩
        · refine iteN (by decide +kernel) (nxt ?_)
          try dsimp only
          refine ⟨_, rfl, pf, _, _, _, rfl, rfl, SqT.of hp, at_of (j := 0) rfl rfl, (by show 2 ≤ sizeLine; decide), fun q0 hq0 => ⟨_, q0, ["word", "name"], rfl, rfl, SqT.of upd_same, _, rfl, ?_⟩⟩
          have s0 := Rd.Same.upd (o := .tup [.str "word", .str "name"]) hq0
          generalize upd H q0 (.tup [.str "word", .str "name"]) = H0 at s0 ⊢
          refine iteP (by decide +kernel) (iteP (by decide +kernel) ?_)
          exact ⟨_, rfl, _, rfl, _, dat t, (ikeep.same s0).dp, (it.same s0).dp, dat_shaped (Wf.am (.inr (.inl ⟨rfl, hx⟩))).fine (Nat.zero_le _), dtk, plain (by decide +kernel) H0 s0⟩
        · refine iteP (by decide +kernel) ?_
          refine ⟨_, rfl, pf, _, _, _, rfl, rfl, SqT.of hp, at_of (j := 1) rfl rfl, _, rfl, B, _, rfl, DGet.k (k := .inr x0) hB, _, rfl, ?_⟩
          cases e : look l x0 with
          | some u =>
            obtain ⟨v0, e0, i0⟩ := (al.look (x := x0)).1 u e
            obtain ⟨wu, du⟩ := bn.2.2 _ (look_mem e)
            rw [e0]
            refine iteN (by simp) (nxt ?_)
            try dsimp only
            refine ⟨_, rfl, _, rfl, pf, _, _, _, rfl, rfl, SqT.of hp, at_of (j := 1) rfl rfl, B, v0, rfl, .inl ⟨kvs, .inr x0, .inl hB, rfl, e0.symm⟩, _, rfl, dat u, dat t, i0.dp, it.dp, dat_shaped wu.fine du, dtk, ?_⟩
            refine k _ l kvs H (fun _ _ _ e => e) hB al (bn.mono (by omega)) ⟨?_, fun _ => ?_⟩
            · rw [mtl, if_pos rfl, e, eqv_dat]
            · rw [mtl, if_pos rfl, e]
          | none =>
            have hv' := (al.look (x := x0)).2 e
            rw [hv']
            refine iteP (by simp) ?_
            refine ⟨_, rfl, _, rfl, _, rfl, pf, _, _, _, rfl, rfl, SqT.of hp, at_of (j := 1) rfl rfl, B, _, rfl, DPut.k (k := .inr x0) hB (by omega), ?_⟩
            rw [putK_new v2 hv']
            have kp := Kp.upd_dK (C := 0) (ys := kvs ++ [(.inr x0, v2)]) hB
            have it' := it.mono kp
            have hp' := kp _ _ rfl hp
            have e0 : valV (kvs ++ [(.inr x0, v2)]) (.inr x0) = some v2 := by rw [valV_snoc _ _ _ _ hv', if_pos rfl]
            try dsimp only
            refine ⟨_, rfl, _, rfl, pf, _, _, _, rfl, rfl, SqT.of hp', at_of (j := 1) rfl rfl, B, v2, rfl, .inl ⟨_, .inr x0, .inl upd_same, rfl, e0.symm⟩, _, rfl, dat t, dat t, it'.dp, it'.dp, dtk, dtk, ?_⟩
            rw [SeqAt.eqv_refl _ (dat_lay wt')]
            refine k true (l ++ [(x0, t)]) _ _ (fun c o hc e => by rw [upd_ne hc]; exact e) upd_same (Al.snoc it' (al.mono fun t v h => h.mono kp)) ((bn.snoc e wt dt).mono (by omega)) ⟨?_, fun _ => ?_⟩
            · rw [mtl, if_pos rfl, e]
            · rw [mtl, if_pos rfl, e]
      | _ => exact absurd (fun e => by cases e) hpt
theorem lm_none (T : Tx w K mg) : Fk P w K mg base CX0 1 "_law_matched" ["_law_pattern", "_law_form_here", "_law_bound"] (spMR 0) := by
  refine T.F__law_matched.ok0 sc__law_matched (fun _ _ _ _ _ _ us hl => match us, hl with | [_, _, _], _ => rfl) (fun vs H Q E h => h.elim) (fun cdv A outer s H vs Q E hr h => h.elim)
theorem ok__law_matched (T : Tx w K mg) : ∀ d : Nat, d ≤ 60 → Fk P w K mg base CX0 (d + 2) "_law_matched" ["_law_pattern", "_law_form_here", "_law_bound"] (sp_mt d)
  | 0, h => lm_step T 0 h (lm_none T)
  | d + 1, h => lm_step T (d + 1) h (ok__law_matched T d (by omega))
end
end Rd
namespace Rd
open PySem L2
section
variable {X : Cx} {CX : CXT} {k : Nat} {ps : List Str} {sp : Sp} {E : XK} {c : Str} {p pos : Pos} {e : Expr} {es : List Expr} {t : TA} {v : V} {K : PySem.W.Frag}
theorem pe_mk2k (hK : X.K = K) (F : Fi X.prog X.w X.K X.mg X.base CX k c ps sp v) (hr : Room (k + 1) X.A) (hg : Gl X c) (hx : Passes CX X E)
    (ha : PA X (e :: es) t) (hdb : (c == ("__debug__" : Str)) = false := by decide) (he : starEach (e :: es) X.env = (false, eval e X.env) :: starEach es X.env := by rfl) (hpl : (backTo pos (starEach es X.env)).any (·.1) = false := by rfl) :
    PE X (.Call (.Name c p) (e :: es) [] pos) (tMake (He.ga K c) sp [] E t) := by subst hK; exact pe_mk2 F hr hg hx ha hdb he hpl
end
/-- {x: f(x) for x in a list of texts} -/
theorem dcl {K : PySem.W.Frag} {C a D : Addr} {ys : List Str} {R2 : Hp → Tr → V → Prop} (f : Str → Tr) {tv : TE} {i0 : Nat} {σ : St} {H1 : Hp} {Qd : Hp → Prop}
    (m2 : ∀ H H' t v, Kp C H H' → R2 H t v → R2 H' t v) (ha : H1 a = some (.lst (ys.map V.str))) (nd : ys.Nodup) (hl : ys.length ≤ 1000) (hD : H1 D = none)
    (hsl : ∀ p : V, ((wipe σ [i0]).set i0 (some p))[i0]? = some (some p)) (hw : ∀ p : V, wipe ((wipe σ [i0]).set i0 (some p)) [i0] = wipe σ [i0])
    (hte : ∀ (i : Nat) (x : Str) (σ2 : St) (H : Hp) (Q : VK), ys[i]? = some x → Same H1 H → σ2 = ((wipe σ [i0]).set i0 (some (.str x))) → (∀ z H', Same H H' → R2 H' (f x) z → Q z H') → tv σ2 H Q)
    (hq : ∀ kvs' H', Same H1 H' → H' D = some (.dK kvs') → Al R2 H' (ys.map fun x => (x, f x)) kvs' → Qd H') :
    ∃ W : Nat → Nat → Hp → Prop, (∃ m, W 0 m (L2.upd H1 D (.dK []))) ∧ ∀ i m H, W i m H →
      ((Itl K a).stop i H ∧ Qd H) ∨ ((Itl K a).go i H ∧ ∃ Nx : Hp → Prop, (∀ H', Nx H' → ∃ m', m' < m ∧ W (i + 1) m' H') ∧ ∀ x H', (Itl K a).yld i H x H' → gName i0 x (wipe σ [i0]) H' fun σ2 H2 => wipe σ2 [i0] = wipe σ [i0] ∧ tYes σ2 H2 fun b H3 =>
        if b = true then tVar i0 σ2 H3 fun y H4 => tv σ2 H4 fun z H5 => ∃ kvs' k, y = kV k ∧ H5 D = some (.dK kvs') ∧ kvs'.length < sizeLine ∧ Nx (L2.upd H5 D (.dK (putK kvs' k z))) else Nx H3) := by
  have big : 100000 ≤ sizeLine := by decide
  refine ⟨fun i m H => m = ys.length - i ∧ i ≤ ys.length ∧ ∃ acc, Same H1 H ∧ H D = some (.dK acc) ∧ Al R2 H ((ys.take i).map fun x => (x, f x)) acc, ⟨_, rfl, Nat.zero_le _, [], Rd.Same.upd hD, upd_same, trivial⟩, ?_⟩
  rintro i m H ⟨rfl, hi, acc, s, hDa, ala⟩
  by_cases hlt : i < ys.length
  · have hx : ys[i]? = some ys[i] := List.getElem?_eq_getElem hlt
    have hxv : (ys.map V.str)[i]? = some (V.str ys[i]) := by rw [List.getElem?_map, hx]; rfl
    refine .inr ⟨⟨_, _, SqL.of (s _ _ ha), hxv⟩, fun H' => ∃ acc, Same H1 H' ∧ H' D = some (.dK acc) ∧ Al R2 H' ((ys.take (i + 1)).map fun x => (x, f x)) acc, fun H' h => ⟨ys.length - (i + 1), by omega, rfl, hlt, h⟩, ?_⟩
    rintro _ H ⟨rfl, hy⟩
    have ey := hy _ (SqL.of (s _ _ ha))
    rw [hxv] at ey
    cases ey
    refine ⟨hw _, ?_⟩
    unfold tYes
    refine iteT ⟨_, hsl _, hte i _ _ _ _ hx s rfl fun z H' s' hz => ?_⟩
    have hD' := s' _ _ hDa
    have hal := ala.len
    rw [List.length_map, List.length_take] at hal
    have etk : ys.take (i + 1) = ys.take i ++ [ys[i]] := by rw [List.take_succ, hx]; rfl
    have hno : look ((ys.take i).map fun x => (x, f x)) ys[i] = none := by
      refine look_none ?_
      rw [List.map_map]
      have n2 : (ys.take (i + 1)).Nodup := (List.take_sublist _ _).nodup nd
      rw [etk] at n2
      have := (List.nodup_append.mp n2).2.2
      intro hm
      obtain ⟨y, hy, e⟩ := List.mem_map.mp hm
      exact this y hy ys[i] (List.mem_singleton.mpr rfl) e
    have hv0 := (ala.look (x := ys[i])).2 hno
    refine ⟨acc, .inr ys[i], rfl, hD', by omega, acc ++ [(.inr ys[i], z)], fun c o e => ?_, ?_, ?_⟩
    · rw [upd_ne (ne_of_none e hD)]
      exact s' _ _ (s _ _ e)
    · rw [upd_same, putK_new z hv0]
    · rw [putK_new z hv0, etk, List.map_append]
      have kp := Kp.upd_dK (C := C) (ys := acc ++ [(.inr ys[i], z)]) hD'
      exact Al.snoc (m2 _ _ _ _ kp hz) (ala.mono fun t v h => m2 _ _ _ _ kp (m2 _ _ _ _ (Kp.of_same s') h))
  · refine .inl ⟨⟨_, SqL.of (s _ _ ha), by rw [List.length_map]; omega⟩, hq acc H s hDa ?_⟩
    rw [List.take_of_length_le (by omega)] at ala
    exact ala
def Fnd (l m : List (Str × Tr)) : Prop := m.length = l.length ∧ (m.map (·.1)).Nodup ∧ ∀ p ∈ m, look l p.1 = some p.2
def sp_match (K : PySem.W.Frag) (d : Nat) : Sp := fun vs H Q _ => ∃ (a b : Addr) (u1 u2 : V) (p t : Tr), vs = [.ref a, .ref b] ∧ IsL K H a u1 ∧ IsL K H b u2 ∧ IsT H p u1 ∧ IsT H t u2 ∧ Wf p ∧ Wf t ∧ p.dep ≤ d ∧ t.dep ≤ 60 ∧ p.nod + 1 < 64 ∧
  ((mtl p t []).1 = false → ∀ H', Same H H' → Q .non H') ∧ ((mtl p t []).1 = true → ∀ q kq m H', Same H H' → H q = none → H' q = some (.dK kq) → Al (IsLet K) H' m kq → Fnd (mtl p t []).2 m → Q (.ref q) H')
section
variable {P : Program} {w : World} {K : PySem.W.Frag} {mg : Str → Option Value} {base : Heap}
end
end Rd
namespace Rd
open PySem L2
/-! ### unknowns bound one behind the other -/
abbrev Sb := List (Str × Tr)
def unk (x : Str) : Tr := .am "unknown" x
/-- the unknown x stands in a form -/
def ocU (x : Str) : Tr → Bool
  | .am k y => decide (k = "unknown") && decide (y = x)
  | .un _ a => ocU x a
  | .bi _ a b => ocU x a || ocU x b
theorem ocU_txt {x : Str} : ∀ {t : Tr}, x ∈ t.txt "unknown" ↔ ocU x t = true
  | .am k y => by
    show x ∈ (if k = "unknown" then [y] else []) ↔ (decide (k = "unknown") && decide (y = x)) = true
    by_cases e : k = "unknown"
    · rw [if_pos e, decide_eq_true e, Bool.true_and, decide_eq_true_iff, List.mem_singleton]
      exact eq_comm
    · rw [if_neg e, decide_eq_false e, Bool.false_and]
      simp
  | .un _ a => ocU_txt (t := a)
  | .bi _ a b => by
    show x ∈ a.txt "unknown" ++ b.txt "unknown" ↔ (ocU x a || ocU x b) = true
    rw [List.mem_append, ocU_txt (t := a), ocU_txt (t := b), Bool.or_eq_true]
/-- all unknowns replaced -/
def hm (f : Str → Tr) : Tr → Tr
  | .am k x => if k = "unknown" then f x else .am k x
  | .un s a => .un s (hm f a)
  | .bi s a b => .bi s (hm f a) (hm f b)
theorem hm_unk (f : Str → Tr) (x : Str) : hm f (unk x) = f x := by
  show (if ("unknown" : Str) = "unknown" then _ else _) = _
  rw [if_pos rfl]
theorem fill_hm (m : Str → Option Tr) : ∀ t : Tr, fill m t = hm (fun x => (m x).getD (unk x)) t
  | .am k x => by
    show (if k = "unknown" then _ else _) = (if k = "unknown" then _ else _)
    by_cases e : k = "unknown"
    · rw [if_pos e, if_pos e, e]
      rfl
    · rw [if_neg e, if_neg e]
  | .un s a => congrArg (Tr.un s) (fill_hm m a)
  | .bi s a b => by
    show Tr.bi s _ _ = Tr.bi s _ _
    rw [fill_hm m a, fill_hm m b]
theorem hm_congr {f g : Str → Tr} : ∀ {t : Tr}, (∀ x, ocU x t = true → f x = g x) → hm f t = hm g t
  | .am k x, h => by
    show (if k = "unknown" then _ else _) = (if k = "unknown" then _ else _)
    by_cases e : k = "unknown"
    · rw [if_pos e, if_pos e]
      refine h x ?_
      show (decide (k = "unknown") && decide (x = x)) = true
      rw [decide_eq_true e, decide_eq_true rfl]
      rfl
    · rw [if_neg e, if_neg e]
  | .un s a, h => congrArg (Tr.un s) (hm_congr (t := a) h)
  | .bi s a b, h => by
    show Tr.bi s _ _ = Tr.bi s _ _
    have h' : ∀ x, (ocU x a || ocU x b) = true → f x = g x := h
    rw [hm_congr (t := a) fun x e => h' x (by rw [e]; rfl), hm_congr (t := b) fun x e => h' x (by rw [e, Bool.or_true])]
theorem hm_self : ∀ t : Tr, hm unk t = t
  | .am k x => by
    show (if k = "unknown" then _ else _) = _
    by_cases e : k = "unknown"
    · rw [if_pos e, e]
      rfl
    · rw [if_neg e]
  | .un s a => congrArg (Tr.un s) (hm_self a)
  | .bi s a b => by
    show Tr.bi s _ _ = Tr.bi s _ _
    rw [hm_self a, hm_self b]
theorem hm_id {f : Str → Tr} {t : Tr} (h : ∀ x, ocU x t = true → f x = unk x) : hm f t = t := (hm_congr h).trans (hm_self t)
theorem hm_hm (f g : Str → Tr) : ∀ t : Tr, hm f (hm g t) = hm (fun x => hm f (g x)) t
  | .am k x => by
    show hm f (if k = "unknown" then _ else _) = (if k = "unknown" then _ else _)
    by_cases e : k = "unknown"
    · rw [if_pos e, if_pos e]
    · rw [if_neg e, if_neg e]
      show (if k = "unknown" then _ else _) = _
      rw [if_neg e]
  | .un s a => congrArg (Tr.un s) (hm_hm f g a)
  | .bi s a b => by
    show Tr.bi s _ _ = Tr.bi s _ _
    rw [hm_hm f g a, hm_hm f g b]
theorem ocU_hm {f : Str → Tr} {y : Str} : ∀ {t : Tr}, ocU y (hm f t) = true ↔ ∃ x, ocU x t = true ∧ ocU y (f x) = true
  | .am k x => by
    show ocU y (if k = "unknown" then _ else _) = true ↔ ∃ z, (decide (k = "unknown") && decide (x = z)) = true ∧ ocU y (f z) = true
    by_cases e : k = "unknown"
    · rw [if_pos e]
      constructor
      · intro h
        exact ⟨x, by rw [decide_eq_true e, decide_eq_true rfl]; rfl, h⟩
      · rintro ⟨z, h1, h2⟩
        rw [decide_eq_true e, Bool.true_and] at h1
        rw [of_decide_eq_true h1]
        exact h2
    · rw [if_neg e, decide_eq_false e]
      constructor
      · intro h
        have h : (decide (k = "unknown") && decide (x = y)) = true := h
        rw [decide_eq_false e] at h
        cases h
      · rintro ⟨z, h1, h2⟩
        cases h1
  | .un s a => ocU_hm (t := a)
  | .bi s a b => by
    show (ocU y (hm f a) || ocU y (hm f b)) = true ↔ ∃ x, (ocU x a || ocU x b) = true ∧ ocU y (f x) = true
    rw [Bool.or_eq_true, ocU_hm (t := a), ocU_hm (t := b)]
    constructor
    · rintro (⟨x, h1, h2⟩ | ⟨x, h1, h2⟩)
      · exact ⟨x, by rw [h1]; rfl, h2⟩
      · exact ⟨x, by rw [h1, Bool.or_true], h2⟩
    · rintro ⟨x, h1, h2⟩
      rcases Bool.or_eq_true _ _ ▸ h1 with h | h
      · exact .inl ⟨x, h, h2⟩
      · exact .inr ⟨x, h, h2⟩
theorem ocU_unk {x y : Str} : ocU x (unk y) = true ↔ y = x := by
  show (decide (("unknown" : Str) = "unknown") && decide (y = x)) = true ↔ _
  rw [decide_eq_true rfl, Bool.true_and, decide_eq_true_iff]
/-- x replaced by s -/
def one (x : Str) (s : Tr) : Str → Tr := fun y => if y = x then s else unk y
theorem one_self {x : Str} {s : Tr} : one x s x = s := if_pos rfl
theorem one_ne {x y : Str} {s : Tr} (h : y ≠ x) : one x s y = unk y := if_neg h
theorem one_free {x : Str} {s t : Tr} (h : ocU x t = false) : hm (one x s) t = t := hm_id fun y hy => one_ne fun e => by
  rw [e, h] at hy
  cases hy
/-- the oldest first -/
def res : Sb → Tr → Tr
  | [], t => t
  | p :: B, t => res B (hm (one p.1 p.2) t)
def Tri : Sb → Prop
  | [] => True
  | p :: B => ocU p.1 p.2 = false ∧ (∀ q ∈ B, q.1 ≠ p.1 ∧ ocU p.1 q.2 = false) ∧ Tri B
theorem res_hm : ∀ (B : Sb) (t : Tr), res B t = hm (fun x => res B (unk x)) t
  | [], t => (hm_self t).symm
  | p :: B, t => by
    show res B (hm (one p.1 p.2) t) = hm (fun x => res B (hm (one p.1 p.2) (unk x))) t
    rw [res_hm B (hm (one p.1 p.2) t), hm_hm]
    refine hm_congr fun x _ => ?_
    rw [← res_hm B, hm_unk]
theorem res_app : ∀ (B C : Sb) (t : Tr), res (B ++ C) t = res C (res B t)
  | [], _, _ => rfl
  | p :: B, C, t => res_app B C (hm (one p.1 p.2) t)
theorem res_snoc (B : Sb) (x : Str) (s t : Tr) : res (B ++ [(x, s)]) t = hm (one x s) (res B t) := res_app B [(x, s)] t
theorem res_id : ∀ {B : Sb} {t : Tr}, (∀ p ∈ B, ocU p.1 t = false) → res B t = t
  | [], _, _ => rfl
  | p :: B, t, h => by
    show res B (hm (one p.1 p.2) t) = t
    rw [one_free (h p List.mem_cons_self)]
    exact res_id fun q hq => h q (List.mem_cons_of_mem _ hq)
theorem one_gone {x : Str} {s t : Tr} (h : ocU x s = false) : ocU x (hm (one x s) t) = false := by
  refine Bool.eq_false_iff.mpr fun e => ?_
  obtain ⟨y, _, h2⟩ := ocU_hm.mp e
  by_cases q : y = x
  · rw [q, one_self, h] at h2
    cases h2
  · rw [one_ne q] at h2
    exact q (ocU_unk.mp h2)
theorem one_keep {x y : Str} {s t : Tr} (h : ocU x t = false) (hs : ocU x s = false) : ocU x (hm (one y s) t) = false := by
  refine Bool.eq_false_iff.mpr fun e => ?_
  obtain ⟨z, h1, h2⟩ := ocU_hm.mp e
  by_cases q : z = y
  · rw [q, one_self, hs] at h2
    cases h2
  · rw [one_ne q] at h2
    rw [ocU_unk.mp h2, h] at h1
    cases h1
theorem res_keep {x : Str} : ∀ {B : Sb} {t : Tr}, ocU x t = false → (∀ p ∈ B, ocU x p.2 = false) → ocU x (res B t) = false
  | [], _, h, _ => h
  | p :: B, t, h, hB => res_keep (B := B) (one_keep h (hB p List.mem_cons_self)) fun q hq => hB q (List.mem_cons_of_mem _ hq)
theorem res_free : ∀ {B : Sb} {t : Tr}, Tri B → ∀ p ∈ B, ocU p.1 (res B t) = false
  | p :: B, t, ⟨h1, h2, h3⟩, q, hq => by
    rcases List.mem_cons.mp hq with rfl | hq
    · exact res_keep (B := B) (t := hm (one q.1 q.2) t) (one_gone h1) fun r hr => (h2 r hr).2
    · exact res_free (B := B) (t := hm (one p.1 p.2) t) h3 q hq
theorem lookU_mem {x : Str} {s : Tr} {B : Sb} (h : look B x = some s) : (x, s) ∈ B := by
  unfold look at h
  cases e : B.find? fun p => decide (p.1 = x) with
  | none => rw [e] at h; cases h
  | some p =>
    rw [e] at h
    have h1 := List.find?_some e
    have h2 := List.mem_of_find?_eq_some e
    have h3 : p.2 = s := Option.some.inj h
    rw [← h3, ← of_decide_eq_true h1]
    exact h2
theorem res_look {x : Str} {s : Tr} : ∀ {B : Sb}, Tri B → look B x = some s → res B (unk x) = res B s
  | (y, u) :: B, ⟨h1, h2, h3⟩, e => by
    show res B (hm (one y u) (unk x)) = res B (hm (one y u) s)
    rw [hm_unk]
    by_cases q : y = x
    · subst q
      rw [show look ((y, u) :: B) y = some u by simp [look]] at e
      cases e
      rw [one_self, one_free h1]
    · rw [show look ((y, u) :: B) x = look B x by simp [look, q]] at e
      rw [one_ne (fun z => q z.symm), one_free (h2 _ (lookU_mem e)).2]
      exact res_look h3 e
/-- one turn of replacing changes nothing at the end -/
theorem res_pass {B : Sb} (h : Tri B) (t : Tr) : res B (fill (look B) t) = res B t := by
  rw [fill_hm, res_hm B (hm _ t), hm_hm, res_hm B t]
  refine hm_congr fun x _ => ?_
  rw [← res_hm B]
  cases e : look B x with
  | none => rfl
  | some s => exact (res_look h e).symm
theorem Tri.snoc {x : Str} {r : Tr} (hr : ocU x r = false) : ∀ {B : Sb}, Tri B → (∀ p ∈ B, ocU p.1 r = false ∧ p.1 ≠ x) → Tri (B ++ [(x, r)])
  | [], _, _ => ⟨hr, (fun q hq => nomatch hq), trivial⟩
  | p :: B, ⟨h1, h2, h3⟩, h => ⟨h1, fun q hq => by
      rcases List.mem_append.mp hq with z | z
      · exact h2 q z
      · rw [List.mem_singleton.mp z]
        obtain ⟨a, b⟩ := h p List.mem_cons_self
        exact ⟨fun e => b e.symm, a⟩, Tri.snoc hr h3 fun q hq => h q (List.mem_cons_of_mem _ hq)⟩
theorem Tri.nodup : ∀ {B : Sb}, Tri B → (B.map (·.1)).Nodup
  | [], _ => List.nodup_nil
  | p :: B, ⟨_, h2, h3⟩ => by
    rw [List.map_cons]
    refine List.nodup_cons.mpr ⟨fun h => ?_, Tri.nodup h3⟩
    obtain ⟨q, hq, e⟩ := List.mem_map.mp h
    exact (h2 q hq).1 e
/-- the first k bound unknowns do not stand in a form -/
def Frk (B : Sb) (k : Nat) (t : Tr) : Prop := ∀ (i : Nat) (p : Str × Tr), i < k → B[i]? = some p → ocU p.1 t = false
theorem tri_ix : ∀ {B : Sb} {i j : Nat} {p q : Str × Tr}, Tri B → B[i]? = some p → B[j]? = some q → j ≤ i → ocU q.1 p.2 = false
  | r :: B, 0, 0, p, q, ⟨h1, _, _⟩, e1, e2, _ => by
    cases e1
    cases e2
    exact h1
  | r :: B, i + 1, 0, p, q, ⟨_, h2, _⟩, e1, e2, _ => by
    cases e2
    exact (h2 p (List.mem_of_getElem? (by simpa using e1))).2
  | r :: B, i + 1, j + 1, p, q, ⟨_, _, h3⟩, e1, e2, hj => tri_ix (B := B) (i := i) (j := j) h3 (by simpa using e1) (by simpa using e2) (by omega)
theorem look_ix {B : Sb} {x : Str} {s : Tr} (h : look B x = some s) : ∃ i : Nat, B[i]? = some (x, s) := List.getElem?_of_mem (lookU_mem h)
theorem Frk.next {B : Sb} (h : Tri B) {k : Nat} {t : Tr} (f : Frk B k t) : Frk B (k + 1) (fill (look B) t) := fun i p hi hp => by
  refine Bool.eq_false_iff.mpr fun e => ?_
  rw [fill_hm] at e
  obtain ⟨x, h1, h2⟩ := ocU_hm.mp e
  cases el : look B x with
  | none =>
    rw [el] at h2
    have hx := ocU_unk.mp h2
    subst hx
    have := look_get (x := p.1) (t := p.2) h.nodup hp
    rw [el] at this
    cases this
  | some s =>
    rw [el] at h2
    obtain ⟨j, hj⟩ := look_ix el
    have hkj : k ≤ j := by
      refine Nat.le_of_not_lt fun z => ?_
      have := f j _ z hj
      rw [h1] at this
      cases this
    have := tri_ix h hj hp (by omega)
    have h2 : ocU p.1 s = true := h2
    rw [this] at h2
    cases h2
/-- a bound unknown stands in a form -/
def anyB (B : Sb) (t : Tr) : Bool := (uniS (t.txt "unknown")).any fun x => (look B x).isSome
theorem anyB_true {B : Sb} {t : Tr} (h : anyB B t = true) : ∃ (i : Nat) (p : Str × Tr), B[i]? = some p ∧ ocU p.1 t = true := by
  unfold anyB at h
  obtain ⟨x, h1, h2⟩ := List.any_eq_true.mp h
  obtain ⟨s, e⟩ := Option.isSome_iff_exists.mp h2
  obtain ⟨i, hi⟩ := look_ix e
  exact ⟨i, _, hi, ocU_txt.mp (uniS_mem.mp h1)⟩
theorem anyB_false {B : Sb} {t : Tr} (hn : (B.map (·.1)).Nodup) (h : anyB B t = false) : ∀ p ∈ B, ocU p.1 t = false := fun p hp => by
  refine Bool.eq_false_iff.mpr fun e => ?_
  unfold anyB at h
  have := List.any_eq_false.mp h p.1 (uniS_mem.mpr (ocU_txt.mpr e))
  obtain ⟨i, hi⟩ := List.getElem?_of_mem hp
  rw [look_get (x := p.1) (t := p.2) hn hi] at this
  exact this rfl
theorem Frk.lt {B : Sb} {k : Nat} {t : Tr} (f : Frk B k t) (h : anyB B t = true) : k < B.length := by
  obtain ⟨i, p, e1, e2⟩ := anyB_true h
  have hi := (List.getElem?_eq_some_iff.mp e1).1
  refine Nat.lt_of_not_le fun z => ?_
  rw [f i p (by omega) e1] at e2
  cases e2
theorem dep_hm {f : Str → Tr} : ∀ t : Tr, t.dep ≤ (hm f t).dep
  | .am k x => Nat.zero_le _
  | .un s a => Nat.succ_le_succ (dep_hm a)
  | .bi s a b => by
    show max a.dep b.dep + 1 ≤ max (hm f a).dep (hm f b).dep + 1
    have := dep_hm (f := f) a
    have := dep_hm (f := f) b
    omega
theorem dep_res {B : Sb} (t : Tr) : t.dep ≤ (res B t).dep := by
  rw [res_hm]
  exact dep_hm t
theorem hm_wf {f : Str → Tr} {t : Tr} (hf : ∀ x, ocU x t = true → Wf (f x)) (h : Wf t) : Wf (hm f t) := by
  induction h with
  | @am k x ko =>
    show Wf (if k = "unknown" then _ else _)
    by_cases e : k = "unknown"
    · rw [if_pos e]
      exact hf x (by show (decide (k = "unknown") && decide (x = x)) = true; rw [decide_eq_true e, decide_eq_true rfl]; rfl)
    · rw [if_neg e]
      exact .am ko
  | un hs _ ih => exact .un hs (ih hf)
  | bi hs _ _ ih1 ih2 => exact .bi hs (ih1 fun x e => hf x (by show (_ || _) = true; rw [e]; rfl)) (ih2 fun x e => hf x (by show (_ || _) = true; rw [e, Bool.or_true]))
  | lk hs _ _ ih1 ih2 => exact .lk hs (ih1 fun x e => hf x (by show (_ || _) = true; rw [e]; rfl)) (ih2 fun x e => hf x (by show (_ || _) = true; rw [show ocU x (Tr.un _ _) = _ from e, Bool.or_true]))
theorem ocU_wf {x : Str} {t : Tr} (h : Wf t) (e : ocU x t = true) : Wf (unk x) := by
  induction h with
  | @am k y ko =>
    have e : (decide (k = "unknown") && decide (y = x)) = true := e
    rw [Bool.and_eq_true] at e
    rw [of_decide_eq_true e.1, of_decide_eq_true e.2] at ko
    exact .am ko
  | un hs _ ih => exact ih e
  | bi hs _ _ ih1 ih2 =>
    have e : (_ || _) = true := e
    rcases Bool.or_eq_true _ _ ▸ e with h | h
    · exact ih1 h
    · exact ih2 h
  | lk hs _ _ ih1 ih2 =>
    have e : (_ || _) = true := e
    rcases Bool.or_eq_true _ _ ▸ e with h | h
    · exact ih1 h
    · exact ih2 h
theorem res_wf : ∀ {B : Sb} {t : Tr}, (∀ p ∈ B, Wf p.2) → Wf t → Wf (res B t)
  | [], _, _, h => h
  | p :: B, t, hB, h => res_wf (B := B) (fun q hq => hB q (List.mem_cons_of_mem _ hq)) (hm_wf (fun x hx => by
    unfold one
    split
    · exact hB p List.mem_cons_self
    · exact ocU_wf h hx) h)
theorem fillB_wf {B : Sb} {t : Tr} (hB : ∀ p ∈ B, Wf p.2) (h : Wf t) : Wf (fill (look B) t) := by
  rw [fill_hm]
  refine hm_wf (fun x hx => ?_) h
  cases e : look B x with
  | none => exact ocU_wf h hx
  | some s => exact hB _ (lookU_mem e)
/-! ### what a pair of forms asks -/
inductive Act where
  | fail
  | drop
  | bind (x : Str) (t : Tr)
  | more (ps : List (Tr × Tr))
def isU : Tr → Option Str
  | .am k x => if k = "unknown" then some x else none
  | _ => none
theorem isU_some {t : Tr} {x : Str} (h : isU t = some x) : t = unk x := by
  cases t with
  | am k y =>
    have h : (if k = "unknown" then some y else none) = some x := h
    by_cases e : k = "unknown"
    · rw [if_pos e] at h
      rw [e, Option.some.inj h]
      rfl
    · rw [if_neg e] at h
      cases h
  | un => cases h
  | bi => cases h
/-- an unknown ahead -/
def sw (l r : Tr) : Tr × Tr := if (isU l).isNone && (isU r).isSome then (r, l) else (l, r)
def act2 (l r : Tr) : Act :=
  match isU l with
  | some x => if l = r then .drop else if ocU x r = true then .fail else .bind x r
  | none => if l.parts = [] ∨ l.head ≠ r.head then (if l = r then .drop else .fail) else .more (l.parts.zip r.parts)
def act (l r : Tr) : Act := act2 (sw l r).1 (sw l r).2
/-- the run over pairs, in n steps, all forms at most D deep -/
inductive Un (D : Nat) : Nat → Sb → List (Tr × Tr) → Option Sb → Prop where
  | done {B : Sb} (h : ∀ p ∈ B, (res B p.2).dep ≤ D) (hl : B.length < 64) : Un D 0 B [] (some B)
  | fl {B : Sb} {W : List (Tr × Tr)} {l r : Tr} (h1 : (res B l).dep ≤ D) (h2 : (res B r).dep ≤ D) (e : act (res B l) (res B r) = .fail) : Un D 1 B (W ++ [(l, r)]) none
  | dr {n : Nat} {B : Sb} {W : List (Tr × Tr)} {l r : Tr} {o : Option Sb} (h1 : (res B l).dep ≤ D) (h2 : (res B r).dep ≤ D) (e : act (res B l) (res B r) = .drop) (k : Un D n B W o) : Un D (n + 1) B (W ++ [(l, r)]) o
  | bd {n : Nat} {B : Sb} {W : List (Tr × Tr)} {l r : Tr} {o : Option Sb} {x : Str} {t : Tr} (h1 : (res B l).dep ≤ D) (h2 : (res B r).dep ≤ D) (e : act (res B l) (res B r) = .bind x t) (k : Un D n (B ++ [(x, t)]) W o) : Un D (n + 1) B (W ++ [(l, r)]) o
  | mr {n : Nat} {B : Sb} {W : List (Tr × Tr)} {l r : Tr} {o : Option Sb} {ps : List (Tr × Tr)} (h1 : (res B l).dep ≤ D) (h2 : (res B r).dep ≤ D) (e : act (res B l) (res B r) = .more ps) (k : Un D n B (W ++ ps) o) : Un D (n + 1) B (W ++ [(l, r)]) o
theorem Un.step {D m : Nat} {B : Sb} {W : List (Tr × Tr)} {o : Option Sb} (h : Un D m B W o) : (W = [] ∧ o = some B ∧ m = 0 ∧ (∀ p ∈ B, (res B p.2).dep ≤ D) ∧ B.length < 64) ∨
    ∃ (W' : List (Tr × Tr)) (l r : Tr) (n : Nat), W = W' ++ [(l, r)] ∧ m = n + 1 ∧ (res B l).dep ≤ D ∧ (res B r).dep ≤ D ∧
      ((act (res B l) (res B r) = .fail ∧ o = none) ∨ (act (res B l) (res B r) = .drop ∧ Un D n B W' o) ∨ (∃ x t, act (res B l) (res B r) = .bind x t ∧ Un D n (B ++ [(x, t)]) W' o) ∨ ∃ ps, act (res B l) (res B r) = .more ps ∧ Un D n B (W' ++ ps) o) := by
  cases h with
  | done h hl => exact .inl ⟨rfl, rfl, rfl, h, hl⟩
  | fl h1 h2 e => exact .inr ⟨_, _, _, _, rfl, rfl, h1, h2, .inl ⟨e, rfl⟩⟩
  | dr h1 h2 e k => exact .inr ⟨_, _, _, _, rfl, rfl, h1, h2, .inr (.inl ⟨e, k⟩)⟩
  | bd h1 h2 e k => exact .inr ⟨_, _, _, _, rfl, rfl, h1, h2, .inr (.inr (.inl ⟨_, _, e, k⟩))⟩
  | mr h1 h2 e k => exact .inr ⟨_, _, _, _, rfl, rfl, h1, h2, .inr (.inr (.inr ⟨_, e, k⟩))⟩
theorem Wf.shq {t : Tr} (h : Wf t) : (∃ k x, t = .am k x ∧ kindOk k x) ∨ (∃ s a, t = .un s a ∧ s ∈ (["mark", "open", "own"] : List Str) ∧ Wf a) ∨ ∃ s a b, t = .bi s a b ∧ s ∈ (["pair", "seal", "lock"] : List Str) ∧ Wf a ∧ Wf b := by
  cases h with
  | am ko => exact .inl ⟨_, _, rfl, ko⟩
  | un hs w => exact .inr (.inl ⟨_, _, rfl, hs, w⟩)
  | bi hs w1 w2 => exact .inr (.inr ⟨_, _, _, rfl, mem_to (by decide +kernel) hs, w1, w2⟩)
  | lk hs w1 w2 => exact .inr (.inr ⟨_, _, _, rfl, by decide +kernel, w1, .un (mem_to (by decide +kernel) hs) w2⟩)
theorem isU_head {t : Tr} (wf : Wf t) : (isU t).isSome = decide (t.head = "unknown") := by
  rcases wf.shq with ⟨k, x, rfl, _⟩ | ⟨s, a, rfl, hs, _⟩ | ⟨s, a, b, rfl, hs, _⟩
  · show (if k = "unknown" then some x else none).isSome = decide (k = "unknown")
    by_cases e : k = "unknown"
    · rw [if_pos e, decide_eq_true e]; rfl
    · rw [if_neg e, decide_eq_false e]; rfl
  · have : ∀ z ∈ (["mark", "open", "own"] : List Str), decide (z = "unknown") = false := by decide +kernel
    exact (this s hs).symm
  · have : ∀ z ∈ (["pair", "seal", "lock"] : List Str), decide (z = "unknown") = false := by decide +kernel
    exact (this s hs).symm
end Rd
namespace Rd
open PySem L2
theorem vs_bl {α : Type} {vs : List V} {xs : List α} (f : α → Bool) (hl : vs.length = xs.length) (h : ∀ (i : Nat) v, vs[i]? = some v → ∃ x, xs[i]? = some x ∧ v = .bl (f x)) : vs = (xs.map f).map V.bl := by
  refine List.ext_getElem? fun i => ?_
  rw [List.map_map, List.getElem?_map]
  cases e : vs[i]? with
  | none =>
    rw [List.getElem?_eq_none (by rw [← hl]; exact List.getElem?_eq_none_iff.mp e)]
    rfl
  | some v =>
    obtain ⟨x, h1, h2⟩ := h i v e
    rw [h1, h2]
    rfl
theorem Al.dtr {H : Hp} {l : List (Str × Tr)} {kvs : List (Key × V)} {a : Addr} (h : H a = some (.dK kvs)) (al : Al IsT H l kvs) : DTr H a (Rd.look l) :=
  ⟨kvs, .inl h, fun x t e => (al.look (x := x)).1 t e, fun x e => (al.look (x := x)).2 e⟩
def sp_resd (d : Nat) : Sp := fun vs H Q _ => ∃ (v : V) (a : Addr) (t : Tr) (B : Sb) (kvs : List (Key × V)), vs = [v, .ref a] ∧ IsT H t v ∧ Wf t ∧ (res B t).dep ≤ d ∧ d ≤ 10 ∧ H a = some (.dK kvs) ∧ Al IsT H B kvs ∧ Tri B ∧ (∀ p ∈ B, Wf p.2) ∧ ∀ u H', Same H H' → IsT H' (res B t) u → Q u H'
section
variable {P : Program} {w : World} {K : PySem.W.Frag} {mg : Str → Option Value} {base : Heap}
abbrev s_resolved : Stmt := top 26
theorem sc_resolved : FnScope ["tree", "bound", "unknown"] ["tree", "bound"] (defScope s_resolved) := ⟨rfl, rfl, rfl, by decide +kernel, rfl, by decide +kernel, by decide +kernel⟩
theorem ok_resolved (T : Tx w K mg) (d : Nat) : Fk P w K mg base CX0 (d + 4) "resolved" ["tree", "bound"] (sp_resd d) := by
  refine T.F_resolved.ok0 sc_resolved (fun _ _ _ _ _ _ us hl => match us, hl with | [_, _], _ => rfl)
    (fun vs H Q E h => ?_) (fun cdv A outer s H vs Q E hr h => ?_)
  · obtain ⟨v, a, t, B, kvs, rfl, _⟩ := h
    rfl
  · obtain ⟨v, a, t, B, kvs, rfl, it, wf, dp, d10, ha, al, tri, wB, k⟩ := h
    refine ⟨_, (pss_cons (ps_while PassesOwn.never (pt_val (pe_callB (cr_any rfl) (by rfl) T.z_any (by decide +kernel) (pa_cons (pe_lc (own := [("unknown", 2)]) (g := gName 2) (tt := tYes) (by rfl) sc_resolved.nd (pi_list (pe_fk (ok_atoms_of T d) (hr.mono (by omega)) rfl pass0 (pa_cons (pv 0) (pa_cons pe_str pa_nil)))) (blkOk_by (own := [("unknown", 2)]) (N := ["tree", "bound", "unknown"]) (sc := defScope s_resolved) (by decide +kernel)) (fun _ _ _ _ _ => (pg_name (i := 2) sc_resolved.nd rfl (Or.inl rfl))) (fun _ _ _ _ _ => pts_nil) (fun _ _ _ _ _ => (pe_cmp (pc_din (hu_of hr) (pv 2) (pv 1))))) pa_nil)))
  (pss_one (ps_set (i := 0) sc_resolved.nd rfl (Or.inl rfl) (pe_fk (ok_filled_tree T d) (hr.mono (by omega)) rfl pass0 (pa_cons (pv 0) (pa_cons (pv 1) pa_nil))))))
  (pss_one (ps_ret (pv 0)))), ?_⟩
    have big : 16777216 ≤ sizeLine := by decide
    refine ⟨fun m σ Hc => ∃ (u : V) (t' : Tr) (n : Nat) (t2 : Option V), σ = [some u, some (.ref a), t2] ∧ Same H Hc ∧ IsT Hc t' u ∧ Wf t' ∧ res B t' = res B t ∧ Frk B n t' ∧ m = B.length - n, ⟨_, v, t, 0, _, rfl, Same.refl _, it, wf, rfl, (fun i p hi => absurd hi (Nat.not_lt_zero _)), rfl⟩, ?_⟩
    rintro m σ Hc ⟨u, t', n, t2, rfl, sc, iu, wu, eu, fr, rfl⟩
    have du : t'.dep ≤ d := by
      have := dep_res (B := B) t'
      rw [eu] at this
      omega
    refine ⟨_, rfl, ⟨u, t', _, rfl, iu, wu, du, d10, fun p H1 s1 np hp => ?_⟩, _, by decide +kernel, rfl⟩
    have alc : Al IsT H1 B kvs := al.mono fun t v h => h.same (sc.trans s1)
    have hac := (sc.trans s1) _ _ ha
    refine ⟨p, rfl, ⟨_, SqL.of hp⟩, fun D hD => ?_⟩
    have hul : (uniS (t'.txt "unknown")).length ≤ 100000 := by
      have h1 := uniS_len (l := t'.txt "unknown")
      have h2 := txts_len "unknown" t'
      have h3 := all_len t'
      have h4 : 2 ^ (t'.dep + 1) ≤ 2 ^ 11 := Nat.pow_le_pow_right (by decide) (by omega)
      omega
    refine lcl (C := 0) (fun i _ v => ∃ x, (uniS (t'.txt "unknown"))[i]? = some x ∧ v = .bl ((look B x).isSome)) (fun _ _ _ _ _ h => h) (SqL.of hp) (by rw [List.length_map]; exact hul) hD (fun i x H2 Q2 hx s2 k2 => ?_) fun vs H2 s2 hD2 hlv hvs => ?_
    · rw [List.getElem?_map] at hx
      cases hz : (uniS (t'.txt "unknown"))[i]? with
      | none => rw [hz] at hx; cases hx
      | some z =>
        rw [hz] at hx
        cases hx
        have g := (alc.look (x := z))
        refine ⟨_, rfl, _, rfl, a, valV kvs (.inr z), rfl, .inl ⟨kvs, .inr z, .inl (s2 _ _ hac), rfl, rfl⟩, ?_⟩
        refine k2 _ _ (Same.refl _) ⟨z, hz, ?_⟩
        cases e : look B z with
        | none => rw [g.2 e]; rfl
        | some t => obtain ⟨v, ev, _⟩ := g.1 t e; rw [ev]; rfl
    rw [List.length_map] at hlv
    have ev := vs_bl (fun x => (look B x).isSome) hlv hvs
    subst ev
    refine ⟨D, _, rfl, SqL.of hD2, _, rfl, ?_⟩
    rw [List.any_map]
    have eA : ((uniS (t'.txt "unknown")).any (id ∘ fun x => (look B x).isSome)) = anyB B t' := rfl
    rw [eA]
    have s02 := (sc.trans s1).trans s2
    cases hab : anyB B t' with
    | true =>
      refine iteT ⟨fun σ' H' => ∃ (u : V) (t' : Tr) (t2 : Option V), σ' = [some u, some (.ref a), t2] ∧ Same H H' ∧ IsT H' t' u ∧ Wf t' ∧ res B t' = res B t ∧ Frk B (n + 1) t', fun σ' H' ⟨u, t', t2, e1, e2, e3, e4, e5, e6⟩ => ⟨B.length - (n + 1), (by have := fr.lt hab; omega), u, t', n + 1, t2, e1, e2, e3, e4, e5, e6, rfl⟩, ?_⟩
      refine ⟨_, rfl, _, rfl, u, a, t', look B, rfl, iu.same (s1.trans s2), wu, du, Al.dtr (s2 _ _ hac) (alc.mono fun t v h => h.same s2), fun u2 H3 s3 iu2 => ?_⟩
      refine gName_k ?_
      try dsimp only
      exact ⟨u2, _, _, rfl, s02.trans s3, iu2, fillB_wf wB wu, (res_pass tri t').trans eu, fr.next tri⟩
    | false =>
      refine iteF ⟨_, rfl, k u _ s02 ?_⟩
      rw [← eu, res_id (anyB_false tri.nodup hab)]
      exact iu.same (s1.trans s2)
end
end Rd
namespace Rd
open PySem L2
/-! ### lists of pairs of forms -/
def PrT (H : Hp) (p : Tr × Tr) (v : V) : Prop := ∃ (a : Addr) (u1 u2 : V), v = .ref a ∧ H a = some (.tup [u1, u2]) ∧ IsT H p.1 u1 ∧ IsT H p.2 u2
structure PsAt (H : Hp) (W : List (Tr × Tr)) (vs : List V) : Prop where
  len : vs.length = W.length
  get : ∀ (i : Nat) p v, W[i]? = some p → vs[i]? = some v → PrT H p v
theorem PrT.mono {C : Addr} {H H' : Hp} {p : Tr × Tr} {v : V} (k : Kp C H H') (h : PrT H p v) : PrT H' p v := by
  obtain ⟨a, u1, u2, e, h1, h2, h3⟩ := h
  exact ⟨a, u1, u2, e, k _ _ rfl h1, h2.mono k, h3.mono k⟩
theorem PsAt.mono {C : Addr} {H H' : Hp} {W : List (Tr × Tr)} {vs : List V} (k : Kp C H H') (h : PsAt H W vs) : PsAt H' W vs := ⟨h.len, fun i p v a b => (h.get i p v a b).mono k⟩
theorem PsAt.same {H H' : Hp} {W : List (Tr × Tr)} {vs : List V} (s : Same H H') (h : PsAt H W vs) : PsAt H' W vs := h.mono (C := 0) (Kp.of_same s)
theorem PsAt.app {H : Hp} {W X : List (Tr × Tr)} {vs ws : List V} (h : PsAt H W vs) (g : PsAt H X ws) : PsAt H (W ++ X) (vs ++ ws) := by
  refine ⟨by rw [List.length_append, List.length_append, h.len, g.len], fun i p v a b => ?_⟩
  by_cases hi : i < vs.length
  · rw [List.getElem?_append_left (by rw [← h.len]; exact hi)] at a
    rw [List.getElem?_append_left hi] at b
    exact h.get i p v a b
  · rw [List.getElem?_append_right (by rw [← h.len]; omega)] at a
    rw [List.getElem?_append_right (by omega)] at b
    rw [← h.len] at a
    exact g.get _ p v a b
theorem PsAt.drop {H : Hp} {W : List (Tr × Tr)} {p : Tr × Tr} {vs : List V} (h : PsAt H (W ++ [p]) vs) : PsAt H W vs.dropLast ∧ ∃ v, vs[vs.length - 1]? = some v ∧ PrT H p v := by
  have hl := h.len
  rw [List.length_append, List.length_singleton] at hl
  refine ⟨⟨by rw [List.length_dropLast]; omega, fun i q v a b => ?_⟩, ?_⟩
  · have hi := (List.getElem?_eq_some_iff.mp a).1
    rw [List.getElem?_dropLast, if_pos (by omega)] at b
    exact h.get i q v (by rw [List.getElem?_append_left hi]; exact a) b
  · have hv : vs[vs.length - 1]? = some (vs[vs.length - 1]'(by omega)) := List.getElem?_eq_getElem (by omega)
    refine ⟨_, hv, h.get (vs.length - 1) p _ ?_ hv⟩
    rw [List.getElem?_append_right (by omega), show vs.length - 1 - W.length = 0 by omega]
    rfl
theorem PsAt.nil {H : Hp} : PsAt H [] [] := ⟨rfl, fun i p v h => by simp at h⟩
theorem PsAt.of {H : Hp} {ts : List Addr} {xs ys : List V} {ls rs : List Tr} (h : Paired (fun (t : Addr) (q : V × V) => H t = some (.tup [q.1, q.2])) ts (xs.zip ys)) (hx : xs.length = ls.length) (hy : ys.length = rs.length) (hl : ls.length = rs.length)
    (ix : ∀ (i : Nat) v, xs[i]? = some v → ∃ r, ls[i]? = some r ∧ IsT H r v) (iy : ∀ (i : Nat) v, ys[i]? = some v → ∃ r, rs[i]? = some r ∧ IsT H r v) : PsAt H (ls.zip rs) (ts.map V.ref) := by
  have hlen := Paired.length h
  rw [List.length_zip] at hlen
  refine ⟨by rw [List.length_map, List.length_zip]; omega, fun i p v a b => ?_⟩
  rw [List.getElem?_map] at b
  cases e : ts[i]? with
  | none => rw [e] at b; cases b
  | some t =>
    rw [e] at b
    cases b
    obtain ⟨q, e1, e2⟩ := LiI.paired_get h e
    obtain ⟨f1, f2⟩ := List.getElem?_zip_eq_some.mp e1
    obtain ⟨g1, g2⟩ := List.getElem?_zip_eq_some.mp (show (ls.zip rs)[i]? = some (p.1, p.2) from a)
    obtain ⟨r1, k1, k2⟩ := ix i _ f1
    obtain ⟨r2, k3, k4⟩ := iy i _ f2
    rw [g1] at k1
    rw [g2] at k3
    cases k1
    cases k3
    exact ⟨t, q.1, q.2, rfl, e2, k2, k4⟩
/-- the ways of an if joined -/
theorem seqIfC {c : TT} {t u v : TS} {D : Ends} {σ : St} {H : Hp} (R : St → Hp → Prop) (k1 : ∀ σ' H', R σ' H' → v D σ' H')
    (k2 : (∀ σ' H', R σ' H' → v D σ' H') → c σ H fun b H' => if b = true then t { D with nx := v D } σ H' else u { D with nx := v D } σ H') : tSeq (tIfS c t u) v D σ H := k2 k1
theorem rd_neT2 {K : PySem.W.Frag} {H : Hp} {t r : Tr} {v u : V} {Q : VK} (ht : t.fine) (hd : t.dep ≤ 60) (hr : r.fine) (hd2 : r.dep ≤ 60) (h1 : IsT H t v) (h2 : IsT H r u) (q : Q (.bl (!decide (t = r))) H) : rNeD K v u H Q := by
  refine ⟨dat t, dat r, h1.dp, h2.dp, dat_shaped ht hd, dat_shaped hr hd2, ?_⟩
  rw [eqv_dat]
  exact q
theorem inV_strsZ (t : Str) : ∀ nm : List Str, inV (V.str t) (nm.map V.str) = decide (t ∈ nm)
  | [] => by simp [inV]
  | z :: r => by
    have ih := inV_strsZ t r
    unfold inV at ih ⊢
    rw [List.map_cons, List.any_cons, ih]
    show ((z == t) || _) = _
    by_cases e : z = t
    · subst e; simp
    · have e' : t ≠ z := fun q => e q.symm
      simp [e, e']
/-- what the unknowns become at the end -/
def Rst (B m : Sb) : Prop := m.length = B.length ∧ (m.map (·.1)).Nodup ∧ ∀ p ∈ m, (look B p.1).isSome = true ∧ p.2 = res B (unk p.1)
def sp_nar (d : Nat) : Sp := fun vs H Q _ => ∃ (a : Addr) (ps : List V) (W : List (Tr × Tr)) (n : Nat) (o : Option Sb), vs = [.ref a] ∧ H a = some (.lst ps) ∧ PsAt H W ps ∧ (∀ p ∈ W, Wf p.1 ∧ Wf p.2) ∧ d ≤ 10 ∧ Un d n [] W o ∧ W.length + n ≤ 100000 ∧
  (o = none → ∀ H', Same H H' → Q .non H') ∧ (∀ B, o = some B → Tri B → (∀ p ∈ B, Wf p.2) → ∀ q kq m H', Same H H' → H q = none → H' q = some (.dK kq) → Al IsT H' m kq → Rst B m → Q (.ref q) H')
end Rd
namespace Rd
open PySem L2
def NarI (d : Nat) (H : Hp) (a b q : Addr) (o : Option Sb) (m : Nat) (σ : St) (Hc : Hp) : Prop := ∃ (B : Sb) (W : List (Tr × Tr)) (vs : List V) (kvs : List (Key × V)) (t3 t4 t5 : Option V), σ = [some (.ref a), some (.ref b), some (.ref q), t3, t4, t5] ∧ Same H Hc ∧ Hc b = some (.dK kvs) ∧ Al IsT Hc B kvs ∧ Tri B ∧ (∀ p ∈ B, Wf p.2) ∧ Hc q = some (.lst vs) ∧ PsAt Hc W vs ∧ (∀ p ∈ W, Wf p.1 ∧ Wf p.2) ∧ Un d m B W o ∧ B.length + m ≤ 100000 ∧ W.length + m ≤ 100000
section
variable {P : Program} {w : World} {K : PySem.W.Frag} {mg : Str → Option Value} {base : Heap}
abbrev s_narrowest_trees : Stmt := top 27
theorem sc_narrowest_trees : FnScope ["pairs", "bound", "waiting", "left", "right", "unknown"] ["pairs"] (defScope s_narrowest_trees) := ⟨rfl, rfl, rfl, by decide +kernel, rfl, by decide +kernel, by decide +kernel⟩
theorem ok_narrowest_trees (T : Tx w K mg) (d : Nat) : Fk P w K mg base CX0 (d + 5) "narrowest_trees" ["pairs"] (sp_nar d) := by
  refine T.F_narrowest_trees.ok0 sc_narrowest_trees (fun _ _ _ _ _ _ us hl => match us, hl with | [_], _ => rfl)
    (fun vs H Q E h => ?_) (fun cdv A outer s H vs Q E hr h => ?_)
  · obtain ⟨a, ps, W, n, o, rfl, _⟩ := h
    rfl
  · obtain ⟨a, ps, W0, n0, o, rfl, ha, hps, wW0, d10, hU0, hbig, kf, kt⟩ := h
    refine ⟨_, (pss_cons (ps_set (i := 1) sc_narrowest_trees.nd rfl (Or.inr rfl) pe_dnewK)
  (pss_cons (ps_set (i := 2) sc_narrowest_trees.nd rfl (Or.inl rfl) (pe_callTy call_list_of (by rfl) T.z_list (by decide +kernel) (pa_cons (pv 0) pa_nil)))
  (pss_cons (ps_while PassesOwn.never (pt_truth (pv 2) (by intro _; rfl))
  (pss_cons (ps_asg (pe_bm0 PySem.F.plainAttrs_list PySem.F.slot_list_pop PySem.F.type_list_pop mt_pop (pv 2)) (pg_tup rfl (pgs_cons (pg_name (i := 3) sc_narrowest_trees.nd rfl (Or.inl rfl)) (pgs_cons (pg_name (i := 4) sc_narrowest_trees.nd rfl (Or.inl rfl)) pgs_nil))))
  (pss_cons (ps_set (i := 3) sc_narrowest_trees.nd rfl (Or.inl rfl) (pe_fk (ok_resolved T d) (hr.mono (by omega)) rfl pass0 (pa_cons (pv 3) (pa_cons (pv 1) pa_nil))))
  (pss_cons (ps_set (i := 4) sc_narrowest_trees.nd rfl (Or.inl rfl) (pe_fk (ok_resolved T d) (hr.mono (by omega)) rfl pass0 (pa_cons (pv 4) (pa_cons (pv 1) pa_nil))))
  (pss_cons (ps_if (PW.pt (pw_and (pt_cmpR op_ne (pe_ix ix_tup (pv 3) pe_int (fun _ _ => rfl)) pe_str (nomark _)) (pw_and1 (pt_cmpR op_eq (pe_ix ix_tup (pv 4) pe_int (fun _ _ => rfl)) pe_str (nomark _)))))
  (pss_one (ps_par (i := 3) (j := 4) (by rfl) sc_narrowest_trees.nd rfl rfl (by decide) rfl rfl (pa_cons (pv 4) (pa_cons (pv 3) pa_nil)) (by rfl)))
  pss_nil)
  (pss_one (ps_if (pt_cmpR op_eq (pe_ix ix_tup (pv 3) pe_int (fun _ _ => rfl)) pe_str (nomark _))
  (pss_one (ps_if (pt_cmpR (op_neD hr.units) (pv 3) (pv 4) (nomark _))
  (pss_cons (ps_if (pt_cmpR op_in_seq (pe_ix ix_tup (pv 3) pe_int (fun _ _ => rfl)) (pe_fk (ok_atoms_of T d) (hr.mono (by omega)) rfl pass0 (pa_cons (pv 4) (pa_cons pe_str pa_nil))) (by rfl))
  (pss_one (ps_ret pe_non))
  pss_nil)
  (pss_one (ps_dput (hu_of hr) (pv 1) (pe_ix ix_tup (pv 3) pe_int (fun _ _ => rfl)) (pv 4) (by rfl))))
  pss_nil))
  (pss_one (ps_if (PW.pt (pw_or (pt_cmpR (op_notInK T.D_SIGNS) (pe_ix ix_tup (pv 3) pe_int (fun _ _ => rfl)) (pe_kd T.D_SIGNS) (by rfl)) (pw_or1 (pt_cmpR op_ne (pe_ix ix_tup (pv 3) pe_int (fun _ _ => rfl)) (pe_ix ix_tup (pv 4) pe_int (fun _ _ => rfl)) (nomark _)))))
  (pss_one (ps_if (pt_cmpR (op_neD hr.units) (pv 3) (pv 4) (nomark _))
  (pss_one (ps_ret pe_non))
  pss_nil))
  (pss_one (ps_expr (pe_bm PySem.F.plainAttrs_list PySem.F.slot_list_extend PySem.F.type_list_extend mt_extend (pv 2) (pa_cons (pe_listZip rfl (by rfl) T.z_list (by rfl) T.z_zip (pa_cons (pe_slice sl_tup (pv 3) (po_some pe_int) po_none) (pa_cons (pe_slice sl_tup (pv 4) (po_some pe_int) po_none) pa_nil))) pa_nil)))))))))))))
  (pss_one (ps_ret (pe_dc (own := [("unknown", 5)]) (g := gName 5) (tt := tYes) (by rfl) sc_narrowest_trees.nd (pi_list (pe_callB (call_sortedD rfl) (by rfl) T.z_sorted (by decide +kernel) (pa_cons (pv 1) pa_nil))) (blkOk_by (own := [("unknown", 5)]) (N := ["pairs", "bound", "waiting", "left", "right", "unknown"]) (sc := defScope s_narrowest_trees) (by decide +kernel)) (fun _ _ _ _ _ => (pg_name (i := 5) sc_narrowest_trees.nd rfl (Or.inl rfl))) (fun _ _ _ _ _ => pts_nil) (fun _ _ _ _ _ => (pv 5)) (fun _ _ _ _ _ => (pe_fk (ok_resolved T d) (hr.mono (by omega)) rfl pass0 (pa_cons (pe_dget (hu_of hr) (pv 1) (pv 5) (fun _ _ => rfl)) (pa_cons (pv 1) pa_nil)))))))))), ?_⟩
    have big : 16777216 ≤ sizeLine := by decide
    refine fun b hb => ?_
    refine gName_k ?_
    try dsimp only
    have sb := Rd.Same.upd (o := .dK []) hb
    have hb1 : upd H b (.dK []) b = some (.dK []) := upd_same
    generalize upd H b (.dK []) = H1 at sb hb1 ⊢
    refine seqAsg ⟨_, rfl, a, ps, rfl, .inl (SqL.of (sb _ _ ha)), fun q hq => ?_⟩
    refine gName_k ?_
    try dsimp only
    have sq := Rd.Same.upd (o := .lst ps) hq
    have hq1 : upd H1 q (.lst ps) q = some (.lst ps) := upd_same
    have hqH : H q = none := sb.free hq
    have nbq : b ≠ q := fun z => by rw [z, hq] at hb1; cases hb1
    generalize upd H1 q (.lst ps) = H2 at sq hq1 ⊢
    have s2 := sb.trans sq
    refine ⟨fun m σ Hc => NarI d H a b q o m σ Hc, ⟨n0, [], W0, ps, [], _, _, _, rfl, s2, sq _ _ hb1, trivial, trivial, (fun p hp => nomatch hp), hq1, hps.same s2, wW0, hU0, by simp; omega, hbig⟩, ?_⟩
    rintro m σ Hc ⟨B, W, vs, kvs, t3, t4, t5, rfl, sc, hbc, al, tri, wB, hqc, hpw, wW, hU, hB1, hW1⟩
    have hvl := hpw.len
    refine ⟨_, rfl, _, .inl ⟨vs, SqL.of hqc, rfl⟩, ?_⟩
    rcases hU.step with ⟨rfl, rfl, rfl, hd, hl64⟩ | ⟨W', l, r, n, rfl, rfl, dl, dr, hact⟩
    · obtain rfl : vs = [] := List.eq_nil_of_length_eq_zero hvl
      refine iteN (by decide) ?_
      have ek : kvs.map (·.1) = (B.map (·.1)).map Sum.inr := by rw [al.keys, List.map_map]; rfl
      have hl6 : (B.map (·.1)).length < 64 := by rw [List.length_map]; exact hl64
      refine ⟨_, rfl, b, kvs, B.map (·.1), rfl, .inl hbc, ek, hl6, fun ys q2 hpm _ hq2 => ?_⟩
      have sq2 := Rd.Same.upd (o := .lst (ys.map V.str)) hq2
      have hq3 : upd Hc q2 (.lst (ys.map V.str)) q2 = some (.lst (ys.map V.str)) := upd_same
      generalize upd Hc q2 (.lst (ys.map V.str)) = H3 at sq2 hq3 ⊢
      have hyl := hpm.length_eq
      have hyn : ys.Nodup := hpm.nodup_iff.mpr tri.nodup
      refine ⟨q2, rfl, ⟨_, SqL.of hq3⟩, fun D hD => ?_⟩
      have S3 := sc.trans sq2
      have hlk : ∀ x ∈ ys, ∃ u, look B x = some u ∧ Wf u ∧ (res B u).dep ≤ d := fun x hx => by
        obtain ⟨⟨y, u⟩, hy, ey⟩ := List.mem_map.mp (hpm.mem_iff.mp hx)
        obtain ⟨i, hi⟩ := List.getElem?_of_mem hy
        have ey : y = x := ey
        subst ey
        exact ⟨u, look_get tri.nodup hi, wB _ hy, hd _ hy⟩
      refine dcl (C := 0) (ys := ys) (R2 := IsT) (fun x => res B (unk x)) (fun _ _ _ _ kp h => h.mono kp) hq3 hyn (by omega) hD (fun _ => rfl) (fun _ => rfl) (fun i x σ2 H4 Q4 hx s4 e k4 => ?_) fun kq H4 s4 hD4 al4 => ?_
      · subst e
        obtain ⟨u, hu, wu, du⟩ := hlk x (List.mem_of_getElem? hx)
        have al3 : Al IsT H4 B kvs := al.mono fun t v h => (h.same sq2).same s4
        obtain ⟨v0, e0, i0⟩ := (al3.look (x := x)).1 u hu
        refine ⟨_, rfl, _, rfl, b, _, rfl, .inl ⟨kvs, .inr x, .inl (s4 _ _ (sq2 _ _ hbc)), rfl, e0.symm⟩, ?_⟩
        refine ⟨_, rfl, v0, b, u, B, kvs, rfl, i0, wu, du, d10, s4 _ _ (sq2 _ _ hbc), al3, tri, wB, fun u2 H5 s5 iu2 => k4 _ _ s5 ?_⟩
        rw [res_look tri hu]
        exact iu2
      · refine kt B rfl tri wB D kq _ H4 (S3.trans s4) (S3.free hD) hD4 al4 ⟨by rw [List.length_map, hyl, List.length_map], by rw [List.map_map]; exact (List.map_id ys).symm ▸ hyn, fun r hr => ?_⟩
        obtain ⟨x, hx, rfl⟩ := List.mem_map.mp hr
        obtain ⟨u, hu, _⟩ := hlk x hx
        exact ⟨by show (look B x).isSome = true; rw [hu]; rfl, rfl⟩
    · obtain ⟨hpw', v, hv, pa, u1, u2, rfl, hpa, il, ir⟩ := hpw.drop
      rw [List.length_append, List.length_singleton] at hvl hW1
      refine iteP (by cases vs with | nil => simp at hvl | cons _ _ => rfl) ?_
      refine ⟨fun σ' H' => NarI d H a b q o n σ' H', fun σ' H' h => ⟨n, Nat.lt_succ_self n, h⟩, ?_⟩
      obtain ⟨wl, wr⟩ := wW (l, r) (List.mem_append_right _ (List.mem_singleton.mpr rfl))
      have wW' : ∀ p ∈ W', Wf p.1 ∧ Wf p.2 := fun p hp => wW p (List.mem_append_left _ hp)
      refine ⟨_, rfl, .inl ⟨rfl, _, SqL.of hqc⟩, q, vs, _, rfl, rfl, hqc, hv, ?_⟩
      have kp3 := Kp.upd_lst (C := 0) (ys := vs.dropLast) hqc
      have hq3 : upd Hc q (.lst vs.dropLast) q = some (.lst vs.dropLast) := upd_same
      have hb3 : upd Hc q (.lst vs.dropLast) b = some (.dK kvs) := by rw [upd_ne nbq]; exact hbc
      have s3 : Same H (upd Hc q (.lst vs.dropLast)) := fun c o e => by rw [upd_ne (ne_of_none e hqH)]; exact sc c o e
      generalize upd Hc q (.lst vs.dropLast) = H3 at kp3 hq3 hb3 s3 ⊢
      refine ⟨pa, [u1, u2], rfl, SqT.of (kp3 _ _ rfl hpa), rfl, _, _, rfl, _, _, rfl, rfl, ?_⟩
      try dsimp only
      have al3 : Al IsT H3 B kvs := al.mono fun t v h => h.mono kp3
      refine seqAsg ⟨_, rfl, _, rfl, u1, b, l, B, kvs, rfl, il.mono kp3, wl, dl, d10, hb3, al3, tri, wB, fun v1 H4 s4 i1 => ?_⟩
      refine gName_k ?_
      try dsimp only
      refine seqAsg ⟨_, rfl, _, rfl, u2, b, r, B, kvs, rfl, (ir.mono kp3).same s4, wr, dr, d10, s4 _ _ hb3, al3.mono (fun t v h => h.same s4), tri, wB, fun v2 H5 s5 i2 => ?_⟩
      refine gName_k ?_
      try dsimp only
      have s45 := s4.trans s5
      have hp5 : PsAt H5 W' vs.dropLast := (hpw'.mono kp3).same s45
      have al5 : Al IsT H5 B kvs := al3.mono fun t v h => h.same s45
      have hb5 := s45 _ _ hb3
      have hq5 := s45 _ _ hq3
      have S5 := s3.trans s45
      have w1 := res_wf wB wl
      have w2 := res_wf wB wr
      have fr1 := res_free (t := l) tri
      have fr2 := res_free (t := r) tri
      replace i1 := i1.same s5
      generalize res B l = l' at dl i1 w1 hact fr1
      generalize res B r = r' at dr i2 w2 hact fr2
      refine seqIfC (fun σ' H' => ∃ (z1 z2 : V) (L R : Tr), σ' = [some (.ref a), some (.ref b), some (.ref q), some z1, some z2, t5] ∧ Same H5 H' ∧ IsT H' L z1 ∧ IsT H' R z2 ∧ (L, R) = sw l' r') ?_ ?_
      · rintro σ' H' ⟨z1, z2, L, R, rfl, s6, iL, iR, eLR⟩
        have hLR : (L = l' ∧ R = r') ∨ (L = r' ∧ R = l') := by
          unfold sw at eLR
          split at eLR
          · exact .inr ⟨congrArg Prod.fst eLR, congrArg Prod.snd eLR⟩
          · exact .inl ⟨congrArg Prod.fst eLR, congrArg Prod.snd eLR⟩
        have wL : Wf L := by rcases hLR with ⟨rfl, _⟩ | ⟨rfl, _⟩; exact w1; exact w2
        have wR : Wf R := by rcases hLR with ⟨_, rfl⟩ | ⟨_, rfl⟩; exact w2; exact w1
        have dL : L.dep ≤ d := by rcases hLR with ⟨rfl, _⟩ | ⟨rfl, _⟩; exact dl; exact dr
        have dR : R.dep ≤ d := by rcases hLR with ⟨_, rfl⟩ | ⟨_, rfl⟩; exact dr; exact dl
        have fL : ∀ p ∈ B, ocU p.1 L = false := by rcases hLR with ⟨rfl, _⟩ | ⟨rfl, _⟩; exact fr1; exact fr2
        have fR : ∀ p ∈ B, ocU p.1 R = false := by rcases hLR with ⟨_, rfl⟩ | ⟨_, rfl⟩; exact fr2; exact fr1
        have ea : act l' r' = act2 L R := by unfold act; rw [← eLR]
        rw [ea] at hact
        clear hLR ea eLR
        have S6 := S5.trans s6
        have hp6 := hp5.same s6
        have al6 : Al IsT H' B kvs := al5.mono fun t v h => h.same s6
        have hb6 := s6 _ _ hb5
        have hq6 := s6 _ _ hq5
        have eH := isU_head wL
        obtain ⟨p1, us1, rfl, hp1⟩ := iL.hd
        have stay : Un d n B W' o → ∀ H7, Same H' H7 → NarI d H a b q o n [some (.ref a), some (.ref b), some (.ref q), some (.ref p1), some z2, t5] H7 := fun hu H7 s7 => ⟨B, W', _, kvs, _, _, _, rfl, S6.trans s7, s7 _ _ hb6, al6.mono (fun t v h => h.same s7), tri, wB, s7 _ _ hq6, hp6.same s7, wW', hu, by omega, by omega⟩
        refine ⟨_, rfl, p1, _, _, _, rfl, rfl, SqT.of hp1, at_of (j := 0) rfl rfl, rfl, _, rfl, ?_⟩
        cases hL : isU L with
        | some x =>
          obtain rfl := isU_some hL
          refine iteP (by show decide (V.str "unknown" = V.str "unknown") = true; decide +kernel) ?_
          refine ⟨_, rfl, _, rfl, rd_neT2 wL.fine (by omega) wR.fine (by omega) iL iR ⟨_, rfl, ?_⟩⟩
          unfold act2 at hact
          rw [hL] at hact
          dsimp only at hact
          by_cases hEq : unk x = R
          · rw [if_pos hEq] at hact
            refine iteN (by rw [decide_eq_true hEq]; decide) (nxt ?_)
            rcases hact with ⟨e, _⟩ | ⟨_, hu⟩ | ⟨_, _, e, _⟩ | ⟨_, e, _⟩
            · cases e
            · exact stay hu _ (Same.refl _)
            · cases e
            · cases e
          · rw [if_neg hEq] at hact
            refine iteP (by rw [decide_eq_false hEq]; rfl) ?_
            obtain ⟨p1', e1', hp1'⟩ := iL
            cases e1'
            refine ⟨_, rfl, p1, _, _, _, rfl, rfl, SqT.of hp1', at_of (j := 1) rfl rfl, _, rfl, ⟨z2, R, _, rfl, iR, wR, dR, d10, fun pl H7 s7 npl hpl => ?_⟩, _, by decide +kernel, rfl⟩
            refine ⟨pl, _, rfl, .inl (SqL.of hpl), rfl, (by rw [List.all_map, List.all_eq_true]; intro _ _; rfl), _, rfl, ?_⟩
            rw [if_neg Bool.false_ne_true, inV_strsZ]
            have eI : (x ∈ uniS (R.txt "unknown")) ↔ ocU x R = true := uniS_mem.trans ocU_txt
            by_cases hO : ocU x R = true
            · rw [if_pos hO] at hact
              refine iteP (decide_eq_true (eI.mpr hO)) ?_
              rcases hact with ⟨_, rfl⟩ | ⟨e, _⟩ | ⟨_, _, e, _⟩ | ⟨_, e, _⟩
              · exact kf rfl _ (S6.trans s7)
              · cases e
              · cases e
              · cases e
            · rw [if_neg hO] at hact
              refine iteN (by rw [decide_eq_false (fun z => hO (eI.mp z))]; decide) (nxt ?_)
              try dsimp only
              rcases hact with ⟨e, _⟩ | ⟨e, _⟩ | ⟨x', t', e, hu⟩ | ⟨_, e, _⟩
              · cases e
              · cases e
              · cases e
                have al7 : Al IsT H7 B kvs := al6.mono fun t v h => h.same s7
                have hlk : look B x = none := look_none fun hm => by
                  obtain ⟨p, hp, e⟩ := List.mem_map.mp hm
                  have := fL p hp
                  rw [e] at this
                  rw [show ocU x (unk x) = true from ocU_unk.mpr rfl] at this
                  cases this
                have hv' := (al7.look (x := x)).2 hlk
                have hb7 := s7 _ _ hb6
                have hkl := al7.len
                refine ⟨_, rfl, _, rfl, _, rfl, p1, _, _, _, rfl, rfl, SqT.of (s7 _ _ hp1'), at_of (j := 1) rfl rfl, b, _, rfl, DPut.k (k := .inr x) hb7 (by omega), ?_⟩
                rw [putK_new z2 hv']
                have kp := Kp.upd_dK (C := 0) (ys := kvs ++ [(.inr x, z2)]) hb7
                refine ⟨B ++ [(x, R)], W', _, kvs ++ [(.inr x, z2)], _, _, _, rfl, fun c o e => ?_, upd_same, Al.snoc ((iR.same s7).mono kp) (al7.mono fun t v h => h.mono kp), tri.snoc (Bool.eq_false_iff.mpr hO) (fun p hp => ⟨fR p hp, fun e => ?_⟩), fun p hp => ?_, ?_, (hp6.same s7).mono kp, wW', hu, by rw [List.length_append, List.length_singleton]; omega, by omega⟩
                · rw [upd_ne (ne_of_none e hb)]
                  exact s7 _ _ (S6 c o e)
                · have := fL p hp
                  rw [e, show ocU x (unk x) = true from ocU_unk.mpr rfl] at this
                  cases this
                · rcases List.mem_append.mp hp with z | z
                  · exact wB p z
                  · rw [List.mem_singleton.mp z]
                    exact wR
                · rw [upd_ne (Ne.symm nbq)]
                  exact s7 _ _ hq6
              · cases e
        | none =>
          have e3 : ¬ L.head = "unknown" := of_decide_eq_false (by rw [← eH, hL]; rfl)
          refine iteN (by rw [decide_eq_false (fun z => e3 (V.str.inj z))]; decide) ?_
          refine ⟨_, rfl, p1, _, _, _, rfl, rfl, SqT.of hp1, at_of (j := 0) rfl rfl, _, rfl, rfl, _, rfl, ?_⟩
          unfold act2 at hact
          rw [hL] at hact
          dsimp only at hact
          by_cases hpt : L.parts = []
          · rw [if_pos (.inl hpt)] at hact
            have hn : decide (L.head ∈ sgns) = false := by
              cases wL with
              | am ko => exact sgn_no ko
              | _ => exact absurd hpt (fun e => by cases e)
            refine iteP (by show (!decide (L.head ∈ sgns)) = true; rw [hn]; rfl) (iteT ?_)
            refine ⟨_, rfl, _, rfl, rd_neT2 wL.fine (by omega) wR.fine (by omega) iL iR ⟨_, rfl, ?_⟩⟩
            by_cases hEq : L = R
            · rw [if_pos hEq] at hact
              refine iteN (by rw [decide_eq_true hEq]; decide) (nxt ?_)
              rcases hact with ⟨e, _⟩ | ⟨_, hu⟩ | ⟨_, _, e, _⟩ | ⟨_, e, _⟩
              · cases e
              · exact stay hu _ (Same.refl _)
              · cases e
              · cases e
            · rw [if_neg hEq] at hact
              refine iteP (by rw [decide_eq_false hEq]; rfl) ?_
              rcases hact with ⟨_, rfl⟩ | ⟨e, _⟩ | ⟨_, _, e, _⟩ | ⟨_, e, _⟩
              · exact kf rfl _ S6
              · cases e
              · cases e
              · cases e
          · refine iteN (by show ¬ (!decide (L.head ∈ sgns)) = true; rw [sgn_yes wL hpt]; decide) ?_
            obtain ⟨p2, us2, rfl, hp2⟩ := iR.hd
            refine ⟨_, rfl, p1, _, _, _, rfl, rfl, SqT.of hp1, at_of (j := 0) rfl rfl, _, rfl, p2, _, _, _, rfl, rfl, SqT.of hp2, at_of (j := 0) rfl rfl, rfl, _, rfl, ?_⟩
            by_cases hh : L.head = R.head
            · refine iteN (by rw [hh]; simp) ?_
              rw [if_neg (fun z => z.elim hpt (fun z => z hh))] at hact
              obtain ⟨_, el⟩ := mtl_parts (l := []) hpt wL wR hh
              have hpt2 : R.parts ≠ [] := fun e => hpt (List.length_eq_zero_iff.mp (by rw [el, e]; rfl))
              obtain ⟨hsL, hwL⟩ := wL.sign hpt
              obtain ⟨hsR, hwR⟩ := wR.sign hpt2
              obtain ⟨p1', vs1, e1', hp1', hlu1, hl21, hne1, hus1⟩ := iL.parts hpt
              cases e1'
              obtain ⟨p2', vs2, e2', hp2', hlu2, hl22, hne2, hus2⟩ := iR.parts hpt2
              cases e2'
              refine ⟨_, rfl, .inl ⟨rfl, _, SqL.of hq6⟩, ?_⟩
              refine ⟨_, rfl, _, rfl, p1, _, rfl, SqT.of hp1', ?_, fun p3 hp3 => ?_⟩
              · rintro ⟨z, _⟩
                rw [show (1 : Int) = ((1 : Nat) : Int) from rfl, HT.sIx_nat, List.length_cons] at z
                omega
              rw [cut1]
              have s7 := Rd.Same.upd (o := .tup vs1) hp3
              have h73 : upd H' p3 (.tup vs1) p3 = some (.tup vs1) := upd_same
              generalize upd H' p3 (.tup vs1) = H7 at s7 h73 ⊢
              refine ⟨_, rfl, _, rfl, p2, _, rfl, SqT.of (s7 _ _ hp2'), ?_, fun p4 hp4 => ?_⟩
              · rintro ⟨z, _⟩
                rw [show (1 : Int) = ((1 : Nat) : Int) from rfl, HT.sIx_nat, List.length_cons] at z
                omega
              rw [cut1]
              have s8 := Rd.Same.upd (o := .tup vs2) hp4
              have h84 : upd H7 p4 (.tup vs2) p4 = some (.tup vs2) := upd_same
              generalize upd H7 p4 (.tup vs2) = H8 at s8 h84 ⊢
              refine ⟨p3, p4, vs1, vs2, rfl, SqT.of (s8 _ _ h73), SqT.of h84, (by omega), List.length_pos_iff.mpr hne1, (by omega), fun H9 pl ts s9 npl hpl hpr => ?_⟩
              have s69 := (s7.trans s8).trans s9
              have hq9 := s69 _ _ hq6
              have hts := Paired.length hpr
              rw [List.length_zip] at hts
              have hdl := hp6.len
              refine ⟨q, pl, _, _, rfl, rfl, hq9, hpl, (by rw [List.length_map]; omega), ?_⟩
              have pz : PsAt H9 (L.parts.zip R.parts) (ts.map V.ref) := PsAt.of hpr hlu1 hlu2 el (fun i v hv => by obtain ⟨r, a, b⟩ := hus1 i v hv; exact ⟨r, a, b.same s69⟩) (fun i v hv => by obtain ⟨r, a, b⟩ := hus2 i v hv; exact ⟨r, a, b.same s69⟩)
              have kp := Kp.upd_lst (C := 0) (ys := vs.dropLast ++ ts.map V.ref) hq9
              rcases hact with ⟨e, _⟩ | ⟨e, _⟩ | ⟨_, _, e, _⟩ | ⟨ps', e, hu⟩
              · cases e
              · cases e
              · cases e
              · cases e
                refine ⟨B, W' ++ L.parts.zip R.parts, _, kvs, _, _, _, rfl, fun c o e => ?_, ?_, al6.mono (fun t v h => (h.same s69).mono kp), tri, wB, upd_same, ((hp6.same s69).mono kp).app (pz.mono kp), fun p hp => ?_, hu, by omega, ?_⟩
                · rw [upd_ne (ne_of_none e hqH)]
                  exact s69 _ _ (S6 c o e)
                · rw [upd_ne nbq]
                  exact s69 _ _ hb6
                · rcases List.mem_append.mp hp with z | z
                  · exact wW' p z
                  · obtain ⟨i, hi⟩ := List.getElem?_of_mem z
                    obtain ⟨g1, g2⟩ := List.getElem?_zip_eq_some.mp (show (L.parts.zip R.parts)[i]? = some (p.1, p.2) from hi)
                    exact ⟨(hwL _ (List.mem_of_getElem? g1)).1, (hwR _ (List.mem_of_getElem? g2)).1⟩
                · rw [List.length_append, List.length_zip]
                  omega
            · refine iteP (by rw [decide_eq_false (fun z => hh (V.str.inj z))]; rfl) ?_
              rw [if_pos (.inr hh)] at hact
              have hEq : ¬ L = R := fun e => hh (by rw [e])
              rw [if_neg hEq] at hact
              refine ⟨_, rfl, _, rfl, rd_neT2 wL.fine (by omega) wR.fine (by omega) iL iR ⟨_, rfl, ?_⟩⟩
              refine iteP (by rw [decide_eq_false hEq]; rfl) ?_
              rcases hact with ⟨_, rfl⟩ | ⟨e, _⟩ | ⟨_, _, e, _⟩ | ⟨_, e, _⟩
              · exact kf rfl _ S6
              · cases e
              · cases e
              · cases e
      · intro tail
        obtain ⟨p1, us1, rfl, hp1⟩ := i1.hd
        obtain ⟨p2, us2, rfl, hp2⟩ := i2.hd
        have e1 := isU_head w1
        have e2 := isU_head w2
        refine ⟨_, rfl, p1, _, _, _, rfl, rfl, SqT.of hp1, at_of (j := 0) rfl rfl, rfl, _, rfl, ?_⟩
        cases hl : isU l' with
        | some x =>
          have e3 : l'.head = "unknown" := of_decide_eq_true (by rw [← e1, hl]; rfl)
          refine iteN (by rw [e3]; decide +kernel) ?_
          refine iteF (nxt ?_)
          exact tail _ _ ⟨_, _, l', r', rfl, Same.refl _, i1, i2, by unfold sw; rw [hl]; rfl⟩
        | none =>
          have e3 : ¬ l'.head = "unknown" := of_decide_eq_false (by rw [← e1, hl]; rfl)
          refine iteP (by rw [decide_eq_false (fun z => e3 (V.str.inj z))]; rfl) ?_
          refine ⟨_, rfl, p2, _, _, _, rfl, rfl, SqT.of hp2, at_of (j := 0) rfl rfl, rfl, _, rfl, ?_⟩
          cases hr' : isU r' with
          | some x =>
            have e4 : r'.head = "unknown" := of_decide_eq_true (by rw [← e2, hr']; rfl)
            refine iteP (by rw [e4]; decide +kernel) ?_
            refine ⟨_, rfl, _, rfl, _, _, rfl, ?_⟩
            exact tail _ _ ⟨_, _, r', l', rfl, Same.refl _, i2, i1, by unfold sw; rw [hl, hr']; rfl⟩
          | none =>
            have e4 : ¬ r'.head = "unknown" := of_decide_eq_false (by rw [← e2, hr']; rfl)
            refine iteN (by rw [decide_eq_false (fun z => e4 (V.str.inj z))]; decide) (nxt ?_)
            exact tail _ _ ⟨_, _, l', r', rfl, Same.refl _, i1, i2, by unfold sw; rw [hl, hr']; rfl⟩
end
end Rd
namespace Rd
open PySem L2
/-- {x: f(d[x]) for x in d} -/
theorem dck {C d D : Addr} {o : Obj} {kvs : List (Key × V)} {l : List (Str × Tr)} {R1 R2 : Hp → Tr → V → Prop} (f : Tr → Tr) {tv : TE} {i0 : Nat} {σ : St} {H1 : Hp} {Qd : Hp → Prop}
    (m1 : ∀ H H' t v, Kp C H H' → R1 H t v → R1 H' t v) (m2 : ∀ H H' t v, Kp C H H' → R2 H t v → R2 H' t v) (hd : H1 d = some (.frz o (.dK kvs))) (al : Al R1 H1 l kvs) (nd : (l.map (·.1)).Nodup) (hl : l.length ≤ 1000) (hD : H1 D = none)
    (hsl : ∀ p : V, ((wipe σ [i0]).set i0 (some p))[i0]? = some (some p)) (hw : ∀ p : V, wipe ((wipe σ [i0]).set i0 (some p)) [i0] = wipe σ [i0])
    (hte : ∀ (i : Nat) (x : Str) (t : Tr) (v : V) (σ2 : St) (H : Hp) (Q : VK), l[i]? = some (x, t) → Same H1 H → R1 H t v → DGet H d (.str x) (some v) → σ2 = (wipe σ [i0]).set i0 (some (.str x)) → (∀ z H', Same H H' → R2 H' (f t) z → Q z H') → tv σ2 H Q)
    (hq : ∀ kvs' H', Same H1 H' → H' D = some (.dK kvs') → Al R2 H' (l.map fun p => (p.1, f p.2)) kvs' → Qd H') :
    ∃ W : Nat → Nat → Hp → Prop, (∃ m, W 0 m (L2.upd H1 D (.dK []))) ∧ ∀ i m H, W i m H →
      ((Itk d o kvs).stop i H ∧ Qd H) ∨ ((Itk d o kvs).go i H ∧ ∃ Nx : Hp → Prop, (∀ H', Nx H' → ∃ m', m' < m ∧ W (i + 1) m' H') ∧ ∀ x H', (Itk d o kvs).yld i H x H' → gName i0 x (wipe σ [i0]) H' fun σ2 H2 => wipe σ2 [i0] = wipe σ [i0] ∧ tYes σ2 H2 fun b H3 =>
        if b = true then tVar i0 σ2 H3 fun y H4 => tv σ2 H4 fun z H5 => ∃ kvs' k, y = kV k ∧ H5 D = some (.dK kvs') ∧ kvs'.length < sizeLine ∧ Nx (L2.upd H5 D (.dK (putK kvs' k z))) else Nx H3) := by
  have hlen := al.len
  have big : 100000 ≤ sizeLine := by decide
  refine ⟨fun i m H => m = kvs.length - i ∧ i ≤ kvs.length ∧ ∃ acc, Same H1 H ∧ H D = some (.dK acc) ∧ Al R2 H ((l.take i).map fun p => (p.1, f p.2)) acc, ⟨_, rfl, Nat.zero_le _, [], Rd.Same.upd hD, upd_same, trivial⟩, ?_⟩
  rintro i m H ⟨rfl, hi, acc, s, hDa, ala⟩
  by_cases hlt : i < kvs.length
  · refine .inr ⟨⟨s _ _ hd, hlt⟩, fun H' => ∃ acc, Same H1 H' ∧ H' D = some (.dK acc) ∧ Al R2 H' ((l.take (i + 1)).map fun p => (p.1, f p.2)) acc, fun H' h => ⟨kvs.length - (i + 1), by omega, rfl, hlt, h⟩, ?_⟩
    rintro _ _ ⟨rfl, k, v0, hk, rfl⟩
    obtain ⟨x, t, hx, rfl, _⟩ := al.get hk
    obtain ⟨v, ev, r1⟩ := (al.look (x := x)).1 t (look_get nd hx)
    have etk : l.take (i + 1) = l.take i ++ [(x, t)] := by rw [List.take_succ, hx]; rfl
    refine ⟨hw _, ?_⟩
    unfold tYes
    have hal := ala.len
    rw [List.length_map, List.length_take] at hal
    refine iteT ⟨_, hsl _, hte i x t v _ _ _ hx s (m1 _ _ _ _ (Kp.of_same s) r1) (.inl ⟨kvs, .inr x, .inr ⟨o, s _ _ hd⟩, rfl, ev.symm⟩) rfl fun z H' s' hz => ?_⟩
    have hD' := s' _ _ hDa
    have hno : look ((l.take i).map fun p => (p.1, f p.2)) x = none := by
      refine look_none ?_
      rw [List.map_map]
      have n2 : ((l.take (i + 1)).map (·.1)).Nodup := ((List.take_sublist _ _).map _).nodup nd
      rw [etk, List.map_append] at n2
      have := (List.nodup_append.mp n2).2.2
      intro hm
      exact this x hm x (List.mem_singleton.mpr rfl) rfl
    have hv0 := (ala.look (x := x)).2 hno
    refine ⟨acc, .inr x, rfl, hD', by omega, acc ++ [(.inr x, z)], fun c o e => ?_, ?_, ?_⟩
    · rw [upd_ne (ne_of_none e hD)]
      exact s' _ _ (s _ _ e)
    · rw [upd_same, putK_new z hv0]
    · rw [putK_new z hv0, etk, List.map_append]
      have kp := Kp.upd_dK (C := C) (ys := acc ++ [(.inr x, z)]) hD'
      exact Al.snoc (m2 _ _ _ _ kp hz) (ala.mono fun t v h => m2 _ _ _ _ kp (m2 _ _ _ _ (Kp.of_same s') h))
  · refine .inl ⟨⟨s _ _ hd, by omega⟩, hq acc H s hDa ?_⟩
    rw [List.take_of_length_le (by omega)] at ala
    exact ala
/-! ### lists of pairs of letters -/
def PrL (K : PySem.W.Frag) (H : Hp) (p : Tr × Tr) (v : V) : Prop := ∃ (a b1 b2 : Addr) (u1 u2 : V), v = .ref a ∧ H a = some (.tup [.ref b1, .ref b2]) ∧ IsL K H b1 u1 ∧ IsL K H b2 u2 ∧ IsT H p.1 u1 ∧ IsT H p.2 u2
structure PLs (K : PySem.W.Frag) (H : Hp) (W : List (Tr × Tr)) (vs : List V) : Prop where
  len : vs.length = W.length
  get : ∀ (i : Nat) p v, W[i]? = some p → vs[i]? = some v → PrL K H p v
theorem PrL.same {K : PySem.W.Frag} {H H' : Hp} {p : Tr × Tr} {v : V} (s : Same H H') (h : PrL K H p v) : PrL K H' p v := by
  obtain ⟨a, b1, b2, u1, u2, e, h1, ⟨dx, h2⟩, ⟨dy, h3⟩, h4, h5⟩ := h
  exact ⟨a, b1, b2, u1, u2, e, s _ _ h1, ⟨dx, s _ _ h2⟩, ⟨dy, s _ _ h3⟩, h4.same s, h5.same s⟩
theorem PrT.same {H H' : Hp} {p : Tr × Tr} {v : V} (s : Same H H') (h : PrT H p v) : PrT H' p v := h.mono (C := 0) (Kp.of_same s)
theorem Un.len64 {D n : Nat} {B : Sb} {W : List (Tr × Tr)} {o : Option Sb} (h : Un D n B W o) : ∀ {B' : Sb}, o = some B' → B'.length < 64 := by
  induction h with
  | done _ hl => intro B' e; cases e; exact hl
  | fl => intro B' e; cases e
  | dr _ _ _ _ ih => exact ih
  | bd _ _ _ _ ih => exact ih
  | mr _ _ _ _ ih => exact ih
def sp_narr (K : PySem.W.Frag) (d : Nat) : Sp := fun vs H Q _ => ∃ (a : Addr) (ps : List V) (W : List (Tr × Tr)) (n : Nat) (o : Option Sb), vs = [.ref a] ∧ H a = some (.lst ps) ∧ PLs K H W ps ∧ (∀ p ∈ W, Wf p.1 ∧ Wf p.2) ∧ d ≤ 10 ∧ Un d n [] W o ∧ W.length + n ≤ 100000 ∧
  (o = none → ∀ H', Same H H' → Q .non H') ∧ (∀ B, o = some B → Tri B → (∀ p ∈ B, Wf p.2) → ∀ q kq m H', Same H H' → H q = none → H' q = some (.dK kq) → Al (IsLet K) H' m kq → Rst B m → Q (.ref q) H')
section
variable {P : Program} {w : World} {K : PySem.W.Frag} {mg : Str → Option Value} {base : Heap}
abbrev s_narrowest : Stmt := top 28
theorem sc_narrowest : FnScope ["pairs", "trees", "one", "other", "unknown"] ["pairs"] (defScope s_narrowest) := ⟨rfl, rfl, rfl, by decide +kernel, rfl, by decide +kernel, by decide +kernel⟩
theorem ok_narrowest (T : Tx w K mg) (d : Nat) : Fk P w K mg base CX0 (d + 8) "narrowest" ["pairs"] (sp_narr K d) := by
  refine T.F_narrowest.ok0 sc_narrowest (fun _ _ _ _ _ _ us hl => match us, hl with | [_], _ => rfl)
    (fun vs H Q E h => ?_) (fun cdv A outer s H vs Q E hr h => ?_)
  · obtain ⟨a, ps, W, n, o, rfl, _⟩ := h
    rfl
  · obtain ⟨a, ps, W, n, o, rfl, ha, hps, wW, d10, hU, hbig, kf, kt⟩ := h
    refine ⟨_, (pss_cons (ps_set (i := 1) sc_narrowest.nd rfl (Or.inr rfl) (pe_fk (ok_narrowest_trees T d) (hr.mono (by omega)) rfl pass0 (pa_cons (pe_lc (own := [("one", 2), ("other", 3)])  (tt := tYes) (by rfl) sc_narrowest.nd (pi_list (pv 0)) (blkOk_by (own := [("one", 2), ("other", 3)]) (N := ["pairs", "trees", "one", "other", "unknown"]) (sc := defScope s_narrowest) (by decide +kernel)) (fun _ _ _ _ _ => (pg_tupk (K := K) (n := 2) rfl rfl (pgs_cons (pg_name (i := 2) sc_narrowest.nd rfl (Or.inl rfl)) (pgs_cons (pg_name (i := 3) sc_narrowest.nd rfl (Or.inl rfl)) pgs_nil)))) (fun _ _ _ _ _ => pts_nil) (fun _ _ _ _ _ => (pe_tup (pa_cons (pe_fldk (K := K) rfl (pv 2) rfl) (pa_cons (pe_fldk (K := K) rfl (pv 3) rfl) pa_nil))))) pa_nil)))
  (pss_cons (ps_if (pt_cmpR op_isN (pv 1) pe_non (nomark _))
  (pss_one (ps_ret pe_non))
  pss_nil)
  (pss_one (ps_ret (pe_lock (pe_dc (own := [("unknown", 4)]) (g := gName 4) (tt := tYes) (by rfl) sc_narrowest.nd (pi_keys (pv 1)) (blkOk_by (own := [("unknown", 4)]) (N := ["pairs", "trees", "one", "other", "unknown"]) (sc := defScope s_narrowest) (by decide +kernel)) (fun _ _ _ _ _ => (pg_name (i := 4) sc_narrowest.nd rfl (Or.inl rfl))) (fun _ _ _ _ _ => pts_nil) (fun _ _ _ _ _ => (pv 4)) (fun _ _ _ _ _ => (pe_mk2k (K := K) rfl (ok_Letter T) (hr.mono (by omega)) (by rfl) passN (pa_cons pe_str (pa_cons (pe_dget (hu_of hr) (pv 1) (pv 4) (fun _ _ => rfl)) pa_nil)))))))))), ?_⟩
    have big : 16777216 ≤ sizeLine := by decide
    have hpl := hps.len
    refine seqAsg ⟨_, rfl, a, rfl, ⟨_, SqL.of ha⟩, fun D hD => ?_⟩
    refine lc_list (K := K) (a := a) (xs := ps) (fun i Hc => ∃ vs, Same H Hc ∧ Hc D = some (.lst vs) ∧ PsAt Hc (W.take i) vs) ⟨[], Rd.Same.upd hD, upd_same, PsAt.nil⟩ (fun i Hc _ ⟨_, sc, _⟩ => SqL.of (sc _ _ ha)) ?_ ?_
    · rintro i x Hc hx ⟨vs, sc, hDc, hpc⟩
      have hlt := (List.getElem?_eq_some_iff.mp hx).1
      have hw : W[i]? = some W[i] := List.getElem?_eq_getElem (by omega)
      have etk : W.take (i + 1) = W.take i ++ [W[i]] := by rw [List.take_succ, hw]; rfl
      obtain ⟨pa, b1, b2, u1, u2, rfl, hpa, ⟨dx, hb1⟩, ⟨dy, hb2⟩, i1, i2⟩ := (hps.get i _ _ hw hx).same sc
      refine ⟨pa, _, rfl, SqT.of hpa, rfl, _, _, rfl, _, _, rfl, rfl, rfl, ?_⟩
      unfold tYes
      refine iteT ⟨_, rfl, b1, _, dx, _, u1, rfl, hb1, T.k_Letter, T.n_Letter_tree, look1 _, _, rfl, b2, _, dy, _, u2, rfl, hb2, T.k_Letter, T.n_Letter_tree, look1 _, (by show 2 ≤ sizeLine; decide), fun q hq => ?_⟩
      have sq := Rd.Same.upd (o := .tup [u1, u2]) hq
      have hD2 := sq _ _ hDc
      have hvl := hpc.len
      rw [List.length_take] at hvl
      have kp := Kp.upd_lst (C := 0) (ys := vs ++ [.ref q]) hD2
      refine ⟨vs, hD2, by omega, vs ++ [.ref q], fun c o e => ?_, upd_same, ?_⟩
      · rw [upd_ne (ne_of_none e hD)]
        exact sq _ _ (sc _ _ e)
      · rw [etk]
        refine ((hpc.same sq).mono kp).app ⟨rfl, fun j p v a b => ?_⟩
        cases j with
        | zero =>
          cases a
          cases b
          exact ⟨q, u1, u2, rfl, kp _ _ rfl upd_same, (i1.same sq).mono kp, (i2.same sq).mono kp⟩
        | succ j => simp at a
    · rintro H1 ⟨vs, s1, hD1, hp1⟩
      rw [hpl, List.take_length] at hp1
      refine ⟨D, vs, W, n, o, rfl, hD1, hp1, wW, d10, hU, hbig, fun eo H2 s2 => ?_, fun B eo tri wB q kq m H2 s2 nq hq2 al2 rst => ?_⟩
      · refine gName_k ?_
        try dsimp only
        refine ⟨_, rfl, rfl, _, rfl, iteP (by decide +kernel) ?_⟩
        exact kf eo _ (s1.trans s2)
      · refine gName_k ?_
        try dsimp only
        refine ⟨_, rfl, rfl, _, rfl, iteN (by simp) (nxt ?_)⟩
        try dsimp only
        refine ⟨q, _, hq2, trivial, fun od => ?_⟩
        have ka : Kp (He.ga K "Letter") H2 (upd H2 q (.frz od (.dK kq))) := fun c o hi e => by
          rw [upd_ne (fun z => by rw [z, hq2] at e; cases e; cases hi)]
          exact e
        have S2 := s1.trans s2
        have nqH : H q = none := s1.free nq
        have S2f : Same H (upd H2 q (.frz od (.dK kq))) := fun c o e => by
          rw [upd_ne (ne_of_none e nqH)]
          exact S2 _ _ e
        have hq3 : upd H2 q (.frz od (.dK kq)) q = some (.frz od (.dK kq)) := upd_same
        generalize upd H2 q (.frz od (.dK kq)) = H3 at ka S2f hq3 ⊢
        have al3 : Al IsT H3 m kq := al2.mono fun t v h => h.mono ka
        have hml : m.length < 64 := by rw [rst.1]; exact Un.len64 hU eo
        refine ⟨_, rfl, q, od, rfl, .inl ⟨kq, hq3, fun D2 hD2 => ?_⟩⟩
        refine dck (C := He.ga K "Letter") (l := m) (R1 := IsT) (R2 := IsLet K) id (fun _ _ _ _ kp h => h.mono kp) (fun _ _ _ _ kp h => h.mono kp) hq3 al3 rst.2.1 (by omega) hD2 (fun _ => rfl) (fun _ => rfl) (fun i x t v σ2 H4 Q4 hx s4 r4 dg e k4 => ?_) fun kq' H4 s4 hD4 al4 => ?_
        · subst e
          obtain ⟨pp, us, rfl, hpp⟩ := r4.hd
          refine ⟨_, rfl, _, rfl, q, _, rfl, dg, ?_⟩
          exact rd_mkL hpp fun x' H' s' hl' => k4 _ H' s' ⟨x', _, rfl, hl', r4.same s'⟩
        · have el : (m.map fun p => (p.1, id p.2)) = m := by simp
          rw [el] at al4
          have hq4 := s4 _ _ hq3
          refine ⟨hq4, ?_⟩
          have nDq : D2 ≠ q := fun z => by rw [z, hq3] at hD2; cases hD2
          have kx : Kp (He.ga K "Letter") H4 (upd H4 q (.dK kq)) := fun c o hi e => by
            rw [upd_ne (fun z => by rw [z, hq4] at e; cases e; cases hi)]
            exact e
          refine kt B eo tri wB D2 kq' m _ (fun c o e => ?_) (S2f.free hD2) (by rw [upd_ne nDq]; exact hD4) (al4.mono fun t v h => h.mono kx) rst
          rw [upd_ne (ne_of_none e nqH)]
          exact s4 _ _ (S2f _ _ e)
end
end Rd
namespace Rd
open PySem L2
/-! ### a filling that makes all pairs equal -/
def sz : Tr → Nat
  | .am _ _ => 1
  | .un _ a => sz a + 1
  | .bi _ a b => sz a + sz b + 1
theorem sz_pos : ∀ t : Tr, 1 ≤ sz t
  | .am _ _ => Nat.le_refl _
  | .un _ _ => Nat.le_add_left _ _
  | .bi _ _ _ => Nat.le_add_left _ _
theorem sz_oc {f : Str → Tr} {x : Str} : ∀ {t : Tr}, ocU x t = true → t = unk x ∨ sz (f x) < sz (hm f t)
  | .am k y, h => by
    have h : (decide (k = "unknown") && decide (y = x)) = true := h
    rw [Bool.and_eq_true] at h
    left
    rw [of_decide_eq_true h.1, of_decide_eq_true h.2]
    rfl
  | .un s a, h => by
    right
    have h : ocU x a = true := h
    show sz (f x) < sz (hm f a) + 1
    rcases sz_oc (f := f) (t := a) h with rfl | h
    · rw [hm_unk]; omega
    · omega
  | .bi s a b, h => by
    right
    have h : (ocU x a || ocU x b) = true := h
    show sz (f x) < sz (hm f a) + sz (hm f b) + 1
    rcases Bool.or_eq_true _ _ ▸ h with h | h
    · rcases sz_oc (f := f) (t := a) h with rfl | h
      · rw [hm_unk]; omega
      · omega
    · rcases sz_oc (f := f) (t := b) h with rfl | h
      · rw [hm_unk]; omega
      · omega
def Sat (f : Str → Tr) (B : Sb) : Prop := ∀ p ∈ B, f p.1 = hm f p.2
theorem sat_res {f : Str → Tr} : ∀ {B : Sb} {t : Tr}, Sat f B → hm f (res B t) = hm f t
  | [], _, _ => rfl
  | p :: B, t, h => by
    show hm f (res B (hm (one p.1 p.2) t)) = hm f t
    rw [sat_res (B := B) fun q hq => h q (List.mem_cons_of_mem _ hq), hm_hm]
    refine hm_congr fun x _ => ?_
    by_cases e : x = p.1
    · rw [e, one_self]
      exact (h p List.mem_cons_self).symm
    · rw [one_ne e, hm_unk]
def inNs (ns : List Str) (t : Tr) : Prop := ∀ x, ocU x t = true → x ∈ ns
theorem res_in {ns : List Str} : ∀ {B : Sb} {t : Tr}, (∀ p ∈ B, inNs ns p.2) → inNs ns t → inNs ns (res B t)
  | [], _, _, h => h
  | p :: B, t, hB, h => res_in (B := B) (fun q hq => hB q (List.mem_cons_of_mem _ hq)) fun x hx => by
    obtain ⟨y, h1, h2⟩ := ocU_hm.mp hx
    by_cases e : y = p.1
    · rw [e, one_self] at h2
      exact hB p List.mem_cons_self x h2
    · rw [one_ne e] at h2
      rw [← ocU_unk.mp h2]
      exact h y h1
theorem nodup_subZ {α : Type} [DecidableEq α] : ∀ {l m : List α}, l.Nodup → (∀ x ∈ l, x ∈ m) → l.length ≤ m.length
  | [], _, _, _ => Nat.zero_le _
  | a :: l, m, h1, h2 => by
    obtain ⟨n1, n2⟩ := List.nodup_cons.mp h1
    have ha := h2 a List.mem_cons_self
    have ih := nodup_subZ (l := l) (m := m.erase a) n2 fun x hx => by
      refine (List.mem_erase_of_ne fun e => n1 (by rw [← e]; exact hx)).mpr (h2 x (List.mem_cons_of_mem _ hx))
    have := List.length_erase_of_mem ha
    have := List.length_pos_of_mem ha
    rw [List.length_cons]
    omega
/-- what a pair asks that a filling makes equal -/
theorem act_eq {f : Str → Tr} {l r : Tr} (h : hm f l = hm f r) : act l r = .drop ∨ (∃ x t, act l r = .bind x t ∧ f x = hm f t ∧ ocU x t = false ∧ (t = l ∨ t = r) ∧ (unk x = l ∨ unk x = r)) ∨
    ∃ ps, act l r = .more ps ∧ (∀ p ∈ ps, hm f p.1 = hm f p.2) ∧ ps = l.parts.zip r.parts ∧ l.parts.length = r.parts.length ∧ l.parts ≠ [] := by
  have two : ∀ {L R : Tr} {x : Str}, isU L = some x → hm f L = hm f R → act2 L R = .drop ∨ (act2 L R = .bind x R ∧ f x = hm f R ∧ ocU x R = false ∧ L = unk x) := by
    intro L R x hL hLR
    unfold act2
    rw [hL]
    dsimp only
    have eL := isU_some hL
    by_cases e : L = R
    · rw [if_pos e]
      exact .inl rfl
    · rw [if_neg e]
      rw [eL, hm_unk] at hLR
      by_cases o : ocU x R = true
      · rcases sz_oc (f := f) o with z | z
        · exact absurd (eL.trans z.symm) e
        · rw [hLR] at z
          exact absurd z (Nat.lt_irrefl _)
      · rw [if_neg o]
        exact .inr ⟨rfl, hLR, Bool.eq_false_iff.mpr o, eL⟩
  unfold act
  cases hl : isU l with
  | some x =>
    have es : sw l r = (l, r) := by unfold sw; rw [hl]; rfl
    rw [es]
    rcases two hl h with e | ⟨e, h1, h2, h3⟩
    · exact .inl e
    · exact .inr (.inl ⟨x, r, e, h1, h2, .inr rfl, .inl h3.symm⟩)
  | none =>
    cases hr : isU r with
    | some x =>
      have es : sw l r = (r, l) := by unfold sw; rw [hl, hr]; rfl
      rw [es]
      rcases two hr h.symm with e | ⟨e, h1, h2, h3⟩
      · exact .inl e
      · exact .inr (.inl ⟨x, l, e, h1, h2, .inl rfl, .inr h3.symm⟩)
    | none =>
      have es : sw l r = (l, r) := by unfold sw; rw [hl, hr]; rfl
      rw [es]
      show act2 l r = .drop ∨ _ ∨ _
      have notU : ∀ {k x}, isU (.am k x) = none → ∀ g, hm g (.am k x) = .am k x := fun {k x} e g => by
        have e : (if k = "unknown" then some x else none) = none := e
        by_cases q : k = "unknown"
        · rw [if_pos q] at e; cases e
        · show (if k = "unknown" then _ else _) = _
          rw [if_neg q]
      unfold act2
      rw [hl]
      dsimp only
      cases l with
      | am k x =>
        rw [notU hl] at h
        rw [if_pos (.inl rfl)]
        cases r with
        | am k' x' =>
          rw [notU hr] at h
          rw [if_pos h]
          exact .inl rfl
        | un s a => cases h
        | bi s a b => cases h
      | un s a =>
        cases r with
        | am k' x' => rw [notU hr] at h; cases h
        | un s' a' =>
          have h : Tr.un s (hm f a) = Tr.un s' (hm f a') := h
          obtain ⟨rfl, ha⟩ := Tr.un.inj h
          rw [if_neg (fun z => z.elim (fun e => by cases e) (fun e => e rfl))]
          refine .inr (.inr ⟨_, rfl, fun p hp => ?_, rfl, rfl, fun e => by cases e⟩)
          have hp : p ∈ [(a, a')] := hp
          rw [List.mem_singleton.mp hp]
          exact ha
        | bi s' a' b' => cases h
      | bi s a b =>
        cases r with
        | am k' x' => rw [notU hr] at h; cases h
        | un s' a' => cases h
        | bi s' a' b' =>
          have h : Tr.bi s (hm f a) (hm f b) = Tr.bi s' (hm f a') (hm f b') := h
          obtain ⟨rfl, h1, h2⟩ := Tr.bi.inj h
          rw [if_neg (fun z => z.elim (fun e => by cases e) (fun e => e rfl))]
          refine .inr (.inr ⟨_, rfl, fun p hp => ?_, rfl, rfl, fun e => by cases e⟩)
          have hp : p ∈ [(a, a'), (b, b')] := hp
          rcases List.mem_cons.mp hp with rfl | hp
          · exact h1
          · rw [List.mem_singleton.mp hp]
            exact h2
def msr (f : Str → Tr) (W : List (Tr × Tr)) : Nat := (W.map fun p => sz (hm f p.1)).sum
theorem msr_app {f : Str → Tr} {W X : List (Tr × Tr)} : msr f (W ++ X) = msr f W + msr f X := by
  unfold msr
  rw [List.map_append, List.sum_append]
theorem msr_one {f : Str → Tr} {p : Tr × Tr} : msr f [p] = sz (hm f p.1) := by
  unfold msr
  simp
theorem msr_parts {f : Str → Tr} {l : Tr} {rs : List Tr} (h : l.parts ≠ []) (hl : l.parts.length = rs.length) : msr f (l.parts.zip rs) + 1 ≤ sz (hm f l) := by
  cases l with
  | am k x => exact absurd rfl h
  | un s a =>
    match rs, hl with
    | [b], _ =>
      show sz (hm f a) + 0 + 1 ≤ sz (hm f a) + 1
      omega
  | bi s a b =>
    match rs, hl with
    | [c, d], _ =>
      show sz (hm f a) + (sz (hm f b) + 0) + 1 ≤ sz (hm f a) + sz (hm f b) + 1
      omega
theorem hm_parts_dep {f : Str → Tr} {l p : Tr} (h : p ∈ l.parts) : (hm f p).dep ≤ (hm f l).dep := by
  cases l with
  | am k x => cases h
  | un s a =>
    have h : p ∈ [a] := h
    rw [List.mem_singleton.mp h]
    exact Nat.le_succ _
  | bi s a b =>
    have h : p ∈ [a, b] := h
    show _ ≤ max (hm f a).dep (hm f b).dep + 1
    rcases List.mem_cons.mp h with rfl | h
    · omega
    · rw [List.mem_singleton.mp h]; omega
theorem inNs_parts {ns : List Str} {l p : Tr} (h : p ∈ l.parts) (hn : inNs ns l) : inNs ns p := by
  cases l with
  | am k x => cases h
  | un s a =>
    have h : p ∈ [a] := h
    rw [List.mem_singleton.mp h]
    exact hn
  | bi s a b =>
    have h : p ∈ [a, b] := h
    rcases List.mem_cons.mp h with rfl | h
    · exact fun x e => hn x (by show (_ || _) = true; rw [e]; rfl)
    · rw [List.mem_singleton.mp h]
      exact fun x e => hn x (by show (_ || _) = true; rw [e, Bool.or_true])
structure Good (f : Str → Tr) (D : Nat) (ns : List Str) (p : Tr × Tr) : Prop where
  eq : hm f p.1 = hm f p.2
  dp : (hm f p.1).dep ≤ D
  n1 : inNs ns p.1
  n2 : inNs ns p.2
theorem planted {f : Str → Tr} {D : Nat} {ns : List Str} (hns : ns.length < 64) : ∀ (m : Nat) (B : Sb) (W : List (Tr × Tr)), msr f W ≤ m → Tri B → Sat f B → (∀ p ∈ B, p.1 ∈ ns ∧ inNs ns p.2 ∧ (f p.1).dep ≤ D) → (∀ p ∈ W, Good f D ns p) →
    ∃ n B', Un D n B W (some B') ∧ n ≤ m ∧ Sat f B'
  | m, B, W, hm0, tri, sat, hB, hW => by
    rcases List.eq_nil_or_concat W with rfl | ⟨W', p, e⟩
    · refine ⟨0, B, .done (fun p hp => ?_) ?_, Nat.zero_le _, sat⟩
      · have h1 := dep_hm (f := f) (res B p.2)
        rw [sat_res sat, ← sat p hp] at h1
        exact Nat.le_trans h1 (hB p hp).2.2
      · have := nodup_subZ tri.nodup (m := ns) fun x hx => by
          obtain ⟨p, hp, e⟩ := List.mem_map.mp hx
          rw [← e]
          exact (hB p hp).1
        rw [List.length_map] at this
        omega
    · rw [List.concat_eq_append] at e
      subst e
      obtain ⟨l, r⟩ := p
      have g := hW (l, r) (List.mem_append_right _ (List.mem_singleton.mpr rfl))
      have hW' : ∀ p ∈ W', Good f D ns p := fun p hp => hW p (List.mem_append_left _ hp)
      rw [msr_app, msr_one] at hm0
      have hz := sz_pos (hm f l)
      have hm0 : msr f W' + sz (hm f l) ≤ m := hm0
      have el := sat_res (t := l) sat
      have er := sat_res (t := r) sat
      have h1 : (res B l).dep ≤ D := by
        have := dep_hm (f := f) (res B l)
        rw [el] at this
        exact Nat.le_trans this g.dp
      have gdr : (hm f r).dep ≤ D := by rw [← g.eq]; exact g.dp
      have h2 : (res B r).dep ≤ D := by
        have := dep_hm (f := f) (res B r)
        rw [er] at this
        exact Nat.le_trans this gdr
      have nl : inNs ns (res B l) := res_in (fun p hp => (hB p hp).2.1) g.n1
      have nr : inNs ns (res B r) := res_in (fun p hp => (hB p hp).2.1) g.n2
      obtain ⟨m', rfl⟩ : ∃ m', m = m' + 1 := ⟨m - 1, by omega⟩
      rcases act_eq (f := f) (l := res B l) (r := res B r) (by rw [el, er]; exact g.eq) with e | ⟨x, t, e, e1, e2, e3, e4⟩ | ⟨ps, e, e1, e2, e3, e4⟩
      · obtain ⟨n, B', hu, hn, hs⟩ := planted hns m' B W' (by omega) tri sat hB hW'
        exact ⟨n + 1, B', .dr h1 h2 e hu, by omega, hs⟩
      · have ht : inNs ns t := by rcases e3 with rfl | rfl; exact nl; exact nr
        have hxu : ∀ q ∈ B, ocU q.1 (unk x) = false := fun q hq => by
          rcases e4 with z | z
          · rw [z]; exact res_free tri q hq
          · rw [z]; exact res_free tri q hq
        have hxn : x ∈ ns := by
          rcases e4 with z | z
          · exact nl x (by rw [← z]; exact ocU_unk.mpr rfl)
          · exact nr x (by rw [← z]; exact ocU_unk.mpr rfl)
        have hdx : (f x).dep ≤ D := by
          rcases e4 with z | z
          · rw [← z, hm_unk] at el; rw [el]; exact g.dp
          · rw [← z, hm_unk] at er; rw [er]; exact gdr
        have htf : ∀ q ∈ B, ocU q.1 t = false := fun q hq => by rcases e3 with rfl | rfl; exact res_free tri q hq; exact res_free tri q hq
        obtain ⟨n, B', hu, hn, hs⟩ := planted hns m' (B ++ [(x, t)]) W' (by omega) (tri.snoc e2 fun q hq => ⟨htf q hq, fun z => by
            have := hxu q hq
            rw [z, show ocU x (unk x) = true from ocU_unk.mpr rfl] at this
            cases this⟩) (fun q hq => by
            rcases List.mem_append.mp hq with z | z
            · exact sat q z
            · rw [List.mem_singleton.mp z]; exact e1) (fun q hq => by
            rcases List.mem_append.mp hq with z | z
            · exact hB q z
            · rw [List.mem_singleton.mp z]; exact ⟨hxn, ht, hdx⟩) hW'
        exact ⟨n + 1, B', .bd h1 h2 e hu, by omega, hs⟩
      · have hmp := msr_parts (f := f) (l := res B l) (rs := (res B r).parts) e4 e3
        rw [el, ← e2] at hmp
        obtain ⟨n, B', hu, hn, hs⟩ := planted hns m' B (W' ++ ps) (by rw [msr_app]; omega) tri sat hB fun p hp => by
          rcases List.mem_append.mp hp with z | z
          · exact hW' p z
          · have hz := z
            rw [e2] at z
            obtain ⟨i, hi⟩ := List.getElem?_of_mem z
            obtain ⟨g1, g2⟩ := List.getElem?_zip_eq_some.mp (show ((res B l).parts.zip (res B r).parts)[i]? = some (p.1, p.2) from hi)
            have m1 := List.mem_of_getElem? g1
            have m2 := List.mem_of_getElem? g2
            refine ⟨e1 p hz, ?_, inNs_parts m1 nl, inNs_parts m2 nr⟩
            have := hm_parts_dep (f := f) m1
            rw [el] at this
            exact Nat.le_trans this g.dp
        exact ⟨n + 1, B', .mr h1 h2 e hu, by omega, hs⟩
/-- a pattern that a filling makes a form, the unknowns bound so far being filled so -/
theorem mtl_sat {f : Str → Tr} : ∀ (p t : Tr) (l : Sb), hm f p = t → (∀ q ∈ l, q.2 = f q.1) → (mtl p t l).1 = true ∧ ∀ q ∈ (mtl p t l).2, q.2 = f q.1
  | .am k x, t, l, h, hl => by
    by_cases e : k = "unknown"
    · subst e
      have h : f x = t := by rw [← h]; exact (hm_unk f x).symm
      rw [mtl, if_pos rfl]
      cases el : look l x with
      | some u =>
        have := hl _ (lookU_mem el)
        refine ⟨decide_eq_true ?_, hl⟩
        rw [← h]
        exact this
      | none =>
        refine ⟨rfl, fun q hq => ?_⟩
        rcases List.mem_append.mp hq with z | z
        · exact hl q z
        · rw [List.mem_singleton.mp z]
          exact h.symm
    · rw [mtl, if_neg e]
      have h : (if k = "unknown" then f x else .am k x) = t := h
      rw [if_neg e] at h
      exact ⟨decide_eq_true h, hl⟩
  | .un s a, t, l, h, hl => by
    have h : Tr.un s (hm f a) = t := h
    subst h
    rw [mtl, if_pos rfl]
    exact mtl_sat a _ l rfl hl
  | .bi s a b, t, l, h, hl => by
    have h : Tr.bi s (hm f a) (hm f b) = t := h
    subst h
    obtain ⟨h1, h2⟩ := mtl_sat a _ l rfl hl
    rw [mtl, if_pos rfl, if_pos h1]
    exact mtl_sat b _ _ rfl h2
end Rd
namespace Rd
open PySem L2
def NV : List Str := ["x", "y", "z", "v"]
section
variable {P : Program} {w : World} {K : PySem.W.Frag} {mg : Str → Option Value} {base : Heap}
def sp_plainF (d : Nat) : Sp := fun vs H Q _ => ∃ (p nl : Addr) (xs : List V) (n : Nat), vs = [.ref p, .ref nl, .int d] ∧ H p = some (.lst xs) ∧ StL (n + 4 * dr d) xs ∧ nl ≠ p ∧ H nl = some (.lst (NV.map V.str)) ∧
  ∀ q kq (l : List (Str × Tr)) ys H', But p H H' → H q = none → q ≠ p → H' p = some (.lst ys) → StL n ys → H' q = some (.dK kq) → Al IsT H' l kq → l.map (·.1) = NV → (∀ z ∈ l, Wf z.2 ∧ dpN d [] z.2) → Q (.ref q) H'
abbrev s__law_plain_forms : Stmt := top 42
theorem sc__law_plain_forms : FnScope ["_law_stream_here", "_law_names", "_law_deep", "_law_name_here"] ["_law_stream_here", "_law_names", "_law_deep"] (defScope s__law_plain_forms) := ⟨rfl, rfl, rfl, by decide +kernel, rfl, by decide +kernel, by decide +kernel⟩
theorem ok__law_plain_forms (T : Tx w K mg) (d : Nat) : Fk P w K mg base CX0 (d + 7) "_law_plain_forms" ["_law_stream_here", "_law_names", "_law_deep"] (sp_plainF d) := by
  refine T.F__law_plain_forms.ok0 sc__law_plain_forms (fun _ _ _ _ _ _ us hl => match us, hl with | [_, _, _], _ => rfl)
    (fun vs H Q E h => ?_) (fun cdv A outer s H vs Q E hr h => ?_)
  · obtain ⟨p, nl, xs, n, rfl, _⟩ := h
    rfl
  · obtain ⟨p, nl, xs, n, rfl, hp, hx, nqp, hq1, k⟩ := h
    refine ⟨_, (pss_one (ps_ret (pe_callTy (call_dictP rfl) (by rfl) T.z_dict (by decide +kernel) (pa_cons (pe_lc (own := [("_law_name_here", 3)]) (g := gName 3) (tt := tYes) (by rfl) sc__law_plain_forms.nd (pi_list (pv 1)) (blkOk_by (own := [("_law_name_here", 3)]) (N := ["_law_stream_here", "_law_names", "_law_deep", "_law_name_here"]) (sc := defScope s__law_plain_forms) (by decide +kernel)) (fun _ _ _ _ _ => (pg_name (i := 3) sc__law_plain_forms.nd rfl (Or.inl rfl))) (fun _ _ _ _ _ => pts_nil) (fun _ _ _ _ _ => (pe_tup (pa_cons (pv 3) (pa_cons (pe_fk (ok__law_form T d) (hr.mono (by omega)) rfl pass0 (pa_cons (pv 0) (pa_cons (pe_lst pa_nil) (pa_cons (pv 2) pa_nil)))) pa_nil))))) pa_nil)))), ?_⟩
    have big : 100000 ≤ sizeLine := by decide
    refine ⟨_, rfl, nl, rfl, ⟨_, SqL.of hq1⟩, fun D2 hD2 => ?_⟩
    have nD2p : D2 ≠ p := fun z => by rw [z, hp] at hD2; cases hD2
    refine lc_list (K := K) (a := nl) (xs := NV.map V.str) (fun i Hd => ∃ (ps : List Addr) (kq : List (Key × V)) (l : List (Str × Tr)) (ys : List V), But p H Hd ∧ Hd D2 = some (.lst (ps.map V.ref)) ∧ Pq Hd ps kq ∧ Al IsT Hd l kq ∧ l.map (·.1) = NV.take i ∧ (∀ z ∈ l, Wf z.2 ∧ dpN d [] z.2) ∧ Hd p = some (.lst ys) ∧ StL (n + (4 - i) * dr d) ys) ⟨[], [], [], xs, But.new hD2, upd_same, trivial, trivial, rfl, (fun z hz => by cases hz), by rw [upd_ne (Ne.symm nD2p)]; exact hp, hx⟩ ?_ ?_ ?_
    · rintro i Hd hi ⟨ps, kq, l, yd, bd, _⟩
      exact SqL.of (bd _ _ nqp hq1)
    · rintro i x Hd hxi ⟨ps, kq, l, yd, bd, hDd, pq, al, hlk, hwf, hpd, hyd⟩
      rw [List.getElem?_map] at hxi
      obtain ⟨z, hz, rfl⟩ := Option.map_eq_some_iff.mp hxi
      have hi4 : i < 4 := (List.getElem?_eq_some_iff.mp hz).1
      have etk : NV.take (i + 1) = NV.take i ++ [z] := by rw [List.take_succ, hz]; rfl
      have hm : (4 - i) * dr d = (4 - (i + 1)) * dr d + dr d := by
        rw [show 4 - i = (4 - (i + 1)) + 1 by omega, Nat.add_mul, Nat.one_mul]
      refine ⟨rfl, ?_⟩
      unfold tYes
      have rdf := fun {Q : VK} k => rd_form (d := d) (Q := Q) (us := []) (n := n + (4 - (i + 1)) * dr d) hpd (hyd.mono (by omega)) (unkOk (l := []) (by decide +kernel) (by decide)) k
      refine iteT ⟨_, rfl, _, rfl, Nat.zero_le _, fun qn hqn => ⟨_, rfl, (rdf fun t v y3 H3 b3 hp3 hy3 wf dp it => ⟨(by show 2 ≤ sizeLine; decide), fun q hq => ?_⟩).2 qn hqn⟩⟩
      have hpl := pq.len
      have hal := al.len
      have hll := congrArg List.length hlk
      rw [List.length_map, List.length_take] at hll
      have sq := Rd.Same.upd (o := .tup [V.str z, v]) hq
      have kd : Kp 0 Hd H3 := b3.kp hpd
      have hD3 := sq _ _ (b3 _ _ nD2p hDd)
      have kp := Kp.upd_lst (C := 0) (ys := ps.map V.ref ++ [V.ref q]) hD3
      have kk := (kd.trans (Kp.of_same sq)).trans kp
      refine ⟨_, hD3, by rw [List.length_map]; omega, ps ++ [q], kq ++ [((.inr z : Key), v)], l ++ [(z, t)], y3, fun c o hc e => ?_, by rw [upd_same, List.map_append]; rfl, Pq.snoc (kv := ((.inr z : Key), v)) (kp _ _ rfl upd_same) (pq.mono kk), Al.snoc (x := z) ((it.same sq).mono kp) (al.mono fun t v h => h.mono kk), by rw [etk, List.map_append, hlk]; rfl, fun y hy => ?_, ?_, hy3⟩
      · rw [upd_ne (ne_of_none e hD2)]
        exact sq _ _ (b3 _ _ hc (bd c o hc e))
      · rcases List.mem_append.mp hy with h | h
        · exact hwf y h
        · rw [List.mem_singleton.mp h]
          exact ⟨wf, dp⟩
      · rw [upd_ne (Ne.symm nD2p)]
        exact sq _ _ hp3
    · rintro Hd ⟨ps, kq, l, yd, bd, hDd, pq, al, hlk, hwf, hpd, hyd⟩
      rw [List.take_of_length_le (by rw [List.length_map]; exact Nat.le_refl _)] at hlk
      refine ⟨D2, ps, kq, rfl, SqL.of hDd, pq.paired, fun q hq => ?_⟩
      have nd : (l.map (·.1)).Nodup := by rw [hlk]; decide +kernel
      rw [al.merge nd]
      have sq := Rd.Same.upd (o := .dK kq) hq
      have nqp2 : q ≠ p := fun z => by rw [z, hpd] at hq; cases hq
      have hqH : H q = none := by
        cases e : H q with
        | none => rfl
        | some o => rw [bd _ _ nqp2 e] at hq; cases hq
      exact k q kq l yd _ (bd.trans (But.of_same sq)) hqH nqp2 (sq _ _ hpd) (hyd.mono (by omega)) upd_same (al.mono fun t v h => h.same sq) hlk hwf
end
end Rd
namespace Rd
open PySem L2
def oD : Nat → Nat
  | 0 => 4
  | d + 1 => 4 + 2 * oD d
theorem rd_eqT2 {K : PySem.W.Frag} {H : Hp} {t r : Tr} {v u : V} {Q : VK} (ht : t.fine) (hd : t.dep ≤ 60) (hr : r.fine) (hd2 : r.dep ≤ 60) (h1 : IsT H t v) (h2 : IsT H r u) (q : Q (.bl (decide (t = r))) H) : rEqD K v u H Q := by
  refine ⟨dat t, dat r, h1.dp, h2.dp, dat_shaped ht hd, dat_shaped hr hd2, ?_⟩
  rw [eqv_dat]
  exact q
theorem fill_free {m : Str → Option Tr} {t : Tr} (h : t.unkIn []) : fill m t = t := by
  rw [fill_hm]
  refine hm_id fun x hx => ?_
  exfalso
  induction t with
  | am k y =>
    have hx : (decide (k = "unknown") && decide (y = x)) = true := hx
    rw [Bool.and_eq_true] at hx
    have := h (of_decide_eq_true hx.1)
    simp at this
  | un s a ih => exact ih h hx
  | bi s a b iha ihb =>
    have hx : (ocU x a || ocU x b) = true := hx
    rcases Bool.or_eq_true _ _ ▸ hx with e | e
    · exact iha h.1 e
    · exact ihb h.2 e
theorem free_oc {t : Tr} (h : t.unkIn []) (x : Str) : ocU x t = false := by
  induction t with
  | am k y =>
    refine Bool.eq_false_iff.mpr fun hx => ?_
    have hx : (decide (k = "unknown") && decide (y = x)) = true := hx
    rw [Bool.and_eq_true] at hx
    have := h (of_decide_eq_true hx.1)
    simp at this
  | un s a ih => exact ih h
  | bi s a b iha ihb =>
    show (ocU x a || ocU x b) = false
    rw [iha h.1, ihb h.2]
    rfl
structure Op (l : Sb) (t t' : Tr) : Prop where
  wf : Wf t'
  fl : fill (look l) t' = t
  ns : ∀ x, ocU x t' = true → x ∈ l.map (·.1)
theorem unk_partsY {t r : Tr} {us : List V} (h : t.unkIn us) (hr : r ∈ t.parts) : r.unkIn us := by
  cases t with
  | am k x => cases hr
  | un s a => rw [show r = a by simpa [Tr.parts] using hr]; exact h
  | bi s a b =>
    have hr : r = a ∨ r = b := by simpa [Tr.parts] using hr
    rcases hr with rfl | rfl
    · exact h.1
    · exact h.2
theorem op_of {H : Hp} {l : Sb} {t : Tr} {q : Addr} {vs : List V} {ts : List Tr} (wf : Wf t) (hpt : t.parts ≠ []) (hq : H q = some (.tup (.str t.head :: vs))) (hts : TsAt H ts vs) (hlen : ts.length = t.parts.length)
    (ho : ∀ (j : Nat) r', ts[j]? = some r' → ∃ r, t.parts[j]? = some r ∧ Op l r r') (hl : t.head = "lock" → ∃ s b, ts[1]? = some (Tr.un s b)) : ∃ t', Op l t t' ∧ IsT H t' (.ref q) := by
  have hv := hts.len
  cases wf with
  | am ko => exact absurd rfl hpt
  | @un s a hs wa =>
    match ts, hlen with
    | [r1], _ =>
      match vs, hv with
      | [v1], _ =>
        obtain ⟨r, e, o⟩ := ho 0 r1 rfl
        cases (show some a = some r from e)
        exact ⟨.un s r1, ⟨.un hs o.wf, by rw [fill, o.fl], o.ns⟩, q, v1, rfl, hq, hts.get 0 r1 v1 rfl rfl⟩
  | @bi s a b hs wa wb =>
    match ts, hlen with
    | [r1, r2], _ =>
      match vs, hv with
      | [v1, v2], _ =>
        obtain ⟨r, e, o⟩ := ho 0 r1 rfl
        cases (show some a = some r from e)
        obtain ⟨r', e', o'⟩ := ho 1 r2 rfl
        cases (show some b = some r' from e')
        refine ⟨.bi s r1 r2, ⟨.bi hs o.wf o'.wf, by rw [fill, o.fl, o'.fl], fun x hx => ?_⟩, q, v1, v2, rfl, hq, hts.get 0 r1 v1 rfl rfl, hts.get 1 r2 v2 rfl rfl⟩
        have hx : (ocU x r1 || ocU x r2) = true := hx
        rcases Bool.or_eq_true _ _ ▸ hx with z | z
        · exact o.ns x z
        · exact o'.ns x z
  | @lk s a b hs wa wb =>
    match ts, hlen with
    | [r1, r2], _ =>
      match vs, hv with
      | [v1, v2], _ =>
        obtain ⟨r, e, o⟩ := ho 0 r1 rfl
        cases (show some a = some r from e)
        obtain ⟨r', e', o'⟩ := ho 1 r2 rfl
        cases (show some (Tr.un s b) = some r' from e')
        obtain ⟨s', b', e2⟩ := hl rfl
        cases (show some r2 = some (Tr.un s' b') from e2)
        have ef : Tr.un s' (fill (look l) b') = Tr.un s b := o'.fl
        obtain ⟨rfl, ef⟩ := Tr.un.inj ef
        have wb' : Wf b' := by
          have := o'.wf
          cases this with
          | un _ w => exact w
        refine ⟨.bi "lock" r1 (.un s' b'), ⟨.lk hs o.wf wb', by rw [fill, o.fl, o'.fl], fun x hx => ?_⟩, q, v1, v2, rfl, hq, hts.get 0 r1 v1 rfl rfl, hts.get 1 _ v2 rfl rfl⟩
        have hx : (ocU x r1 || ocU x (Tr.un s' b')) = true := hx
        rcases Bool.or_eq_true _ _ ▸ hx with z | z
        · exact o.ns x z
        · exact o'.ns x z
theorem Op.refl {l : Sb} {t : Tr} (wf : Wf t) (un : t.unkIn []) : Op l t t := ⟨wf, fill_free un, fun x hx => by rw [free_oc un x] at hx; cases hx⟩
def sp_opu (d : Nat) : Sp := fun vs H Q _ => ∃ (p a : Addr) (xs : List V) (v : V) (t : Tr) (kvs : List (Key × V)) (l : Sb) (n : Nat), vs = [.ref p, v, .ref a, .int d] ∧ H p = some (.lst xs) ∧ StL (n + oD d) xs ∧ IsT H t v ∧ Wf t ∧ t.unkIn [] ∧ t.dep ≤ 60 ∧ H a = some (.dK kvs) ∧ Al IsT H l kvs ∧ (l.map (·.1)).Nodup ∧ l.length ≤ 4 ∧ (∀ z ∈ l, Wf z.2 ∧ z.2.dep ≤ 60 ∧ Wf (unk z.1)) ∧
  ∀ t' u ys H', But p H H' → H' p = some (.lst ys) → StL n ys → Op l t t' → IsT H' t' u → Q u H'
def spOR : Nat → Sp
  | 0 => fun _ _ _ _ => False
  | d + 1 => sp_opu d
section
variable {P : Program} {w : World} {K : PySem.W.Frag} {mg : Str → Option Value} {base : Heap}
abbrev s__law_opened_up : Stmt := top 43
theorem sc__law_opened_up : FnScope ["_law_stream_here", "_law_form_here", "_law_forms", "_law_deep", "_law_name_here", "_law_inner", "_law_part"] ["_law_stream_here", "_law_form_here", "_law_forms", "_law_deep"] (defScope s__law_opened_up) := ⟨rfl, rfl, rfl, by decide +kernel, rfl, by decide +kernel, by decide +kernel⟩
theorem opu_step (T : Tx w K mg) (d : Nat) (ih : Fk P w K mg base CX0 (d + 7) "_law_opened_up" ["_law_stream_here", "_law_form_here", "_law_forms", "_law_deep"] (spOR d)) : Fk P w K mg base CX0 (d + 8) "_law_opened_up" ["_law_stream_here", "_law_form_here", "_law_forms", "_law_deep"] (sp_opu d) := by
  refine T.F__law_opened_up.ok0 sc__law_opened_up (fun _ _ _ _ _ _ us hl => match us, hl with | [_, _, _, _], _ => rfl)
    (fun vs H Q E h => ?_) (fun cdv A outer s H vs Q E hr h => ?_)
  · obtain ⟨p, a, xs, v, t, kvs, l, n, rfl, _⟩ := h
    rfl
  · obtain ⟨p, a, xs, v, t, kvs, l, n, rfl, hp, hx, it, wf, un, dp, ha, al, nd, hl4, wl, k⟩ := h
    refine ⟨_, (pss_cons (ps_lock (ps_for PassesOwn.never rfl (pi_keys (pv 2)) (pg_name (i := 4) sc__law_opened_up.nd rfl (Or.inl rfl))
  (pss_one (ps_if (PW.pt (pw_and (pt_cmpR (op_eqD hr.units) (pe_dget (hu_of hr) (pv 2) (pv 4) (fun _ _ => rfl)) (pv 1) (nomark _)) (pw_and1 (pt_cmpR op_gt (pe_fk (ok__law_draw T) (hr.mono (by omega)) rfl pass0 (pa_cons (pv 0) (pa_cons pe_int pa_nil))) pe_int (nomark _)))))
  (pss_one (ps_ret (pe_tup (pa_cons pe_str (pa_cons (pv 4) pa_nil)))))
  pss_nil))))
  (pss_cons (ps_if (PW.pt (pw_or (pt_cmpR op_eq (pv 3) pe_int (nomark _)) (pw_or1 (pt_cmpR op_inT (pe_ix ix_tup (pv 1) pe_int (fun _ _ => rfl)) (pe_tup (pa_cons pe_str (pa_cons pe_str (pa_cons pe_str pa_nil)))) (by rfl)))))
  (pss_one (ps_ret (pv 1)))
  pss_nil)
  (pss_cons (ps_setLc (i := 5) (own := [("_law_part", 6)]) (g := gName 6) (tt := tYes) (by rfl) sc__law_opened_up.nd rfl rfl (sw_true rfl rfl rfl (by decide +kernel)) (pi_tup (pe_slice sl_tup (pv 1) (po_some pe_int) po_none)) (blkOk_by (own := [("_law_part", 6)]) (N := ["_law_stream_here", "_law_form_here", "_law_forms", "_law_deep", "_law_name_here", "_law_inner", "_law_part"]) (sc := defScope s__law_opened_up) (by decide +kernel)) (fun _ _ _ _ _ => (pg_name (i := 6) sc__law_opened_up.nd rfl (Or.inl rfl))) (fun _ _ _ _ _ => pts_nil) (fun _ _ _ _ _ => (pe_fk ih (hr.mono (by omega)) rfl pass0 (pa_cons (pv 0) (pa_cons (pv 6) (pa_cons (pv 2) (pa_cons (pe_op op_sub (pv 3) pe_int) pa_nil)))))))
  (pss_cons (ps_if (PW.pt (pw_and (pt_cmpR op_eq (pe_ix ix_tup (pv 1) pe_int (fun _ _ => rfl)) pe_str (nomark _)) (pw_and1 (pt_cmpR op_eq (pe_ix ix_tup (pe_ix ix_list (pv 5) pe_int (fun _ _ => rfl)) pe_int (fun _ _ => rfl)) pe_str (nomark _)))))
  (pss_one (ps_asg (pe_ix ix_tup (pv 1) pe_int (fun _ _ => rfl)) (pg_sub (pv 5) pe_int set_list)))
  pss_nil)
  (pss_one (ps_ret (pe_op op_catT (pe_tup (pa_cons (pe_ix ix_tup (pv 1) pe_int (fun _ _ => rfl)) pa_nil)) (pe_callTy call_tuple_of (by rfl) T.z_tuple (by decide +kernel) (pa_cons (pv 5) pa_nil))))))))), ?_⟩
    have big : 16777216 ≤ sizeLine := by decide
    have npa : p ≠ a := fun z => by rw [z, ha] at hp; cases hp
    obtain ⟨pf, us, rfl, hpf⟩ := it.hd
    have npf : pf ≠ p := fun z => by rw [z, hp] at hpf; cases hpf
    have nfa : pf ≠ a := fun z => by rw [z, ha] at hpf; cases hpf
    have hlen := al.len
    refine seqJoin (fun σ' H' => ∃ (ys : List V) (t4 : Option V), σ' = [some (.ref p), some (.ref pf), some (.ref a), some (.int d), t4, none, none] ∧ But p H H' ∧ H' p = some (.lst ys) ∧ StL (n + (oD d - 4)) ys) (fun KK hK => ?_) ?_
    · refine ⟨a, _, ha, trivial, fun od => ?_⟩
      have ka : Kp 0 H (upd H a (.frz od (.dK kvs))) := fun c o hi e => by
        rw [upd_ne (fun z => by rw [z, ha] at e; cases e; cases hi)]
        exact e
      have ha1 : upd H a (.frz od (.dK kvs)) a = some (.frz od (.dK kvs)) := upd_same
      have hp1 : upd H a (.frz od (.dK kvs)) p = some (.lst xs) := by rw [upd_ne npa]; exact hp
      have off1 : ∀ c o, c ≠ a → H c = some o → upd H a (.frz od (.dK kvs)) c = some o := fun c o hc e => by rw [upd_ne hc]; exact e
      have back : ∀ c o, c ≠ a → upd H a (.frz od (.dK kvs)) c = some o → H c = some o := fun c o hc e => by rw [upd_ne hc] at e; exact e
      generalize upd H a (.frz od (.dK kvs)) = H1 at ka ha1 hp1 off1 back ⊢
      have alH1 : Al IsT H1 l kvs := al.mono fun t v h => h.mono ka
      have undo : ∀ {H2 : Hp}, But p H1 H2 → But p H (upd H2 a (.dK kvs)) := fun b2 c o hc e => by
        by_cases z : c = a
        · rw [z] at e ⊢
          rw [ha] at e
          cases e
          exact upd_same
        · rw [upd_ne z]
          exact b2 c o hc (off1 c o z e)
      refine ⟨_, rfl, a, od, rfl, .inl ⟨kvs, ha1, ?_⟩⟩
      refine ⟨fun i m σ Hc => m = kvs.length - i ∧ i ≤ kvs.length ∧ ∃ (ys : List V) (t4 : Option V), σ = [some (.ref p), some (.ref pf), some (.ref a), some (.int d), t4, none, none] ∧ But p H1 Hc ∧ Hc p = some (.lst ys) ∧ StL (n + (oD d - 4) + (4 - i)) ys, ⟨_, rfl, Nat.zero_le _, xs, _, rfl, fun _ _ _ e => e, hp1, hx.mono (by cases d with | zero => (show n + (4 - 4) + 4 ≤ n + 4; omega) | succ d => (show n + (4 + 2 * oD d - 4) + 4 ≤ n + (4 + 2 * oD d); omega))⟩, ?_⟩
      rintro i m σ Hc ⟨rfl, hi, ys, t4, rfl, bc, hpc, hyc⟩
      have hac : Hc a = some (.frz od (.dK kvs)) := bc _ _ (Ne.symm npa) ha1
      by_cases hlt : i < kvs.length
      · refine .inr ⟨⟨hac, hlt⟩, fun σ' H' => ∃ (ys : List V) (t4 : Option V), σ' = [some (.ref p), some (.ref pf), some (.ref a), some (.int d), t4, none, none] ∧ But p H1 H' ∧ H' p = some (.lst ys) ∧ StL (n + (oD d - 4) + (4 - (i + 1))) ys, fun σ' H' h => ⟨kvs.length - (i + 1), by omega, rfl, hlt, h⟩, ?_⟩
        rintro _ Hc ⟨rfl, kk, v0, hk, rfl⟩
        obtain ⟨x, u, hx', rfl, _⟩ := al.get hk
        refine gName_k ?_
        try dsimp only
        have kc : Kp 0 H1 Hc := bc.kp hp1
        have alc : Al IsT Hc l kvs := alH1.mono fun t v h => h.mono kc
        obtain ⟨v1, ev, r1⟩ := (alc.look (x := x)).1 u (look_get nd hx')
        obtain ⟨wu, du, wx⟩ := wl _ (List.mem_of_getElem? hx')
        have itc : IsT Hc t (.ref pf) := (it.mono ka).mono kc
        have hi4 : i < 4 := by omega
        have ey : n + (oD d - 4) + (4 - i) = n + (oD d - 4) + (4 - (i + 1)) + 1 := by omega
        rw [ey] at hyc
        refine ⟨_, rfl, _, rfl, a, v1, rfl, .inl ⟨kvs, .inr x, .inr ⟨od, hac⟩, rfl, ev.symm⟩, _, rfl, rd_eqT2 wu.fine du wf.fine dp r1 itc ⟨_, rfl, ?_⟩⟩
        by_cases hut : u = t
        · refine iteP (decide_eq_true hut) ?_
          refine rd_draw (m := 3) (by rfl) hpc hyc (by decide) (by decide) fun dw H3 y3 hdw b3 hp3 hy3 => ?_
          have B3 : But p H1 H3 := bc.trans b3
          have ha3 : H3 a = some (.frz od (.dK kvs)) := B3 _ _ (Ne.symm npa) ha1
          refine ⟨_, _, rfl, rfl, _, rfl, ite2 (fun _ => ?_) (fun _ => ?_)⟩
          · refine ⟨_, rfl, (by show 2 ≤ sizeLine; decide), fun q hq => ?_⟩
            have sq := Rd.Same.upd (o := .tup [.str "unknown", .str x]) hq
            have nqa : q ≠ a := fun z => by rw [z, ha3] at hq; cases hq
            refine ⟨sq _ _ ha3, k (unk x) _ y3 _ (undo (B3.trans (But.of_same sq))) ?_ (hy3.mono (by omega)) ⟨wx, ?_, fun y hy => ?_⟩ ?_⟩
            · rw [upd_ne npa]
              exact sq _ _ hp3
            · rw [fill_hm, hm_unk, look_get nd hx']
              exact hut
            · rw [← ocU_unk.mp hy]
              exact List.mem_map.mpr ⟨_, List.mem_of_getElem? hx', rfl⟩
            · refine ⟨q, rfl, ?_⟩
              rw [upd_ne nqa]
              exact upd_same
          · exact ⟨y3, _, rfl, B3, hp3, hy3⟩
        · refine iteN (by rw [decide_eq_false hut]; decide) (iteF ?_)
          exact ⟨ys, _, rfl, bc, hpc, hyc.mono (by omega)⟩
      · refine .inl ⟨⟨hac, by omega⟩, hac, ?_⟩
        refine hK _ _ ⟨ys, t4, rfl, undo bc, ?_, hyc.mono (by omega)⟩
        rw [upd_ne npa]
        exact hpc
    · rintro σ' H2 ⟨ys, t4, rfl, b2, hp2, hy2⟩
      have hpf2 := b2 _ _ npf hpf
      have k2 : Kp 0 H H2 := b2.kp hp
      have it2 : IsT H2 t (.ref pf) := it.mono k2
      have itself : ∀ {H3 : Hp}, Same H2 H3 → Q (.ref pf) H3 := fun s3 => k t _ ys _ (b2.trans (But.of_same s3)) (s3 _ _ hp2) (hy2.mono (by omega)) (Op.refl wf un) (it2.same s3)
      cases d with
      | zero =>
        refine ⟨_, rfl, rfl, _, rfl, iteP (by decide +kernel) (iteT ?_)⟩
        exact ⟨_, rfl, itself (Same.refl _)⟩
      | succ d =>
        refine ⟨_, rfl, rfl, _, rfl, iteN (by intro e; have := V.int.inj (of_decide_eq_true e); omega) ?_⟩
        refine ⟨_, rfl, pf, _, _, _, rfl, rfl, SqT.of hpf2, at_of (j := 0) rfl rfl, (by show 3 ≤ sizeLine; decide), fun q0 hq0 => ⟨_, q0, ["word", "name", "unknown"], rfl, rfl, SqT.of upd_same, _, rfl, ?_⟩⟩
        have s0 := Rd.Same.upd (o := .tup [.str "word", .str "name", .str "unknown"]) hq0
        generalize upd H2 q0 (.tup [.str "word", .str "name", .str "unknown"]) = H3 at s0 ⊢
        by_cases hpt : t.parts ≠ []
        · obtain ⟨hsg, hws⟩ := wf.sign hpt
          have h5 : ¬ decide (t.head ∈ (["word", "name", "unknown"] : List Str)) = true := by
            have : ∀ z ∈ (["mark", "open", "own", "pair", "seal", "lock"] : List Str), ¬ decide (z ∈ (["word", "name", "unknown"] : List Str)) = true := by decide +kernel
            exact this _ hsg
          refine iteN h5 (nxt ?_)
          try dsimp only
          obtain ⟨pf', us', e', hpf', hlu, hl2, hne, hus⟩ := it2.parts hpt
          cases e'
          rw [hpf2] at hpf'
          cases hpf'
          have hpf3 := s0 _ _ hpf2
          refine ⟨_, rfl, _, rfl, pf, _, rfl, SqT.of hpf3, ?_, fun p2 hp2n => ?_⟩
          · rintro ⟨z, _⟩
            rw [show (1 : Int) = ((1 : Nat) : Int) from rfl, HT.sIx_nat, List.length_cons] at z
            omega
          rw [cut1]
          have s4 := s0.trans (Rd.Same.upd (o := .tup us) hp2n)
          have h42 : upd H3 p2 (.tup us) p2 = some (.tup us) := upd_same
          generalize upd H3 p2 (.tup us) = H4 at s4 h42 ⊢
          have hp4 := s4 _ _ hp2
          have n2p : p2 ≠ p := fun z => by rw [z, hp4] at h42; cases h42
          have k4 : Kp 0 H H4 := k2.trans (Kp.of_same s4)
          have b4 : But p H H4 := b2.trans (But.of_same s4)
          refine ⟨p2, rfl, ⟨_, SqT.of h42⟩, fun D hD => ?_⟩
          have nDp : D ≠ p := fun z => by rw [z, hp4] at hD; cases hD
          have eo : oD (d + 1) - 4 = 2 * oD d := by show 4 + 2 * oD d - 4 = _; omega
          rw [eo] at hy2
          refine lc_tup (K := K) (a := p2) (xs := us) (fun i Hd => ∃ (vs : List V) (ts : List Tr) (ys : List V), But p H4 Hd ∧ Hd D = some (.lst vs) ∧ ts.length = i ∧ TsAt Hd ts vs ∧ (∀ (j : Nat) r', ts[j]? = some r' → ∃ r, t.parts[j]? = some r ∧ Op l r r') ∧ Hd p = some (.lst ys) ∧ StL (n + (2 - i) * oD d) ys) ⟨[], [], ys, But.new hD, upd_same, rfl, ⟨rfl, fun i t v h => by simp at h⟩, (fun j r' h => by simp at h), by rw [upd_ne (Ne.symm nDp)]; exact hp4, hy2⟩ (fun i Hd _ ⟨_, _, _, bd, _⟩ => SqT.of (bd _ _ n2p h42)) ?_ ?_
          · rintro i x Hd hxi ⟨vs, ts, yd, bd, hDd, hti, hts, hop, hpd, hyd⟩
            have hlt := (List.getElem?_eq_some_iff.mp hxi).1
            obtain ⟨r, hr1, ir⟩ := hus i x hxi
            obtain ⟨w1, w2⟩ := hws r (List.mem_of_getElem? hr1)
            have ur := unk_partsY un (List.mem_of_getElem? hr1)
            have kd : Kp 0 H4 Hd := bd.kp hp4
            have em : (2 - i) * oD d = (2 - (i + 1)) * oD d + oD d := by
              rw [show 2 - i = (2 - (i + 1)) + 1 by omega, Nat.add_mul, Nat.one_mul]
            refine gName_k ⟨rfl, ?_⟩
            unfold tYes
            refine iteT ⟨_, rfl, _, rfl, _, rfl, _, rfl, _, _, rfl, rfl, ?_⟩
            have ha4 : H4 a = some (.dK kvs) := b4 _ _ (Ne.symm npa) ha
            refine ⟨p, a, yd, x, r, kvs, l, n + (2 - (i + 1)) * oD d, (by show [V.ref p, x, V.ref a, V.int (((d + 1 : Nat) : Int) - 1)] = _; rw [show ((d + 1 : Nat) : Int) - 1 = (d : Int) by omega]), hpd, hyd.mono (by omega), (ir.same s4).mono kd, w1, ur, (by omega), bd _ _ (Ne.symm npa) ha4, al.mono (fun t v h => (h.mono k4).mono kd), nd, hl4, wl, fun t' u y5 H5 b5 hp5 hy5 op5 it5 => ?_⟩
            have hvl := hts.len
            have hD5 := b5 _ _ nDp hDd
            have kp := Kp.upd_lst (C := 0) (ys := vs ++ [u]) hD5
            refine ⟨vs, hD5, by omega, vs ++ [u], ts ++ [t'], y5, fun c o hc e => ?_, upd_same, by rw [List.length_append, hti]; rfl, ((hts.mono (C := 0) (b5.kp hpd)).mono kp).app (TsAt.one (it5.mono kp)), fun j r' hj => ?_, ?_, hy5⟩
            · rw [upd_ne (ne_of_none e hD)]
              exact b5 c o hc (bd c o hc e)
            · by_cases hji : j < ts.length
              · rw [List.getElem?_append_left hji] at hj
                exact hop j r' hj
              · rw [List.getElem?_append_right (by omega)] at hj
                have : j - ts.length = 0 := by
                  have := (List.getElem?_eq_some_iff.mp hj).1
                  simpa using this
                rw [this] at hj
                cases hj
                rw [show j = i by omega]
                exact ⟨r, hr1, op5⟩
            · rw [upd_ne (Ne.symm nDp)]
              exact hp5
          · rintro Hd ⟨vs, ts, yd, bd, hDd, hti, hts, hop, hpd, hyd⟩
            refine gName_k ?_
            try dsimp only
            have Bd : But p H Hd := b4.trans bd
            have hpfd := Bd _ _ npf hpf
            have kd : Kp 0 H4 Hd := bd.kp hp4
            have usd : ∀ (i : Nat) u, us[i]? = some u → ∃ r, t.parts[i]? = some r ∧ IsT Hd r u := fun i u e => by
              obtain ⟨r, a1, a2⟩ := hus i u e
              exact ⟨r, a1, (a2.same s4).mono kd⟩
            have nfD : pf ≠ D := fun z => by rw [z] at hpf2; rw [s4 _ _ hpf2] at hD; cases hD
            refine seqJoin (fun σ' H' => ∃ (vs : List V) (ts : List Tr) (t6 : Option V), σ' = [some (.ref p), some (.ref pf), some (.ref a), some (.int ((d + 1 : Nat) : Int)), t4, some (.ref D), t6] ∧ But p H H' ∧ H' D = some (.lst vs) ∧ ts.length = us.length ∧ TsAt H' ts vs ∧ (∀ (j : Nat) r', ts[j]? = some r' → ∃ r, t.parts[j]? = some r ∧ Op l r r') ∧ H' p = some (.lst yd) ∧ (t.head = "lock" → ∃ s b, ts[1]? = some (Tr.un s b))) (fun KK hK => ?_) ?_
            · refine ⟨_, rfl, pf, _, _, _, rfl, rfl, SqT.of hpfd, at_of (j := 0) rfl rfl, rfl, _, rfl, ?_⟩
              by_cases hlk : t.head = "lock"
              · refine iteP (by rw [hlk]; decide +kernel) ?_
                obtain ⟨a0, s0', b0, rfl⟩ : ∃ a0 s0' b0, t = .bi "lock" a0 (.un s0' b0) := by
                  cases wf with
                  | am ko => exact absurd rfl hpt
                  | un hs _ =>
                    have : ∀ z ∈ (["mark", "open", "own"] : List Str), z ≠ "lock" := by decide +kernel
                    exact absurd hlk (this _ hs)
                  | bi hs _ _ =>
                    have : ∀ z ∈ (["pair", "seal"] : List Str), z ≠ "lock" := by decide +kernel
                    exact absurd hlk (this _ hs)
                  | lk _ _ _ => exact ⟨_, _, _, rfl⟩
                have hvl := hts.len
                match us, hlu, ts, vs, hti, hvl with
                | [u1, u2], _, [r1, r2], [v1, v2], _, _ =>
                  have i2 := hts.get 1 r2 v2 rfl rfl
                  obtain ⟨r, er, o2⟩ := hop 1 r2 rfl
                  cases (show some (Tr.un s0' b0) = some r from er)
                  obtain ⟨pv2, w2, rfl, hpv2⟩ := i2.hd
                  refine ⟨_, rfl, D, _, _, _, rfl, rfl, SqL.of hDd, at_of (j := 1) rfl rfl, pv2, _, _, _, rfl, rfl, SqT.of hpv2, at_of (j := 0) rfl rfl, rfl, _, rfl, ?_⟩
                  have eU := isU_head o2.wf
                  cases hU : isU r2 with
                  | some x =>
                    have e3 : r2.head = "unknown" := of_decide_eq_true (by rw [← eU, hU]; rfl)
                    refine iteP (by rw [e3]; decide +kernel) ?_
                    refine ⟨_, rfl, pf, _, _, _, rfl, rfl, SqT.of hpfd, at_of (j := 2) rfl rfl, ?_⟩
                    refine ⟨_, rfl, D, _, 1, 1, rfl, rfl, hDd, (by show ixN 2 1 = some 1; decide +kernel), ?_⟩
                    have kp := Kp.upd_lst (C := 0) (ys := ([v1, .ref pv2] : List V).set 1 u2) hDd
                    obtain ⟨r0, er0, iu2⟩ := usd 1 u2 rfl
                    cases (show some (Tr.un s0' b0) = some r0 from er0)
                    obtain ⟨w1, w2⟩ := hws _ (List.mem_of_getElem? er0)
                    refine hK _ _ ⟨_, [r1, .un s0' b0], _, rfl, fun c o hc e => ?_, upd_same, rfl, ⟨rfl, fun j t v e1 e2 => ?_⟩, fun j r' hj => ?_, ?_, fun _ => ⟨_, _, rfl⟩⟩
                    · rw [upd_ne (fun z => by rw [z] at e; rw [b4 _ _ (by rw [← z]; exact hc) e] at hD; cases hD)]
                      exact Bd c o hc e
                    · match j, e1, e2 with
                      | 0, e1, e2 =>
                        cases e1
                        cases e2
                        exact (hts.get 0 _ _ rfl rfl).mono kp
                      | 1, e1, e2 =>
                        cases e1
                        cases e2
                        exact iu2.mono kp
                      | j + 2, e1, _ => simp at e1
                    · match j, hj with
                      | 0, hj => cases hj; exact hop 0 _ rfl
                      | 1, hj => cases hj; exact ⟨_, rfl, Op.refl w1 (unk_partsY un (List.mem_of_getElem? er0))⟩
                      | j + 2, hj => simp at hj
                    · rw [upd_ne (Ne.symm nDp)]
                      exact hpd
                  | none =>
                    have e3 : ¬ r2.head = "unknown" := of_decide_eq_false (by rw [← eU, hU]; rfl)
                    refine iteN (by intro e; exact e3 (V.str.inj (of_decide_eq_true e))) ?_
                    refine hK _ _ ⟨_, _, _, rfl, Bd, hDd, rfl, hts, hop, hpd, fun _ => ?_⟩
                    have ef := o2.fl
                    cases r2 with
                    | am k' x' =>
                      have hU : (if k' = "unknown" then some x' else none) = none := hU
                      by_cases e : k' = "unknown"
                      · rw [if_pos e] at hU; cases hU
                      · rw [fill, if_neg e] at ef; cases ef
                    | un s' b' => exact ⟨s', b', rfl⟩
                    | bi s' c' d' => cases ef
              · refine iteN (by intro e; exact hlk (V.str.inj (of_decide_eq_true e))) (iteF ?_)
                exact hK _ _ ⟨vs, ts, _, rfl, Bd, hDd, hti, hts, hop, hpd, fun e => absurd e hlk⟩
            rintro σ' H5 ⟨vs5, ts5, t6, rfl, B5, hD5, hl5, hts5, hop5, hp5, hlk5⟩
            have hpf5 := B5 _ _ npf hpf
            refine ⟨_, rfl, pf, _, _, _, rfl, rfl, SqT.of hpf5, at_of (j := 0) rfl rfl, (by show 1 ≤ sizeLine; decide), fun q hq => ?_⟩
            have sq := Rd.Same.upd (o := .tup [.str t.head]) hq
            have hq1 : upd H5 q (.tup [.str t.head]) q = some (.tup [.str t.head]) := upd_same
            generalize upd H5 q (.tup [.str t.head]) = Hq at sq hq1 ⊢
            refine ⟨_, rfl, D, vs5, rfl, .inl ⟨SqL.of (sq _ _ hD5), fun l' hl' => ?_⟩⟩
            have sl := Rd.Same.upd (o := .tup vs5) hl'
            have hv5 := hts5.len
            refine ⟨q, l', [.str t.head], vs5, rfl, rfl, SqT.of (sl _ _ hq1), SqT.of upd_same, (fun e => by cases e), (by show 1 + vs5.length ≤ sizeLine; omega), fun e => ?_, fun _ p9 hp9 => ?_⟩
            · subst e
              exact absurd (List.length_eq_zero_iff.mp (by rw [← hl5, ← hv5]; rfl)) hne
            have s9 := Rd.Same.upd (o := .tup ([.str t.head] ++ vs5)) hp9
            have S9 := (sq.trans sl).trans s9
            obtain ⟨t', o', i'⟩ := op_of (l := l) wf hpt (show upd (upd Hq l' (.tup vs5)) p9 (.tup ([.str t.head] ++ vs5)) p9 = some (.tup (.str t.head :: vs5)) from upd_same) (hts5.same S9) (by rw [hl5, hlu]) hop5 hlk5
            refine k t' _ yd _ (B5.trans (But.of_same S9)) (S9 _ _ hp5) (hyd.mono (by omega)) o' i'
        · cases wf with
          | @am k0 x0 ko =>
            refine iteP ?_ ⟨_, rfl, itself s0⟩
            · rcases ko with ⟨rfl, _⟩ | ⟨rfl, _⟩ | ⟨rfl, _⟩
              · show decide (("word" : Str) ∈ (["word", "name", "unknown"] : List Str)) = true
                decide +kernel
              · show decide (("name" : Str) ∈ (["word", "name", "unknown"] : List Str)) = true
                decide +kernel
              · exact absurd (un rfl) (by simp)
          | _ => exact absurd (fun e => by cases e) hpt
theorem opu_none (T : Tx w K mg) : Fk P w K mg base CX0 7 "_law_opened_up" ["_law_stream_here", "_law_form_here", "_law_forms", "_law_deep"] (spOR 0) := by
  refine T.F__law_opened_up.ok0 sc__law_opened_up (fun _ _ _ _ _ _ us hl => match us, hl with | [_, _, _, _], _ => rfl) (fun vs H Q E h => h.elim) (fun cdv A outer s H vs Q E hr h => h.elim)
theorem ok__law_opened_up (T : Tx w K mg) : ∀ d : Nat, Fk P w K mg base CX0 (d + 8) "_law_opened_up" ["_law_stream_here", "_law_form_here", "_law_forms", "_law_deep"] (sp_opu d)
  | 0 => opu_step T 0 (opu_none T)
  | d + 1 => opu_step T (d + 1) (ok__law_opened_up T d)
end
end Rd
namespace Rd
open PySem L2
theorem sz_le : ∀ t : Tr, sz t + 1 ≤ 2 ^ (t.dep + 1)
  | .am _ _ => Nat.le_refl _
  | .un s a => by
    have := sz_le a
    show sz a + 1 + 1 ≤ 2 ^ (a.dep + 1 + 1)
    rw [Nat.pow_succ]
    have := Nat.one_le_two_pow (n := a.dep + 1)
    omega
  | .bi s a b => by
    have h1 := sz_le a
    have h2 := sz_le b
    show sz a + sz b + 1 + 1 ≤ 2 ^ (max a.dep b.dep + 1 + 1)
    have g1 : 2 ^ (a.dep + 1) ≤ 2 ^ (max a.dep b.dep + 1) := Nat.pow_le_pow_right (by decide) (by omega)
    have g2 : 2 ^ (b.dep + 1) ≤ 2 ^ (max a.dep b.dep + 1) := Nat.pow_le_pow_right (by decide) (by omega)
    rw [Nat.pow_succ]
    omega
theorem fill_wfZ {m : Str → Option Tr} {d : Nat} (hm : ∀ x t, m x = some t → Wf t ∧ t.dep ≤ d) {t : Tr} (h : Wf t) : Wf (fill m t) ∧ (fill m t).dep ≤ t.dep + d := by
  induction h with
  | @am k x ko =>
    show Wf (if k = "unknown" then _ else _) ∧ (if k = "unknown" then _ else _ : Tr).dep ≤ _
    split
    · cases e : m x with
      | none => exact ⟨.am ko, Nat.zero_le _⟩
      | some t =>
        obtain ⟨a, b⟩ := hm x t e
        exact ⟨a, by show t.dep ≤ 0 + d; omega⟩
    · exact ⟨.am ko, Nat.zero_le _⟩
  | @un s a hs _ ih => exact ⟨.un hs ih.1, by show (fill m a).dep + 1 ≤ a.dep + 1 + d; have := ih.2; omega⟩
  | @bi s a b hs _ _ ih1 ih2 => exact ⟨.bi hs ih1.1 ih2.1, by show max (fill m a).dep (fill m b).dep + 1 ≤ max a.dep b.dep + 1 + d; have := ih1.2; have := ih2.2; omega⟩
  | @lk s a b hs _ _ ih1 ih2 => exact ⟨.lk hs ih1.1 ih2.1, by show max (fill m a).dep ((fill m b).dep + 1) + 1 ≤ max a.dep (b.dep + 1) + 1 + d; have := ih1.2; have := ih2.2; omega⟩
theorem fill_plainZ {l : List (Str × Tr)} (hl : l.map (·.1) = NV) (hp : ∀ z ∈ l, z.2.unkIn []) : ∀ {t : Tr}, t.unkIn (NV.map V.str) → (fill (look l) t).unkIn []
  | .am k x, h => by
    unfold fill
    split
    · rename_i e
      have hx := h e
      have hx : x ∈ NV := by
        obtain ⟨y, hy, ey⟩ := List.mem_map.mp hx
        cases ey
        exact hy
      rw [← hl] at hx
      obtain ⟨⟨y, u⟩, hy, ey⟩ := List.mem_map.mp hx
      have ey : y = x := ey
      subst ey
      obtain ⟨i, hi⟩ := List.getElem?_of_mem hy
      rw [look_get (by rw [hl]; decide +kernel) hi]
      exact hp _ hy
    · rename_i e
      exact fun z => absurd z e
  | .un s a, h => by
    rw [fill]
    exact fill_plainZ hl hp (t := a) h
  | .bi s a b, h => by
    rw [fill]
    exact ⟨fill_plainZ hl hp (t := a) h.1, fill_plainZ hl hp (t := b) h.2⟩
/-- a drawn filling -/
structure PlF (l : Sb) : Prop where
  ks : l.map (·.1) = NV
  ok : ∀ z ∈ l, Wf z.2 ∧ dpN 2 [] z.2
theorem PlF.nd {l : Sb} (h : PlF l) : (l.map (·.1)).Nodup := by rw [h.ks]; decide +kernel
theorem PlF.len {l : Sb} (h : PlF l) : l.length = 4 := by
  have := congrArg List.length h.ks
  rw [List.length_map] at this
  exact this
theorem PlF.wl {l : Sb} (h : PlF l) : ∀ z ∈ l, Wf z.2 ∧ z.2.dep ≤ 60 ∧ Wf (unk z.1) := fun z hz => by
  obtain ⟨a, b, _⟩ := h.ok z hz
  refine ⟨a, by omega, ?_⟩
  have hn : z.1 ∈ NV := by rw [← h.ks]; exact List.mem_map.mpr ⟨z, hz, rfl⟩
  have : ∀ y ∈ NV, isUnk y = true := by decide +kernel
  exact .am (.inr (.inr ⟨rfl, this _ hn⟩))
/-- two forms opened up from one -/
structure Pln (l : Sb) (w : Tr × Tr) (t : Tr) : Prop where
  o1 : Op l t w.1
  o2 : Op l t w.2
  dp : t.dep ≤ 10
  pl : t.unkIn []
def dP : Nat := dr 3 + 2 * oD 3
def sp_planted : Sp := fun vs H Q _ => ∃ (p a : Addr) (xs : List V) (kvs : List (Key × V)) (l : Sb) (n : Nat), vs = [.ref p, .ref a] ∧ H p = some (.lst xs) ∧ StL (n + (1 + 3 * dP)) xs ∧ H a = some (.dK kvs) ∧ Al IsT H l kvs ∧ PlF l ∧
  ∀ q ws (W : List (Tr × Tr)) ys H', But p H H' → H q = none → H' q = some (.lst ws) → PsAt H' W ws → H' p = some (.lst ys) → StL n ys → W.length ≤ 3 → (∀ w ∈ W, ∃ t, Pln l w t) → Q (.ref q) H'
section
variable {P : Program} {w : World} {K : PySem.W.Frag} {mg : Str → Option Value} {base : Heap}
abbrev s__law_planted : Stmt := top 44
theorem sc__law_planted : FnScope ["_law_stream_here", "_law_forms", "_law_found", "_law_k", "_law_base"] ["_law_stream_here", "_law_forms"] (defScope s__law_planted) := ⟨rfl, rfl, rfl, by decide +kernel, rfl, by decide +kernel, by decide +kernel⟩
theorem ok__law_planted (T : Tx w K mg) : Fk P w K mg base CX0 12 "_law_planted" ["_law_stream_here", "_law_forms"] sp_planted := by
  refine T.F__law_planted.ok0 sc__law_planted (fun _ _ _ _ _ _ us hl => match us, hl with | [_, _], _ => rfl)
    (fun vs H Q E h => ?_) (fun cdv A outer s H vs Q E hr h => ?_)
  · obtain ⟨p, a, xs, kvs, l, n, rfl, _⟩ := h
    rfl
  · obtain ⟨p, a, xs, kvs, l, n, rfl, hp, hx, ha, al, pf, k⟩ := h
    refine ⟨_, (pss_cons (ps_set (i := 2) sc__law_planted.nd rfl (Or.inl rfl) (pe_lst pa_nil))
  (pss_cons (ps_for PassesOwn.never rfl (pi_range1 rfl T.z_range (pa_cons (pe_op op_add pe_int (pe_fk (ok__law_draw T) (hr.mono (by omega)) rfl pass0 (pa_cons (pv 0) (pa_cons pe_int pa_nil)))) pa_nil)) (pg_name (i := 3) sc__law_planted.nd rfl (Or.inl rfl))
  (pss_cons (ps_set (i := 4) sc__law_planted.nd rfl (Or.inl rfl) (pe_fk (ok__law_filled T 6) (hr.mono (by omega)) rfl pass0 (pa_cons (pe_fk (ok__law_form T 3) (hr.mono (by omega)) rfl pass0 (pa_cons (pv 0) (pa_cons (pe_callTy (call_listD rfl) (by rfl) T.z_list (by decide +kernel) (pa_cons (pv 1) pa_nil)) (pa_cons pe_int pa_nil)))) (pa_cons (pv 1) pa_nil))))
  (pss_one (ps_expr (pe_bm PySem.F.plainAttrs_list PySem.F.slot_list_append PySem.F.type_list_append mt_append (pv 2) (pa_cons (pe_tup (pa_cons (pe_fk (ok__law_opened_up T 3) (hr.mono (by omega)) rfl pass0 (pa_cons (pv 0) (pa_cons (pv 4) (pa_cons (pv 1) (pa_cons pe_int pa_nil))))) (pa_cons (pe_fk (ok__law_opened_up T 3) (hr.mono (by omega)) rfl pass0 (pa_cons (pv 0) (pa_cons (pv 4) (pa_cons (pv 1) (pa_cons pe_int pa_nil))))) pa_nil))) pa_nil))))))
  (pss_one (ps_ret (pv 2))))), ?_⟩
    have big : 16777216 ≤ sizeLine := by decide
    have npa : p ≠ a := fun z => by rw [z, ha] at hp; cases hp
    have hlen := al.len
    have hl4 := pf.len
    refine seqAsg ⟨Nat.zero_le _, fun q hq => ?_⟩
    refine gName_k ?_
    try dsimp only
    have nqp : q ≠ p := fun z => by rw [z, hp] at hq; cases hq
    have nqa : q ≠ a := fun z => by rw [z, ha] at hq; cases hq
    have sq := Rd.Same.upd (o := .lst []) hq
    have hq1 : upd H q (.lst []) q = some (.lst []) := upd_same
    generalize upd H q (.lst []) = H1 at sq hq1 ⊢
    rw [show n + (1 + 3 * dP) = n + 3 * dP + 1 by omega] at hx
    refine rd_draw (m := 3) (by rfl) (sq _ _ hp) hx (by decide) (by decide) fun dw H2 y2 hdw b2 hp2 hy2 => ?_
    refine ⟨_, _, rfl, rfl, ?_⟩
    have B2 : But p H H2 := (But.of_same sq).trans b2
    have hq2 := b2 _ _ nqp hq1
    have e1 : ((1 : Int) + (dw : Int)) = ((dw + 1 : Nat) : Int) := by omega
    refine ⟨((dw + 1 : Nat) : Int), (by show [V.int (1 + (dw : Int))] = _; rw [e1]), by omega, by omega, for_range (n := dw + 1) (fun i σ Hc => ∃ (ws : List V) (W : List (Tr × Tr)) (ys : List V) (t3 t4 : Option V), σ = [some (.ref p), some (.ref a), some (.ref q), t3, t4] ∧ But p H Hc ∧ Hc q = some (.lst ws) ∧ PsAt Hc W ws ∧ W.length = i ∧ (∀ w ∈ W, ∃ t, Pln l w t) ∧ Hc p = some (.lst ys) ∧ StL (n + (3 - i) * dP) ys) ⟨[], [], y2, _, _, rfl, B2, hq2, PsAt.nil, rfl, (fun w hw => nomatch hw), hp2, hy2⟩ ?_ ?_⟩
    · rintro i σ Hc hi ⟨ws, W, ys, t3, t4, rfl, bc, hqc, hpw, hwl, hpl, hpc, hyc⟩
      refine gName_k ?_
      try dsimp only
      have hac := bc _ _ (Ne.symm npa) ha
      have kc : Kp 0 H Hc := bc.kp hp
      have alc : Al IsT Hc l kvs := al.mono fun t v h => h.mono kc
      have em : n + (3 - i) * dP = (n + (3 - (i + 1)) * dP + 2 * oD 3) + dr 3 := by
        rw [show 3 - i = (3 - (i + 1)) + 1 by omega, Nat.add_mul, Nat.one_mul]
        unfold dP
        omega
      rw [em] at hyc
      have eus : (kvs.map fun kv => kV kv.1) = NV.map V.str := by
        have := al.keys
        rw [← pf.ks, List.map_map]
        have e2 : (kvs.map fun kv => kV kv.1) = (kvs.map (·.1)).map kV := by rw [List.map_map]; rfl
        rw [e2, this, List.map_map]
        rfl
      refine seqAsg ⟨_, rfl, _, rfl, a, kvs, rfl, .inl hac, fun ql hql => ?_⟩
      rw [eus]
      have rdf := fun {Q : VK} k => rd_form (d := 3) (Q := Q) (us := NV.map V.str) hpc hyc (unkOk (l := NV) (by decide +kernel) (by decide)) k
      refine (rdf fun f1 v1 y5 H5 b5 hp5 hy5 wf1 dp1 it1 => ?_).2 ql hql
      have B5 : But p H H5 := bc.trans b5
      have ha5 := B5 _ _ (Ne.symm npa) ha
      have al5 : Al IsT H5 l kvs := al.mono fun t v h => h.mono (C := 0) (B5.kp hp)
      refine ⟨_, rfl, v1, a, f1, look l, rfl, it1, wf1, dp1.1, Al.dtr ha5 al5, fun v6 H6 s6 it6 => ?_⟩
      refine gName_k ?_
      try dsimp only
      obtain ⟨wg, dg⟩ := fill_wfZ (m := look l) (d := 4) (fun x t e => ⟨(pf.ok _ (lookU_mem e)).1, (pf.ok _ (lookU_mem e)).2.1⟩) wf1
      have ug := fill_plainZ pf.ks (fun z hz => (pf.ok z hz).2.2.2) dp1.2.2
      have d6 : f1.dep ≤ 6 := dp1.1
      have B6 : But p H H6 := B5.trans (But.of_same s6)
      have hp6 := s6 _ _ hp5
      have hq6 : H6 q = some (.lst ws) := s6 _ _ (b5 _ _ nqp hqc)
      generalize fill (look l) f1 = g at wg dg ug it6
      refine ⟨_, rfl, .inl ⟨rfl, _, SqL.of hq6⟩, ?_⟩
      refine ⟨_, rfl, _, rfl, _, rfl, p, a, y5, v6, g, kvs, l, n + (3 - (i + 1)) * dP + oD 3, rfl, hp6, hy5.mono (by omega), it6, wg, ug, (by omega), B6 _ _ (Ne.symm npa) ha, al.mono (fun t v h => h.mono (C := 0) (B6.kp hp)), pf.nd, (by omega), pf.wl, fun t7 u7 y7 H7 b7 hp7 hy7 o7 it7 => ?_⟩
      have B7 : But p H H7 := B6.trans b7
      refine ⟨_, rfl, _, rfl, _, rfl, p, a, y7, v6, g, kvs, l, n + (3 - (i + 1)) * dP, rfl, hp7, hy7, it6.but b7 hp6, wg, ug, (by omega), B7 _ _ (Ne.symm npa) ha, al.mono (fun t v h => h.mono (C := 0) (B7.kp hp)), pf.nd, (by omega), pf.wl, fun t8 u8 y8 H8 b8 hp8 hy8 o8 it8 => ⟨(by show 2 ≤ sizeLine; decide), fun q9 hq9 => ?_⟩⟩
      have s9 := Rd.Same.upd (o := .tup [u7, u8]) hq9
      have b68 : But p H6 H8 := b7.trans b8
      have hq8 : H8 q = some (.lst ws) := b68 _ _ nqp hq6
      have hq9' := s9 _ _ hq8
      have kall : Kp 0 Hc H8 := (b5.kp hpc).trans ((Kp.of_same s6).trans (b68.kp hp6))
      have hwl2 := hpw.len
      refine ⟨q, ws, _, rfl, rfl, hq9', by omega, ?_⟩
      have kp := Kp.upd_lst (C := 0) (ys := ws ++ [.ref q9]) hq9'
      refine ⟨ws ++ [.ref q9], W ++ [(t7, t8)], y8, _, _, rfl, fun c o hc e => ?_, upd_same, (((hpw.mono kall).same s9).mono kp).app ⟨rfl, fun j pr v e1 e2 => ?_⟩, by rw [List.length_append, hwl]; rfl, fun w hw => ?_, ?_, hy8⟩
      · have hcq : c ≠ q := ne_of_none e hq
        rw [upd_ne hcq]
        exact s9 _ _ (b68 c o hc (B6 c o hc e))
      · cases j with
        | zero =>
          cases e1
          cases e2
          exact ⟨q9, u7, u8, rfl, kp _ _ rfl upd_same, (((it7.but b8 hp7).same s9).mono kp), ((it8.same s9).mono kp)⟩
        | succ j => simp at e1
      · rcases List.mem_append.mp hw with z | z
        · exact hpl w z
        · rw [List.mem_singleton.mp z]
          exact ⟨g, o7, o8, by omega, ug⟩
      · rw [upd_ne (Ne.symm nqp)]
        exact s9 _ _ hp8
    · rintro σ Hc ⟨ws, W, ys, t3, t4, rfl, bc, hqc, hpw, hwl, hpl, hpc, hyc⟩
      exact ⟨_, rfl, k q ws W ys Hc bc hq hqc hpw hpc (hyc.mono (by omega)) (by omega) hpl⟩
end
end Rd
namespace Rd
open PySem L2
theorem pop_perm {α : Type} {l : List α} {i : Nat} {x : α} (h : l[i]? = some x) : (x :: l.eraseIdx i).Perm l := by
  induction l generalizing i with
  | nil => simp at h
  | cons a l ih =>
    cases i with
    | zero =>
      cases h
      exact .refl _
    | succ i =>
      have h : l[i]? = some x := by simpa using h
      exact ((List.Perm.swap a x _).trans ((ih h).cons a))
theorem seqIx {j n : Nat} (h : j < n) : seqIndex? (j : Int) n = some j := by
  unfold seqIndex?
  have h1 : ¬ (j : Int) < 0 := by omega
  simp [h1]
  omega
def sp_mix : Sp := fun vs H Q _ => ∃ (p b : Addr) (xs zs : List V) (n : Nat), vs = [.ref p, .ref b] ∧ H p = some (.lst xs) ∧ StL (n + zs.length) xs ∧ b ≠ p ∧ H b = some (.lst zs) ∧ zs.length ≤ 100 ∧
  ∀ q ws ys H', But p H H' → H q = none → H' q = some (.lst ws) → ws.Perm zs → H' p = some (.lst ys) → StL n ys → Q (.ref q) H'
section
variable {P : Program} {w : World} {K : PySem.W.Frag} {mg : Str → Option Value} {base : Heap}
abbrev s__law_mix : Stmt := top 38
theorem sc__law_mix : FnScope ["_law_stream_here", "_law_things", "_law_left", "_law_k"] ["_law_stream_here", "_law_things"] (defScope s__law_mix) := ⟨rfl, rfl, rfl, by decide +kernel, rfl, by decide +kernel, by decide +kernel⟩
theorem ok__law_mix (T : Tx w K mg) : Fk P w K mg base CX0 6 "_law_mix" ["_law_stream_here", "_law_things"] sp_mix := by
  refine T.F__law_mix.ok0 sc__law_mix (fun _ _ _ _ _ _ us hl => match us, hl with | [_, _], _ => rfl)
    (fun vs H Q E h => ?_) (fun cdv A outer s H vs Q E hr h => ?_)
  · obtain ⟨p, b, xs, zs, n, rfl, _⟩ := h
    rfl
  · obtain ⟨p, b, xs, zs, n, rfl, hp, hx, nbp, hb, hz, k⟩ := h
    refine ⟨_, (pss_cons (ps_set (i := 2) sc__law_mix.nd rfl (Or.inr rfl) (pe_callTy call_list_of (by rfl) T.z_list (by decide +kernel) (pa_cons (pv 1) pa_nil)))
  (pss_one (ps_ret (pe_lc (own := [("_law_k", 3)]) (g := gName 3) (tt := tYes) (by rfl) sc__law_mix.nd (pi_range1 rfl T.z_range (pa_cons (pe_callB call_len_seq (by rfl) T.z_len (by decide +kernel) (pa_cons (pv 1) pa_nil)) pa_nil)) (blkOk_by (own := [("_law_k", 3)]) (N := ["_law_stream_here", "_law_things", "_law_left", "_law_k"]) (sc := defScope s__law_mix) (by decide +kernel)) (fun _ _ _ _ _ => (pg_name (i := 3) sc__law_mix.nd rfl (Or.inl rfl))) (fun _ _ _ _ _ => pts_nil) (fun _ _ _ _ _ => (pe_bmk (K := K) rfl PySem.F.plainAttrs_list PySem.F.slot_list_pop PySem.F.type_list_pop mt_popAt (pv 2) (pa_cons (pe_fk (ok__law_draw T) (hr.mono (by omega)) rfl pass0 (pa_cons (pv 0) (pa_cons (pe_callB (call_lenk (K := K) rfl) (by rfl) T.z_len (by decide +kernel) (pa_cons (pv 2) pa_nil)) pa_nil))) pa_nil))))))), ?_⟩
    have big : 16777216 ≤ sizeLine := by decide
    refine seqAsg ⟨_, rfl, b, zs, rfl, .inl (SqL.of hb), fun q hq => ?_⟩
    refine gName_k ?_
    try dsimp only
    have nqp : q ≠ p := fun z => by rw [z, hp] at hq; cases hq
    have nqb : q ≠ b := fun z => by rw [z, hb] at hq; cases hq
    have sq := Rd.Same.upd (o := .lst zs) hq
    have hq1 : upd H q (.lst zs) q = some (.lst zs) := upd_same
    generalize upd H q (.lst zs) = H1 at sq hq1 ⊢
    have hp1 := sq _ _ hp
    refine ⟨_, rfl, b, zs, rfl, .inl (SqL.of (sq _ _ hb)), zs.length, rfl, by omega, by omega, fun D hD => ?_⟩
    have nDp : D ≠ p := fun z => by rw [z, hp1] at hD; cases hD
    have nDq : D ≠ q := fun z => by rw [z, hq1] at hD; cases hD
    refine lc_range (n := zs.length) (fun i Hd => ∃ (acc rest ys : List V), (∀ c o, c ≠ p → c ≠ q → H1 c = some o → Hd c = some o) ∧ Hd D = some (.lst acc) ∧ Hd q = some (.lst rest) ∧ acc.length = i ∧ (acc ++ rest).Perm zs ∧ Hd p = some (.lst ys) ∧ StL (n + (zs.length - i)) ys) ⟨[], zs, xs, (fun c o _ _ e => by rw [upd_ne (ne_of_none e hD)]; exact e), upd_same, by rw [upd_ne (Ne.symm nDq)]; exact hq1, rfl, .refl _, by rw [upd_ne (Ne.symm nDp)]; exact hp1, hx⟩ ?_ ?_
    · rintro i Hd hi ⟨acc, rest, ys, off, hDd, hqd, hal, hpm, hpd, hyd⟩
      have hlr := hpm.length_eq
      rw [List.length_append] at hlr
      rw [show n + (zs.length - i) = n + (zs.length - (i + 1)) + 1 by omega] at hyd
      refine gName_k ⟨rfl, ?_⟩
      unfold tYes
      refine iteT ⟨_, rfl, .inl ⟨rfl, _, SqL.of hqd⟩, _, rfl, _, rfl, q, rest, rfl, .inl (SqL.of hqd), p, ys, n + (zs.length - (i + 1)), _, rfl, hpd, hyd, (by omega), (by omega), fun d3 y3 h30 h31 hy3 => ?_⟩
      obtain ⟨j, rfl⟩ := Int.eq_ofNat_of_zero_le h30
      have hj : j < rest.length := by omega
      have hqe : upd Hd p (.lst y3) q = some (.lst rest) := by rw [upd_ne nqp]; exact hqd
      refine ⟨q, rest, (j : Int), j, rest[j], rfl, rfl, hqe, by omega, by omega, ?_, List.getElem?_eq_getElem hj, ?_⟩
      · exact seqIx hj
      · have hDe : upd (upd Hd p (.lst y3)) q (.lst (rest.eraseIdx j)) D = some (.lst acc) := by rw [upd_ne nDq, upd_ne nDp]; exact hDd
        refine ⟨acc, hDe, by omega, acc ++ [rest[j]], rest.eraseIdx j, y3, fun c o h1 h2 e => ?_, upd_same, ?_, by rw [List.length_append, hal]; rfl, ?_, ?_, hy3⟩
        · rw [upd_ne (ne_of_none e hD), upd_ne h2, upd_ne h1]
          exact off c o h1 h2 e
        · rw [upd_ne (Ne.symm nDq), upd_same]
        · rw [List.append_assoc]
          exact ((pop_perm (List.getElem?_eq_getElem hj)).append_left acc).trans hpm
        · rw [upd_ne (Ne.symm nDp), upd_ne (Ne.symm nqp), upd_same]
    · rintro Hd ⟨acc, rest, ys, off, hDd, hqd, hal, hpm, hpd, hyd⟩
      have hlr := hpm.length_eq
      rw [List.length_append] at hlr
      obtain rfl : rest = [] := List.eq_nil_of_length_eq_zero (by omega)
      rw [List.append_nil] at hpm
      refine k D acc ys Hd (fun c o hc e => off c o hc (ne_of_none e hq) (sq _ _ e)) (sq.free hD) hDd hpm hpd (hyd.mono (by omega))
def fOf (l : Sb) : Str → Tr := fun x => (look l x).getD (unk x)
def sp_first (K : PySem.W.Frag) : Sp := fun vs H Q _ => ∃ (q a nl : Addr) (kq kvs : List (Key × V)) (m l : Sb) (nm : List Str), vs = [.ref q, .ref a, .ref nl] ∧ H q = some (.dK kq) ∧ Al (IsLet K) H m kq ∧ H a = some (.dK kvs) ∧ Al IsT H l kvs ∧ H nl = some (.lst (nm.map V.str)) ∧ nm.length ≤ 4 ∧
  (∀ x ∈ nm, ∃ t, look l x = some t ∧ Wf t ∧ t.dep ≤ 60) ∧ (∀ x ∈ nm, Wf ((look m x).getD (unk x)) ∧ ((look m x).getD (unk x)).dep ≤ 10 ∧ hm (fOf l) ((look m x).getD (unk x)) = fOf l x) ∧ ∀ H', Same H H' → Q (.bl true) H'
theorem nod_le : ∀ t : Tr, t.nod + 1 ≤ 2 ^ (t.dep + 1)
  | .am _ _ => by show 0 + 1 ≤ 2; decide
  | .un s a => by
    have := nod_le a
    show a.nod + 1 + 1 ≤ 2 ^ (a.dep + 1 + 1)
    rw [Nat.pow_succ]
    have := Nat.one_le_two_pow (n := a.dep + 1)
    omega
  | .bi s a b => by
    have h1 := nod_le a
    have h2 := nod_le b
    show a.nod + b.nod + 1 + 1 ≤ 2 ^ (max a.dep b.dep + 1 + 1)
    have g1 : 2 ^ (a.dep + 1) ≤ 2 ^ (max a.dep b.dep + 1) := Nat.pow_le_pow_right (by decide) (by omega)
    have g2 : 2 ^ (b.dep + 1) ≤ 2 ^ (max a.dep b.dep + 1) := Nat.pow_le_pow_right (by decide) (by omega)
    rw [Nat.pow_succ]
    omega
abbrev s__law_is_first : Stmt := top 45
theorem sc__law_is_first : FnScope ["_law_found", "_law_forms", "_law_names", "_law_bound", "_law_name_here", "_law_pattern"] ["_law_found", "_law_forms", "_law_names"] (defScope s__law_is_first) := ⟨rfl, rfl, rfl, by decide +kernel, rfl, by decide +kernel, by decide +kernel⟩
theorem ok__law_is_first (T : Tx w K mg) : Fk P w K mg base CX0 14 "_law_is_first" ["_law_found", "_law_forms", "_law_names"] (sp_first K) := by
  refine T.F__law_is_first.ok0 sc__law_is_first (fun _ _ _ _ _ _ us hl => match us, hl with | [_, _, _], _ => rfl)
    (fun vs H Q E h => ?_) (fun cdv A outer s H vs Q E hr h => ?_)
  · obtain ⟨q, a, nl, kq, kvs, m, l, nm, rfl, _⟩ := h
    rfl
  · obtain ⟨q, a, nl, kq, kvs, m, l, nm, rfl, hq, alm, ha, all, hn, hn4, hf, hg, k⟩ := h
    refine ⟨_, (pss_cons (ps_set (i := 3) sc__law_is_first.nd rfl (Or.inl rfl) pe_dnewK)
  (pss_cons (ps_for PassesOwn.never rfl (pi_list (pv 2)) (pg_name (i := 4) sc__law_is_first.nd rfl (Or.inl rfl))
  (pss_cons (ps_set (i := 5) sc__law_is_first.nd rfl (Or.inl rfl) (pe_ifExp (pt_cmp (pc_din (hu_of hr) (pv 4) (pv 0))) (pe_fm0 (pe_dget (hu_of hr) (pv 0) (pv 4) (fun _ _ => rfl)) T.k_Letter (ok_form T) (hr.mono (by omega)) pass0) (pe_tup (pa_cons pe_str (pa_cons (pv 4) pa_nil)))))
  (pss_one (ps_if (pt_not (pt_val (pe_fk (ok__law_matched T 10 (by decide)) (hr.mono (by omega)) rfl pass0 (pa_cons (pv 5) (pa_cons (pe_dget (hu_of hr) (pv 1) (pv 4) (fun _ _ => rfl)) (pa_cons (pv 3) pa_nil))))))
  (pss_one (ps_ret pe_bl))
  pss_nil))))
  (pss_one (ps_ret pe_bl)))), ?_⟩
    have big : 16777216 ≤ sizeLine := by decide
    refine seqAsg fun B hB => ?_
    refine gName_k ?_
    try dsimp only
    have sB := Rd.Same.upd (o := .dK []) hB
    have hB1 : upd H B (.dK []) B = some (.dK []) := upd_same
    generalize upd H B (.dK []) = H1 at sB hB1 ⊢
    refine ⟨_, rfl, nl, rfl, ⟨_, SqL.of (sB _ _ hn)⟩, ?_⟩
    refine for_list (xs := nm.map V.str) (fun i σ Hc => ∃ (kb : List (Key × V)) (lb : Sb) (n : Nat) (t4 t5 : Option V), σ = [some (.ref q), some (.ref a), some (.ref nl), some (.ref B), t4, t5] ∧ Same H Hc ∧ Hc B = some (.dK kb) ∧ Al IsT Hc lb kb ∧ Bn n lb ∧ n ≤ i * 4096 ∧ ∀ z ∈ lb, z.2 = fOf l z.1) ⟨[], [], 0, _, _, rfl, sB, hB1, trivial, ⟨Nat.le_refl _, List.nodup_nil, fun p hp => nomatch hp⟩, Nat.zero_le _, fun p hp => nomatch hp⟩ ?_ ?_ ?_
    · rintro i σ Hc hi ⟨kb, lb, n, t4, t5, rfl, sc, _⟩
      exact SqL.of (sc _ _ hn)
    · rintro i x σ Hc hx ⟨kb, lb, n, t4, t5, rfl, sc, hBc, alb, bn, hnn, hlb⟩
      rw [List.getElem?_map] at hx
      obtain ⟨z, hz, rfl⟩ := Option.map_eq_some_iff.mp hx
      have hzm := List.mem_of_getElem? hz
      have hi4 : i < 4 := by have := (List.getElem?_eq_some_iff.mp hz).1; omega
      obtain ⟨t, ht, wt, dt⟩ := hf z hzm
      obtain ⟨wp, dpp, ep⟩ := hg z hzm
      have eft : fOf l z = t := by unfold fOf; rw [ht]; rfl
      rw [eft] at ep
      refine gName_k ?_
      try dsimp only
      have almc : Al (IsLet K) Hc m kq := alm.mono fun t v h => h.same sc
      refine seqJoin (fun σ' H' => ∃ (v : V), σ' = [some (.ref q), some (.ref a), some (.ref nl), some (.ref B), some (.str z), some v] ∧ Same Hc H' ∧ IsT H' ((look m z).getD (unk z)) v) (fun KK hK => ?_) ?_
      · refine ⟨_, rfl, _, rfl, q, valV kq (.inr z), rfl, .inl ⟨kq, .inr z, .inl (sc _ _ hq), rfl, rfl⟩, _, rfl, ?_⟩
        cases e : look m z with
        | none =>
          rw [(almc.look (x := z)).2 e]
          refine iteN (by decide) ?_
          refine ⟨_, rfl, (by show 2 ≤ sizeLine; decide), fun q5 hq5 => ?_⟩
          refine gName_k ?_
          exact hK _ _ ⟨.ref q5, rfl, Rd.Same.upd hq5, by rw [e]; exact ⟨q5, rfl, upd_same⟩⟩
        | some u =>
          obtain ⟨v, ev, x', u', rfl, il, iu⟩ := (almc.look (x := z)).1 u e
          rw [ev]
          refine iteP rfl ?_
          refine ⟨_, rfl, _, rfl, q, _, rfl, .inl ⟨kq, .inr z, .inl (sc _ _ hq), rfl, ev.symm⟩, ?_⟩
          obtain ⟨dx, hx'⟩ := il
          refine ⟨x', dx, _, rfl, hx', lookT (by decide +kernel), x', u', rfl, ⟨dx, hx'⟩, ?_⟩
          refine gName_k ?_
          exact hK _ _ ⟨u', rfl, Same.refl _, by rw [e]; exact iu⟩
      · rintro σ' H2 ⟨v, rfl, s2, iv⟩
        have S2 := sc.trans s2
        have al2 : Al IsT H2 l kvs := all.mono fun t v h => h.same S2
        obtain ⟨v2, ev2, iv2⟩ := (al2.look (x := z)).1 t ht
        have hB2 := s2 _ _ hBc
        have hnod := nod_le ((look m z).getD (unk z))
        have hpw : 2 ^ (((look m z).getD (unk z)).dep + 1) ≤ 2 ^ 11 := Nat.pow_le_pow_right (by decide) (by omega)
        refine ⟨_, rfl, _, rfl, _, rfl, a, _, rfl, .inl ⟨kvs, .inr z, .inl (S2 _ _ ha), rfl, ev2.symm⟩, _, rfl, v, v2, B, _, t, kb, lb, n, rfl, iv, iv2, wp, wt, dpp, dt, hB2, alb.mono (fun t v h => h.same s2), bn, (by omega), fun b l' kvs' H3 bt hB3 al3 bn3 mr => ⟨_, rfl, ?_⟩⟩
        obtain ⟨m1, m2⟩ := mr
        obtain ⟨g1, g2⟩ := mtl_sat (f := fOf l) ((look m z).getD (unk z)) t lb ep hlb
        rw [g1] at m1
        subst m1
        refine iteN (by decide) ?_
        refine ⟨kvs', l', _, _, _, rfl, fun c o e => bt c o (ne_of_none e hB) (S2 _ _ e), hB3, al3, bn3, ?_, ?_⟩
        · rw [Nat.add_mul]
          omega
        · rw [m2 rfl]
          exact g2
    · rintro σ Hc ⟨kb, lb, n, t4, t5, rfl, sc, _⟩
      exact k _ sc
end
end Rd
namespace Rd
open PySem L2
section
variable {P : Program} {w : World} {K : PySem.W.Frag} {mg : Str → Option Value} {base : Heap}
abbrev s__law_parts : Stmt := top 39
theorem sc__law_parts : FnScope ["_law_form_here", "_law_found", "_law_part"] ["_law_form_here"] (defScope s__law_parts) := ⟨rfl, rfl, rfl, by decide +kernel, rfl, by decide +kernel, by decide +kernel⟩
theorem parts_step (T : Tx w K mg) (d : Nat) (ih : Fk P w K mg base CX0 (d + 1) "_law_parts" ["_law_form_here"] (spPR d)) : Fk P w K mg base CX0 (d + 2) "_law_parts" ["_law_form_here"] (sp_parts d) := by
  refine T.F__law_parts.ok0 sc__law_parts (fun _ _ _ _ _ _ us hl => match us, hl with | [_], _ => rfl)
    (fun vs H Q E h => ?_) (fun cdv A outer s H vs Q E hr h => ?_)
  · obtain ⟨v, t, rfl, _⟩ := h
    rfl
  · obtain ⟨v, t, rfl, it, wf, dp, d12, k⟩ := h
    obtain ⟨pf, vs0, rfl, hpv⟩ := it.hd
    refine ⟨_, (pss_cons (ps_set (i := 1) sc__law_parts.nd rfl (Or.inl rfl) (pe_lst (pa_cons (pv 0) pa_nil)))
  (pss_cons (ps_if (pt_cmpR op_notInT (pe_ix ix_tup (pv 0) pe_int (fun _ _ => rfl)) (pe_tup (pa_cons pe_str (pa_cons pe_str (pa_cons pe_str pa_nil)))) (by rfl))
  (pss_one (ps_for PassesOwn.never rfl (pi_tup (pe_slice sl_tup (pv 0) (po_some pe_int) po_none)) (pg_name (i := 2) sc__law_parts.nd rfl (Or.inl rfl))
  (pss_one (ps_expr (pe_bm PySem.F.plainAttrs_list PySem.F.slot_list_extend PySem.F.type_list_extend mt_extend (pv 1) (pa_cons (pe_fk ih (hr.mono (by omega)) rfl pass0 (pa_cons (pv 2) pa_nil)) pa_nil))))))
  pss_nil)
  (pss_one (ps_ret (pv 1))))), ?_⟩
    refine ⟨_, rfl, (by show 1 ≤ sizeLine; decide), fun p np => ?_⟩
    refine gName_k ?_
    try dsimp only
    have sp := Rd.Same.upd (o := .lst [.ref pf]) np
    refine ⟨_, rfl, pf, _, _, _, rfl, rfl, SqT.of (sp _ _ hpv), at_of (j := 0) rfl rfl, (by show 3 ≤ sizeLine; decide), fun q hq => ?_⟩
    have sq := Rd.Same.upd (o := .tup [.str "word", .str "name", .str "unknown"]) hq
    refine ⟨_, q, ["word", "name", "unknown"], rfl, rfl, SqT.of upd_same, _, rfl, ?_⟩
    have s1 := sp.trans sq
    have hp1 : upd (upd H p (.lst [.ref pf])) q (.tup [.str "word", .str "name", .str "unknown"]) p = some (.lst [.ref pf]) := sq _ _ upd_same
    by_cases hpt : t.parts ≠ []
    · obtain ⟨hsg, hws⟩ := wf.sign hpt
      obtain ⟨p', us, e, hpu, hlu, hl2, hne, hus⟩ := it.parts hpt
      cases e
      have h3 : (!decide (t.head ∈ (["word", "name", "unknown"] : List Str))) = true := by
        have : ∀ z ∈ (["mark", "open", "own", "pair", "seal", "lock"] : List Str), (!decide (z ∈ (["word", "name", "unknown"] : List Str))) = true := by decide +kernel
        exact this _ hsg
      refine iteP h3 ?_
      refine ⟨_, rfl, _, rfl, pf, _, rfl, SqT.of (s1 _ _ hpu), ?_, fun p2 hp2 => ?_⟩
      · rintro ⟨z, _⟩
        rw [show (1 : Int) = ((1 : Nat) : Int) from rfl, HT.sIx_nat, List.length_cons] at z
        omega
      rw [cut1]
      have s2 := Rd.Same.upd (o := .tup us) hp2
      refine ⟨p2, rfl, ⟨_, SqT.of upd_same⟩, ?_⟩
      refine for_tup (xs := us) (fun i σ H' => PInv H p p2 us t i H' ∧ ∃ t2, σ = [some (.ref pf), some (.ref p), t2]) ⟨⟨s1.trans s2, np, upd_same, [.ref pf], s2 _ _ hp1, TsAt.one (it.same (s1.trans s2))⟩, _, rfl⟩ ?_ ?_ ?_
      · rintro i σ H' hi ⟨hI, _⟩
        exact SqT.of hI.tup
      · rintro i x σ H1 hx ⟨⟨sm, _, htu, ws, hws1, hts⟩, t2, rfl⟩
        refine gName_k ?_
        try dsimp only
        obtain ⟨r, hr1, hr2⟩ := hus i x hx
        obtain ⟨w1, w2⟩ := hws r (List.mem_of_getElem? hr1)
        cases d with
        | zero => exact absurd dp (by omega)
        | succ d =>
          refine ⟨_, rfl, .inl ⟨rfl, _, SqL.of hws1⟩, _, rfl, x, r, rfl, hr2.same sm, w1, (by omega), (by omega), fun b zs H2 sm2 nb hb htz => ?_⟩
          have hl1 := all_len t
          have hf := flat_le (t := t) (i + 1)
          rw [take_flat hr1, List.length_append] at hf
          have hpw : 2 ^ (t.dep + 1) ≤ 2 ^ 13 := Nat.pow_le_pow_right (by decide) (by omega)
          have h13 : 2 ^ 13 ≤ sizeLine := by decide
          have e1 := hts.len
          have e2 := htz.len
          rw [List.length_cons] at e1
          refine ⟨p, b, ws, zs, rfl, rfl, sm2 _ _ hws1, hb, (by omega), ?_⟩
          have kp := Kp.upd_lst (C := 0) (ys := ws ++ zs) (sm2 _ _ hws1)
          have nbp : b ≠ p := fun z => by rw [z, hws1] at nb; cases nb
          refine ⟨⟨fun c o e => ?_, np, ?_, ws ++ zs, upd_same, ?_⟩, _, rfl⟩
          · rw [upd_ne (ne_of_none e np)]
            exact sm2 _ _ (sm _ _ e)
          · rw [upd_ne (fun z => by rw [z, hws1] at htu; cases htu)]
            exact sm2 _ _ htu
          · rw [take_flat hr1, ← List.cons_append]
            exact ((hts.same sm2).mono kp).app (htz.mono kp)
      · rintro σ H1 ⟨⟨sm, _, htu, ws, hws1, hts⟩, t2, rfl⟩
        refine ⟨_, rfl, k p ws H1 sm np hws1 ?_⟩
        rw [all_parts]
        rw [hlu, List.take_length] at hts
        exact hts
    · cases wf with
      | @am k0 x0 ko =>
        have h3 : ¬ (!decide ((Tr.am k0 x0).head ∈ (["word", "name", "unknown"] : List Str))) = true := by
          rcases ko with ⟨rfl, _⟩ | ⟨rfl, _⟩ | ⟨rfl, _⟩
          · show ¬ (!decide (("word" : Str) ∈ (["word", "name", "unknown"] : List Str))) = true; decide +kernel
          · show ¬ (!decide (("name" : Str) ∈ (["word", "name", "unknown"] : List Str))) = true; decide +kernel
          · show ¬ (!decide (("unknown" : Str) ∈ (["word", "name", "unknown"] : List Str))) = true; decide +kernel
        exact iteN h3 ⟨_, rfl, k p _ _ s1 np hp1 (TsAt.one (it.same s1))⟩
      | _ => exact absurd (fun e => by cases e) hpt
theorem parts_none (T : Tx w K mg) : Fk P w K mg base CX0 1 "_law_parts" ["_law_form_here"] (spPR 0) := by
  refine T.F__law_parts.ok0 sc__law_parts (fun _ _ _ _ _ _ us hl => match us, hl with | [_], _ => rfl) (fun vs H Q E h => h.elim) (fun cdv A outer s H vs Q E hr h => h.elim)
theorem ok__law_parts (T : Tx w K mg) : ∀ d : Nat, Fk P w K mg base CX0 (d + 2) "_law_parts" ["_law_form_here"] (sp_parts d)
  | 0 => parts_step T 0 (parts_none T)
  | d + 1 => parts_step T (d + 1) (ok__law_parts T d)
end
end Rd
namespace Rd
open PySem L2
theorem rd_inTsZ {K : PySem.W.Frag} {H : Hp} {u : Tr} {ts : List Tr} {v : V} {p : Addr} {vs : List V} {Q : VK} (iu : IsT H u v) (fu : u.fine ∧ u.dep ≤ 60) (hp : H p = some (.lst vs)) (hts : TsAt H ts vs) (ft : ∀ t ∈ ts, t.fine ∧ t.dep ≤ 60) (q : Q (.bl (decide (u ∈ ts))) H) : rInD K v (.ref p) H Q := by
  refine ⟨dat u, ts.map dat, iu.dp, .lst (SqL.of hp) (dpAll_ts hts), dat_shaped fu.1 fu.2, ts_shaped ft, ?_⟩
  have e : (ts.map dat).any (fun z => PyData.eqv z (dat u)) = decide (u ∈ ts) := by
    clear q ft hts hp
    induction ts with
    | nil => simp
    | cons t ts ih =>
      rw [List.map_cons, List.any_cons, ih, eqv_dat]
      by_cases h : t = u
      · subst h
        simp
      · have h' : u ≠ t := fun z => h z.symm
        simp [h, h']
  rw [e]
  exact q
/-- [x for x in d if ..] -/
theorem lckN {d D : Addr} {o : Obj} {kvs : List (Key × V)} {l : Sb} {tt : TT} {i0 : Nat} {σ : St} {H1 : Hp} {Qd : Hp → Prop} (hd : H1 d = some (.frz o (.dK kvs))) (al : Al IsT H1 l kvs) (hl : l.length ≤ 1000) (hD : H1 D = none)
    (hsl : ∀ p : V, ((wipe σ [i0]).set i0 (some p))[i0]? = some (some p)) (hw : ∀ p : V, wipe ((wipe σ [i0]).set i0 (some p)) [i0] = wipe σ [i0])
    (htt : ∀ (x : Str) (H : Hp) (Q : Bool → Hp → Prop), x ∈ l.map (·.1) → Same H1 H → (∀ b H', Same H H' → Q b H') → tt ((wipe σ [i0]).set i0 (some (.str x))) H Q)
    (hq : ∀ (nm : List Str) H', Same H1 H' → H' D = some (.lst (nm.map V.str)) → nm.length ≤ l.length → (∀ x ∈ nm, x ∈ l.map (·.1)) → Qd H') :
    ∃ W : Nat → Nat → Hp → Prop, (∃ m, W 0 m (L2.upd H1 D (.lst []))) ∧ ∀ i m H, W i m H →
      ((Itk d o kvs).stop i H ∧ Qd H) ∨ ((Itk d o kvs).go i H ∧ ∃ Nx : Hp → Prop, (∀ H', Nx H' → ∃ m', m' < m ∧ W (i + 1) m' H') ∧ ∀ x H', (Itk d o kvs).yld i H x H' → gName i0 x (wipe σ [i0]) H' fun σ2 H2 => wipe σ2 [i0] = wipe σ [i0] ∧ tt σ2 H2 fun b H3 =>
        if b = true then tVar i0 σ2 H3 fun y H4 => ∃ acc, H4 D = some (.lst acc) ∧ acc.length < sizeLine ∧ Nx (L2.upd H4 D (.lst (acc ++ [y]))) else Nx H3) := by
  have hlen := al.len
  have big : 100000 ≤ sizeLine := by decide
  refine ⟨fun i m H => m = kvs.length - i ∧ i ≤ kvs.length ∧ ∃ nm : List Str, Same H1 H ∧ H D = some (.lst (nm.map V.str)) ∧ nm.length ≤ i ∧ ∀ x ∈ nm, x ∈ l.map (·.1), ⟨_, rfl, Nat.zero_le _, [], Rd.Same.upd hD, upd_same, Nat.le_refl _, fun x hx => nomatch hx⟩, ?_⟩
  rintro i m H ⟨rfl, hi, nm, s, hDa, hnl, hns⟩
  by_cases hlt : i < kvs.length
  · refine .inr ⟨⟨s _ _ hd, hlt⟩, fun H' => ∃ nm : List Str, Same H1 H' ∧ H' D = some (.lst (nm.map V.str)) ∧ nm.length ≤ i + 1 ∧ ∀ x ∈ nm, x ∈ l.map (·.1), fun H' h => ⟨kvs.length - (i + 1), by omega, rfl, hlt, h⟩, ?_⟩
    rintro _ H ⟨rfl, k, v0, hk, rfl⟩
    obtain ⟨x, t, hx, rfl, _⟩ := al.get hk
    have hxm : x ∈ l.map (·.1) := List.mem_map.mpr ⟨_, List.mem_of_getElem? hx, rfl⟩
    refine ⟨hw _, ?_⟩
    refine htt x _ _ hxm s fun b H' s' => ?_
    cases b with
    | false => exact iteF ⟨nm, s.trans s', s' _ _ hDa, by omega, hns⟩
    | true =>
      have hD' := s' _ _ hDa
      refine iteT ⟨_, hsl _, _, hD', by rw [List.length_map]; omega, nm ++ [x], fun c o e => ?_, by rw [upd_same, List.map_append]; rfl, by rw [List.length_append, List.length_singleton]; omega, fun y hy => ?_⟩
      · rw [upd_ne (ne_of_none e hD)]
        exact s' _ _ (s _ _ e)
      · rcases List.mem_append.mp hy with z | z
        · exact hns y z
        · rw [List.mem_singleton.mp z]
          exact hxm
  · exact .inl ⟨⟨s _ _ hd, by omega⟩, hq nm H s hDa (by omega) hns⟩
theorem PsAt.perm {H : Hp} {ws ys : List V} (hp : ys.Perm ws) : ∀ {W : List (Tr × Tr)}, PsAt H W ws → ∃ W', W'.Perm W ∧ PsAt H W' ys := by
  have inv : ∀ {W : List (Tr × Tr)} {v : V} {vs : List V}, PsAt H W (v :: vs) → ∃ t W', W = t :: W' ∧ PrT H t v ∧ PsAt H W' vs := by
    intro W v vs h
    cases W with
    | nil => exact absurd h.len (by simp)
    | cons t W' => exact ⟨t, W', rfl, h.get 0 t v rfl rfl, ⟨by simpa using h.len, fun i t v a b => h.get (i + 1) t v a b⟩⟩
  have cns : ∀ {W : List (Tr × Tr)} {t : Tr × Tr} {v : V} {vs : List V}, PrT H t v → PsAt H W vs → PsAt H (t :: W) (v :: vs) := by
    intro W t v vs a b
    refine ⟨by rw [List.length_cons, List.length_cons, b.len], fun i p u e1 e2 => ?_⟩
    cases i with
    | zero => cases e1; cases e2; exact a
    | succ i => exact b.get i p u (by simpa using e1) (by simpa using e2)
  induction hp with
  | nil => intro W h; exact ⟨W, .refl _, h⟩
  | cons x _ ih =>
    intro W h
    obtain ⟨t, W1, rfl, i, h1⟩ := inv h
    obtain ⟨W2, p2, h2⟩ := ih h1
    exact ⟨t :: W2, p2.cons t, cns i h2⟩
  | swap x y l =>
    intro W h
    obtain ⟨t, W1, rfl, i, h1⟩ := inv h
    obtain ⟨u, W2, rfl, j, h2⟩ := inv h1
    exact ⟨u :: t :: W2, .swap t u W2, cns j (cns i h2)⟩
  | trans _ _ ih1 ih2 =>
    intro W h
    obtain ⟨W1, p1, h1⟩ := ih2 h
    obtain ⟨W2, p2, h2⟩ := ih1 h1
    exact ⟨W2, p2.trans p1, h2⟩
theorem Pln.swap {l : Sb} {w : Tr × Tr} {t : Tr} (h : Pln l w t) : Pln l (w.2, w.1) t := ⟨h.o2, h.o1, h.dp, h.pl⟩
theorem Pln.deps {l : Sb} {w : Tr × Tr} {t : Tr} (h : Pln l w t) : w.1.dep ≤ 10 ∧ w.2.dep ≤ 10 := by
  have h1 := dep_hm (f := fun x => (look l x).getD (unk x)) w.1
  have h2 := dep_hm (f := fun x => (look l x).getD (unk x)) w.2
  rw [← fill_hm, h.o1.fl] at h1
  rw [← fill_hm, h.o2.fl] at h2
  exact ⟨Nat.le_trans h1 h.dp, Nat.le_trans h2 h.dp⟩
/-- the run over planted pairs -/
theorem pln_un {l : Sb} {W : List (Tr × Tr)} (pf : PlF l) (hW : ∀ w ∈ W, ∃ t, Pln l w t) (h3 : W.length ≤ 3) : ∃ n B, Un 10 n [] W (some B) ∧ W.length + n ≤ 100000 ∧ Sat (fOf l) B := by
  have hg : ∀ w ∈ W, Good (fOf l) 10 NV w := fun w hw => by
    obtain ⟨t, h⟩ := hW w hw
    have e1 : hm (fOf l) w.1 = t := by rw [← h.o1.fl, fill_hm]; rfl
    have e2 : hm (fOf l) w.2 = t := by rw [← h.o2.fl, fill_hm]; rfl
    exact ⟨e1.trans e2.symm, by rw [e1]; exact h.dp, fun x hx => by rw [← pf.ks]; exact h.o1.ns x hx, fun x hx => by rw [← pf.ks]; exact h.o2.ns x hx⟩
  have hm' : msr (fOf l) W ≤ W.length * 2048 := by
    have : ∀ (V : List (Tr × Tr)), (∀ w ∈ V, w ∈ W) → msr (fOf l) V ≤ V.length * 2048 := by
      intro V
      induction V with
      | nil => intro _; exact Nat.zero_le _
      | cons w V ih =>
        intro hV
        have h1 := ih fun z hz => hV z (List.mem_cons_of_mem _ hz)
        have h2 := sz_le (hm (fOf l) w.1)
        have h4 := (hg w (hV w List.mem_cons_self)).dp
        have h5 : 2 ^ ((hm (fOf l) w.1).dep + 1) ≤ 2 ^ 11 := Nat.pow_le_pow_right (by decide) (by omega)
        show sz (hm (fOf l) w.1) + msr (fOf l) V ≤ (V.length + 1) * 2048
        rw [Nat.add_mul]
        omega
    exact this W fun w hw => hw
  obtain ⟨n, B, hu, hn, hs⟩ := planted (f := fOf l) (D := 10) (ns := NV) (by decide) _ [] W (Nat.le_refl _) trivial (fun p hp => nomatch hp) (fun p hp => nomatch hp) hg
  exact ⟨n, B, hu, by omega, hs⟩
end Rd
namespace Rd
open PySem L2
theorem PsAt.at_ {H : Hp} {W : List (Tr × Tr)} {vs : List V} (h : PsAt H W vs) {i : Nat} {v : V} (hv : vs[i]? = some v) : ∃ w, W[i]? = some w ∧ PrT H w v := by
  have hlt := (List.getElem?_eq_some_iff.mp hv).1
  have hl := h.len
  have hw : W[i]? = some W[i] := List.getElem?_eq_getElem (by omega)
  exact ⟨_, hw, h.get i _ _ hw hv⟩
theorem PsAt.snoc {H : Hp} {W : List (Tr × Tr)} {vs : List V} {w : Tr × Tr} {v : V} (h : PsAt H W vs) (g : PrT H w v) : PsAt H (W ++ [w]) (vs ++ [v]) := h.app ⟨rfl, fun j p u a b => by
  cases j with
  | zero => cases a; cases b; exact g
  | succ j => simp at a⟩
theorem PLs.snoc {K : PySem.W.Frag} {H : Hp} {W : List (Tr × Tr)} {vs : List V} {w : Tr × Tr} {v : V} (h : PLs K H W vs) (g : PrL K H w v) : PLs K H (W ++ [w]) (vs ++ [v]) := by
  have hl := h.len
  refine ⟨by rw [List.length_append, List.length_append, hl]; rfl, fun i p u a b => ?_⟩
  by_cases hi : i < W.length
  · rw [List.getElem?_append_left hi] at a
    rw [List.getElem?_append_left (by omega)] at b
    exact h.get i p u a b
  · rw [List.getElem?_append_right (by omega)] at a
    rw [List.getElem?_append_right (by omega)] at b
    rw [hl] at b
    cases e : i - W.length with
    | zero =>
      rw [e] at a b
      cases a
      cases b
      exact g
    | succ j =>
      rw [e] at a
      simp at a
theorem PrL.mono {K : PySem.W.Frag} {H H' : Hp} {p : Tr × Tr} {v : V} (k : Kp (He.ga K "Letter") H H') (h : PrL K H p v) : PrL K H' p v := by
  obtain ⟨a, b1, b2, u1, u2, e, h1, h2, h3, h4, h5⟩ := h
  exact ⟨a, b1, b2, u1, u2, e, k _ _ rfl h1, h2.mono k, h3.mono k, h4.mono k, h5.mono k⟩
theorem PLs.mono {K : PySem.W.Frag} {H H' : Hp} {W : List (Tr × Tr)} {vs : List V} (k : Kp (He.ga K "Letter") H H') (h : PLs K H W vs) : PLs K H' W vs := ⟨h.len, fun i p v a b => (h.get i p v a b).mono k⟩
theorem PLs.refs {K : PySem.W.Frag} {H : Hp} {W : List (Tr × Tr)} {vs : List V} (h : PLs K H W vs) : ∃ as : List Addr, vs = as.map V.ref := by
  have : ∀ v ∈ vs, ∃ b, v = V.ref b := fun v hv => by
    obtain ⟨i, hi⟩ := List.getElem?_of_mem hv
    have hlt := (List.getElem?_eq_some_iff.mp hi).1
    have hl := h.len
    obtain ⟨b, _, _, _, _, e, _⟩ := h.get i _ _ (List.getElem?_eq_getElem (by omega)) hi
    exact ⟨b, e⟩
  clear h
  induction vs with
  | nil => exact ⟨[], rfl⟩
  | cons v vs ih =>
    obtain ⟨as, e⟩ := ih fun u hu => this u (List.mem_cons_of_mem _ hu)
    obtain ⟨b, e2⟩ := this v List.mem_cons_self
    exact ⟨b :: as, by rw [e2, e]; rfl⟩
theorem PlF.look {l : Sb} (h : PlF l) {x : Str} (hx : x ∈ l.map (·.1)) : ∃ t, Rd.look l x = some t ∧ Wf t ∧ t.dep ≤ 4 ∧ Wf (unk x) := by
  obtain ⟨⟨y, u⟩, hy, ey⟩ := List.mem_map.mp hx
  have ey : y = x := ey
  subst ey
  obtain ⟨i, hi⟩ := List.getElem?_of_mem hy
  exact ⟨u, look_get h.nd hi, (h.ok _ hy).1, (h.ok _ hy).2.1, (h.wl _ hy).2.2⟩
theorem first_ok {l B m : Sb} (pf : PlF l) (sat : Sat (fOf l) B) (wB : ∀ p ∈ B, Wf p.2) (rst : Rst B m) {x : Str} (hx : x ∈ l.map (·.1)) : Wf ((look m x).getD (unk x)) ∧ ((look m x).getD (unk x)).dep ≤ 10 ∧ hm (fOf l) ((look m x).getD (unk x)) = fOf l x := by
  obtain ⟨t, e1, wt, dt, wu⟩ := pf.look hx
  cases e : look m x with
  | none => exact ⟨wu, Nat.zero_le _, hm_unk _ _⟩
  | some u =>
    have eu : u = res B (unk x) := (rst.2.2 _ (lookU_mem e)).2
    have e3 : hm (fOf l) u = fOf l x := by rw [eu, sat_res sat, hm_unk]
    have e4 : fOf l x = t := by unfold fOf; rw [e1]; rfl
    have dh := dep_hm (f := fOf l) u
    rw [e3, e4] at dh
    exact ⟨by rw [eu]; exact res_wf wB wu, by show u.dep ≤ 10; omega, e3⟩
def spLaw (K : PySem.W.Frag) : Sp := fun vs H Q _ => ∃ (a : Addr) (ns : List Int), vs = [.ref a] ∧ SqL K H a (ns.map V.int) ∧ ns.length ≤ 63 ∧ ∀ H', Q (.bl true) H'
section
variable {P : Program} {w : World} {K : PySem.W.Frag} {mg : Str → Option Value} {base : Heap}
abbrev s_law : Stmt := top 46
theorem sc_law : FnScope ["_law_script", "_law_k", "_law_stream_here", "_law_forms", "_law_pairs", "_law_parts_here", "_law_pair", "_law_names", "_law_name_here", "_law_turned", "_law_one", "_law_other", "_law_row", "_law_given", "_law_kept", "_law_found"] ["_law_script"] (defScope s_law) := ⟨rfl, rfl, rfl, by decide +kernel, rfl, by decide +kernel, by decide +kernel⟩
theorem ok_law {f : Addr} {fd : FuncData} (F : FunD K "law" "law" (defArgs s_law) (defBody s_law) (defScope s_law) [] [] f fd) (T : Tx w K mg) : FnOk P w K mg base CX0 40 f fd ["_law_script"] (spLaw K) := by
  refine F.ok sc_law (fun vs H Q E h => ?_) (fun cdv A outer s H vs Q E hr h => ?_)
  · obtain ⟨a, ns, rfl, _⟩ := h
    rfl
  · obtain ⟨a, ns, rfl, hS, hn, k⟩ := h
    refine ⟨_, PSs.nox (pss_cons (ps_for PassesOwn.never rfl (pi_range1 rfl T.z_range (pa_cons pe_int pa_nil)) (pg_name (i := 1) sc_law.nd rfl (Or.inl rfl))
  (pss_cons (ps_set (i := 2) sc_law.nd rfl (Or.inl rfl) (pe_fk (ok__law_stream T) (hr.mono (by omega)) rfl pass0 (pa_cons (pv 0) (pa_cons (pv 1) pa_nil))))
  (pss_cons (ps_set (i := 3) sc_law.nd rfl (Or.inl rfl) (pe_fk (ok__law_plain_forms T 2) (hr.mono (by omega)) rfl pass0 (pa_cons (pv 2) (pa_cons (pe_lst (pa_cons pe_str (pa_cons pe_str (pa_cons pe_str (pa_cons pe_str pa_nil))))) (pa_cons pe_int pa_nil)))))
  (pss_cons (ps_set (i := 4) sc_law.nd rfl (Or.inl rfl) (pe_fk (ok__law_planted T) (hr.mono (by omega)) rfl pass0 (pa_cons (pv 2) (pa_cons (pv 3) pa_nil))))
  (pss_cons (ps_set (i := 5) sc_law.nd rfl (Or.inr rfl) (pe_lst pa_nil))
  (pss_cons (ps_for PassesOwn.never rfl (pi_list (pv 4)) (pg_name (i := 6) sc_law.nd rfl (Or.inl rfl))
  (pss_one (ps_expr (pe_bm PySem.F.plainAttrs_list PySem.F.slot_list_extend PySem.F.type_list_extend mt_extend (pv 5) (pa_cons (pe_fk (ok__law_parts T 11) (hr.mono (by omega)) rfl pass0 (pa_cons (pe_op op_catT (pe_tup (pa_cons pe_str pa_nil)) (pv 6)) pa_nil)) pa_nil)))))
  (pss_cons (ps_lock (ps_setLc (i := 7) (own := [("_law_name_here", 8)]) (g := gName 8)  (by rfl) sc_law.nd rfl rfl (sw_true rfl rfl rfl (by decide +kernel)) (pi_keys (pv 3)) (blkOk_by (own := [("_law_name_here", 8)]) (N := ["_law_script", "_law_k", "_law_stream_here", "_law_forms", "_law_pairs", "_law_parts_here", "_law_pair", "_law_names", "_law_name_here", "_law_turned", "_law_one", "_law_other", "_law_row", "_law_given", "_law_kept", "_law_found"]) (sc := defScope s_law) (by decide +kernel)) (fun _ _ _ _ _ => (pg_name (i := 8) sc_law.nd rfl (Or.inl rfl))) (fun _ _ _ _ _ => (pts_one (pt_cmpR (kOp (r := rInD) (K := K) rfl (op_inD hr.units65)) (pe_tup (pa_cons pe_str (pa_cons (pv 8) pa_nil))) (pv 5) (by rfl)))) (fun _ _ _ _ _ => (pv 8))))
  (pss_cons (ps_setLc (i := 9) (own := [("_law_one", 10), ("_law_other", 11)])  (tt := tYes) (by rfl) sc_law.nd rfl rfl (sw_true rfl rfl rfl (by decide +kernel)) (pi_list (pe_fk (ok__law_mix T) (hr.mono (by omega)) rfl pass0 (pa_cons (pv 2) (pa_cons (pv 4) pa_nil)))) (blkOk_by (own := [("_law_one", 10), ("_law_other", 11)]) (N := ["_law_script", "_law_k", "_law_stream_here", "_law_forms", "_law_pairs", "_law_parts_here", "_law_pair", "_law_names", "_law_name_here", "_law_turned", "_law_one", "_law_other", "_law_row", "_law_given", "_law_kept", "_law_found"]) (sc := defScope s_law) (by decide +kernel)) (fun _ _ _ _ _ => (pg_tupk (K := K) (n := 2) rfl rfl (pgs_cons (pg_name (i := 10) sc_law.nd rfl (Or.inl rfl)) (pgs_cons (pg_name (i := 11) sc_law.nd rfl (Or.inl rfl)) pgs_nil)))) (fun _ _ _ _ _ => pts_nil) (fun _ _ _ _ _ => (pe_tup (pa_cons (pv 11) (pa_cons (pv 10) pa_nil)))))
  (pss_one (ps_for PassesOwn.never rfl (pi_list (pe_lst (pa_cons (pv 4) (pa_cons (pv 9) pa_nil)))) (pg_name (i := 12) sc_law.nd rfl (Or.inl rfl))
  (pss_cons (ps_setLc (i := 13) (own := [("_law_one", 10), ("_law_other", 11)])  (tt := tYes) (by rfl) sc_law.nd rfl rfl (sw_true rfl rfl rfl (by decide +kernel)) (pi_list (pv 12)) (blkOk_by (own := [("_law_one", 10), ("_law_other", 11)]) (N := ["_law_script", "_law_k", "_law_stream_here", "_law_forms", "_law_pairs", "_law_parts_here", "_law_pair", "_law_names", "_law_name_here", "_law_turned", "_law_one", "_law_other", "_law_row", "_law_given", "_law_kept", "_law_found"]) (sc := defScope s_law) (by decide +kernel)) (fun _ _ _ _ _ => (pg_tupk (K := K) (n := 2) rfl rfl (pgs_cons (pg_name (i := 10) sc_law.nd rfl (Or.inl rfl)) (pgs_cons (pg_name (i := 11) sc_law.nd rfl (Or.inl rfl)) pgs_nil)))) (fun _ _ _ _ _ => pts_nil) (fun _ _ _ _ _ => (pe_tup (pa_cons (pe_fk (ok__law_letter T 10) (hr.mono (by omega)) rfl pass0 (pa_cons (pv 10) pa_nil)) (pa_cons (pe_fk (ok__law_letter T 10) (hr.mono (by omega)) rfl pass0 (pa_cons (pv 11) pa_nil)) pa_nil)))))
  (pss_cons (ps_set (i := 14) sc_law.nd rfl (Or.inl rfl) (pe_callTy call_list_of (by rfl) T.z_list (by decide +kernel) (pa_cons (pv 13) pa_nil)))
  (pss_cons (ps_set (i := 15) sc_law.nd rfl (Or.inl rfl) (pe_fk (ok_narrowest T 10) (hr.mono (by omega)) rfl pass0 (pa_cons (pv 13) pa_nil)))
  (pss_one (ps_if (PW.pt (pw_or (pt_cmpR op_isN (pv 15) pe_non (nomark _)) (pw_or (pt_not (pt_val (pe_fk (ok__law_is_first T) (hr.mono (by omega)) rfl pass0 (pa_cons (pv 15) (pa_cons (pv 3) (pa_cons (pv 7) pa_nil)))))) (pw_or1 (pt_cmpR (op_neSame (hr.units0)) (pv 13) (pv 14) (nomark _))))))
  (pss_one (ps_ret pe_bl))
  pss_nil)))))))))))))))
  (pss_one (ps_ret pe_bl))), ?_⟩
    have big : 16777216 ≤ sizeLine := by decide
    refine ⟨4, rfl, by decide, by decide, for_range (n := 4) (fun i σ H => SqL K H a (ns.map V.int) ∧ ∃ (t1 t2 t3 t4 t5 t6 t7 t8 t9 t10 t11 t12 t13 t14 t15 : Option V), σ = [some (.ref a), t1, t2, t3, t4, t5, t6, t7, t8, t9, t10, t11, t12, t13, t14, t15]) ⟨hS, _, _, _, _, _, _, _, _, _, _, _, _, _, _, _, rfl⟩ ?_ ?_⟩
    · rintro i σ H2 hi ⟨hS2, t1, t2, t3, t4, t5, t6, t7, t8, t9, t10, t11, t12, t13, t14, t15, rfl⟩
      refine gName_k ?_
      try dsimp only
      refine seqAsg ⟨_, rfl, _, rfl, a, ns, _, rfl, hS2, hn, (by omega), (by omega), fun p xs H3 s3 np hp3 hx3 => ?_⟩
      refine gName_k ?_
      try dsimp only
      refine seqAsg ⟨_, rfl, (by show 4 ≤ sizeLine; decide), fun ql hql => ?_⟩
      have nlp : ql ≠ p := fun z => by rw [z, hp3] at hql; cases hql
      have sl := Rd.Same.upd (o := .lst (NV.map V.str)) hql
      have hql1 : upd H3 ql (.lst (NV.map V.str)) ql = some (.lst (NV.map V.str)) := upd_same
      refine ⟨p, ql, xs, 50000, rfl, sl _ _ hp3, hx3.mono (by decide), nlp, hql1, fun q4 k4 l y4 H4 b4' nq4 nq4p hp4 hy4 hq4 al4 ks4 ok4 => ?_⟩
      have b4 : But p H3 H4 := (But.of_same sl).trans b4'
      have pf : PlF l := ⟨ks4, ok4⟩
      refine gName_k ?_
      try dsimp only
      refine seqAsg ⟨_, rfl, _, rfl, p, q4, y4, k4, l, 100, rfl, hp4, hy4.mono (by decide), hq4, al4, pf, fun q5 ws W y5 H5 b5 nq5 hq5 hps5 hp5 hy5 hW3 hpl => ?_⟩
      refine gName_k ?_
      try dsimp only
      have n4p : q4 ≠ p := nq4p
      have n5p : q5 ≠ p := fun z => by rw [z, hp4] at nq5; cases nq5
      have hq45 : H5 q4 = some (.dK k4) := b5 _ _ n4p hq4
      have al5 : Al IsT H5 l k4 := al4.mono fun t v h => h.but b5 hp4
      have S5 : Same H2 H5 := But.fresh s3 np (b4.trans b5)
      have hwl := hps5.len
      refine seqAsg ⟨Nat.zero_le _, fun q6 hq6 => ?_⟩
      refine gName_k ?_
      try dsimp only
      have n6p : q6 ≠ p := fun z => by rw [z, hp5] at hq6; cases hq6
      have s6 := Rd.Same.upd (o := .lst []) hq6
      have hq61 : upd H5 q6 (.lst []) q6 = some (.lst []) := upd_same
      generalize upd H5 q6 (.lst []) = H6 at s6 hq61 ⊢
      refine seqJoin (fun σ' H' => ∃ (t6 : Option V) (us : List V) (ts : List Tr), σ' = [some (.ref a), some (.int (0 + (i : Int))), some (.ref p), some (.ref q4), some (.ref q5), some (.ref q6), t6, t7, t8, t9, t10, t11, t12, t13, t14, t15] ∧ Same H5 H' ∧ H' q6 = some (.lst us) ∧ TsAt H' ts us ∧ ∀ t ∈ ts, Wf t ∧ t.dep ≤ 11) (fun KK hK => ?_) ?_
      · refine ⟨_, rfl, q5, rfl, ⟨_, SqL.of (s6 _ _ hq5)⟩, ?_⟩
        refine for_list (xs := ws) (fun i' σ' H' => ∃ (t6 : Option V) (us : List V) (ts : List Tr), σ' = [some (.ref a), some (.int (0 + (i : Int))), some (.ref p), some (.ref q4), some (.ref q5), some (.ref q6), t6, t7, t8, t9, t10, t11, t12, t13, t14, t15] ∧ Same H5 H' ∧ H' q6 = some (.lst us) ∧ TsAt H' ts us ∧ (∀ t ∈ ts, Wf t ∧ t.dep ≤ 11) ∧ us.length ≤ i' * 4096) ⟨_, [], [], rfl, s6, hq61, ⟨rfl, fun i t v h => by simp at h⟩, (fun t ht => nomatch ht), by simp⟩ ?_ ?_ ?_
        · rintro i' σ' H' hi' ⟨t6, us, ts, rfl, s', _⟩
          exact SqL.of (s' _ _ hq5)
        · rintro i' x σ' H' hx ⟨t6, us, ts, rfl, s', hq6', hts, hwt, hul⟩
          refine gName_k ?_
          try dsimp only
          have hi3 : i' < 3 := by have := (List.getElem?_eq_some_iff.mp hx).1; omega
          obtain ⟨wp, hwp, pa, u1, u2, rfl, hpa, i1, i2⟩ := (hps5.same s').at_ hx
          obtain ⟨t0, pln⟩ := hpl wp (List.mem_of_getElem? hwp)
          obtain ⟨d1, d2⟩ := pln.deps
          have w1 := pln.o1.wf
          have w2 := pln.o2.wf
          refine ⟨_, rfl, .inl ⟨rfl, _, SqL.of hq6'⟩, ?_⟩
          refine ⟨(by show 1 ≤ sizeLine; decide), fun qa hqa => ⟨_, rfl, qa, pa, [.str "pair"], [u1, u2], rfl, rfl, SqT.of upd_same, SqT.of (Rd.Same.upd hqa _ _ hpa), (by simp), (by show 3 ≤ sizeLine; decide), (fun e => by cases e), fun _ qb hqb => ?_⟩⟩
          have sa := (Rd.Same.upd (o := .tup [.str "pair"]) hqa).trans (Rd.Same.upd (o := .tup ([.str "pair"] ++ [u1, u2])) hqb)
          have hb : upd (upd H' qa (.tup [.str "pair"])) qb (.tup ([.str "pair"] ++ [u1, u2])) qb = some (.tup [.str "pair", u1, u2]) := upd_same
          generalize upd (upd H' qa (.tup [.str "pair"])) qb (.tup ([.str "pair"] ++ [u1, u2])) = Ha at sa hb ⊢
          have itb : IsT Ha (.bi "pair" wp.1 wp.2) (.ref qb) := ⟨qb, u1, u2, rfl, hb, i1.same sa, i2.same sa⟩
          have wfb : Wf (.bi "pair" wp.1 wp.2) := .bi (by decide +kernel) w1 w2
          refine ⟨_, _, rfl, itb, wfb, (by show max wp.1.dep wp.2.dep + 1 ≤ 11; omega), (by decide), fun b zs H8 s8 nb hb8 htz => ?_⟩
          have hq68 := s8 _ _ (sa _ _ hq6')
          have hl1 := all_len (Tr.bi "pair" wp.1 wp.2)
          have hdp : (Tr.bi "pair" wp.1 wp.2).dep ≤ 11 := by show max wp.1.dep wp.2.dep + 1 ≤ 11; omega
          have hpw : 2 ^ ((Tr.bi "pair" wp.1 wp.2).dep + 1) ≤ 2 ^ 12 := Nat.pow_le_pow_right (by decide) (by omega)
          have e2 := htz.len
          refine ⟨q6, b, us, zs, rfl, rfl, hq68, hb8, (by omega), ?_⟩
          have kp := Kp.upd_lst (C := 0) (ys := us ++ zs) hq68
          refine ⟨_, us ++ zs, ts ++ (Tr.bi "pair" wp.1 wp.2).all, rfl, fun c o e => ?_, upd_same, ((hts.same (sa.trans s8)).mono kp).app (htz.mono kp), fun t ht => ?_, ?_⟩
          · rw [upd_ne (ne_of_none e hq6)]
            exact s8 _ _ (sa _ _ (s' _ _ e))
          · rcases List.mem_append.mp ht with z | z
            · exact hwt t z
            · obtain ⟨z1, z2⟩ := all_wf wfb t z
              exact ⟨z1, by omega⟩
          · rw [List.length_append, Nat.add_mul]
            omega
        · rintro σ' H' ⟨t6, us, ts, rfl, s', hq6', hts, hwt, hul⟩
          exact hK _ _ ⟨t6, us, ts, rfl, s', hq6', hts, hwt⟩
      rintro σ' H7 ⟨t6', us, ts, rfl, s7, hq67, hts7, hwt7⟩
      try dsimp only
      have hp7 := s7 _ _ hp5
      have hq47 := s7 _ _ hq45
      have al7 : Al IsT H7 l k4 := al5.mono fun t v h => h.same s7
      have n46 : q4 ≠ q6 := fun z => by rw [z, hq67] at hq47; cases hq47
      refine ⟨q4, _, hq47, trivial, fun od => ?_⟩
      have ka : Kp 0 H7 (upd H7 q4 (.frz od (.dK k4))) := fun c o hi e => by
        rw [upd_ne (fun z => by rw [z, hq47] at e; cases e; cases hi)]
        exact e
      have kb : ∀ c o, c ≠ q4 → H7 c = some o → upd H7 q4 (.frz od (.dK k4)) c = some o := fun c o hc e => by
        rw [upd_ne hc]
        exact e
      have hq4f : upd H7 q4 (.frz od (.dK k4)) q4 = some (.frz od (.dK k4)) := upd_same
      generalize upd H7 q4 (.frz od (.dK k4)) = Hf at ka kb hq4f ⊢
      have hpn : p ≠ q4 := fun z => by rw [z, hq47] at hp7; cases hp7
      refine ⟨_, rfl, q4, od, rfl, .inl ⟨k4, hq4f, fun D hD => ?_⟩⟩
      refine lckN (l := l) hq4f (al7.mono fun t v h => h.mono ka) (by rw [pf.len]; decide) hD (fun _ => rfl) (fun _ => rfl) (fun x Hx Qx hx sx kx => ?_) fun nm H8 s8 hD8 hnl hns => ?_
      · refine ⟨_, rfl, (by show 2 ≤ sizeLine; decide), fun qu hqu => ⟨_, rfl, ?_⟩⟩
        have su := Rd.Same.upd (o := .tup [.str "unknown", .str x]) hqu
        have hxu : isUnk x = true := by
          rw [ks4] at hx
          exact (by decide +kernel : ∀ y ∈ NV, isUnk y = true) x hx
        have wu : Wf (unk x) := .am (.inr (.inr ⟨rfl, hxu⟩))
        refine rd_inTsZ (u := unk x) ⟨qu, rfl, upd_same⟩ ⟨wu.fine, Nat.zero_le _⟩ (su _ _ (sx _ _ (kb _ _ (Ne.symm n46) hq67))) (((hts7.mono ka).same sx).same su) (fun t ht => ⟨(hwt7 t ht).1.fine, by have := (hwt7 t ht).2; omega⟩) ?_
        exact ⟨_, rfl, kx _ _ su⟩
      · have hq48 := s8 _ _ hq4f
        refine ⟨hq48, ?_⟩
        refine gName_k ?_
        try dsimp only
        have nDq : D ≠ q4 := fun z => by rw [z, hq4f] at hD; cases hD
        have nDp : D ≠ p := fun z => by rw [z, kb _ _ hpn hp7] at hD; cases hD
        have S9 : Same H7 (upd H8 q4 (.dK k4)) := fun c o e => by
          by_cases z : c = q4
          · subst z
            rw [hq47] at e
            cases e
            exact upd_same
          · rw [upd_ne z]
            exact s8 _ _ (kb _ _ z e)
        have hD9 : upd H8 q4 (.dK k4) D = some (.lst (nm.map V.str)) := by rw [upd_ne nDq]; exact hD8
        generalize upd H8 q4 (.dK k4) = H9 at S9 hD9 ⊢
        have S59 := s7.trans S9
        have hp9 := S9 _ _ hp7
        have hq59 := S59 _ _ hq5
        have hps9 : PsAt H9 W ws := hps5.same S59
        have n5p' : q5 ≠ p := n5p
        refine seqAsg ⟨_, rfl, _, rfl, p, q5, y5, ws, 0, rfl, hp9, hy5.mono (by omega), n5p', hq59, (by omega), fun qm wm ym H10 bm nqm hqm hperm hpm hym => ⟨qm, rfl, ⟨_, SqL.of hqm⟩, fun D2 hD2 => ?_⟩⟩
        have kpm : Kp 0 H9 H10 := bm.kp hp9
        obtain ⟨W2, hW2, hps10⟩ := PsAt.perm hperm (hps9.mono kpm)
        have hwm := hps10.len
        have hW2l := hW2.length_eq
        refine lc_list (K := K) (a := qm) (xs := wm) (fun i' Hc => ∃ vs, Same H10 Hc ∧ Hc D2 = some (.lst vs) ∧ PsAt Hc ((W2.take i').map fun z => (z.2, z.1)) vs) ⟨[], Rd.Same.upd hD2, upd_same, PsAt.nil⟩ (fun i' Hc _ ⟨_, sc, _⟩ => SqL.of (sc _ _ hqm)) ?_ ?_
        · rintro i' x Hc hx ⟨vs, sc, hDc, hpc⟩
          obtain ⟨wp, hwp, pa, u1, u2, rfl, hpa, i1, i2⟩ := (hps10.same sc).at_ hx
          have etk : W2.take (i' + 1) = W2.take i' ++ [wp] := by rw [List.take_succ, hwp]; rfl
          refine ⟨pa, _, rfl, SqT.of hpa, rfl, _, _, rfl, _, _, rfl, rfl, rfl, ?_⟩
          unfold tYes
          refine iteT ⟨_, rfl, _, rfl, (by show 2 ≤ sizeLine; decide), fun q hq => ?_⟩
          have sq := Rd.Same.upd (o := .tup [u2, u1]) hq
          have hD3 := sq _ _ hDc
          have hvl := hpc.len
          rw [List.length_map, List.length_take] at hvl
          have kp := Kp.upd_lst (C := 0) (ys := vs ++ [.ref q]) hD3
          refine ⟨vs, hD3, by omega, vs ++ [.ref q], fun c o e => ?_, upd_same, ?_⟩
          · rw [upd_ne (ne_of_none e hD2)]
            exact sq _ _ (sc _ _ e)
          · rw [etk, List.map_append]
            exact ((hpc.same sq).mono kp).snoc ⟨q, u2, u1, rfl, kp _ _ rfl upd_same, (i2.same sq).mono kp, (i1.same sq).mono kp⟩
        · rintro H11 ⟨vt, s11, hD11, hp11⟩
          rw [hwm, List.take_length] at hp11
          refine gName_k ?_
          try dsimp only
          have hDm : H10 D = some (.lst (nm.map V.str)) := bm _ _ nDp hD9
          have hq4m : H10 q4 = some (.dK k4) := bm _ _ (Ne.symm hpn) (S9 _ _ hq47)
          have hq5m : H10 q5 = some (.lst ws) := bm _ _ n5p hq59
          have S2m : Same H2 H10 := fun c o e => bm c o (ne_of_none e np) (S59 _ _ (S5 _ _ e))
          have hrow : ∀ x ∈ [V.ref q5, V.ref D2], ∃ (q : Addr) (vs : List V) (V : List (Tr × Tr)), x = .ref q ∧ H11 q = some (.lst vs) ∧ PsAt H11 V vs ∧ V.length ≤ 3 ∧ ∀ z ∈ V, ∃ t, Pln l z t := by
            intro x hx
            rcases List.mem_cons.mp hx with z | z
            · exact ⟨q5, ws, W, z, s11 _ _ hq5m, (hps9.mono kpm).same s11, hW3, hpl⟩
            · refine ⟨D2, vt, _, List.mem_singleton.mp z, hD11, hp11, by rw [List.length_map]; omega, fun y hy => ?_⟩
              obtain ⟨y0, hy0, rfl⟩ := List.mem_map.mp hy
              obtain ⟨t, ht⟩ := hpl y0 (hW2.mem_iff.mp hy0)
              exact ⟨t, ht.swap⟩
          refine ⟨_, rfl, _, rfl, (by show 2 ≤ sizeLine; decide), fun qr hqr => ⟨qr, rfl, ⟨_, SqL.of upd_same⟩, ?_⟩⟩
          have sr := Rd.Same.upd (o := .lst [.ref q5, .ref D2]) hqr
          have hqr1 : upd H11 qr (.lst [.ref q5, .ref D2]) qr = some (.lst [.ref q5, .ref D2]) := upd_same
          generalize upd H11 qr (.lst [.ref q5, .ref D2]) = H12 at sr hqr1 ⊢
          refine for_list (xs := [.ref q5, .ref D2]) (fun i' σ' H' => Same H12 H' ∧ ∃ (r10 r11 r12 r13 r14 r15 : Option V), σ' = [some (.ref a), some (.int (0 + (i : Int))), some (.ref p), some (.ref q4), some (.ref q5), some (.ref q6), t6', some (.ref D), t8, some (.ref D2), r10, r11, r12, r13, r14, r15]) ⟨Same.refl _, _, _, _, _, _, _, rfl⟩ ?_ ?_ ?_
          · rintro i' σ' H' hi' ⟨s', _⟩
            exact SqL.of (s' _ _ hqr1)
          · rintro i' x σ' H' hx ⟨s', r10, r11, r12, r13, r14, r15, rfl⟩
            refine gName_k ?_
            try dsimp only
            obtain ⟨q, vs, VV, rfl, hq, hps, hv3, hvp⟩ := hrow x (List.mem_of_getElem? hx)
            have S' := sr.trans s'
            have hvl := hps.len
            refine seqAsg ⟨_, rfl, q, rfl, ⟨_, SqL.of (S' _ _ hq)⟩, fun D3 hD3 => ?_⟩
            refine lc_list (K := K) (a := q) (xs := vs) (fun i2 Hc => ∃ us, Same H' Hc ∧ Hc D3 = some (.lst us) ∧ PLs K Hc (VV.take i2) us) ⟨[], Rd.Same.upd hD3, upd_same, ⟨rfl, fun i p v h => by simp at h⟩⟩ (fun i2 Hc _ ⟨_, sc, _⟩ => SqL.of (sc _ _ (S' _ _ hq))) ?_ ?_
            · rintro i2 x Hc hx ⟨us2, sc, hDc, hpc⟩
              obtain ⟨wp, hwp, pa, u1, u2, rfl, hpa, i1, j2⟩ := (hps.same (S'.trans sc)).at_ hx
              have etk : VV.take (i2 + 1) = VV.take i2 ++ [wp] := by rw [List.take_succ, hwp]; rfl
              obtain ⟨t0, pln⟩ := hvp wp (List.mem_of_getElem? hwp)
              obtain ⟨d1, d2⟩ := pln.deps
              refine ⟨pa, _, rfl, SqT.of hpa, rfl, _, _, rfl, _, _, rfl, rfl, rfl, ?_⟩
              unfold tYes
              refine iteT ⟨_, rfl, _, wp.1, rfl, i1, pln.o1.wf, d1, fun v1 Ha sa il1 => ⟨_, rfl, _, wp.2, rfl, j2.same sa, pln.o2.wf, d2, fun v2 Hb sb il2 => ?_⟩⟩
              obtain ⟨x1, z1, rfl, g1, g2⟩ := il1.same sb
              obtain ⟨x2, z2, rfl, g3, g4⟩ := il2
              refine ⟨(by show 2 ≤ sizeLine; decide), fun q2 hq2 => ?_⟩
              have sq := Rd.Same.upd (o := .tup [.ref x1, .ref x2]) hq2
              have S3 := (sa.trans sb).trans sq
              have hD4 := S3 _ _ hDc
              have hvl2 := hpc.len
              rw [List.length_take] at hvl2
              have kp := Kp.upd_lst (C := He.ga K "Letter") (ys := us2 ++ [.ref q2]) hD4
              refine ⟨us2, hD4, by omega, us2 ++ [.ref q2], fun c o e => ?_, upd_same, ?_⟩
              · rw [upd_ne (ne_of_none e hD3)]
                exact S3 _ _ (sc _ _ e)
              · rw [etk]
                have hpr : PrL K (upd Hb q2 (.tup [.ref x1, .ref x2])) wp (.ref q2) := ⟨q2, x1, x2, z1, z2, rfl, upd_same, g1.same sq, g3.same sq, g2.same sq, g4.same sq⟩
                exact (hpc.mono ((Kp.of_same S3).trans kp)).snoc (hpr.mono kp)
            · rintro H13 ⟨us2, s13, hD13, hpl13⟩
              rw [hvl, List.take_length] at hpl13
              refine gName_k ?_
              try dsimp only
              obtain ⟨as, rfl⟩ := hpl13.refs
              refine seqAsg ⟨_, rfl, D3, _, rfl, .inl (SqL.of hD13), fun qk hqk => ?_⟩
              refine gName_k ?_
              try dsimp only
              have sk := Rd.Same.upd (o := .lst (as.map V.ref)) hqk
              have hqk1 : upd H13 qk (.lst (as.map V.ref)) qk = some (.lst (as.map V.ref)) := upd_same
              generalize upd H13 qk (.lst (as.map V.ref)) = H14 at sk hqk1 ⊢
              obtain ⟨n, B, hU, hbig, sat⟩ := pln_un pf hvp hv3
              have hpl14 : PLs K H14 VV (as.map V.ref) := hpl13.mono (Kp.of_same sk)
              refine seqAsg ⟨_, rfl, D3, _, VV, n, _, rfl, sk _ _ hD13, hpl14, (fun z hz => by obtain ⟨t, ht⟩ := hvp z hz; exact ⟨ht.o1.wf, ht.o2.wf⟩), (by decide), hU, hbig, (fun e => by cases e), fun B' e tri wB qf kf m H15 s15 nqf hqf alf rst => ?_⟩
              cases e
              refine gName_k ?_
              try dsimp only
              have eR : decide (V.ref qf = V.non) = false := decide_eq_false fun e => by cases e
              have S15 := (s13.trans sk).trans s15
              have ST : Same H10 H15 := s11.trans (S'.trans S15)
              refine oneIf (b := false) (tb_or (b := false) (c := false) (fun Q3 k3 => ⟨_, rfl, rfl, _, rfl, ?_⟩) (fun H' s' _ => tb_or (b := false) (c := false) (tb_not (b := true) fun Q3 k3 => ?_) (fun H'' s'' _ Q3 k3 => ?_))) fun Hn sn => iteF ?_
              · rw [eR]
                exact k3 _ (Same.refl _)
              · refine ⟨_, rfl, _, rfl, _, rfl, qf, q4, D, kf, k4, m, l, nm, rfl, s' _ _ hqf, alf.mono (fun t v h => h.same s'), (ST.trans s') _ _ hq4m, ?_, (ST.trans s') _ _ hDm, (by have := pf.len; omega), ?_, ?_, fun H2' s2' => ⟨_, rfl, k3 _ s2'⟩⟩
                · exact (al7.mono fun t v h => (h.same S9).mono kpm).mono fun t v h => h.same (ST.trans s')
                · intro x hx
                  obtain ⟨t, e1, e2, e3, _⟩ := pf.look (hns x hx)
                  exact ⟨t, e1, e2, by omega⟩
                · intro x hx
                  exact first_ok pf sat wB rst (hns x hx)
              · exact ⟨_, rfl, _, rfl, D3, qk, as, rfl, rfl, SqL.of (s'' _ _ (s' _ _ (s15 _ _ (sk _ _ hD13)))), SqL.of (s'' _ _ (s' _ _ (s15 _ _ hqk1))), ⟨_, rfl, k3 _ (Same.refl _)⟩⟩
              · exact ⟨s'.trans (S15.trans sn), _, _, _, _, _, _, rfl⟩
          · rintro σ' H' ⟨s', r10, r11, r12, r13, r14, r15, rfl⟩
            exact ⟨SqL.kept hS2 ((S2m.trans s11).trans (sr.trans s')), _, _, _, _, _, _, _, _, _, _, _, _, _, _, _, rfl⟩
    · rintro σ H2 _
      exact k _
end
end Rd
set_option maxHeartbeats 0
namespace Rd
open PySem L2
theorem tx_ok {w : World} {K : PySem.W.Frag} {h : Heap} {mg : Str → Option Value} (X : K.In h) (G : h.Ns mainGlobals mg) (ct : He.SaysT fa fn ts w K) (cc : He.SaysD fa fn K) (cz : He5.SaysA [] fs K) (hx : exq K = true) : Tx w K mg where
  z_len := He.free_ok X G (cc.fact 0 rfl)
  z_all := He.free_ok X G (cc.fact 1 rfl)
  z_any := He.free_ok X G (cc.fact 2 rfl)
  z_abs := He.free_ok X G (cc.fact 3 rfl)
  z_int := He.free_ok X G (cc.fact 4 rfl)
  z_list := He.free_ok X G (cc.fact 5 rfl)
  z_tuple := He.free_ok X G (cc.fact 6 rfl)
  z_range := He.free_ok X G (cc.fact 7 rfl)
  z_max := He.free_ok X G (cc.fact 8 rfl)
  z_min := He.free_ok X G (cc.fact 9 rfl)
  z_isinstance := He.free_ok X G (cc.fact 10 rfl)
  z_sorted := He.free_ok X G (cc.fact 11 rfl)
  z_str := He.free_ok X G (cc.fact 12 rfl)
  z_set := He.free_ok X G (cc.fact 13 rfl)
  z_dict := He.free_ok X G (cc.fact 14 rfl)
  z_enumerate := He.free_ok X G (cc.fact 15 rfl)
  z_zip := He.free_ok X G (cc.fact 16 rfl)
  z_ValueError := He.free_ok X G (cc.fact 17 rfl)
  z_NotImplemented := He.free_ok X G (cc.fact 18 rfl)
  z_sum := He.free_ok X G (cc.fact 19 rfl)
  z_bool := He.free_ok X G (cc.fact 20 rfl)
  c_SMALL := He.str_ok X G (cc.fact 21 rfl)
  c_GREAT := He.str_ok X G (cc.fact 22 rfl)
  c_DIGITS := He.str_ok X G (cc.fact 23 rfl)
  D_SIGNS := kd_ok (He.glo_ok X G (cc.fact 24 rfl)) (ct.tab 0 rfl) (exl_ok hx 0 rfl)
  F_is_word := ⟨(cc.def_ 0 (d := d0) rfl), He.glo_ok X G (cc.fact 25 rfl)⟩
  F_is_unknown := ⟨(cc.def_ 1 (d := d1) rfl), He.glo_ok X G (cc.fact 26 rfl)⟩
  F_is_name := ⟨(cc.def_ 2 (d := d2) rfl), He.glo_ok X G (cc.fact 27 rfl)⟩
  F_atom_tree := ⟨(cc.def_ 3 (d := d3) rfl), He.glo_ok X G (cc.fact 28 rfl)⟩
  F_is_atom_form := ⟨(cc.def_ 4 (d := d4) rfl), He.glo_ok X G (cc.fact 29 rfl)⟩
  F_check_form := ⟨(cc.def_ 5 (d := d5) rfl), He.glo_ok X G (cc.fact 30 rfl)⟩
  F_parts_of := ⟨(cc.def_ 6 (d := d6) rfl), He.glo_ok X G (cc.fact 31 rfl)⟩
  F_atoms_of := ⟨(cc.def_ 7 (d := d7) rfl), He.glo_ok X G (cc.fact 32 rfl)⟩
  F_filled_tree := ⟨(cc.def_ 8 (d := d8) rfl), He.glo_ok X G (cc.fact 33 rfl)⟩
  F_tree_text := ⟨(cc.def_ 9 (d := d9) rfl), He.glo_ok X G (cc.fact 34 rfl)⟩
  F_made_tree := ⟨(cc.def_ 10 (d := d10) rfl), He.glo_ok X G (cc.fact 35 rfl)⟩
  F_resolved := ⟨(cc.def_ 11 (d := d11) rfl), He.glo_ok X G (cc.fact 36 rfl)⟩
  F_narrowest_trees := ⟨(cc.def_ 12 (d := d12) rfl), He.glo_ok X G (cc.fact 37 rfl)⟩
  F_narrowest := ⟨(cc.def_ 13 (d := d13) rfl), He.glo_ok X G (cc.fact 38 rfl)⟩
  F__law_stream := ⟨(cc.def_ 14 (d := d14) rfl), He.glo_ok X G (cc.fact 39 rfl)⟩
  F__law_draw := ⟨(cc.def_ 15 (d := d15) rfl), He.glo_ok X G (cc.fact 40 rfl)⟩
  F__law_pick := ⟨(cc.def_ 16 (d := d16) rfl), He.glo_ok X G (cc.fact 41 rfl)⟩
  F__law_word := ⟨(cc.def_ 17 (d := d17) rfl), He.glo_ok X G (cc.fact 42 rfl)⟩
  F__law_name := ⟨(cc.def_ 18 (d := d18) rfl), He.glo_ok X G (cc.fact 43 rfl)⟩
  F__law_atom := ⟨(cc.def_ 19 (d := d19) rfl), He.glo_ok X G (cc.fact 44 rfl)⟩
  F__law_form := ⟨(cc.def_ 20 (d := d20) rfl), He.glo_ok X G (cc.fact 45 rfl)⟩
  F__law_letter := ⟨(cc.def_ 21 (d := d21) rfl), He.glo_ok X G (cc.fact 46 rfl)⟩
  F__law_mix := ⟨(cc.def_ 22 (d := d22) rfl), He.glo_ok X G (cc.fact 47 rfl)⟩
  F__law_parts := ⟨(cc.def_ 23 (d := d23) rfl), He.glo_ok X G (cc.fact 48 rfl)⟩
  F__law_filled := ⟨(cc.def_ 24 (d := d24) rfl), He.glo_ok X G (cc.fact 49 rfl)⟩
  F__law_matched := ⟨(cc.def_ 25 (d := d25) rfl), He.glo_ok X G (cc.fact 50 rfl)⟩
  F__law_plain_forms := ⟨(cc.def_ 26 (d := d26) rfl), He.glo_ok X G (cc.fact 51 rfl)⟩
  F__law_opened_up := ⟨(cc.def_ 27 (d := d27) rfl), He.glo_ok X G (cc.fact 52 rfl)⟩
  F__law_planted := ⟨(cc.def_ 28 (d := d28) rfl), He.glo_ok X G (cc.fact 53 rfl)⟩
  F__law_is_first := ⟨(cc.def_ 29 (d := d29) rfl), He.glo_ok X G (cc.fact 54 rfl)⟩
  g_RoadError := He.glo_ok X G (cc.fact 56 rfl)
  r_RoadError := rexB_ok (exl_ok hx 3 rfl)
  X_BadAtom := ⟨He.glo_ok X G (cc.fact 58 rfl), oexB_ok (exl_ok hx 4 rfl), He.noat_ok (cc.fact 61 rfl), ⟨(cc.def_ 31 (d := d31) rfl), He.meth_ok (cc.fact 60 rfl)⟩, xfB_ok (exl_ok hx 5 rfl), He.exm_ok (cc.fact 59 rfl)⟩
  X_BadForm := ⟨He.glo_ok X G (cc.fact 62 rfl), oexB_ok (exl_ok hx 6 rfl), He.noat_ok (cc.fact 65 rfl), ⟨(cc.def_ 32 (d := d32) rfl), He.meth_ok (cc.fact 64 rfl)⟩, xfB_ok (exl_ok hx 7 rfl), He.exm_ok (cc.fact 63 rfl)⟩
  X_BadKey := ⟨He.glo_ok X G (cc.fact 66 rfl), oexB_ok (exl_ok hx 8 rfl), He.noat_ok (cc.fact 69 rfl), ⟨(cc.def_ 33 (d := d33) rfl), He.meth_ok (cc.fact 68 rfl)⟩, xfB_ok (exl_ok hx 9 rfl), He.exm_ok (cc.fact 67 rfl)⟩
  X_BadText := ⟨He.glo_ok X G (cc.fact 70 rfl), oexB_ok (exl_ok hx 10 rfl), He.noat_ok (cc.fact 73 rfl), ⟨(cc.def_ 34 (d := d34) rfl), He.meth_ok (cc.fact 72 rfl)⟩, xfB_ok (exl_ok hx 11 rfl), He.exm_ok (cc.fact 71 rfl)⟩
  f_Reader := (exl_ok hx 12 rfl)
  Y_Reader := isiB_ok (exl_ok hx 13 rfl)
  k_Reader := He.cls_ok (cc.fact 75 rfl)
  g_Reader := He.glo_ok X G (cc.fact 74 rfl)
  n_Reader_signs := He.noat_ok (cc.fact 76 rfl)
  n_Reader_at := He.noat_ok (cc.fact 77 rfl)
  n_Reader_begun := He.noat_ok (cc.fact 78 rfl)
  J_Reader := He.mkr_ok (cc.fact 80 rfl)
  M_Reader_init := ⟨(cc.def_ 35 (d := d35) rfl), He.meth_ok (cc.fact 79 rfl)⟩
  M_Reader_takes := ⟨(cc.def_ 36 (d := d36) rfl), He.meth_ok (cc.fact 81 rfl)⟩
  M_Reader_word_here := ⟨(cc.def_ 37 (d := d37) rfl), He.meth_ok (cc.fact 82 rfl)⟩
  M_Reader_next_atom := ⟨(cc.def_ 38 (d := d38) rfl), He.meth_ok (cc.fact 83 rfl)⟩
  M_Reader_closed := ⟨(cc.def_ 39 (d := d39) rfl), He.meth_ok (cc.fact 84 rfl)⟩
  M_Reader_whole := ⟨(cc.def_ 40 (d := d40) rfl), He.meth_ok (cc.fact 85 rfl)⟩
  f_Letter := (exl_ok hx 14 rfl)
  Y_Letter := isiB_ok (exl_ok hx 15 rfl)
  k_Letter := He.cls_ok (cc.fact 87 rfl)
  g_Letter := He.glo_ok X G (cc.fact 86 rfl)
  n_Letter_tree := He.noat_ok (cc.fact 88 rfl)
  I_Letter := ⟨(cc.def_ 41 (d := d41) rfl), He.mkr_ok (cc.fact 90 rfl), He.glo_ok X G (cc.fact 86 rfl), He.cls_ok (cc.fact 87 rfl)⟩
  S_Letter_of := sh_ok (cz.def_ 0 (d := e0) rfl) (He.glo_ok X G (cc.fact 86 rfl)) (exl_ok hx 16 rfl)
  S_Letter_read := sh_ok (cz.def_ 1 (d := e1) rfl) (He.glo_ok X G (cc.fact 86 rfl)) (exl_ok hx 17 rfl)
  M_Letter_form := ⟨(cc.def_ 42 (d := d42) rfl), He.meth_ok (cc.fact 91 rfl)⟩
  M_Letter_written := ⟨(cc.def_ 43 (d := d43) rfl), He.meth_ok (cc.fact 92 rfl)⟩
  M_Letter_unknowns := ⟨(cc.def_ 44 (d := d44) rfl), He.meth_ok (cc.fact 93 rfl)⟩
  M_Letter_add := ⟨(cc.def_ 45 (d := d45) rfl), He.meth_ok (cc.fact 94 rfl)⟩
  M_Letter_mul := ⟨(cc.def_ 46 (d := d46) rfl), He.meth_ok (cc.fact 95 rfl)⟩
  M_Letter_xor := ⟨(cc.def_ 47 (d := d47) rfl), He.meth_ok (cc.fact 96 rfl)⟩
  M_Letter_invert := ⟨(cc.def_ 48 (d := d48) rfl), He.meth_ok (cc.fact 97 rfl)⟩
  M_Letter_pos := ⟨(cc.def_ 49 (d := d49) rfl), He.meth_ok (cc.fact 98 rfl)⟩
  M_Letter_neg := ⟨(cc.def_ 50 (d := d50) rfl), He.meth_ok (cc.fact 99 rfl)⟩
  M_Letter_eq := ⟨(cc.def_ 51 (d := d51) rfl), He.meth_ok (cc.fact 100 rfl)⟩
  M_Letter_lt := ⟨(cc.def_ 52 (d := d52) rfl), He.meth_ok (cc.fact 101 rfl)⟩
  M_Letter_le := ⟨(cc.def_ 53 (d := d53) rfl), He.meth_ok (cc.fact 102 rfl)⟩
  M_Letter_gt := ⟨(cc.def_ 54 (d := d54) rfl), He.meth_ok (cc.fact 103 rfl)⟩
  M_Letter_ge := ⟨(cc.def_ 55 (d := d55) rfl), He.meth_ok (cc.fact 104 rfl)⟩
  M_Letter_contains := ⟨(cc.def_ 56 (d := d56) rfl), He.meth_ok (cc.fact 105 rfl)⟩
  M_Letter_len := ⟨(cc.def_ 57 (d := d57) rfl), He.meth_ok (cc.fact 106 rfl)⟩
theorem facts {P : Program} {w : World} {K : PySem.W.Frag} {h : Heap} {mg : Str → Option Value} {f : Addr} (X : K.In h) (G : h.Ns mainGlobals mg) (hfa : mg ("law" : Str) = some (.ref f)) (c : SaysZ fa fn ts exq fs w K) :
    ∃ fd : FuncData, (∀ (s : Shared) (v : Value), BindsTo s fd ⟨[v], []⟩ [("_law_script", v)]) ∧ ∀ base : Heap, K.In base → base.Ns mainGlobals mg → FnOk P w K mg base CX0 40 f fd ["_law_script"] (spLaw K) := by
  have cc := c.y.t.d
  have T := tx_ok X G c.y.t cc c.s c.y.more
  obtain ⟨fd, F⟩ := cc.def_ 30 (d := d30) rfl
  have e := hfa.symm.trans (He.glo_ok X G (cc.fact 55 (f := .glo "law") rfl))
  cases e
  have b := FunD.bindsA (ps := ["_law_script"]) F fun _ _ _ _ _ _ us hl => match us, hl with | [_], _ => rfl
  exact ⟨fd, fun s v => b s [v] rfl, fun base _ _ => ok_law F T⟩
end Rd
open PySem PySem.W PySem.Calls PyProof.Rows
set_option maxRecDepth 100000 in
set_option maxHeartbeats 0 in
theorem PySem.Challenge.cw_openroads_k12_whole_planted_fillings_holds : PySem.Challenge.rw_openroads_k12_whole_planted_fillings.Holds := by
  w_on; o_law
  refine HandSHeadRun.head_any (r := OpenLaw.row PySem.Challenge.rw_openroads_k12_whole_planted_fillings) (q := Rd.qv) (H := Rd.hk) (ob := Rd.ob) (M := 4000) (loose := Rd.loo) (d := HandSHeadRun.topDef (OpenLaw.row PySem.Challenge.rw_openroads_k12_whole_planted_fillings).prog 46) (kwd := []) Rd.ob_eq
    (by kernel_rfl) (fun s => by kernel_rfl) Rd.run (by kernel_rfl) (by kernel_rfl) (by kernel_rfl) (by rfl) (by first | assumption | decide +kernel) (by decide +kernel) ⟨rfl, rfl, rfl, rfl, rfl, by decide +kernel⟩ ?hw ?hc
  case hw => w_witness2
  case hc =>
    refine L2.walk_ofE (l := PySem.Challenge.rw_openroads_k12_whole_planted_fillings) (n := 63) (k := 40) (x := "_law_script") (CX := L2.CX0) rfl (by decide) (by kernel_rfl) ⟨rfl, by decide, by decide⟩ ?F (fun _ _ _ _ z => z)
    intro w mg fa h Y G hmg0
    obtain ⟨K, KX, c⟩ := Y
    have hmg : mg ("law" : PySem.Str) = some (.ref fa) := by
      have e : (HandSHeadRun.topDef (OpenLaw.row PySem.Challenge.rw_openroads_k12_whole_planted_fillings).prog 46).name = ("law" : PySem.Str) := by kernel_rfl
      rw [← e]
      exact hmg0
    obtain ⟨fd, hb, hF⟩ := Rd.facts (P := (PySem.Challenge.rw_openroads_k12_whole_planted_fillings).prog) (w := w) KX G hmg c
    exact ⟨K, fd, Rd.spLaw K, KX, hb, fun H a ns hl _ hS => ⟨a, ns, rfl, hS, hl, fun _ => rfl⟩, hF⟩
