import PyProof.Rows.All
import Wide.All
import OpenK.AllK
import Wide.FinOn
import KE.KStateDown
import Lean
import HandS.ForMost
import HandS.ForExc
import HandS.Flow
import HandS.StrMore
import HandS.Defaults
import HandS.ExcInit
import HandS.ExcField
import HandS.More
import HandS.HeadHook3
import PyProof.ListStr
import HandS.Head0
import HandS.Head1
import HandS.Head2
import HandS.HeadEnd
import HandS.Zip
import HandS.FStr
import HandS.StrMore
import HandS.Codes
import HandS.OwnEq
import HandS.NoneIn
import HandS.Small
import HandS.HotCalls
import HandS.ExcInitHot
import PyProof.InstEq
import HandS.IsInst
import HandS.HeadNt
import HandS.Deep
import HandS.TupAny
import KE.KEqDict
import HandS.DictComp
import HandS.DeepEq
import HandS.List
import HandS.SetKeys
import KE.GoesNew
import KE.GoesMore
import PyProof.AutoSeq1
import HandS.Sort
import KE.KSortTupAny
import KE.KOpsOwn
import PyProof.Rows.SortShellAny
import HandS.Set
import HandS.SetFor
import HandS.SetBool
import HandS.TupLe
import HandS.WordsDict
import KE.KDictList
import PyProof.SetRoads
import HandS.ExcCtx
import HandS.Comp
import KE.GoesRaise
import KE.GoesComp
import KE.KIsAll
import KE.KExcIs
import HandS.Base
import HandS.Call
import HandS.Exc
import HandS.ExcIs
import HandS.Property
import PySem.Challenge.RW_openroads_k31_errors_made
set_option Elab.async false
set_option linter.all false
set_option maxRecDepth 100000
set_option maxHeartbeats 4000000
namespace Rd
open PySem PySem.Spec PyProof.Rows L2
/-- a function of the module by its name: promise, binding, place -/
structure Fk (P : Program) (w : World) (K : PySem.W.Frag) (mg : Str → Option Value) (base : Heap) (CX : CXT) (k : Nat) (x : Str) (ps : List Str) (sp : Sp) : Prop where
  ex : ∃ fd, FnOk P w K mg base CX k (He.ga K x) fd ps sp ∧ Binds K fd ps []
  g : mg x = some (.ref (He.ga K x))
  kp : PySem.W.keepIn K (.ref (He.ga K x)) = true
/-- what the head tells of a function of the module -/
structure Fh (K : PySem.W.Frag) (mg : Str → Option Value) (x : Str) (st : Stmt) : Prop where
  ex : ∃ fd, FunD K x x (defArgs st) (defBody st) (defScope st) [] [] (He.ga K x) fd
  g : mg x = some (.ref (He.ga K x))
section
variable {P : Program} {w : World} {K : PySem.W.Frag} {mg : Str → Option Value} {base : Heap} {CX : CXT} {k : Nat} {x : Str} {ps N : List Str} {sp : Sp} {st : Stmt}
theorem Fh.ok (F : Fh K mg x st) (S : FnScope N ps (defScope st))
    (hb : ∀ (kV doc pm : Value) (an : Option Addr) (cdv ct : Value) (us : List Value), us.length = ps.length → bindArgs (PySem.W.fnOf x x (defArgs st) (defBody st) (defScope st) .none kV doc pm an cdv ct) ⟨us, []⟩ = pure (ps.zip us))
    (len : ∀ vs H Q E, sp vs H Q E → vs.length = ps.length)
    (hbody : ∀ (cdv : Value) (A : Around) (outer : List Env) (s : Shared) (H : Hp) (vs : List V) (Q : VK) (E : XK), Room k (A.deeper (envOfC x (defScope st) s.heap.objs.size (He.ga K x) cdv)) → sp vs H Q E →
      ∃ t, PSs (cxOf CX P w K mg base N x (defScope st) (He.ga K x) cdv A outer s H E) (defBody st) t ∧ t { nx := fun _ H' => Q .non H', rt := Q } (start N vs) H) : Fk P w K mg base CX (k + 1) x ps sp := by
  obtain ⟨fd, F'⟩ := F.ex
  exact ⟨⟨fd, F'.ok S len hbody, F'.bindsN hb⟩, F.g, F'.kp⟩
/-- no exception leaves -/
theorem Fh.ok0 (F : Fh K mg x st) (S : FnScope N ps (defScope st))
    (hb : ∀ (kV doc pm : Value) (an : Option Addr) (cdv ct : Value) (us : List Value), us.length = ps.length → bindArgs (PySem.W.fnOf x x (defArgs st) (defBody st) (defScope st) .none kV doc pm an cdv ct) ⟨us, []⟩ = pure (ps.zip us))
    (len : ∀ vs H Q E, sp vs H Q E → vs.length = ps.length)
    (hbody : ∀ (cdv : Value) (A : Around) (outer : List Env) (s : Shared) (H : Hp) (vs : List V) (Q : VK) (E : XK), Room k (A.deeper (envOfC x (defScope st) s.heap.objs.size (He.ga K x) cdv)) → sp vs H Q E →
      ∃ t, PSs (cxOf CX0 P w K mg base N x (defScope st) (He.ga K x) cdv A outer s H E).nox (defBody st) t ∧ t { nx := fun _ H' => Q .non H', rt := Q } (start N vs) H) : Fk P w K mg base CX0 (k + 1) x ps sp :=
  F.ok S hb len fun cdv A outer s H vs Q E hr h => by
    obtain ⟨t, h1, h2⟩ := hbody cdv A outer s H vs Q E hr h
    exact ⟨t, h1.nox, h2⟩
theorem Fk.mono {j : Nat} (F : Fk P w K mg base CX j x ps sp) (h : j ≤ k) : Fk P w K mg base CX k x ps sp := by
  obtain ⟨⟨fd, a, b⟩, c, d⟩ := F
  exact ⟨⟨fd, a.mono h, b⟩, c, d⟩
end
section
variable {X : Cx} {CX : CXT} {k : Nat} {ps : List Str} {sp : Sp} {E : XK} {x : Str} {p pos : Pos} {e : Expr} {es : List Expr} {t : TA}
theorem pe_fk (F : Fk X.prog X.w X.K X.mg X.base CX k x ps sp) (hr : Room k X.A) (hg : Gl X x) (hx : Passes CX X E)
    (ha : PA X (e :: es) t) (hdb : (x == ("__debug__" : Str)) = false := by decide) (he : starEach (e :: es) X.env = (false, eval e X.env) :: starEach es X.env := by rfl) (hpl : (backTo pos (starEach es X.env)).any (·.1) = false := by rfl) :
    PE X (.Call (.Name x p) (e :: es) [] pos) (tCall sp [] E t) := by
  obtain ⟨⟨fd, a, b⟩, c, d⟩ := F
  exact pe_call a hr hg c d b .nil hx ha hdb he hpl
end
end Rd
namespace Rd
open PySem PySem.Spec PyProof.Rows L2
/-- an exception class over ValueError, as OexC wants it -/
def oexB (K : PySem.W.Frag) (x : Str) : Bool := (match K.lookup (He.ga K x) with
  | some ⟨.type c, _, .cls cd, sl⟩ => decide (c = "type") && (match cd.mro, sl.toList with
    | .ref C' :: bm, [_, _, _, _, some (.builtin n), _] => decide (C' = He.ga K x) && (decide (n = "ValueError.__new__") && (!cd.hasDel && (cd.hasDict && PySem.HandSPX.refsVE bm)))
    | _, _ => false)
  | _ => false) && (He.eqO (PySem.W.findIn K (.ref (He.ga K x)) "__setattr__") (some (some (.builtin "object.__setattr__"))) && (decide (PySem.W.subIn K (.ref (He.ga K x)) (.type "BaseException") = some true) && (decide (PySem.W.typeIn K (.ref (He.ga K x)) = some (.type "type")) && PySem.W.keepIn K (.ref (He.ga K x)))))
theorem oexB_ok {K : PySem.W.Frag} {x : Str} (h : oexB K x = true) : OexC K (He.ga K x) := by
  obtain ⟨h1, h⟩ := He.ba h
  obtain ⟨h2, h⟩ := He.ba h
  obtain ⟨h3, h⟩ := He.ba h
  obtain ⟨h4, h5⟩ := He.ba h
  refine ⟨?_, He.eqO_ok h2, of_decide_eq_true h3, of_decide_eq_true h4, h5⟩
  cases e : K.lookup (He.ga K x) with
  | none => rw [e] at h1; cases h1
  | some o =>
    rw [e] at h1
    obtain ⟨oc, od, dt, sl⟩ := o
    cases oc with
    | type c =>
      cases dt with
      | cls cd =>
        obtain ⟨h6, h7⟩ := He.ba (show (decide (c = "type") && (match cd.mro, sl.toList with
          | .ref C' :: bm, [_, _, _, _, some (.builtin n), _] => decide (C' = He.ga K x) && (decide (n = "ValueError.__new__") && (!cd.hasDel && (cd.hasDict && PySem.HandSPX.refsVE bm)))
          | _, _ => false)) = true from h1)
        have ec : c = "type" := of_decide_eq_true h6
        subst ec
        obtain ⟨nm, bs, mro, ns, qn, hd, sn, sb, ab, col, del⟩ := cd
        obtain ⟨sl⟩ := sl
        simp only at h7
        split at h7
        · obtain ⟨h8, h9⟩ := He.ba h7
          obtain ⟨h10, h11⟩ := He.ba h9
          obtain ⟨h12, h13⟩ := He.ba h11
          obtain ⟨h14, h15⟩ := He.ba h13
          rename_i C' bm k0 k1 k2 k3 n k5
          have e1 : C' = He.ga K x := of_decide_eq_true h8
          have e2 : n = "ValueError.__new__" := of_decide_eq_true h10
          have e3 : del = false := by simpa using h12
          subst e2 e3
          have e4 : hd = true := h14
          subst e4
          rw [e1]
          exact ⟨_, _, _, _, bm, _, _, _, _, _, _, _, _, _, _, rfl, h15⟩
        · cases h7
      | _ => cases h1
    | _ => cases dt <;> cases h1
end Rd
namespace Rd
open PySem L2
theorem Same.upd {H : Hp} {p : Addr} {o : HO} (h : H p = none) : Same H (L2.upd H p o) := fun a u e => by rw [upd_ne (ne_of_none e h)]; exact e
end Rd
namespace Rd
open PySem L2
theorem seqAsg {te : TE} {g : TG} {u : TS} {D : Ends} {σ : St} {H : Hp} (h : te σ H fun x H1 => g x σ H1 (u D)) : tSeq (tAsg te g) u D σ H := h
theorem gName_k {i : Nat} {v : V} {σ : St} {H : Hp} {R : St → Hp → Prop} (h : R (σ.set i (some v)) H) : gName i v σ H R := h
end Rd
namespace Rd
open PySem L2
theorem nxt {D : Ends} {σ : St} {H : Hp} (h : D.nx σ H) : tNext D σ H := h
end Rd
namespace Rd
open PySem L2
/-- C0.__init__ read off the class C0 -/
structure REx (K : PySem.W.Frag) (C0 : Addr) : Prop where
  sga : PySem.W.specialIn K (.ref C0) "__getattribute__" = some (some (.builtin "type.__getattribute__"))
  ty : PySem.W.typeIn K (.ref C0) = some (.type "type")
  rd : PySem.W.readsIn K C0 (.type "type") = true
  fc : PySem.W.findCls K (.ref C0) (.type "type") "__init__" = some (.val (.builtin "ValueError.__init__"))
def rexB (K : PySem.W.Frag) (x : Str) : Bool := He.eqO (PySem.W.specialIn K (.ref (He.ga K x)) "__getattribute__") (some (some (.builtin "type.__getattribute__"))) && (decide (PySem.W.typeIn K (.ref (He.ga K x)) = some (.type "type")) && (PySem.W.readsIn K (He.ga K x) (.type "type") &&
  (match PySem.W.findCls K (.ref (He.ga K x)) (.type "type") "__init__" with
    | some (.val (.builtin n)) => decide (n = "ValueError.__init__")
    | _ => false)))
theorem rexB_ok {K : PySem.W.Frag} {x : Str} (h : rexB K x = true) : REx K (He.ga K x) := by
  obtain ⟨h1, h⟩ := He.ba h
  obtain ⟨h2, h⟩ := He.ba h
  obtain ⟨h3, h4⟩ := He.ba h
  refine ⟨He.eqO_ok h1, of_decide_eq_true h2, h3, ?_⟩
  split at h4
  · rename_i n e
    rw [e, of_decide_eq_true h4]
  · cases h4
section
variable {X : Cx} {e : Expr} {es : List Expr} {ta : TA} {p1 p2 pos : Pos}
theorem pe_reinit {pl : Sem Bool} {x : Str} {C0 : Addr} (hg : Gl X x) (hm : X.mg x = some (.ref C0)) (R0 : REx X.K C0) (ha : PA X (e :: es) ta) (hd : (x == ("__debug__" : Str)) = false := by decide)
    (hc : eval (.Call (.Attribute (.Name x p1) "__init__" p2) (e :: es) [] pos) X.env = (do
      let ov ← eval (.Name x p1) X.env
      standAt p2.atName
      let (f, first) ← holding [ov] (getMethod ov "__init__" pl)
      callWith pos f first (backTo pos (starEach (e :: es) X.env)) (backToKw pos (keywordEach [] X.env))) := by rfl)
    (he : starEach (e :: es) X.env = (false, eval e X.env) :: starEach es X.env := by rfl) (hpl : (backTo pos (starEach es X.env)).any (·.1) = false := by rfl) :
    PE X (.Call (.Attribute (.Name x p1) "__init__" p2) (e :: es) [] pos) (tVeI X.K ta) := by
  refine ⟨fun pins s σ H Q I h => ?_⟩
  refine PySem.W.methodCall_KW (ld_glob I hg hm ?_ hd) hc
  obtain ⟨m, fr⟩ := I.fr
  refine PySem.W.method_of_cls fr I.ok.mod.kin R0.sga (PySem.W.cls_val fr I.ok.mod.kin R0.ty R0.rd R0.fc (by decide +kernel) ?_)
  show wpAny _ _ (callWith pos (Value.builtin "ValueError.__init__") [] (backTo pos (starEach (e :: es) X.env)) []) _ _ _
  refine PyProof.Rows.callWith_method1 (thn (ha.run pos pins _ σ H _ (I.tok _) h) fun us s1 ⟨vs, H1, I1, r1, a, C, ws, ev, hl, T, ea, q⟩ => ?_) he hpl
  subst ev
  cases r1 with
  | @cons _ u0 _ ur ra rw' =>
    obtain rfl : u0 = Value.ref a := ra
    have hlen : ur.length ≤ sizeLine := by
      rw [← Paired.length rw', sizeLine_eq]
      omega
    exact oinit_ok T I1 ea hlen fun s' J => ⟨.non, H1, J, rfl, q⟩
end
/-- the __init__ of an exception with one field -/
def spX1 (K : PySem.W.Frag) (f : Str) : Sp := fun vs H Q _ => ∃ (a C : Addr) (v : V), vs = [.ref a, v] ∧ OexC K C ∧ PySem.W.findIn K (.ref C) f = some none ∧ H a = some (exo a C none) ∧
  ∀ dx, H dx = none → dx ≠ a → Q .non (upd (upd H dx (exd dx [(f, v)])) a (exo a C (some dx)))
structure Mh (K : PySem.W.Frag) (c m q : Str) (st : Stmt) : Prop where
  ex : ∃ fd, FunD K m q (defArgs st) (defBody st) (defScope st) [] [] (He.ma K (He.ga K c) m) fd
  me : Meth K (He.ga K c) m (He.ma K (He.ga K c) m)
structure Fm (P : Program) (w : World) (K : PySem.W.Frag) (mg : Str → Option Value) (base : Heap) (CX : CXT) (k : Nat) (c m : Str) (ps : List Str) (sp : Sp) : Prop where
  ex : ∃ fd, FnOk P w K mg base CX k (He.ma K (He.ga K c) m) fd ps sp ∧ Binds K fd ps []
  me : Meth K (He.ga K c) m (He.ma K (He.ga K c) m)
section
variable {P : Program} {w : World} {K : PySem.W.Frag} {mg : Str → Option Value} {base : Heap} {CX : CXT} {k : Nat} {c m q : Str} {ps N : List Str} {sp : Sp} {st : Stmt}
theorem Mh.ok (F : Mh K c m q st) (S : FnScope N ps (defScope st))
    (hb : ∀ (kV doc pm : Value) (an : Option Addr) (cdv ct : Value) (us : List Value), us.length = ps.length → bindArgs (PySem.W.fnOf m q (defArgs st) (defBody st) (defScope st) .none kV doc pm an cdv ct) ⟨us, []⟩ = pure (ps.zip us))
    (len : ∀ vs H Q E, sp vs H Q E → vs.length = ps.length)
    (hbody : ∀ (cdv : Value) (A : Around) (outer : List Env) (s : Shared) (H : Hp) (vs : List V) (Q : VK) (E : XK), Room k (A.deeper (PyProof.Rows.envOfC q (defScope st) s.heap.objs.size (He.ma K (He.ga K c) m) cdv)) → sp vs H Q E →
      ∃ t, PSs (cxOf CX P w K mg base N q (defScope st) (He.ma K (He.ga K c) m) cdv A outer s H E) (defBody st) t ∧ t { nx := fun _ H' => Q .non H', rt := Q } (start N vs) H) : Fm P w K mg base CX (k + 1) c m ps sp := by
  obtain ⟨fd, F'⟩ := F.ex
  exact ⟨⟨fd, F'.ok S len hbody, F'.bindsN hb⟩, F.me⟩
theorem Mh.ok0 (F : Mh K c m q st) (S : FnScope N ps (defScope st))
    (hb : ∀ (kV doc pm : Value) (an : Option Addr) (cdv ct : Value) (us : List Value), us.length = ps.length → bindArgs (PySem.W.fnOf m q (defArgs st) (defBody st) (defScope st) .none kV doc pm an cdv ct) ⟨us, []⟩ = pure (ps.zip us))
    (len : ∀ vs H Q E, sp vs H Q E → vs.length = ps.length)
    (hbody : ∀ (cdv : Value) (A : Around) (outer : List Env) (s : Shared) (H : Hp) (vs : List V) (Q : VK) (E : XK), Room k (A.deeper (PyProof.Rows.envOfC q (defScope st) s.heap.objs.size (He.ma K (He.ga K c) m) cdv)) → sp vs H Q E →
      ∃ t, PSs (cxOf CX0 P w K mg base N q (defScope st) (He.ma K (He.ga K c) m) cdv A outer s H E).nox (defBody st) t ∧ t { nx := fun _ H' => Q .non H', rt := Q } (start N vs) H) : Fm P w K mg base CX0 (k + 1) c m ps sp :=
  F.ok S hb len fun cdv A outer s H vs Q E hr h => by
    obtain ⟨t, h1, h2⟩ := hbody cdv A outer s H vs Q E hr h
    exact ⟨t, h1.nox, h2⟩
end
structure Xh (K : PySem.W.Frag) (mg : Str → Option Value) (x f q : Str) (st : Stmt) : Prop where
  g : mg x = some (.ref (He.ga K x))
  oex : OexC K (He.ga K x)
  no : PySem.W.findIn K (.ref (He.ga K x)) f = some none
  init : Mh K x "__init__" q st
  xf : XfC K (He.ga K x)
  em : PySem.W.exmOne K (.ref (He.ga K x)) (.ref (He.ga K x)) = some true
structure Ih (K : PySem.W.Frag) (mg : Str → Option Value) (c q : Str) (st : Stmt) (dvs : List V) : Prop where
  ex : ∃ fd, FunD K "__init__" q (defArgs st) (defBody st) (defScope st) dvs [] (He.ma K (He.ga K c) "__init__") fd
  mkr : Mk K (He.ga K c) (He.ma K (He.ga K c) "__init__")
  g : mg c = some (.ref (He.ga K c))
  cl : Cls K (He.ga K c)
structure Fi (P : Program) (w : World) (K : PySem.W.Frag) (mg : Str → Option Value) (base : Heap) (CX : CXT) (k : Nat) (c : Str) (ps : List Str) (sp : Sp) (v : V) : Prop where
  ex : ∃ fd, FnOk P w K mg base CX k (He.ma K (He.ga K c) "__init__") fd ps sp ∧ Binds K fd ps [] ∧ ∃ ds, Vals [v] ds ∧ Binds K fd ps ds
  mkr : Mk K (He.ga K c) (He.ma K (He.ga K c) "__init__")
  g : mg c = some (.ref (He.ga K c))
section
variable {P : Program} {w : World} {K : PySem.W.Frag} {mg : Str → Option Value} {base : Heap} {CX : CXT} {k : Nat} {c q : Str} {ps N : List Str} {sp : Sp} {st : Stmt} {v : V}
theorem Ih.ok {n : Nat} (F : Ih K mg c q st [v]) (S : FnScope N ps (defScope st)) (hn : ps.length = n + 1)
    (hb1 : ∀ (T : Addr) (kV doc pm : Value) (an : Option Addr) (cdv ct : Value) (us its : List Value), us.length = n → its.length = 1 →
      ∃ k, bindArgs (PySem.W.fnOf "__init__" q (defArgs st) (defBody st) (defScope st) (.ref T) kV doc pm an cdv ct) ⟨us, []⟩ = seqItems? (.ref T) >>= k ∧ k (some its.toArray) = pure (ps.zip (us ++ its.drop 0)))
    (hb2 : ∀ (T : Addr) (kV doc pm : Value) (an : Option Addr) (cdv ct : Value) (us its : List Value), us.length = n + 1 → its.length = 1 →
      ∃ k, bindArgs (PySem.W.fnOf "__init__" q (defArgs st) (defBody st) (defScope st) (.ref T) kV doc pm an cdv ct) ⟨us, []⟩ = seqItems? (.ref T) >>= k ∧ k (some its.toArray) = pure (ps.zip (us ++ its.drop 1)))
    (len : ∀ vs H Q E, sp vs H Q E → vs.length = ps.length)
    (hbody : ∀ (cdv : Value) (A : Around) (outer : List Env) (s : Shared) (H : Hp) (vs : List V) (Q : VK) (E : XK), Room k (A.deeper (PyProof.Rows.envOfC q (defScope st) s.heap.objs.size (He.ma K (He.ga K c) "__init__") cdv)) → sp vs H Q E →
      ∃ t, PSs (cxOf CX P w K mg base N q (defScope st) (He.ma K (He.ga K c) "__init__") cdv A outer s H E) (defBody st) t ∧ t { nx := fun _ H' => Q .non H', rt := Q } (start N vs) H) : Fi P w K mg base CX (k + 1) c ps sp v := by
  obtain ⟨fd, F'⟩ := F.ex
  have b1 := F'.binds1 (ps := ps) n 0 (List.cons_ne_nil _ _) (by rw [hn]; rfl) hb1
  obtain ⟨ds, e, b2⟩ := F'.binds1 (ps := ps) (n + 1) 1 (List.cons_ne_nil _ _) (by rw [hn]; rfl) hb2
  cases e
  exact ⟨⟨fd, F'.ok S len hbody, b2, b1⟩, F.mkr, F.g⟩
end
end Rd
namespace Rd
open PySem L2
/-- what is reached from the module in n steps, each address once (what was seen: the bits of a number) -/
def seenB (st : List Addr × Nat) (a : Addr) : List Addr × Nat := bif Nat.beq (Nat.mod (Nat.shiftRight st.2 a) 2) 1 then st else (a :: st.1, Nat.lor st.2 (Nat.shiftLeft 1 a))
def stepB (g : Addr → Option Obj) (fr : List Addr) (m : Nat) : List Addr × Nat := (fr.flatMap fun a => match g a with
  | some o => He.refsD o
  | none => []).foldl seenB ([], m)
def goB (g : Addr → Option Obj) : Nat → List Addr → List Addr → Nat → List Addr
  | 0, all, _, _ => all
  | n + 1, all, fr, m => match stepB g fr m with
    | (xs, m') => goB g n (all ++ xs) xs m'
abbrev AlY : Type := He.AlT × Bool
structure SaysY (fa : List He.Fa) (fn : List He.DefD) (ts : List He.Tab) (ex : PySem.W.Frag → Bool) (w : World) (K : PySem.W.Frag) : Prop where
  t : He.SaysT fa fn ts w K
  more : ex K = true
def valY (fn : List He.DefD) (ts : List He.Tab) (w : World) : AlY := (He.valT fn ts w, true)
end Rd
namespace Rd
open PySem L2
theorem at0 {X : Cx} {σ : St} : PassesAt CX0 X σ E0 := fun _ _ _ _ _ _ h => h.elim
end Rd
namespace Rd
open PySem L2
structure IsiC (K : PySem.W.Frag) (C : Addr) : Prop where
  ha : PySem.W.findIn K (.ref C) "__class__" = some (some (.builtin "object.__class__"))
  hn : PySem.W.specialIn K (.builtin "object.__class__") "__get__" = some (some (.builtin "getset_descriptor.__get__"))
  htk : PySem.W.takesIn K (.builtin "object.__class__") = some true
  hm : PySem.W.mroIn K C (.type "object") = some true
  ne : PySem.W.findIn K (.ref C) "__ne__" = some (some (.builtin "object.__ne__"))
theorem IsiC.ty {K : PySem.W.Frag} {C : Addr} (h : IsiC K C) (cl : Cls K C) {H : Hp} {a dx : Addr} {fs : List (Str × V)} (e : H a = some (.ins C dx fs)) : TyX K H (.ref a) (.ref C) := .base (.ins e cl h.ha h.hn h.htk h.hm)
theorem pe_gcls {X : Cx} {x : Str} {pos : Pos} (hg : Gl X x) (hm : X.mg x = some (.ref (He.ga X.K x))) (hd : (x == ("__debug__" : Str)) = false := by decide) : PE X (.Name x pos) (tC (.ref (He.ga X.K x))) := pe_glob hg hm rfl hd
end Rd
namespace Rd
open PySem L2
def sfn (K : PySem.W.Frag) (c m : Str) : Addr := He5.wf K (He.ga K c) "staticmethod" m
structure Sh (K : PySem.W.Frag) (mg : Str → Option Value) (c m q : Str) (st : Stmt) : Prop where
  ex : ∃ fd, FunD K m q (defArgs st) (defBody st) (defScope st) [] [] (sfn K c m) fd
  g : mg c = some (.ref (He.ga K c))
  at_ : PySem.W.findCls K (.ref (He.ga K c)) (.type "type") m = some (.get (.builtin "staticmethod.__get__") (.ref (He.ma K (He.ga K c) m)) .none (.ref (He.ga K c)))
  rc : ∃ rest, PySem.W.recIn K (He.ma K (He.ga K c) m) "staticmethod" = some (.ref (sfn K c m) :: rest)
  sga : PySem.W.specialIn K (.ref (He.ga K c)) "__getattribute__" = some (some (.builtin "type.__getattribute__"))
  ty : PySem.W.typeIn K (.ref (He.ga K c)) = some (.type "type")
  rd : PySem.W.readsIn K (He.ga K c) (.type "type") = true
structure Fs (P : Program) (w : World) (K : PySem.W.Frag) (mg : Str → Option Value) (base : Heap) (CX : CXT) (k : Nat) (c m q : Str) (st : Stmt) (ps : List Str) (sp : Sp) : Prop where
  ex : ∃ fd, FnOk P w K mg base CX k (sfn K c m) fd ps sp ∧ Binds K fd ps [] ∧ PySem.W.keepIn K (.ref (sfn K c m)) = true
  sh : Sh K mg c m q st
section
variable {P : Program} {w : World} {K : PySem.W.Frag} {mg : Str → Option Value} {base : Heap} {CX : CXT} {k : Nat} {c m q : Str} {ps N : List Str} {sp : Sp} {st : Stmt}
theorem Sh.ok (F : Sh K mg c m q st) (S : FnScope N ps (defScope st))
    (hb : ∀ (kV doc pm : Value) (an : Option Addr) (cdv ct : Value) (us : List Value), us.length = ps.length → bindArgs (PySem.W.fnOf m q (defArgs st) (defBody st) (defScope st) .none kV doc pm an cdv ct) ⟨us, []⟩ = pure (ps.zip us))
    (len : ∀ vs H Q E, sp vs H Q E → vs.length = ps.length)
    (hbody : ∀ (cdv : Value) (A : Around) (outer : List Env) (s : Shared) (H : Hp) (vs : List V) (Q : VK) (E : XK), Room k (A.deeper (PyProof.Rows.envOfC q (defScope st) s.heap.objs.size (sfn K c m) cdv)) → sp vs H Q E →
      ∃ t, PSs (cxOf CX P w K mg base N q (defScope st) (sfn K c m) cdv A outer s H E) (defBody st) t ∧ t { nx := fun _ H' => Q .non H', rt := Q } (start N vs) H) : Fs P w K mg base CX (k + 1) c m q st ps sp := by
  obtain ⟨fd, F'⟩ := F.ex
  exact ⟨⟨fd, F'.ok S len hbody, F'.bindsN hb, F'.kp⟩, F⟩
end
abbrev AlZ : Type := AlY × He.AlD
structure SaysZ (fa : List He.Fa) (fn : List He.DefD) (ts : List He.Tab) (ex : PySem.W.Frag → Bool) (fs : List He5.DefA) (w : World) (K : PySem.W.Frag) : Prop where
  y : SaysY fa fn ts ex w K
  s : He5.SaysA [] fs K
def valZ (fn : List He.DefD) (ts : List He.Tab) (fs : List He5.DefA) (w : World) : AlZ := (valY fn ts w, He5.valA fs)
end Rd
namespace Rd
open PySem L2
theorem _root_.L2.Room.units65 {k : Nat} {A : Around} (r : Room k A) : A.units + 65 < cLine := by have := r.un; omega
end Rd
namespace Rd
open PySem L2
section
variable {X : Cx} {K : PySem.W.Frag}
theorem kIx {r : PySem.W.Frag → R2} (hK : X.K = K) (h : IxR X (r X.K)) : IxR X (r K) := hK ▸ h
theorem kOp {o : Value → Value → Sem Value} {r : PySem.W.Frag → R2} (hK : X.K = K) (h : OpR X o (r X.K)) : OpR X o (r K) := hK ▸ h
end
end Rd
namespace Rd
open PySem PySem.Spec L2
def DEq (K : PySem.W.Frag) (H : Hp) (x y : V) : Prop := ∃ d e, Dp K H x d ∧ Dp K H y e ∧ SeqAt.shaped d = true ∧ SeqAt.shaped e = true ∧ PyData.eqv d e = true
section
variable {X : Cx} {pins : List (Addr × Obj)} {σ : St} {H : Hp} {s : Shared}
theorem hits_dat (I : Inv X pins σ H s) {A : Around} (hu : A.units + 65 < cLine) {ls : List (Key × V)} {vb : List (Key × Value)} (rb : KV ls vb) {ks : List (Key × V)} {va : List (Key × Value)}
    (ra : KV ks va) : (∀ p ∈ ks, ∃ u, valV ls p.1 = some u ∧ DEq X.K H p.2 u) → PySem.W.KeqHits A.in1 s vb va true := by
  unfold KV at ra
  induction ra with
  | nil => intro _; exact .nil
  | @cons p q ps qs h t k =>
    intro hp
    obtain ⟨h1, h2⟩ := h
    obtain ⟨u, e, d, d', hd, he, sd, se, ev⟩ := hp p List.mem_cons_self
    have rr : RelO (some u) (valueAt vb p.1) := by rw [← e]; exact rb.val p.1
    obtain ⟨y, hy, ry⟩ := rr.some_of
    obtain ⟨key, v⟩ := q
    have h1' : p.1 = key := h1
    rw [h1'] at hy
    obtain ⟨as, r1⟩ := Dp.reads I d _ _ hd h2
    obtain ⟨bs, r2⟩ := Dp.reads I d' _ _ he ry
    have e := PySem.W.keq_at (A := A) r1 r2 sd se (by show A.units + 1 + 64 < cLine; omega)
    rw [ev] at e
    show PySem.W.KeqHits A.in1 s vb ((key, v) :: qs) (true && true)
    exact .hit hy e (k fun p' hm => hp p' (List.mem_cons_of_mem _ hm))
end
section
variable {X : Cx}
def rNeDD (K : PySem.W.Frag) : R2 := fun x y H Q => ∃ a b ks ls, x = .ref a ∧ y = .ref b ∧ H a = some (.dK ks) ∧ H b = some (.dK ls) ∧ ks.length = ls.length ∧ (∀ p ∈ ks, ∃ u, valV ls p.1 = some u ∧ DEq K H p.2 u) ∧ Q (.bl false) H
theorem op_neDD (hu : X.A.units + 65 < cLine) : OpR X (compareOp .NotEq) (rNeDD X.K) := by
  intro pins s σ H x y v u Q I rx ry h
  obtain ⟨a, b, ks, ls, rfl, rfl, ea, eb, hlen, hp, q⟩ := h
  obtain rfl : v = Value.ref a := rx
  obtain rfl : u = Value.ref b := ry
  obtain ⟨_, ya, va, ra, da⟩ := (show ObjOk X.prog X.w H s.heap a (.dK ks) from I.hok a _ ea)
  obtain ⟨_, yb, vb, rb, db⟩ := (show ObjOk X.prog X.w H s.heap b (.dK ls) from I.hok b _ eb)
  have hl : va.length = vb.length := by rw [← ra.length, ← rb.length]; exact hlen
  exact PySem.W.keq_ne (knd := mixKind X.prog X.w) (r := true) ya yb da db (by omega) (fun _ => hits_dat I hu rb ra hp) (fin_bl I q (by simp [hl]))
end
section
variable {X : Cx} {K : PySem.W.Frag}
theorem pg_tupk {es : List Expr} {k : Nat} {pos : Pos} {t : TGs} {n : Nat} (hK : X.K = K) (hc : X.calm = true) (h : PGs X es t)
    (hn : (assignEach es X.env).length = n := by rfl) (hst : (assignEach es X.env).findIdx? (·.1) = none := by rfl) : PG X (.Tuple es k pos) (gTup K n t) := by subst hK; exact pg_tup hc h hn hst
end
end Rd
namespace PySem
namespace AutoSeq1
end AutoSeq1
end PySem
namespace PySem.W
open Lean Elab Tactic Meta PySem PySem.Calls PyProof.Rows
end PySem.W
namespace Rd
open PySem PySem.Spec PyProof.Rows L2
def kt (e : Int × Value) : Str := match e.2 with | .str x _ => x | _ => Str.empty
/-- a row of such a set -/
def GT (w : World) (e : Int × Value) : Prop := ∃ x t, e.2 = Value.str x t ∧ e.1 = hashStr w x
/-- what a table must be so that it can be walked -/
structure Tb (w : World) (n : Nat) (t : SetTable) : Prop where
  sm : n < scanBound
  ft : t.fits n = true
  ri : Ris t.place.toList
  ld : w.params.followText "set-order" = true ∨ t.led = true
/-- a set of the texts l (in any order) at a -/
structure SetS (w : World) (h : Heap) (a : Addr) (l : List Str) : Prop where
  nd : l.Nodup
  ex : ∃ o es ep t, h.get? a = some o ∧ o.ExactSet ∧ o.data = .set es ep t ∧ (∀ e ∈ es.toList, GT w e) ∧ (es.toList.map kt).Perm l ∧ Tb w es.size t
theorem SetS.at {w : World} {h h' : Heap} {a : Addr} {l : List Str} (R : SetS w h a l) (k : ∀ o, h.get? a = some o → h'.get? a = some o) : SetS w h' a l := by
  obtain ⟨nd, o, es, ep, t, ho, r⟩ := R
  exact ⟨nd, o, es, ep, t, k o ho, r⟩
end Rd
namespace Rd
open PySem PySem.SeqAt
open PySem.AutoSeq1 (wpAny_loadPart')
open PySem.MeetsSeq PySem.MeetsSeq2 PySem.MeetsSeq3
open Ob (RcOp lexAt lexAt_succ lexAt_zero)
/-- the pairs ahead of j are equal -/
def Ahead (e : Nat → Bool) (j : Nat) : Prop := ∀ i, i < j → e i = true
theorem Ahead.more {e : Nat → Bool} {j : Nat} (h : Ahead e j) (q : e j = true) : Ahead e (j + 1) := fun i hi => by
  rcases Nat.lt_succ_iff_lt_or_eq.mp hi with z | z
  · exact h i z
  · rw [z]; exact q
end Rd
namespace Rd
open PySem PySem.Spec PyProof.Rows L2
theorem excC_kit {K : PySem.W.Frag} {D x : Addr} {ox : Obj} {od : Option Obj} (C : ExcC K D) : PySem.W.KitX K (.ref x) (.ref D) (fun h => PySem.W.InstAt h x ox D od) := by
  have hcl : (PySem.W.clsIn K D).isSome = true := by
    have h := C.hd
    obtain ⟨cd, hc, _⟩ := PySem.W.any_some h
    rw [hc]; rfl
  exact PySem.W.kitx_exc hcl C.hg C.hk C.hs C.ha C.hn C.ht C.hm
def excB (K : PySem.W.Frag) (D : Addr) : Bool := xfB K D && (He.eqO (PySem.W.findIn K (.ref D) "__class__") (some (some (.builtin "object.__class__"))) && (decide (PySem.W.specialIn K (.builtin "object.__class__") "__get__" = some (some (.builtin "getset_descriptor.__get__"))) && (decide (PySem.W.takesIn K (.builtin "object.__class__") = some true) && decide (PySem.W.mroIn K D (.type "object") = some true))))
theorem excB_ok {K : PySem.W.Frag} {D : Addr} (h : excB K D = true) : ExcC K D := by
  obtain ⟨h1, h⟩ := He.ba h
  obtain ⟨h2, h⟩ := He.ba h
  obtain ⟨h3, h⟩ := He.ba h
  obtain ⟨h4, h5⟩ := He.ba h
  have x := xfB_ok h1
  exact ⟨x.ga, x.gg, x.exC, x.hdC, He.eqO_ok h2, of_decide_eq_true h3, of_decide_eq_true h4, of_decide_eq_true h5⟩
end Rd
namespace Rd
open PySem PySem.Spec PyProof.Rows L2
structure X0h (K : PySem.W.Frag) (mg : Str → Option Value) (x q : Str) (st : Stmt) : Prop where
  g : mg x = some (.ref (He.ga K x))
  oex : OexC K (He.ga K x)
  init : Mh K x "__init__" q st
  em : PySem.W.exmOne K (.ref (He.ga K x)) (.ref (He.ga K x)) = some true
def spX0 (K : PySem.W.Frag) : Sp := fun vs H Q _ => ∃ (a C : Addr), vs = [.ref a] ∧ OexC K C ∧ H a = some (exo a C none) ∧ Q .non H
end Rd
namespace Rd
open PySem L2
def pfn (K : PySem.W.Frag) (c m : Str) : Addr := He5.wf K (He.ga K c) "property" m
structure Ph (K : PySem.W.Frag) (c m q : Str) (st : Stmt) : Prop where
  ex : ∃ fd, FunD K m q (defArgs st) (defBody st) (defScope st) [] [] (pfn K c m) fd
  pr : PropOf K (He.ga K c) m (He.ma K (He.ga K c) m) (pfn K c m)
structure Fp (P : Program) (w : World) (K : PySem.W.Frag) (mg : Str → Option Value) (base : Heap) (CX : CXT) (k : Nat) (c m : Str) (ps : List Str) (sp : Sp) : Prop where
  ex : ∃ fd, FnOk P w K mg base CX k (pfn K c m) fd ps sp ∧ Binds K fd ps []
  pr : PropOf K (He.ga K c) m (He.ma K (He.ga K c) m) (pfn K c m)
section
variable {P : Program} {w : World} {K : PySem.W.Frag} {mg : Str → Option Value} {base : Heap} {k : Nat} {c m q : Str} {ps N : List Str} {sp : Sp} {st : Stmt}
theorem Ph.ok0 (F : Ph K c m q st) (S : FnScope N ps (defScope st))
    (hb : ∀ (kV doc pm : Value) (an : Option Addr) (cdv ct : Value) (us : List Value), us.length = ps.length → bindArgs (PySem.W.fnOf m q (defArgs st) (defBody st) (defScope st) .none kV doc pm an cdv ct) ⟨us, []⟩ = pure (ps.zip us))
    (len : ∀ vs H Q E, sp vs H Q E → vs.length = ps.length)
    (hbody : ∀ (cdv : Value) (A : Around) (outer : List Env) (s : Shared) (H : Hp) (vs : List V) (Q : VK) (E : XK), Room k (A.deeper (PyProof.Rows.envOfC q (defScope st) s.heap.objs.size (pfn K c m) cdv)) → sp vs H Q E →
      ∃ t, PSs (cxOf CX0 P w K mg base N q (defScope st) (pfn K c m) cdv A outer s H E).nox (defBody st) t ∧ t { nx := fun _ H' => Q .non H', rt := Q } (start N vs) H) : Fp P w K mg base CX0 (k + 1) c m ps sp := by
  obtain ⟨fd, F'⟩ := F.ex
  refine ⟨⟨fd, F'.ok S len fun cdv A outer s H vs Q E hr h => ?_, F'.bindsN hb⟩, F.pr⟩
  obtain ⟨t, h1, h2⟩ := hbody cdv A outer s H vs Q E hr h
  exact ⟨t, h1.nox, h2⟩
end
end Rd
namespace PySem
namespace HandSPX
open Builtin Builtin.ObjectAttr
section
variable {M : Model} {A : Around} {E : Value → Shared → Prop} {h : Heap} {g : Array GenState} {d : Drawn} {t : Nat} {os : OsState}
variable {nm q : Str} {C N : Addr} {bs bm bmB : List Value} {hdct : Bool} {sn : List Str} {sub : List Value} {ab : Bool} {col : Option Bool} {dd : Option Addr} {k0 k1 k2 k3 k5 : Option Value} {B newId initId : String}
theorem check_new_ownK (F : ExcBaseFacts B newId initId bmB) (hT : ∀ X : String, bm.contains (.type X) = bmB.contains (.type X)) {kx : Str} {kv : Value} {Q : Unit → Shared → Prop}
    (hC : h.get? C = some (excClassObj nm q C N bs bm hdct sn sub ab col dd k0 k1 k2 k3 k5 newId)) (hq : Q () ⟨h, g, d, t, os⟩) : wpAny M A (checkBuiltinCall newId ⟨[.ref C], [(kx, kv)]⟩) Q E ⟨h, g, d, t, os⟩ := by
  have hcont : (Value.ref C :: bm).contains (.type B) = true := by rw [List.contains_cons, hT, F.hasB, Bool.or_true]
  have hstar := F.noStar
  simp only [checkBuiltinCall, F.newKind, F.newSplit, F.newRow]
  repeat (first | refine wpAny_loadPart_at hC ?_ | (refine wpAny_isSubtype_exc hC ?_; rw [hcont]) | refine wpAny_staticBase_exc hC ?_ | refine wpAny_madeBy_exc hC ?_ | simp only [bne_self_eq_false, Bool.false_eq_true, if_false] | wp_step)
  exact hq
end
section
variable {prog : Program} {w : World} {A : Around} {E : Value → Shared → Prop} {R : Result → Shared → Prop} {h : Heap} {g : Array GenState} {d : Drawn} {t : Nat} {os : OsState}
variable {nm q : Str} {C N : Addr} {bs bm bmB : List Value} {hdct : Bool} {sn : List Str} {sub : List Value} {ab : Bool} {col : Option Bool} {dd : Option Addr} {k0 k1 k2 k3 k5 : Option Value} {B newId initId : String}
theorem new_ownK (F : ExcBaseFacts B newId initId bmB) (hT : ∀ X : String, bm.contains (.type X) = bmB.contains (.type X)) {kx : Str} {kv : Value}
    (hC : h.get? C = some (excClassObj nm q C N bs bm hdct sn sub ab col dd k0 k1 k2 k3 k5 newId))
    (hq : R (.ok (.ret (.ref (h.objs.size + 1)))) ⟨(h.push { cls := .type "tuple", data := .seq ([] : List Value).toArray }).push
      { cls := .ref C, data := .fields #[.ref h.objs.size, .none, .none, .none, .bool false, .none] }, g, d, t, os⟩) :
    codeAny (model prog w) A (.builtin newId ⟨[.ref C], [(kx, kv)]⟩) R ⟨h, g, d, t, os⟩ := by
  have hends := F.ends
  have hrest : ([] : List Value).length ≤ sizeLine := Nat.zero_le _
  have hcB : (Value.ref C :: bm).contains (.type B) = true := by rw [List.contains_cons, hT, F.hasB, Bool.or_true]
  have hcA : (Value.ref C :: bm).contains (.type "AttributeError") = false := by rw [List.contains_cons, hT, F.noAttr]; rfl
  have hcN : (Value.ref C :: bm).contains (.type "NameError") = false := by rw [List.contains_cons, hT, F.noName]; rfl
  refine codeAny_builtinAt F.entry ?_
  unfold Builtin.«BaseException.__new__»
  refine wpAt_bind ?_
  show wpAt _ _ _ (stack >>= _) _ _ _
  refine wpAt_bind (wpAt_stack fun p below => wpAt_of_wpAny ?_)
  wp_walk
  refine wpAt_of_wpAny ?_
  rw [F.owner]
  repeat (first | with_reducible refine wpAny_madeHere_exc F.canon hC ?_ | with_reducible refine wpAny_loadPart_at hC ?_ | (with_reducible refine wpAny_isSubtype_exc hC ?_; first | rw [hcB] | rw [hcA] | rw [hcN]) | wp_step)
  show R _ _
  rw [Heap.size_push]
  exact hq
theorem type_call_ownK (F : ExcBaseFacts B newId initId bmB) (hT : ∀ X : String, bm.contains (.type X) = bmB.contains (.type X)) {kx : Str} {kv : Value} {fI : Addr} {Q : Fin → Shared → Prop}
    (hC : h.get? C = some (excClassObj nm q C N bs bm hdct sn sub ab col dd k0 k1 k2 k3 k5 newId))
    (hi : W.Looks (model prog w) h (typeLookup (.ref C) "__init__") (some (.ref fI))) (hb : ∀ self, W.Looks (model prog w) h (bindSpecial (.ref fI) self) (.ref fI, [self]))
    (hq : codeAny (model prog w) A (.call (.ref fI) ⟨[.ref (h.objs.size + 1)], [(kx, kv)]⟩)
      (fun r s' => match r with | .ok (.ret v) => v = .none ∧ Q (.done (.ret (.ref (h.objs.size + 1)))) s' | .ok _ => False | .error e => E e s')
      ⟨(h.push (W.kdv_tup [])).push (excO C h.objs.size), g, d, t, os⟩) :
    wpAny (model prog w) A (Builtin.«type.__call__» ⟨[.ref C], [(kx, kv)]⟩) Q E ⟨h, g, d, t, os⟩ := by
  repeat (first | with_reducible refine wpAny_loadPart_at hC ?_ | with_reducible refine wpAny_madeBy_exc hC ?_ | wp_step)
  refine codeAny_call_builtin_code (Code.quiet_builtin _ F.quiet) (check_new_ownK F hT hC ?_)
  refine new_ownK F hT hC ?_
  show wpAny _ _ _ _ _ _
  have k : ∀ b o, h.get? b = some o → ((h.push (W.kdv_tup [])).push (excO C h.objs.size)).get? b = some o := fun b o e => Heap.get?_push_of_some _ (Heap.get?_push_of_some _ e)
  have hC₁ := k _ _ hC
  have hget : ((h.push (W.kdv_tup [])).push (excO C h.objs.size)).get? (h.objs.size + 1) = some (excO C h.objs.size) := by heap_get
  have hcC : (Value.ref C :: bm).contains (.ref C) = true := by simp
  have i1 := hi.keeps k
  have b1 := (hb (.ref (h.objs.size + 1))).keeps k
  unfold isInstance
  repeat (first | with_reducible refine wpAny_loadPart_at hget ?_ | (with_reducible refine wpAny_isSubtype_exc hC₁ ?_; rw [hcC]) | wp_step)
  show wpAny _ _ (typeLookup (.ref C) _) _ _ _
  refine i1.at ?_
  refine wpAny_holding (wpAny_bind (b1.at ?_))
  refine wpAny_bind (wpAny_call (codeAny_mono hq fun r s' z => ?_))
  rcases r with e | (v | _ | _ | _) <;> first | exact z | exact z.elim | skip
  obtain ⟨rfl, z⟩ := z
  first
    | exact wpAny_pure (wpAny_pure z)
    | (wp_walk; exact z)
theorem check_type_callK {kx : Str} {kv : Value} {Q : Unit → Shared → Prop} (hC : h.get? C = some (excClassObj nm q C N bs bm hdct sn sub ab col dd k0 k1 k2 k3 k5 newId))
    (hq : Q () ⟨h, g, d, t, os⟩) : wpAny (model prog w) A (checkBuiltinCall "type.__call__" ⟨[.ref C], [(kx, kv)]⟩) Q E ⟨h, g, d, t, os⟩ := by
  have f3 := tc_sub
  have hT : (⟨h, g, d, t, os⟩ : Shared).TypeIs (.ref C) "type" := ⟨_, hC, rfl⟩
  simp only [checkBuiltinCall, tc_kind, tc_split]
  repeat (any_goals (first | assumption | with_reducible refine wpAny_loadPart_at hC ?_ | with_reducible refine wpAny_onRaise ?_ | with_reducible refine wpAny_map ?_ | wp_step))
theorem call_ownK (F : ExcBaseFacts B newId initId bmB) (hT : ∀ X : String, bm.contains (.type X) = bmB.contains (.type X)) {kx : Str} {kv : Value} {fI : Addr}
    (hC : h.get? C = some (excClassObj nm q C N bs bm hdct sn sub ab col dd k0 k1 k2 k3 k5 newId))
    (hi : W.Looks (model prog w) h (typeLookup (.ref C) "__init__") (some (.ref fI))) (hb : ∀ self, W.Looks (model prog w) h (bindSpecial (.ref fI) self) (.ref fI, [self]))
    (hq : codeAny (model prog w) (A.under (.builtin "type.__call__" ⟨[.ref C], [(kx, kv)]⟩)) (.call (.ref fI) ⟨[.ref (h.objs.size + 1)], [(kx, kv)]⟩) (W.InitBack (h.objs.size + 1) R)
      ⟨(h.push (W.kdv_tup [])).push (excO C h.objs.size), g, d, t, os⟩) :
    codeAny (model prog w) A (.call (.ref C) ⟨[], [(kx, kv)]⟩) R ⟨h, g, d, t, os⟩ := by
  have f1 := tc_lookup
  have f2 := tc_bind (.ref C)
  have hTy : (⟨h, g, d, t, os⟩ : Shared).TypeIs (.ref C) "type" := ⟨_, hC, rfl⟩
  refine codeAny_of_tree ?_
  show wpAny _ _ (callAny (.ref C) _) _ _ _
  repeat (any_goals (first | assumption | with_reducible refine wpAny_loadPart_at hC ?_ | wp_step))
  refine ⟨rfl, ?_⟩
  refine codeAny_call_builtin_at (Code.quiet_builtin _ (by decide +kernel)) entry_typeCall (check_type_callK hC (type_call_ownK F hT hC hi hb ?_))
  refine codeAny_mono hq fun r s' z => ?_
  rcases r with e | (v | _ | _ | _) <;> exact z
end
end HandSPX
end PySem
namespace Rd
open PySem L2
theorem bindsTo_pure {s : Shared} {fd : FuncData} {args : Args} {b : List (Str × Value)} (h : bindArgs fd args = pure b) : BindsTo s fd args b := BindsTo.of_looks fun M => by
  rw [h]
  exact .now
/-- an __init__ with one field, called by place or by name -/
structure FmK (P : Program) (w : World) (K : PySem.W.Frag) (mg : Str → Option Value) (base : Heap) (CX : CXT) (k : Nat) (c f : Str) (sp : Sp) : Prop where
  ex : ∃ fd, FnOk P w K mg base CX k (He.ma K (He.ga K c) "__init__") fd ["self", f] sp ∧ Binds K fd ["self", f] [] ∧ ∀ (s : Shared) (u v : Value), BindsTo s fd ⟨[u], [(f, v)]⟩ ([("self", u), (f, v)] : List (Str × Value))
  me : Meth K (He.ga K c) "__init__" (He.ma K (He.ga K c) "__init__")
theorem FmK.fm {P : Program} {w : World} {K : PySem.W.Frag} {mg : Str → Option Value} {base : Heap} {CX : CXT} {k : Nat} {c f : Str} {sp : Sp} (F : FmK P w K mg base CX k c f sp) : Fm P w K mg base CX k c "__init__" ["self", f] sp :=
  let ⟨⟨fd, a, b, _⟩, me⟩ := F
  ⟨⟨fd, a, b⟩, me⟩
section
variable {P : Program} {w : World} {K : PySem.W.Frag} {mg : Str → Option Value} {base : Heap} {CX : CXT} {k : Nat} {c f q : Str} {N : List Str} {sp : Sp} {st : Stmt}
theorem Mh.okK (F : Mh K c "__init__" q st) (S : FnScope N ["self", f] (defScope st))
    (hb : ∀ (kV doc pm : Value) (an : Option Addr) (cdv ct : Value) (us : List Value), us.length = (["self", f] : List Str).length → bindArgs (PySem.W.fnOf "__init__" q (defArgs st) (defBody st) (defScope st) .none kV doc pm an cdv ct) ⟨us, []⟩ = pure ((["self", f] : List Str).zip us))
    (hk : ∀ (kV doc pm : Value) (an : Option Addr) (cdv ct u v : Value), bindArgs (PySem.W.fnOf "__init__" q (defArgs st) (defBody st) (defScope st) .none kV doc pm an cdv ct) ⟨[u], [(f, v)]⟩ = pure ([("self", u), (f, v)] : List (Str × Value)))
    (len : ∀ vs H Q E, sp vs H Q E → vs.length = 2)
    (hbody : ∀ (cdv : Value) (A : Around) (outer : List Env) (s : Shared) (H : Hp) (vs : List V) (Q : VK) (E : XK), Room k (A.deeper (PyProof.Rows.envOfC q (defScope st) s.heap.objs.size (He.ma K (He.ga K c) "__init__") cdv)) → sp vs H Q E →
      ∃ t, PSs (cxOf CX0 P w K mg base N q (defScope st) (He.ma K (He.ga K c) "__init__") cdv A outer s H E).nox (defBody st) t ∧ t { nx := fun _ H' => Q .non H', rt := Q } (start N vs) H) : FmK P w K mg base CX0 (k + 1) c f sp := by
  obtain ⟨fd, F'⟩ := F.ex
  refine ⟨⟨fd, F'.ok S len fun cdv A outer s H vs Q E hr h => ?_, F'.bindsN hb, ?_⟩, F.me⟩
  · obtain ⟨t, h1, h2⟩ := hbody cdv A outer s H vs Q E hr h
    exact ⟨t, h1.nox, h2⟩
  · obtain ⟨oc, od, dV, kV, doc, pm, an, cdv, ct, osl, rfl, lk, hcd, hD, hK⟩ := F'.ex
    rcases hD with ⟨_, rfl⟩ | ⟨e, _⟩
    · exact fun s u v => bindsTo_pure (hk kV doc pm an cdv ct u v)
    · exact absurd rfl e
end
/-- C(e) -/
def tXv (C : Addr) (sp : Sp) (ta : TA) : TE := fun σ H Q => ta σ H fun vs H1 => vs.length ≤ 1000 ∧ ∀ a, H1 a = none → sp (.ref a :: vs) (upd H1 a (exo a C none)) (fun v H2 => v = .non ∧ Q (.ref a) H2) (fun _ _ _ => False)
section
variable {X : Cx} {k : Nat} {x f c m : Str} {p pos apos : Pos} {e o : Expr} {te : TE} {ta : TA} {ps : List Str} {sp : Sp} {to : TE}
theorem pe_xv {es : List Expr} {q : Str} {st : Stmt} (T : Xh X.K X.mg x f q st) (Fq : Fm X.prog X.w X.K X.mg X.base CX0 k x "__init__" ps sp) (hr : Room (k + 1) X.A) (hg : Gl X x) (ha : PA X (e :: es) ta)
    (hdb : (x == ("__debug__" : Str)) = false := by decide) (he : starEach (e :: es) X.env = (false, eval e X.env) :: starEach es X.env := by rfl) (hpl : (backTo pos (starEach es X.env)).any (·.1) = false := by rfl) :
    PE X (.Call (.Name x p) (e :: es) [] pos) (tXv (He.ga X.K x) sp ta) := by
  obtain ⟨⟨fd, F1, hb⟩, me⟩ := Fq
  refine ⟨fun pins s σ H Q I h => ?_⟩
  obtain ⟨nm, q', N, bs, bm, sn, sub, ab, col, dd, k0, k1, k2, k3, k5, hC, hbm⟩ := T.oex.cls
  refine wpAny_Call_Name_kw (ld_glob I hg T.g ?_ hdb)
  refine PySem.W.callWith_K (h₀ := X.base) I.ok.mod.kin T.oex.kC (thn (ha.run pos pins s σ H _ I h) fun us s1 ⟨vs, H1, I1, r1, hz, q1⟩ => ⟨I1.kIn, ?_⟩) he hpl
  show wpAny _ _ (call (.ref (He.ga X.K x)) us) _ _ _
  obtain ⟨hp, g, dr, tk, os⟩ := s1
  have hsz : hp.objs.size ≤ hp.objs.size + 1 := Nat.le_succ _
  have hn : H1 (hp.objs.size + 1) = none := I1.hok.fresh hsz
  have hq := q1 (hp.objs.size + 1) hn
  have kk : ∀ b o, hp.get? b = some o → ((hp.push (PySem.W.kdv_tup us)).push (PySem.HandSPX.excO (He.ga X.K x) hp.objs.size)).get? b = some o := fun b o e => Heap.get?_push_of_some _ (Heap.get?_push_of_some _ e)
  have hget : ((hp.push (PySem.W.kdv_tup us)).push (PySem.HandSPX.excO (He.ga X.K x) hp.objs.size)).get? (hp.objs.size + 1) = some (PySem.HandSPX.excO (He.ga X.K x) hp.objs.size) := by heap_get
  have I2 : Inv X pins σ (upd H1 (hp.objs.size + 1) (exo (hp.objs.size + 1) (He.ga X.K x) none)) ⟨(hp.push (PySem.W.kdv_tup us)).push (PySem.HandSPX.excO (He.ga X.K x) hp.objs.size), g, dr, tk, os⟩ :=
    I1.laid (t' := tk) (a := hp.objs.size + 1) (o := exo (hp.objs.size + 1) (He.ga X.K x) none) (h' := (hp.push (PySem.W.kdv_tup us)).push (PySem.HandSPX.excO (He.ga X.K x) hp.objs.size)) kk hsz (exo_ok hget)
  have r2 : Vals (V.ref (hp.objs.size + 1) :: vs) (Value.ref (hp.objs.size + 1) :: us) := .cons rfl r1
  have hl : (Value.ref (hp.objs.size + 1) :: us).length = ps.length := by
    have e := r2.length
    rw [F1.len _ _ _ _ hq] at e
    exact e.symm
  have hus : us.length ≤ sizeLine := by
    rw [← Paired.length r1, sizeLine_eq]
    omega
  have hbt := hb ⟨(hp.push (PySem.W.kdv_tup us)).push (PySem.HandSPX.excO (He.ga X.K x) hp.objs.size), g, dr, tk, os⟩ (Value.ref (hp.objs.size + 1) :: us) I2.kIn (by rw [List.append_nil]; exact hl)
  rw [List.append_nil] at hbt
  refine wpAny_call (PySem.HandSPX.call_own PySem.F.excBase_ValueError (fun Y => PySem.HandSPX.refsVE_contains Y bm hbm) (I1.kIn _ _ hC) (PySem.W.looks_findIn I1.kIn me.at_) (fun self => PySem.W.bind_fn I1.kIn self (beq_iff_eq.mp me.fn)) hus
    (codeAny_mono (F1.run _ X.stack _ _ ⟨Value.ref (hp.objs.size + 1) :: us, []⟩ (Value.ref (hp.objs.size + 1) :: us) _ _ (fun _ _ _ => False) (hr.make (He.ga X.K x) us []) (I2.env0.make (He.ga X.K x) us []) hbt r2 hq) fun r s' hq' => ?_))
  cases r with
  | error er => exact hq'.elim
  | ok fl =>
    cases fl with
    | ret u =>
      obtain ⟨v, H', I3, rv, ev, q3⟩ := I2.after hq'
      subst ev
      exact ⟨rv, ⟨V.ref (hp.objs.size + 1), H', I3, rfl, q3⟩⟩
    | next => exact False.elim hq'
    | brk => exact False.elim hq'
    | cont => exact False.elim hq'
/-- C() -/
theorem pe_xv0 {q : Str} {st : Stmt} (T : X0h X.K X.mg x q st) (Fq : Fm X.prog X.w X.K X.mg X.base CX0 k x "__init__" ps sp) (hr : Room (k + 1) X.A) (hg : Gl X x)
    (hdb : (x == ("__debug__" : Str)) = false := by decide) :
    PE X (.Call (.Name x p) [] [] pos) (tXv (He.ga X.K x) sp tNil) := by
  obtain ⟨⟨fd, F1, hb⟩, me⟩ := Fq
  refine ⟨fun pins s σ H Q I h => ?_⟩
  obtain ⟨nm, q', N, bs, bm, sn, sub, ab, col, dd, k0, k1, k2, k3, k5, hC, hbm⟩ := T.oex.cls
  refine wpAny_Call_Name_kw (ld_glob I hg T.g ?_ hdb)
  refine PySem.W.callWith_K0 (first := []) I.kIn T.oex.kC ?_
  show wpAny _ _ (call (.ref (He.ga X.K x)) []) _ _ _
  obtain ⟨hp, g, dr, tk, os⟩ := s
  have hsz : hp.objs.size ≤ hp.objs.size + 1 := Nat.le_succ _
  have hn : H (hp.objs.size + 1) = none := I.hok.fresh hsz
  have hq := h.2 (hp.objs.size + 1) hn
  have kk : ∀ b o, hp.get? b = some o → ((hp.push (PySem.W.kdv_tup [])).push (PySem.HandSPX.excO (He.ga X.K x) hp.objs.size)).get? b = some o := fun b o e => Heap.get?_push_of_some _ (Heap.get?_push_of_some _ e)
  have hget : ((hp.push (PySem.W.kdv_tup [])).push (PySem.HandSPX.excO (He.ga X.K x) hp.objs.size)).get? (hp.objs.size + 1) = some (PySem.HandSPX.excO (He.ga X.K x) hp.objs.size) := by heap_get
  have I2 : Inv X pins σ (upd H (hp.objs.size + 1) (exo (hp.objs.size + 1) (He.ga X.K x) none)) ⟨(hp.push (PySem.W.kdv_tup [])).push (PySem.HandSPX.excO (He.ga X.K x) hp.objs.size), g, dr, tk, os⟩ :=
    I.laid (t' := tk) (a := hp.objs.size + 1) (o := exo (hp.objs.size + 1) (He.ga X.K x) none) (h' := (hp.push (PySem.W.kdv_tup [])).push (PySem.HandSPX.excO (He.ga X.K x) hp.objs.size)) kk hsz (exo_ok hget)
  have r2 : Vals [V.ref (hp.objs.size + 1)] [Value.ref (hp.objs.size + 1)] := .cons rfl .nil
  have hl : [Value.ref (hp.objs.size + 1)].length = ps.length := by
    have e := r2.length
    rw [F1.len _ _ _ _ hq] at e
    exact e.symm
  have hbt := hb ⟨(hp.push (PySem.W.kdv_tup [])).push (PySem.HandSPX.excO (He.ga X.K x) hp.objs.size), g, dr, tk, os⟩ [Value.ref (hp.objs.size + 1)] I2.kIn (by rw [List.append_nil]; exact hl)
  rw [List.append_nil] at hbt
  refine wpAny_call (PySem.HandSPX.call_own PySem.F.excBase_ValueError (fun Y => PySem.HandSPX.refsVE_contains Y bm hbm) (I.kIn _ _ hC) (PySem.W.looks_findIn I.kIn me.at_) (fun self => PySem.W.bind_fn I.kIn self (beq_iff_eq.mp me.fn)) (Nat.zero_le _)
    (codeAny_mono (F1.run _ X.stack _ _ ⟨[Value.ref (hp.objs.size + 1)], []⟩ [Value.ref (hp.objs.size + 1)] _ _ (fun _ _ _ => False) (hr.make (He.ga X.K x) [] []) (I2.env0.make (He.ga X.K x) [] []) hbt r2 hq) fun r s' hq' => ?_))
  cases r with
  | error er => exact hq'.elim
  | ok fl =>
    cases fl with
    | ret u =>
      obtain ⟨v, H', I3, rv, ev, q3⟩ := I2.after hq'
      subst ev
      exact ⟨rv, ⟨V.ref (hp.objs.size + 1), H', I3, rfl, q3⟩⟩
    | next => exact False.elim hq'
    | brk => exact False.elim hq'
    | cont => exact False.elim hq'
/-- C(f = e) -/
theorem pe_xvK {q : Str} {st : Stmt} {kpos : Pos} (T : Xh X.K X.mg x f q st) (Fq : FmK X.prog X.w X.K X.mg X.base CX0 k x f sp) (hr : Room (k + 1) X.A) (hg : Gl X x) (he : PE X e te)
    (hall : (backToKw pos (keywordEach [⟨some f, e, kpos⟩] X.env)).all (·.1.isSome) = true := by rfl) (hks : (backToKw pos (keywordEach [⟨some f, e, kpos⟩] X.env)).filterMap (·.1) = [f] := by rfl) (hdb : (x == ("__debug__" : Str)) = false := by decide)
    (hpl : ((backTo pos (starEach [] X.env)).any (·.1) || (backToKw pos (keywordEach [⟨some f, e, kpos⟩] X.env)).any (·.1.isNone)) = false := by rfl) :
    PE X (.Call (.Name x p) [] [⟨some f, e, kpos⟩] pos) (tXv (He.ga X.K x) sp (tCons te tNil)) := by
  obtain ⟨⟨fd, F1, hb, hbk⟩, me⟩ := Fq
  refine ⟨fun pins s σ H Q I h => ?_⟩
  obtain ⟨nm, q', N, bs, bm, sn, sub, ab, col, dd, k0, k1, k2, k3, k5, hC, hbm⟩ := T.oex.cls
  refine wpAny_Call_Name_kw (ld_glob I hg T.g ?_ hdb)
  refine PySem.W.callWith_KW0 (h₀ := X.base) I.ok.mod.kin T.oex.kC hall ?_ hpl
  refine thn ((pk_cons (nm := some f) (kpos := kpos) he pk_nil).run pos pins s σ H _ I h) fun ws s1 ⟨zs, H1, I1, r1, hz, q1⟩ => ⟨I1.kIn, ?_⟩
  rw [hks]
  obtain ⟨hp, g, dr, tk, os⟩ := s1
  have hsz : hp.objs.size ≤ hp.objs.size + 1 := Nat.le_succ _
  have hn : H1 (hp.objs.size + 1) = none := I1.hok.fresh hsz
  have hq := q1 (hp.objs.size + 1) hn
  have hl2 : (V.ref (hp.objs.size + 1) :: zs).length = 2 := F1.len _ _ _ _ hq
  have hzl : zs.length = 1 := Nat.succ.inj hl2
  obtain ⟨z, rfl⟩ : ∃ z, zs = [z] := by
    match zs, hzl with
    | [z], _ => exact ⟨z, rfl⟩
  obtain ⟨wv, rfl, rz⟩ : ∃ wv, ws = [wv] ∧ RelV z wv := by
    cases r1 with
    | cons a b => cases b; exact ⟨_, rfl, a⟩
  show wpAny _ _ (call (.ref (He.ga X.K x)) [] [(f, wv)]) _ _ _
  have kk : ∀ b o, hp.get? b = some o → ((hp.push (PySem.W.kdv_tup [])).push (PySem.HandSPX.excO (He.ga X.K x) hp.objs.size)).get? b = some o := fun b o e => Heap.get?_push_of_some _ (Heap.get?_push_of_some _ e)
  have hget : ((hp.push (PySem.W.kdv_tup [])).push (PySem.HandSPX.excO (He.ga X.K x) hp.objs.size)).get? (hp.objs.size + 1) = some (PySem.HandSPX.excO (He.ga X.K x) hp.objs.size) := by heap_get
  have I2 : Inv X pins σ (upd H1 (hp.objs.size + 1) (exo (hp.objs.size + 1) (He.ga X.K x) none)) ⟨(hp.push (PySem.W.kdv_tup [])).push (PySem.HandSPX.excO (He.ga X.K x) hp.objs.size), g, dr, tk, os⟩ :=
    I1.laid (t' := tk) (a := hp.objs.size + 1) (o := exo (hp.objs.size + 1) (He.ga X.K x) none) (h' := (hp.push (PySem.W.kdv_tup [])).push (PySem.HandSPX.excO (He.ga X.K x) hp.objs.size)) kk hsz (exo_ok hget)
  have r2 : Vals [V.ref (hp.objs.size + 1), z] [Value.ref (hp.objs.size + 1), wv] := .cons rfl (.cons rz .nil)
  have hbt := hbk ⟨(hp.push (PySem.W.kdv_tup [])).push (PySem.HandSPX.excO (He.ga X.K x) hp.objs.size), g, dr, tk, os⟩ (Value.ref (hp.objs.size + 1)) wv
  refine wpAny_call (PySem.HandSPX.call_ownK PySem.F.excBase_ValueError (fun Y => PySem.HandSPX.refsVE_contains Y bm hbm) (I1.kIn _ _ hC) (PySem.W.looks_findIn I1.kIn me.at_) (fun self => PySem.W.bind_fn I1.kIn self (beq_iff_eq.mp me.fn))
    (codeAny_mono (F1.run _ X.stack _ _ ⟨[Value.ref (hp.objs.size + 1)], [(f, wv)]⟩ [Value.ref (hp.objs.size + 1), wv] _ _ (fun _ _ _ => False) (hr.make (He.ga X.K x) [] [(f, wv)]) (I2.env0.make (He.ga X.K x) [] [(f, wv)]) hbt r2 hq) fun r s' hq' => ?_))
  cases r with
  | error er => exact hq'.elim
  | ok fl =>
    cases fl with
    | ret u =>
      obtain ⟨v, H', I3, rv, ev, q3⟩ := I2.after hq'
      subst ev
      exact ⟨rv, ⟨V.ref (hp.objs.size + 1), H', I3, rfl, q3⟩⟩
    | next => exact False.elim hq'
    | brk => exact False.elim hq'
    | cont => exact False.elim hq'
/-- e.f, e such a value -/
def tXvf (C : Addr) (f : Str) (te : TE) : TE := fun σ H Q => te σ H fun x H1 => ∃ (a dd : Addr) (fs : List (Str × V)) (v : V), x = .ref a ∧ H1 a = some (exo a C (some dd)) ∧ H1 dd = some (exd dd fs) ∧ fs.lookup f = some v ∧ Q v H1
theorem pe_xvf {C : Addr} (T : XfC X.K C) (hno : PySem.W.findIn X.K (.ref C) f = some none) (he : PE X e te) (hb : attributeBase e f X.env (eval e X.env) = eval e X.env := by rfl) :
    PE X (.Attribute e f pos) (tXvf C f te) := by
  refine ⟨fun pins s σ H Q I h => ?_⟩
  refine attr_of hb (thn (he.run pins s σ H _ I h) fun u s1 hh => ?_)
  obtain ⟨x, H1, I1, rx, a, dd, fs, v, ex, ha, ed, l, q⟩ := hh
  subst ex
  obtain rfl : u = Value.ref a := rx
  obtain ⟨t0, hoe⟩ := exo_at I1.hok ha
  obtain ⟨mA, hns, hr⟩ := exd_at I1.hok ed
  obtain ⟨od, ho, hl⟩ := lookIn_ns hns
  obtain ⟨u, hu, ru⟩ := RelO.some_of (v := v) (o := mA f) (by rw [← l]; exact hr f)
  have J : PySem.W.InstAt s1.heap a _ C (some od) := ⟨hoe, rfl, by unfold PySem.W.notCls; rfl, ho⟩
  exact HandSPX.exc_get I1.kIn J T.ga T.gg T.exC (PySem.W.findObj_own T.hdC hno rfl (by rw [hl, hu])) (handed_of ru) ⟨v, H1, I1.tok _, ru, q⟩
/-- isinstance(e, c), e such a value -/
def rIsV (K : PySem.W.Frag) : List V → Hp → VK → Prop := fun xs H Q => ∃ (a D : Addr) (d : Option Addr) (c : V) (cv : Value) (b : Bool), xs = [.ref a, c] ∧ H a = some (exo a D d) ∧ (d = none ∨ ∃ (dd : Addr) (fs : List (Str × V)), d = some dd ∧ H dd = some (exd dd fs)) ∧ ExcC K D ∧ (∀ u, RelV c u → u = cv) ∧ PySem.W.kitOne K (.ref D) cv = some b ∧ Q (.bl b) H
theorem call_isV : CallR X (.builtin "isinstance") (rIsV X.K) := by
  intro pins s σ H xs us Q I r h
  obtain ⟨a, D, d, c, cv, b, rfl, ha, hd, C, hcv, e, q⟩ := h
  cases r with
  | cons rx rr =>
    cases rr with
    | cons rt rr =>
      cases rr
      cases rx
      have ec := hcv _ rt
      subst ec
      obtain ⟨t0, hoe⟩ := exo_at I.hok ha
      have J : ∃ od, PySem.W.InstAt s.heap a { cls := .ref D, dict := d, data := .fields #[.ref t0, .none, .none, .none, .bool false, .none] } D od := by
        rcases hd with rfl | ⟨dd, fs, rfl, ed⟩
        · exact ⟨none, hoe, rfl, by unfold PySem.W.notCls; rfl, trivial⟩
        · obtain ⟨mA, hns, hr⟩ := exd_at I.hok ed
          obtain ⟨od, ho, hl⟩ := lookIn_ns hns
          exact ⟨some od, hoe, rfl, by unfold PySem.W.notCls; rfl, ho⟩
      obtain ⟨od, J⟩ := J
      exact PySem.W.kia_one (excC_kit C) I.kIn J e (fun z => nomatch z) fun tk => ⟨.bl b, H, I.kept (t' := tk) fun _ _ z => z, rfl, q⟩
end
def EXS : List Str := ["BadAtom", "BadForm", "BadKey", "BadText", "BadHeap", "BadRecipe", "NoWay", "BadHeaps", "BadRole", "NotFit", "BadBook", "BadSitting", "NoSitting", "NotPlain", "NotWaiting", "NotHeld", "NoMatch", "NotDone", "BadFilling", "BadWishes", "BadGoal", "BadCommand"]
def one31 (K : PySem.W.Frag) : Bool := EXS.all fun c => excB K (He.ga K c) && (decide (PySem.W.kitOne K (.ref (He.ga K c)) (.ref (He.ga K "RoadError")) = some true) && (decide (PySem.W.kitOne K (.ref (He.ga K c)) (.type "ValueError") = some true) && EXS.all fun d => decide (PySem.W.kitOne K (.ref (He.ga K c)) (.ref (He.ga K d)) = some (decide (c = d)))))
structure One31 (K : PySem.W.Frag) (c : Str) : Prop where
  ex : ExcC K (He.ga K c)
  re : PySem.W.kitOne K (.ref (He.ga K c)) (.ref (He.ga K "RoadError")) = some true
  ve : PySem.W.kitOne K (.ref (He.ga K c)) (.type "ValueError") = some true
  one : ∀ d ∈ EXS, PySem.W.kitOne K (.ref (He.ga K c)) (.ref (He.ga K d)) = some (decide (c = d))
theorem one31_ok {K : PySem.W.Frag} (h : one31 K = true) {c : Str} (hc : c ∈ EXS) : One31 K c := by
  have h := List.all_eq_true.mp h c hc
  obtain ⟨h1, h⟩ := Bool.and_eq_true_iff.mp h
  obtain ⟨h2, h⟩ := Bool.and_eq_true_iff.mp h
  obtain ⟨h3, h4⟩ := Bool.and_eq_true_iff.mp h
  exact ⟨excB_ok h1, of_decide_eq_true h2, of_decide_eq_true h3, fun d hd => of_decide_eq_true (List.all_eq_true.mp h4 d hd)⟩
/-- x != x, a datum or a dict of data -/
def rNeV (K : PySem.W.Frag) : R2 := fun x y H Q => rNeD K x y H Q ∨ rNeDD K x y H Q
theorem op_neV {X : Cx} (hu : X.A.units + 64 < cLine) (hv : X.A.units + 65 < cLine) : OpR X (compareOp .NotEq) (rNeV X.K) := by
  intro pins s σ H x y v u Q I rx ry h
  rcases h with h | h
  · exact op_neD hu pins s σ H x y v u Q I rx ry h
  · exact op_neDD hv pins s σ H x y v u Q I rx ry h
end Rd
namespace Rd
open PySem L2
def lstN (g : Addr → Option Obj) (n : Nat) (rs : List Addr) : List Addr := goB g n (mainGlobals :: rs) rs (rs.foldl (fun m a => Nat.lor m (Nat.shiftLeft 1 a)) (Nat.shiftLeft 1 mainGlobals))
def rootsN (g : Addr → Option Obj) (nms : List Str) : List Addr := nms.map fun x => He.ga (He.frG g [mainGlobals]) x
def frN (nms : List Str) (n : Nat) (g : Addr → Option Obj) : PySem.W.Frag := He.frG g (cStatics :: lstN g n (rootsN g nms))
def obsN (nms : List Str) (n : Nat) (fa : List He.Fa) (fn : List He.DefD) (ts : List He.Tab) (ex : PySem.W.Frag → Bool) (fs : List He5.DefA) (g : Addr → Option Obj) : AlZ := ((He.obsT fa fn ts (frN nms n g), ex (frN nms n g)), He5.obsA [] fs (frN nms n g))
def hookN (nms : List Str) (n : Nat) (fa : List He.Fa) (fn : List He.DefD) (ts : List He.Tab) (ex : PySem.W.Frag → Bool) (fs : List He5.DefA) : PySem.W.Hook where
  α := AlZ
  obs := fun s => obsN nms n fa fn ts ex fs s.heap.get?
  val := fun w => valZ fn ts fs w
  says := fun w h => ∃ K : PySem.W.Frag, K.In h ∧ SaysZ fa fn ts ex fs w K
  of := fun _ _ e => ⟨_, He.frG_in, ⟨⟨congrArg (fun z : AlZ => z.1.1) e, congrArg (fun z : AlZ => z.1.2) e⟩, congrArg (fun z : AlZ => z.2) e⟩⟩
  keeps := fun _ _ _ ⟨K, hK, c⟩ k => ⟨K, PySem.W.Frag.In.keeps hK k, c⟩
theorem obsN_eq {nms : List Str} {n : Nat} {fa : List He.Fa} {fn : List He.DefD} {ts : List He.Tab} {ex : PySem.W.Frag → Bool} {fs : List He5.DefA} {g : Addr → Option Obj} {s : Shared} (h : ∀ a, g a = s.heap.get? a) : obsN nms n fa fn ts ex fs g = (hookN nms n fa fn ts ex fs).obs s := by
  have e : g = s.heap.get? := funext h
  rw [e] <;> rfl
end Rd
namespace Rd
open PySem L2
def top (i : Nat) : Stmt := PySem.Challenge.pw_openroads_k31_errors_made.main.body.getD i (.Pass ⟨0, 0, 0, 0⟩)
structure Tx (w : World) (K : PySem.W.Frag) (mg : Str → Option Value) : Prop where
  z_len : mg "len" = none
  z_any : mg "any" = none
  z_abs : mg "abs" = none
  z_int : mg "int" = none
  z_range : mg "range" = none
  z_isinstance : mg "isinstance" = none
  z_ValueError : mg "ValueError" = none
  F__law_stream : Fh K mg "_law_stream" (top 25)
  F__law_draw : Fh K mg "_law_draw" (top 26)
  F__law_pick : Fh K mg "_law_pick" (top 27)
  F__law_with_text : Fh K mg "_law_with_text" (top 28)
  F__law_made : Fh K mg "_law_made" (top 29)
  F__law_kinds : Fh K mg "_law_kinds" (top 30)
  g_RoadError : mg "RoadError" = some (.ref (He.ga K "RoadError"))
  r_RoadError : REx K (He.ga K "RoadError")
  X_BadAtom : Xh K mg "BadAtom" "text" "BadAtom.__init__" (inClass (top 2) 0)
  X_BadForm : Xh K mg "BadForm" "path" "BadForm.__init__" (inClass (top 3) 0)
  X_BadKey : Xh K mg "BadKey" "key" "BadKey.__init__" (inClass (top 4) 0)
  X_BadText : Xh K mg "BadText" "line" "BadText.__init__" (inClass (top 5) 0)
  X_BadHeap : Xh K mg "BadHeap" "index" "BadHeap.__init__" (inClass (top 6) 0)
  X0_BadRecipe : X0h K mg "BadRecipe" "BadRecipe.__init__" (inClass (top 7) 0)
  X_NoWay : Xh K mg "NoWay" "step" "NoWay.__init__" (inClass (top 8) 0)
  X0_BadHeaps : X0h K mg "BadHeaps" "BadHeaps.__init__" (inClass (top 9) 0)
  X_BadRole : Xh K mg "BadRole" "field" "BadRole.__init__" (inClass (top 10) 0)
  X_NotFit : Xh K mg "NotFit" "index" "NotFit.__init__" (inClass (top 11) 0)
  X_BadBook : Xh K mg "BadBook" "field" "BadBook.__init__" (inClass (top 12) 0)
  X_BadSitting : Xh K mg "BadSitting" "index" "BadSitting.__init__" (inClass (top 13) 0)
  X_NoSitting : Xh K mg "NoSitting" "number" "NoSitting.__init__" (inClass (top 14) 0)
  X0_NotPlain : X0h K mg "NotPlain" "NotPlain.__init__" (inClass (top 15) 0)
  X_NotWaiting : Xh K mg "NotWaiting" "number" "NotWaiting.__init__" (inClass (top 16) 0)
  X0_NotHeld : X0h K mg "NotHeld" "NotHeld.__init__" (inClass (top 17) 0)
  X0_NoMatch : X0h K mg "NoMatch" "NoMatch.__init__" (inClass (top 18) 0)
  X_NotDone : Xh K mg "NotDone" "place" "NotDone.__init__" (inClass (top 19) 0)
  X0_BadFilling : X0h K mg "BadFilling" "BadFilling.__init__" (inClass (top 20) 0)
  X_BadWishes : Xh K mg "BadWishes" "index" "BadWishes.__init__" (inClass (top 21) 0)
  X0_BadGoal : X0h K mg "BadGoal" "BadGoal.__init__" (inClass (top 22) 0)
  X0_BadCommand : X0h K mg "BadCommand" "BadCommand.__init__" (inClass (top 23) 0)
  tab31 : one31 K = true
section
set_option maxHeartbeats 0
def nms0 : List PySem.Str := ["_law_stream", "_law_draw", "_law_pick", "_law_with_text", "_law_made", "_law_kinds", "law", "RoadError", "BadAtom", "BadForm", "BadKey", "BadText", "BadHeap", "BadRecipe", "NoWay", "BadHeaps", "BadRole", "NotFit", "BadBook", "BadSitting", "NoSitting", "NotPlain", "NotWaiting", "NotHeld", "NoMatch", "NotDone", "BadFilling", "BadWishes", "BadGoal", "BadCommand"]
def nms : List PySem.Str := nms0
def d0 : He.DefD := ⟨("_law_stream", none), "_law_stream", "_law_stream", defArgs (top 25), defBody (top 25), defScope (top 25), [], []⟩
def d1 : He.DefD := ⟨("_law_draw", none), "_law_draw", "_law_draw", defArgs (top 26), defBody (top 26), defScope (top 26), [], []⟩
def d2 : He.DefD := ⟨("_law_pick", none), "_law_pick", "_law_pick", defArgs (top 27), defBody (top 27), defScope (top 27), [], []⟩
def d3 : He.DefD := ⟨("_law_with_text", none), "_law_with_text", "_law_with_text", defArgs (top 28), defBody (top 28), defScope (top 28), [], []⟩
def d4 : He.DefD := ⟨("_law_made", none), "_law_made", "_law_made", defArgs (top 29), defBody (top 29), defScope (top 29), [], []⟩
def d5 : He.DefD := ⟨("_law_kinds", none), "_law_kinds", "_law_kinds", defArgs (top 30), defBody (top 30), defScope (top 30), [], []⟩
def d6 : He.DefD := ⟨("law", none), "law", "law", defArgs (top 31), defBody (top 31), defScope (top 31), [], []⟩
def d7 : He.DefD := ⟨("BadAtom", some "__init__"), "__init__", "BadAtom.__init__", defArgs (inClass (top 2) 0), defBody (inClass (top 2) 0), defScope (inClass (top 2) 0), [], []⟩
def d8 : He.DefD := ⟨("BadForm", some "__init__"), "__init__", "BadForm.__init__", defArgs (inClass (top 3) 0), defBody (inClass (top 3) 0), defScope (inClass (top 3) 0), [], []⟩
def d9 : He.DefD := ⟨("BadKey", some "__init__"), "__init__", "BadKey.__init__", defArgs (inClass (top 4) 0), defBody (inClass (top 4) 0), defScope (inClass (top 4) 0), [], []⟩
def d10 : He.DefD := ⟨("BadText", some "__init__"), "__init__", "BadText.__init__", defArgs (inClass (top 5) 0), defBody (inClass (top 5) 0), defScope (inClass (top 5) 0), [], []⟩
def d11 : He.DefD := ⟨("BadHeap", some "__init__"), "__init__", "BadHeap.__init__", defArgs (inClass (top 6) 0), defBody (inClass (top 6) 0), defScope (inClass (top 6) 0), [], []⟩
def d12 : He.DefD := ⟨("BadRecipe", some "__init__"), "__init__", "BadRecipe.__init__", defArgs (inClass (top 7) 0), defBody (inClass (top 7) 0), defScope (inClass (top 7) 0), [], []⟩
def d13 : He.DefD := ⟨("NoWay", some "__init__"), "__init__", "NoWay.__init__", defArgs (inClass (top 8) 0), defBody (inClass (top 8) 0), defScope (inClass (top 8) 0), [], []⟩
def d14 : He.DefD := ⟨("BadHeaps", some "__init__"), "__init__", "BadHeaps.__init__", defArgs (inClass (top 9) 0), defBody (inClass (top 9) 0), defScope (inClass (top 9) 0), [], []⟩
def d15 : He.DefD := ⟨("BadRole", some "__init__"), "__init__", "BadRole.__init__", defArgs (inClass (top 10) 0), defBody (inClass (top 10) 0), defScope (inClass (top 10) 0), [], []⟩
def d16 : He.DefD := ⟨("NotFit", some "__init__"), "__init__", "NotFit.__init__", defArgs (inClass (top 11) 0), defBody (inClass (top 11) 0), defScope (inClass (top 11) 0), [], []⟩
def d17 : He.DefD := ⟨("BadBook", some "__init__"), "__init__", "BadBook.__init__", defArgs (inClass (top 12) 0), defBody (inClass (top 12) 0), defScope (inClass (top 12) 0), [], []⟩
def d18 : He.DefD := ⟨("BadSitting", some "__init__"), "__init__", "BadSitting.__init__", defArgs (inClass (top 13) 0), defBody (inClass (top 13) 0), defScope (inClass (top 13) 0), [], []⟩
def d19 : He.DefD := ⟨("NoSitting", some "__init__"), "__init__", "NoSitting.__init__", defArgs (inClass (top 14) 0), defBody (inClass (top 14) 0), defScope (inClass (top 14) 0), [], []⟩
def d20 : He.DefD := ⟨("NotPlain", some "__init__"), "__init__", "NotPlain.__init__", defArgs (inClass (top 15) 0), defBody (inClass (top 15) 0), defScope (inClass (top 15) 0), [], []⟩
def d21 : He.DefD := ⟨("NotWaiting", some "__init__"), "__init__", "NotWaiting.__init__", defArgs (inClass (top 16) 0), defBody (inClass (top 16) 0), defScope (inClass (top 16) 0), [], []⟩
def d22 : He.DefD := ⟨("NotHeld", some "__init__"), "__init__", "NotHeld.__init__", defArgs (inClass (top 17) 0), defBody (inClass (top 17) 0), defScope (inClass (top 17) 0), [], []⟩
def d23 : He.DefD := ⟨("NoMatch", some "__init__"), "__init__", "NoMatch.__init__", defArgs (inClass (top 18) 0), defBody (inClass (top 18) 0), defScope (inClass (top 18) 0), [], []⟩
def d24 : He.DefD := ⟨("NotDone", some "__init__"), "__init__", "NotDone.__init__", defArgs (inClass (top 19) 0), defBody (inClass (top 19) 0), defScope (inClass (top 19) 0), [], []⟩
def d25 : He.DefD := ⟨("BadFilling", some "__init__"), "__init__", "BadFilling.__init__", defArgs (inClass (top 20) 0), defBody (inClass (top 20) 0), defScope (inClass (top 20) 0), [], []⟩
def d26 : He.DefD := ⟨("BadWishes", some "__init__"), "__init__", "BadWishes.__init__", defArgs (inClass (top 21) 0), defBody (inClass (top 21) 0), defScope (inClass (top 21) 0), [], []⟩
def d27 : He.DefD := ⟨("BadGoal", some "__init__"), "__init__", "BadGoal.__init__", defArgs (inClass (top 22) 0), defBody (inClass (top 22) 0), defScope (inClass (top 22) 0), [], []⟩
def d28 : He.DefD := ⟨("BadCommand", some "__init__"), "__init__", "BadCommand.__init__", defArgs (inClass (top 23) 0), defBody (inClass (top 23) 0), defScope (inClass (top 23) 0), [], []⟩
def fa0 : List He.Fa := [.free "len", .free "any", .free "abs", .free "int", .free "range", .free "isinstance", .free "ValueError", .glo "_law_stream", .glo "_law_draw", .glo "_law_pick", .glo "_law_with_text", .glo "_law_made", .glo "_law_kinds", .glo "law", .glo "RoadError", .glo "BadAtom", .exm "BadAtom" "BadAtom" true, .meth "BadAtom" "__init__", .noat "BadAtom" "text", .glo "BadForm", .exm "BadForm" "BadForm" true, .meth "BadForm" "__init__", .noat "BadForm" "path", .glo "BadKey", .exm "BadKey" "BadKey" true, .meth "BadKey" "__init__", .noat "BadKey" "key", .glo "BadText", .exm "BadText" "BadText" true, .meth "BadText" "__init__"]
def fa1 : List He.Fa := [.noat "BadText" "line", .glo "BadHeap", .exm "BadHeap" "BadHeap" true, .meth "BadHeap" "__init__", .noat "BadHeap" "index", .glo "BadRecipe", .exm "BadRecipe" "BadRecipe" true, .meth "BadRecipe" "__init__", .glo "NoWay", .exm "NoWay" "NoWay" true, .meth "NoWay" "__init__", .noat "NoWay" "step", .glo "BadHeaps", .exm "BadHeaps" "BadHeaps" true, .meth "BadHeaps" "__init__", .glo "BadRole", .exm "BadRole" "BadRole" true, .meth "BadRole" "__init__", .noat "BadRole" "field", .glo "NotFit", .exm "NotFit" "NotFit" true, .meth "NotFit" "__init__", .noat "NotFit" "index", .glo "BadBook", .exm "BadBook" "BadBook" true, .meth "BadBook" "__init__", .noat "BadBook" "field", .glo "BadSitting", .exm "BadSitting" "BadSitting" true, .meth "BadSitting" "__init__"]
def fa2 : List He.Fa := [.noat "BadSitting" "index", .glo "NoSitting", .exm "NoSitting" "NoSitting" true, .meth "NoSitting" "__init__", .noat "NoSitting" "number", .glo "NotPlain", .exm "NotPlain" "NotPlain" true, .meth "NotPlain" "__init__", .glo "NotWaiting", .exm "NotWaiting" "NotWaiting" true, .meth "NotWaiting" "__init__", .noat "NotWaiting" "number", .glo "NotHeld", .exm "NotHeld" "NotHeld" true, .meth "NotHeld" "__init__", .glo "NoMatch", .exm "NoMatch" "NoMatch" true, .meth "NoMatch" "__init__", .glo "NotDone", .exm "NotDone" "NotDone" true, .meth "NotDone" "__init__", .noat "NotDone" "place", .glo "BadFilling", .exm "BadFilling" "BadFilling" true, .meth "BadFilling" "__init__", .glo "BadWishes", .exm "BadWishes" "BadWishes" true, .meth "BadWishes" "__init__", .noat "BadWishes" "index", .glo "BadGoal"]
def fa3 : List He.Fa := [.exm "BadGoal" "BadGoal" true, .meth "BadGoal" "__init__", .glo "BadCommand", .exm "BadCommand" "BadCommand" true, .meth "BadCommand" "__init__"]
def fa : List He.Fa := fa0 ++ fa1 ++ fa2 ++ fa3
def fn0 : List He.DefD := [d0, d1, d2, d3, d4, d5, d6, d7, d8, d9, d10, d11, d12, d13, d14, d15, d16, d17, d18, d19, d20, d21, d22, d23, d24, d25, d26, d27, d28]
def fn : List He.DefD := fn0
def loo0 : List PySem.Str := ["RoadError", "BadAtom", "BadForm", "BadKey", "BadText", "BadHeap", "BadRecipe", "NoWay", "BadHeaps", "BadRole", "NotFit", "BadBook", "BadSitting", "NoSitting", "NotPlain", "NotWaiting", "NotHeld", "NoMatch", "NotDone", "BadFilling", "BadWishes", "BadGoal", "BadCommand", "_law_stream", "_law_draw", "_law_pick", "_law_with_text", "_law_made", "_law_kinds"]
def loo : List PySem.Str := loo0
def fs : List He5.DefA := []
def ts : List He.Tab := []
def exl (K : PySem.W.Frag) : List Bool := [rexB K "RoadError", oexB K "BadAtom", xfB K (He.ga K "BadAtom"), oexB K "BadForm", xfB K (He.ga K "BadForm"), oexB K "BadKey", xfB K (He.ga K "BadKey"), oexB K "BadText", xfB K (He.ga K "BadText"), oexB K "BadHeap", xfB K (He.ga K "BadHeap"), oexB K "BadRecipe", oexB K "NoWay", xfB K (He.ga K "NoWay"), oexB K "BadHeaps", oexB K "BadRole", xfB K (He.ga K "BadRole"), oexB K "NotFit", xfB K (He.ga K "NotFit"), oexB K "BadBook", xfB K (He.ga K "BadBook"), oexB K "BadSitting", xfB K (He.ga K "BadSitting"), oexB K "NoSitting", xfB K (He.ga K "NoSitting"), oexB K "NotPlain", oexB K "NotWaiting", xfB K (He.ga K "NotWaiting"), oexB K "NotHeld", oexB K "NoMatch", oexB K "NotDone", xfB K (He.ga K "NotDone"), oexB K "BadFilling", oexB K "BadWishes", xfB K (He.ga K "BadWishes"), oexB K "BadGoal", oexB K "BadCommand", one31 K]
def exq : PySem.W.Frag → Bool := fun K => (exl K).all id
theorem exl_ok {K : PySem.W.Frag} (h : exq K = true) (i : Nat) {b : Bool} (e : (exl K)[i]? = some b) : b = true := List.all_eq_true.mp h b (List.mem_of_getElem? e)
abbrev R : PySem.W.OpenRow := PySem.W.OpenLaw.row PySem.Challenge.rw_openroads_k31_errors_made
abbrev hk : PySem.W.Hook := hookN nms 5 fa fn ts exq fs
def ob (s : PySem.W.SharedT) : AlZ := obsN nms 5 fa fn ts exq fs (HandSHeadRun.getT s)
theorem ob_eq (s : PySem.W.SharedT) : ob s = hk.obs s.abs := obsN_eq (HandSHeadRun.getT_eq s)
abbrev qv : Program := PySem.W.view R.prog [31]
theorem join3 {α β γ δ : Type _} {o : Option α} {f : α → β} {g : α → γ} {h : α → δ} {a : β} {b : γ} {c : δ} (e1 : o.map f = some a) (e2 : o.map g = some b) (e3 : o.map h = some c) : o.map (fun s => (f s, g s, h s)) = some (a, b, c) := by
  cases o with
  | none => cases e1
  | some s =>
    cases e1
    cases e2
    cases e3
    rfl
open PySem PySem.W PySem.Calls PyProof.Rows HandSHeadRun in
theorem run0a (w : World) (os : OsState) : (HandSHeadRun.endF (HandSHeadRun.stepQ (HandSHeadRun.denQ HandSHeadRun.tabQ) R.prog (w.withFollow "special-get-raises" false)) 8000 R.prog (w.withFollow "special-get-raises" false) os).map (fun s => looksF R.prog (boot_heap (w.withFollow "special-get-raises" false).params) s.abs) = some true := by
  kernel_rfl
open PySem PySem.W PySem.Calls PyProof.Rows HandSHeadRun in
theorem run0b (w : World) (os : OsState) : (HandSHeadRun.endF (HandSHeadRun.stepQ (HandSHeadRun.denQ HandSHeadRun.tabQ) R.prog (w.withFollow "special-get-raises" false)) 8000 R.prog (w.withFollow "special-get-raises" false) os).map (fun s => seenQ qv loo (importedModules R.prog.main.body) (fun s => xlAt qv [] s && recOk R.toRowW.records s) s.abs) = some (openGood qv loo) := by
  kernel_rfl
open PySem PySem.W PySem.Calls PyProof.Rows HandSHeadRun in
theorem run0c (w : World) (os : OsState) : (HandSHeadRun.endF (HandSHeadRun.stepQ (HandSHeadRun.denQ HandSHeadRun.tabQ) R.prog (w.withFollow "special-get-raises" false)) 8000 R.prog (w.withFollow "special-get-raises" false) os).map ob = some (hk.val (w.withFollow "special-get-raises" false)) := by
  kernel_rfl
theorem run0 (w : World) : HandSHeadRun.RunEq R qv hk ob 8000 loo (w.withFollow "special-get-raises" false) := fun os => join3 (run0a w os) (run0b w os) (run0c w os)
open PySem PySem.W PySem.Calls PyProof.Rows HandSHeadRun in
theorem run1a (w : World) (os : OsState) : (HandSHeadRun.endF (HandSHeadRun.stepQ (HandSHeadRun.denQ HandSHeadRun.tabQ) R.prog (w.withFollow "special-get-raises" true)) 8000 R.prog (w.withFollow "special-get-raises" true) os).map (fun s => looksF R.prog (boot_heap (w.withFollow "special-get-raises" true).params) s.abs) = some true := by
  kernel_rfl
open PySem PySem.W PySem.Calls PyProof.Rows HandSHeadRun in
theorem run1b (w : World) (os : OsState) : (HandSHeadRun.endF (HandSHeadRun.stepQ (HandSHeadRun.denQ HandSHeadRun.tabQ) R.prog (w.withFollow "special-get-raises" true)) 8000 R.prog (w.withFollow "special-get-raises" true) os).map (fun s => seenQ qv loo (importedModules R.prog.main.body) (fun s => xlAt qv [] s && recOk R.toRowW.records s) s.abs) = some (openGood qv loo) := by
  kernel_rfl
open PySem PySem.W PySem.Calls PyProof.Rows HandSHeadRun in
theorem run1c (w : World) (os : OsState) : (HandSHeadRun.endF (HandSHeadRun.stepQ (HandSHeadRun.denQ HandSHeadRun.tabQ) R.prog (w.withFollow "special-get-raises" true)) 8000 R.prog (w.withFollow "special-get-raises" true) os).map ob = some (hk.val (w.withFollow "special-get-raises" true)) := by
  kernel_rfl
theorem run1 (w : World) : HandSHeadRun.RunEq R qv hk ob 8000 loo (w.withFollow "special-get-raises" true) := fun os => join3 (run1a w os) (run1b w os) (run1c w os)
theorem run (w : World) : HandSHeadRun.RunEq R qv hk ob 8000 loo w := PySem.W.byRow2 "special-get-raises" (P := fun w => HandSHeadRun.RunEq R qv hk ob 8000 loo w) run0 run1 w
end
end Rd
namespace Rd
open PySem L2
/-- a stream's list, with n draws still in the bound -/
def StL (n : Nat) (xs : List V) : Prop := ∃ a b c : Int, xs = [.int a, .int b, .int c] ∧ 0 ≤ a ∧ 0 ≤ b ∧ b ≤ 1099511627776 ∧ 0 ≤ c ∧ c + n ≤ 1099511627776
theorem StL.mono {n m : Nat} {xs : List V} (h : StL n xs) (hm : m ≤ n) : StL m xs := by
  obtain ⟨a, b, c, e, h1, h2, h3, h4, h5⟩ := h
  exact ⟨a, b, c, e, h1, h2, h3, h4, by omega⟩
def sp_stream (K : PySem.W.Frag) : Sp := fun vs H Q _ => ∃ (a : Addr) (ns : List Int) (k : Int), vs = [.ref a, .int k] ∧ SqL K H a (ns.map V.int) ∧ ns.length ≤ 63 ∧ 0 ≤ k ∧ k ≤ 100 ∧
  ∀ p xs H', Same H H' → H p = none → H' p = some (.lst xs) → StL 1000000000 xs → Q (.ref p) H'
def sp_draw : Sp := fun vs H Q _ => ∃ (p : Addr) (xs : List V) (n : Nat) (m : Int), vs = [.ref p, .int m] ∧ H p = some (.lst xs) ∧ StL (n + 1) xs ∧ 0 < m ∧ m < 1073741824 ∧
  ∀ d ys, 0 ≤ d → d < m → StL n ys → Q (.int d) (upd H p (.lst ys))
def sp_pick (K : PySem.W.Frag) : Sp := fun vs H Q _ => ∃ (p a : Addr) (xs us : List V) (n : Nat), vs = [.ref p, .ref a] ∧ H p = some (.lst xs) ∧ StL (n + 1) xs ∧ SqL K H a us ∧ SqL K (upd H p (.lst [])) a us ∧ 0 < us.length ∧ us.length < 1073741824 ∧
  ∀ (j : Nat) v ys, us[j]? = some v → StL n ys → Q v (upd H p (.lst ys))
section
variable {P : Program} {w : World} {K : PySem.W.Frag} {mg : Str → Option Value} {base : Heap}
abbrev s__law_stream : Stmt := top 25
theorem sc__law_stream : FnScope ["_law_script", "_law_k", "_law_cell"] ["_law_script", "_law_k"] (defScope s__law_stream) := ⟨rfl, rfl, rfl, by decide +kernel, rfl, by decide +kernel, by decide +kernel⟩
theorem ok__law_stream (T : Tx w K mg) : Fk P w K mg base CX0 1 "_law_stream" ["_law_script", "_law_k"] (sp_stream K) := by
  refine T.F__law_stream.ok0 sc__law_stream (fun _ _ _ _ _ _ us hl => match us, hl with | [_, _], _ => rfl)
    (fun vs H Q E h => ?_) (fun cdv A outer s H vs Q E hr h => ?_)
  · obtain ⟨a, ns, k, rfl, _⟩ := h
    rfl
  · obtain ⟨a, ns, k, rfl, hS, hn, hk0, hk1, kk⟩ := h
    have fin : ∀ a0 cell : Int, 0 ≤ a0 → ∀ p, H p = none → Q (.ref p) (upd H p (.lst [.int a0, .int (cell % 2147483647 + 31 * k), .int 0])) := fun a0 cell hc p hp => by
      refine kk p _ _ (Rd.Same.upd hp) hp upd_same ⟨_, _, _, rfl, hc, ?_, ?_, by omega, by omega⟩
      · have := Int.emod_nonneg cell (show (2147483647 : Int) ≠ 0 by decide)
        omega
      · have := Int.emod_lt_of_pos cell (show (0 : Int) < 2147483647 by decide)
        omega
    refine ⟨_, (pss_cons (ps_set (i := 2) sc__law_stream.nd rfl (Or.inl rfl) (pe_ifExp (pt_cmpR op_lt (pv 1) (pe_callB call_len_seq (by rfl) T.z_len (by decide +kernel) (pa_cons (pv 0) pa_nil)) (nomark _)) (pe_callB call_abs (by rfl) T.z_abs (by decide +kernel) (pa_cons (pe_ix ix_list (pv 0) (pv 1) (fun _ _ => rfl)) pa_nil)) pe_int))
  (pss_one (ps_ret (pe_lst (pa_cons (pe_ifExp (pt_cmpR op_ge (pv 2) (pe_op op_pow pe_int pe_int) (nomark _)) (pv 2) pe_int) (pa_cons (pe_op op_add (pe_op op_mod (pe_callTy call_int1 (by rfl) T.z_int (by decide +kernel) (pa_cons (pv 2) pa_nil)) pe_int) (pe_op op_mul pe_int (pv 1))) (pa_cons pe_int pa_nil))))))), ?_⟩
    refine ⟨_, rfl, _, rfl, a, _, rfl, .inl hS, _, _, rfl, rfl, _, rfl, ite2 (fun h1 => ?_) (fun h1 => ?_)⟩
    · have hk : k.toNat < ns.length := by
        have := of_decide_eq_true h1
        rw [List.length_map] at this
        omega
      have ea : atI (ns.map V.int) k = some (V.int (ns[k.toNat]'hk)) := at_of (j := k.toNat) (by omega) (by rw [List.getElem?_map, List.getElem?_eq_getElem hk]; rfl)
      refine ⟨_, rfl, _, rfl, a, _, _, _, rfl, rfl, hS, ea, _, rfl, ?_⟩
      refine ⟨_, rfl, _, _, rfl, rfl, ⟨by decide, by decide, by decide⟩, _, _, rfl, rfl, _, rfl, ?_⟩
      refine ite2 (fun h2 => ?_) (fun h2 => ?_)
      · refine ⟨_, rfl, _, rfl, .inl ⟨_, rfl, _, _, rfl, rfl, (by show (0 : Int) < 2147483647; decide), _, rfl, _, _, rfl, rfl, .inl ⟨by decide, by decide⟩, _, _, rfl, rfl, (by show 3 ≤ sizeLine; decide), fun p hp => ?_⟩⟩
        exact fin _ _ (by split <;> omega) p hp
      · refine ⟨_, rfl, .inl ⟨_, rfl, _, _, rfl, rfl, (by show (0 : Int) < 2147483647; decide), _, rfl, _, _, rfl, rfl, .inl ⟨by decide, by decide⟩, _, _, rfl, rfl, (by show 3 ≤ sizeLine; decide), fun p hp => ?_⟩⟩
        exact fin _ _ (Int.le_refl 0) p hp
    · refine ⟨_, rfl, _, _, rfl, rfl, ⟨by decide, by decide, by decide⟩, _, _, rfl, rfl, _, rfl, ?_⟩
      refine ite2 (fun h2 => ?_) (fun h2 => ?_)
      · refine ⟨_, rfl, _, rfl, .inl ⟨_, rfl, _, _, rfl, rfl, (by show (0 : Int) < 2147483647; decide), _, rfl, _, _, rfl, rfl, .inl ⟨by decide, by decide⟩, _, _, rfl, rfl, (by show 3 ≤ sizeLine; decide), fun p hp => ?_⟩⟩
        exact fin _ _ (Int.le_refl 0) p hp
      · refine ⟨_, rfl, .inl ⟨_, rfl, _, _, rfl, rfl, (by show (0 : Int) < 2147483647; decide), _, rfl, _, _, rfl, rfl, .inl ⟨by decide, by decide⟩, _, _, rfl, rfl, (by show 3 ≤ sizeLine; decide), fun p hp => ?_⟩⟩
        exact fin _ _ (Int.le_refl 0) p hp
abbrev s__law_draw : Stmt := top 26
theorem sc__law_draw : FnScope ["_law_stream_here", "_law_many", "_law_digit", "_law_spread"] ["_law_stream_here", "_law_many"] (defScope s__law_draw) := ⟨rfl, rfl, rfl, by decide +kernel, rfl, by decide +kernel, by decide +kernel⟩
theorem ok__law_draw (T : Tx w K mg) : Fk P w K mg base CX0 1 "_law_draw" ["_law_stream_here", "_law_many"] sp_draw := by
  refine T.F__law_draw.ok0 sc__law_draw (fun _ _ _ _ _ _ us hl => match us, hl with | [_, _], _ => rfl)
    (fun vs H Q E h => ?_) (fun cdv A outer s H vs Q E hr h => ?_)
  · obtain ⟨p, xs, n, m, rfl, _⟩ := h
    rfl
  · obtain ⟨p, xs, n, m, rfl, hp, ⟨a, b, c, rfl, ha, hb0, hb1, hc0, hc1⟩, hm0, hm1, k⟩ := h
    refine ⟨_, (pss_cons (ps_if (pt_cmpR op_gt (pe_ix ix_list (pv 0) pe_int (fun _ _ => rfl)) pe_int (nomark _))
  (pss_cons (ps_set (i := 2) sc__law_draw.nd rfl (Or.inl rfl) (pe_op op_mod (pe_callTy call_int1 (by rfl) T.z_int (by decide +kernel) (pa_cons (pe_ix ix_list (pv 0) pe_int (fun _ _ => rfl)) pa_nil)) (pv 1)))
  (pss_cons (ps_asg (pe_op op_fdiv (pe_ix ix_list (pv 0) pe_int (fun _ _ => rfl)) (pv 1)) (pg_sub (pv 0) pe_int set_list))
  (pss_one (ps_ret (pv 2)))))
  pss_nil)
  (pss_cons (ps_asg (pe_op op_add (pe_ix ix_list (pv 0) pe_int (fun _ _ => rfl)) pe_int) (pg_sub (pv 0) pe_int set_list))
  (pss_cons (ps_set (i := 3) sc__law_draw.nd rfl (Or.inl rfl) (pe_op op_mod (pe_op op_pow (pe_callTy call_int1 (by rfl) T.z_int (by decide +kernel) (pa_cons (pe_op op_add (pe_op op_add (pe_ix ix_list (pv 0) pe_int (fun _ _ => rfl)) (pe_op op_mul pe_int (pe_ix ix_list (pv 0) pe_int (fun _ _ => rfl)))) pe_int) pa_nil)) pe_int) pe_int))
  (pss_one (ps_ret (pe_op op_mod (pe_op op_fdiv (pe_op op_mod (pe_callTy call_int1 (by rfl) T.z_int (by decide +kernel) (pa_cons (pe_op op_mul (pe_op op_add (pv 3) (pe_ix ix_list (pv 0) pe_int (fun _ _ => rfl))) pe_int) pa_nil)) pe_int) pe_int) (pv 1))))))), ?_⟩
    refine ⟨_, rfl, p, _, _, _, rfl, rfl, SqL.of hp, at_of (j := 0) rfl rfl, _, _, rfl, rfl, _, rfl, ?_⟩
    refine ite2 (fun h1 => ?_) (fun h1 => ?_)
    · refine ⟨_, rfl, p, _, _, _, rfl, rfl, SqL.of hp, at_of (j := 0) rfl rfl, .inl ⟨_, rfl, _, rfl, _, _, rfl, rfl, hm0, ?_⟩⟩
      refine ⟨_, rfl, p, _, _, _, rfl, rfl, SqL.of hp, at_of (j := 0) rfl rfl, _, rfl, _, _, rfl, rfl, ⟨hm0, hm1⟩, ?_⟩
      refine ⟨_, rfl, p, _, _, 0, rfl, rfl, hp, rfl, _, rfl, ?_⟩
      refine k _ _ (Int.emod_nonneg _ (by omega)) (Int.emod_lt_of_pos _ hm0) ⟨_, _, _, rfl, ?_, hb0, hb1, hc0, by omega⟩
      exact Int.ediv_nonneg ha (by omega)
    · refine ⟨_, rfl, p, _, _, _, rfl, rfl, SqL.of hp, at_of (j := 2) rfl rfl, _, _, rfl, rfl, _, rfl, p, _, _, 2, rfl, rfl, hp, rfl, ?_⟩
      have hp2 : upd H p (.lst [.int a, .int b, .int (c + 1)]) p = some (.lst [.int a, .int b, .int (c + 1)]) := upd_same
      refine ⟨_, rfl, p, _, _, _, rfl, rfl, SqL.of hp2, at_of (j := 1) rfl rfl, _, rfl, p, _, _, _, rfl, rfl, SqL.of hp2, at_of (j := 2) rfl rfl, _, _, rfl, rfl, .inl ⟨by decide, by decide⟩, _, _, rfl, rfl, _, _, rfl, rfl, .inl ⟨_, rfl, _, _, rfl, rfl, ⟨by decide, by decide, ?_⟩, _, _, rfl, rfl, (by show (0 : Int) < 2147483647; decide), ?_⟩⟩
      · show (b + 7919 * (c + 1) + 104729).natAbs < 18446744073709551616
        omega
      · have s0 : 0 ≤ (b + 7919 * (c + 1) + 104729) ^ Int.toNat 5 % 2147483647 := Int.emod_nonneg _ (by decide)
        have s1 : (b + 7919 * (c + 1) + 104729) ^ Int.toNat 5 % 2147483647 < 2147483647 := Int.emod_lt_of_pos _ (by decide)
        refine ⟨_, rfl, _, rfl, p, _, _, _, rfl, rfl, SqL.of hp2, at_of (j := 2) rfl rfl, _, _, rfl, rfl, _, _, rfl, rfl, .inl ⟨?_, ?_⟩, .inl ⟨_, rfl, _, _, rfl, rfl, (by show (0 : Int) < 2147483629; decide), _, _, rfl, rfl, ⟨by decide, by decide⟩, _, rfl, _, _, rfl, rfl, hm0, ?_⟩⟩
        · show -(18446744073709551616 : Int) < (b + 7919 * (c + 1) + 104729) ^ Int.toNat 5 % 2147483647 + (c + 1)
          generalize (b + 7919 * (c + 1) + 104729) ^ Int.toNat 5 % 2147483647 = sp at s0 s1 ⊢
          omega
        · show (b + 7919 * (c + 1) + 104729) ^ Int.toNat 5 % 2147483647 + (c + 1) < (18446744073709551616 : Int)
          generalize (b + 7919 * (c + 1) + 104729) ^ Int.toNat 5 % 2147483647 = sp at s0 s1 ⊢
          omega
        · exact k _ _ (Int.emod_nonneg _ (by omega)) (Int.emod_lt_of_pos _ hm0) ⟨_, _, _, rfl, ha, hb0, hb1, by omega, by omega⟩
abbrev s__law_pick : Stmt := top 27
theorem sc__law_pick : FnScope ["_law_stream_here", "_law_things"] ["_law_stream_here", "_law_things"] (defScope s__law_pick) := ⟨rfl, rfl, rfl, by decide +kernel, rfl, by decide +kernel, by decide +kernel⟩
theorem ok__law_pick (T : Tx w K mg) : Fk P w K mg base CX0 2 "_law_pick" ["_law_stream_here", "_law_things"] (sp_pick K) := by
  refine T.F__law_pick.ok0 sc__law_pick (fun _ _ _ _ _ _ us hl => match us, hl with | [_, _], _ => rfl)
    (fun vs H Q E h => ?_) (fun cdv A outer s H vs Q E hr h => ?_)
  · obtain ⟨p, a, xs, us, n, rfl, _⟩ := h
    rfl
  · obtain ⟨p, a, xs, us, n, rfl, hp, hx, hS, hS2, hu0, hu1, k⟩ := h
    refine ⟨_, (pss_one (ps_ret (pe_ix ix_list (pv 1) (pe_fk (ok__law_draw T) (hr.mono (by omega)) rfl pass0 (pa_cons (pv 0) (pa_cons (pe_callB call_len_seq (by rfl) T.z_len (by decide +kernel) (pa_cons (pv 1) pa_nil)) pa_nil))) (fun _ _ => rfl)))), ?_⟩
    refine ⟨_, rfl, _, rfl, _, rfl, a, us, rfl, .inl hS, p, xs, n, _, rfl, hp, hx, by omega, by omega, fun d ys hd0 hd1 hy => ?_⟩
    have hj : d.toNat < us.length := by omega
    have hS3 : SqL K (upd H p (.lst ys)) a us := by
      by_cases e : a = p
      · subst e
        rcases hS2 with (h | ⟨o, h⟩) | h
        · rw [upd_same] at h
          cases h
          exact absurd hu0 (by decide)
        · rw [upd_same] at h
          cases h
        · exact .inr h
      · rcases hS2 with (h | ⟨o, h⟩) | h
        · rw [upd_ne e] at h
          exact .inl (.inl (by rw [upd_ne e]; exact h))
        · rw [upd_ne e] at h
          exact .inl (.inr ⟨o, by rw [upd_ne e]; exact h⟩)
        · exact .inr h
    exact ⟨a, us, _, _, rfl, rfl, hS3, at_of (j := d.toNat) (by omega) (List.getElem?_eq_getElem hj), k _ _ ys (List.getElem?_eq_getElem hj) hy⟩
end
end Rd
namespace Rd
open PySem L2
/-- all but p stays -/
def But (p : Addr) (H H' : Hp) : Prop := ∀ b o, b ≠ p → H b = some o → H' b = some o
theorem But.refl {p : Addr} {H : Hp} : But p H H := fun _ _ _ e => e
theorem But.trans {p : Addr} {H H1 H2 : Hp} (a : But p H H1) (b : But p H1 H2) : But p H H2 := fun c o hc h => b c o hc (a c o hc h)
theorem But.of_same {p : Addr} {H H' : Hp} (s : Same H H') : But p H H' := fun b o _ e => s b o e
theorem But.upd {p : Addr} {H : Hp} {o : HO} : But p H (L2.upd H p o) := fun b u hb e => by rw [upd_ne hb]; exact e
theorem But.free {p q : Addr} {H H' : Hp} {xs : List V} (s : But p H H') (hp : H' p = some (.lst xs)) (h : H' q = none) : H q = none := by
  cases e : H q with
  | none => rfl
  | some o =>
    have hq : q ≠ p := fun z => by rw [z, hp] at h; cases h
    rw [s q o hq e] at h
    cases h
def imm (C : Addr) : HO → Bool
  | .tup _ => true
  | .ins C' _ _ => C' == C
  | _ => false
/-- tuples and instances of C stay -/
def Kp (C : Addr) (H H' : Hp) : Prop := ∀ b o, imm C o = true → H b = some o → H' b = some o
theorem Kp.refl {C : Addr} {H : Hp} : Kp C H H := fun _ _ _ e => e
theorem Kp.trans {C : Addr} {H H1 H2 : Hp} (a : Kp C H H1) (b : Kp C H1 H2) : Kp C H H2 := fun c o hc h => b c o hc (a c o hc h)
theorem But.kp {C p : Addr} {H H' : Hp} {xs : List V} (s : But p H H') (hp : H p = some (.lst xs)) : Kp C H H' := fun b o hi e => s b o (fun z => by
  rw [z, hp] at e
  cases e
  cases hi) e
end Rd
namespace Rd
open PySem L2
section
variable {P : Program} {w : World} {K : PySem.W.Frag} {mg : Str → Option Value} {base : Heap}
abbrev s_BadAtom_init : Stmt := inClass (top 2) 0
theorem sc_BadAtom_init : FnScope ["self", "text"] ["self", "text"] (defScope s_BadAtom_init) := ⟨rfl, rfl, rfl, by decide +kernel, rfl, by decide +kernel, by decide +kernel⟩
theorem ok_BadAtom (T : Tx w K mg) : FmK P w K mg base CX0 1 "BadAtom" "text" (spX1 K "text") := by
  refine T.X_BadAtom.init.okK sc_BadAtom_init (fun _ _ _ _ _ _ us hl => match us, hl with | [_, _], _ => rfl) (fun _ _ _ _ _ _ _ _ => rfl)
    (fun vs H Q E h => ?_) (fun cdv A outer s H vs Q E hr h => ?_)
  · obtain ⟨a, C, v, rfl, _⟩ := h
    rfl
  · obtain ⟨a, C, v, rfl, TC, no, ha, k⟩ := h
    refine ⟨_, (pss_cons (ps_expr (pe_reinit rfl T.g_RoadError T.r_RoadError (pa_cons (pv 0) (pa_cons pe_str pa_nil))))
  (pss_one (ps_ost (pv 0) (pv 1)))), ?_⟩
    refine ⟨_, rfl, a, C, [.str "no atom"], rfl, (by show 1 ≤ 1000; decide), TC, ha, _, rfl, _, rfl, a, C, rfl, TC, no, .inl ⟨ha, fun dx hdx ne => k dx hdx ne⟩⟩
abbrev s_BadForm_init : Stmt := inClass (top 3) 0
theorem sc_BadForm_init : FnScope ["self", "path"] ["self", "path"] (defScope s_BadForm_init) := ⟨rfl, rfl, rfl, by decide +kernel, rfl, by decide +kernel, by decide +kernel⟩
theorem ok_BadForm (T : Tx w K mg) : FmK P w K mg base CX0 1 "BadForm" "path" (spX1 K "path") := by
  refine T.X_BadForm.init.okK sc_BadForm_init (fun _ _ _ _ _ _ us hl => match us, hl with | [_, _], _ => rfl) (fun _ _ _ _ _ _ _ _ => rfl)
    (fun vs H Q E h => ?_) (fun cdv A outer s H vs Q E hr h => ?_)
  · obtain ⟨a, C, v, rfl, _⟩ := h
    rfl
  · obtain ⟨a, C, v, rfl, TC, no, ha, k⟩ := h
    refine ⟨_, (pss_cons (ps_expr (pe_reinit rfl T.g_RoadError T.r_RoadError (pa_cons (pv 0) (pa_cons pe_str pa_nil))))
  (pss_one (ps_ost (pv 0) (pv 1)))), ?_⟩
    refine ⟨_, rfl, a, C, [.str "no form"], rfl, (by show 1 ≤ 1000; decide), TC, ha, _, rfl, _, rfl, a, C, rfl, TC, no, .inl ⟨ha, fun dx hdx ne => k dx hdx ne⟩⟩
abbrev s_BadKey_init : Stmt := inClass (top 4) 0
theorem sc_BadKey_init : FnScope ["self", "key"] ["self", "key"] (defScope s_BadKey_init) := ⟨rfl, rfl, rfl, by decide +kernel, rfl, by decide +kernel, by decide +kernel⟩
theorem ok_BadKey (T : Tx w K mg) : FmK P w K mg base CX0 1 "BadKey" "key" (spX1 K "key") := by
  refine T.X_BadKey.init.okK sc_BadKey_init (fun _ _ _ _ _ _ us hl => match us, hl with | [_, _], _ => rfl) (fun _ _ _ _ _ _ _ _ => rfl)
    (fun vs H Q E h => ?_) (fun cdv A outer s H vs Q E hr h => ?_)
  · obtain ⟨a, C, v, rfl, _⟩ := h
    rfl
  · obtain ⟨a, C, v, rfl, TC, no, ha, k⟩ := h
    refine ⟨_, (pss_cons (ps_expr (pe_reinit rfl T.g_RoadError T.r_RoadError (pa_cons (pv 0) (pa_cons pe_str pa_nil))))
  (pss_one (ps_ost (pv 0) (pv 1)))), ?_⟩
    refine ⟨_, rfl, a, C, [.str "no key of a pair"], rfl, (by show 1 ≤ 1000; decide), TC, ha, _, rfl, _, rfl, a, C, rfl, TC, no, .inl ⟨ha, fun dx hdx ne => k dx hdx ne⟩⟩
abbrev s_BadText_init : Stmt := inClass (top 5) 0
theorem sc_BadText_init : FnScope ["self", "line"] ["self", "line"] (defScope s_BadText_init) := ⟨rfl, rfl, rfl, by decide +kernel, rfl, by decide +kernel, by decide +kernel⟩
theorem ok_BadText (T : Tx w K mg) : FmK P w K mg base CX0 1 "BadText" "line" (spX1 K "line") := by
  refine T.X_BadText.init.okK sc_BadText_init (fun _ _ _ _ _ _ us hl => match us, hl with | [_, _], _ => rfl) (fun _ _ _ _ _ _ _ _ => rfl)
    (fun vs H Q E h => ?_) (fun cdv A outer s H vs Q E hr h => ?_)
  · obtain ⟨a, C, v, rfl, _⟩ := h
    rfl
  · obtain ⟨a, C, v, rfl, TC, no, ha, k⟩ := h
    refine ⟨_, (pss_cons (ps_expr (pe_reinit rfl T.g_RoadError T.r_RoadError (pa_cons (pv 0) (pa_cons pe_str pa_nil))))
  (pss_one (ps_ost (pv 0) (pv 1)))), ?_⟩
    refine ⟨_, rfl, a, C, [.str "bad line"], rfl, (by show 1 ≤ 1000; decide), TC, ha, _, rfl, _, rfl, a, C, rfl, TC, no, .inl ⟨ha, fun dx hdx ne => k dx hdx ne⟩⟩
abbrev s_BadHeap_init : Stmt := inClass (top 6) 0
theorem sc_BadHeap_init : FnScope ["self", "index"] ["self", "index"] (defScope s_BadHeap_init) := ⟨rfl, rfl, rfl, by decide +kernel, rfl, by decide +kernel, by decide +kernel⟩
theorem ok_BadHeap (T : Tx w K mg) : FmK P w K mg base CX0 1 "BadHeap" "index" (spX1 K "index") := by
  refine T.X_BadHeap.init.okK sc_BadHeap_init (fun _ _ _ _ _ _ us hl => match us, hl with | [_, _], _ => rfl) (fun _ _ _ _ _ _ _ _ => rfl)
    (fun vs H Q E h => ?_) (fun cdv A outer s H vs Q E hr h => ?_)
  · obtain ⟨a, C, v, rfl, _⟩ := h
    rfl
  · obtain ⟨a, C, v, rfl, TC, no, ha, k⟩ := h
    refine ⟨_, (pss_cons (ps_expr (pe_reinit rfl T.g_RoadError T.r_RoadError (pa_cons (pv 0) (pa_cons pe_str pa_nil))))
  (pss_one (ps_ost (pv 0) (pv 1)))), ?_⟩
    refine ⟨_, rfl, a, C, [.str "not plain"], rfl, (by show 1 ≤ 1000; decide), TC, ha, _, rfl, _, rfl, a, C, rfl, TC, no, .inl ⟨ha, fun dx hdx ne => k dx hdx ne⟩⟩
abbrev s_BadRecipe_init : Stmt := inClass (top 7) 0
theorem sc_BadRecipe_init : FnScope ["self"] ["self"] (defScope s_BadRecipe_init) := ⟨rfl, rfl, rfl, by decide +kernel, rfl, by decide +kernel, by decide +kernel⟩
theorem ok_BadRecipe (T : Tx w K mg) : Fm P w K mg base CX0 1 "BadRecipe" "__init__" ["self"] (spX0 K) := by
  refine T.X0_BadRecipe.init.ok0 sc_BadRecipe_init (fun _ _ _ _ _ _ us hl => match us, hl with | [_], _ => rfl)
    (fun vs H Q E h => ?_) (fun cdv A outer s H vs Q E hr h => ?_)
  · obtain ⟨a, C, rfl, _⟩ := h
    rfl
  · obtain ⟨a, C, rfl, TC, ha, k⟩ := h
    refine ⟨_, (pss_one (ps_expr (pe_reinit rfl T.g_RoadError T.r_RoadError (pa_cons (pv 0) (pa_cons pe_str pa_nil))))), ?_⟩
    exact ⟨_, rfl, a, C, [.str "no recipe"], rfl, (by show 1 ≤ 1000; decide), TC, ha, k⟩
abbrev s_NoWay_init : Stmt := inClass (top 8) 0
theorem sc_NoWay_init : FnScope ["self", "step"] ["self", "step"] (defScope s_NoWay_init) := ⟨rfl, rfl, rfl, by decide +kernel, rfl, by decide +kernel, by decide +kernel⟩
theorem ok_NoWay (T : Tx w K mg) : FmK P w K mg base CX0 1 "NoWay" "step" (spX1 K "step") := by
  refine T.X_NoWay.init.okK sc_NoWay_init (fun _ _ _ _ _ _ us hl => match us, hl with | [_, _], _ => rfl) (fun _ _ _ _ _ _ _ _ => rfl)
    (fun vs H Q E h => ?_) (fun cdv A outer s H vs Q E hr h => ?_)
  · obtain ⟨a, C, v, rfl, _⟩ := h
    rfl
  · obtain ⟨a, C, v, rfl, TC, no, ha, k⟩ := h
    refine ⟨_, (pss_cons (ps_expr (pe_reinit rfl T.g_RoadError T.r_RoadError (pa_cons (pv 0) (pa_cons pe_str pa_nil))))
  (pss_one (ps_ost (pv 0) (pv 1)))), ?_⟩
    refine ⟨_, rfl, a, C, [.str "recipe does not work"], rfl, (by show 1 ≤ 1000; decide), TC, ha, _, rfl, _, rfl, a, C, rfl, TC, no, .inl ⟨ha, fun dx hdx ne => k dx hdx ne⟩⟩
abbrev s_BadHeaps_init : Stmt := inClass (top 9) 0
theorem sc_BadHeaps_init : FnScope ["self"] ["self"] (defScope s_BadHeaps_init) := ⟨rfl, rfl, rfl, by decide +kernel, rfl, by decide +kernel, by decide +kernel⟩
theorem ok_BadHeaps (T : Tx w K mg) : Fm P w K mg base CX0 1 "BadHeaps" "__init__" ["self"] (spX0 K) := by
  refine T.X0_BadHeaps.init.ok0 sc_BadHeaps_init (fun _ _ _ _ _ _ us hl => match us, hl with | [_], _ => rfl)
    (fun vs H Q E h => ?_) (fun cdv A outer s H vs Q E hr h => ?_)
  · obtain ⟨a, C, rfl, _⟩ := h
    rfl
  · obtain ⟨a, C, rfl, TC, ha, k⟩ := h
    refine ⟨_, (pss_one (ps_expr (pe_reinit rfl T.g_RoadError T.r_RoadError (pa_cons (pv 0) (pa_cons pe_str pa_nil))))), ?_⟩
    exact ⟨_, rfl, a, C, [.str "unlike lengths"], rfl, (by show 1 ≤ 1000; decide), TC, ha, k⟩
abbrev s_BadRole_init : Stmt := inClass (top 10) 0
theorem sc_BadRole_init : FnScope ["self", "field"] ["self", "field"] (defScope s_BadRole_init) := ⟨rfl, rfl, rfl, by decide +kernel, rfl, by decide +kernel, by decide +kernel⟩
theorem ok_BadRole (T : Tx w K mg) : FmK P w K mg base CX0 1 "BadRole" "field" (spX1 K "field") := by
  refine T.X_BadRole.init.okK sc_BadRole_init (fun _ _ _ _ _ _ us hl => match us, hl with | [_, _], _ => rfl) (fun _ _ _ _ _ _ _ _ => rfl)
    (fun vs H Q E h => ?_) (fun cdv A outer s H vs Q E hr h => ?_)
  · obtain ⟨a, C, v, rfl, _⟩ := h
    rfl
  · obtain ⟨a, C, v, rfl, TC, no, ha, k⟩ := h
    refine ⟨_, (pss_cons (ps_expr (pe_reinit rfl T.g_RoadError T.r_RoadError (pa_cons (pv 0) (pa_cons pe_str pa_nil))))
  (pss_one (ps_ost (pv 0) (pv 1)))), ?_⟩
    refine ⟨_, rfl, a, C, [.str "role not allowed"], rfl, (by show 1 ≤ 1000; decide), TC, ha, _, rfl, _, rfl, a, C, rfl, TC, no, .inl ⟨ha, fun dx hdx ne => k dx hdx ne⟩⟩
abbrev s_NotFit_init : Stmt := inClass (top 11) 0
theorem sc_NotFit_init : FnScope ["self", "index"] ["self", "index"] (defScope s_NotFit_init) := ⟨rfl, rfl, rfl, by decide +kernel, rfl, by decide +kernel, by decide +kernel⟩
theorem ok_NotFit (T : Tx w K mg) : FmK P w K mg base CX0 1 "NotFit" "index" (spX1 K "index") := by
  refine T.X_NotFit.init.okK sc_NotFit_init (fun _ _ _ _ _ _ us hl => match us, hl with | [_, _], _ => rfl) (fun _ _ _ _ _ _ _ _ => rfl)
    (fun vs H Q E h => ?_) (fun cdv A outer s H vs Q E hr h => ?_)
  · obtain ⟨a, C, v, rfl, _⟩ := h
    rfl
  · obtain ⟨a, C, v, rfl, TC, no, ha, k⟩ := h
    refine ⟨_, (pss_cons (ps_expr (pe_reinit rfl T.g_RoadError T.r_RoadError (pa_cons (pv 0) (pa_cons pe_str pa_nil))))
  (pss_one (ps_ost (pv 0) (pv 1)))), ?_⟩
    refine ⟨_, rfl, a, C, [.str "row not fit"], rfl, (by show 1 ≤ 1000; decide), TC, ha, _, rfl, _, rfl, a, C, rfl, TC, no, .inl ⟨ha, fun dx hdx ne => k dx hdx ne⟩⟩
abbrev s_BadBook_init : Stmt := inClass (top 12) 0
theorem sc_BadBook_init : FnScope ["self", "field"] ["self", "field"] (defScope s_BadBook_init) := ⟨rfl, rfl, rfl, by decide +kernel, rfl, by decide +kernel, by decide +kernel⟩
theorem ok_BadBook (T : Tx w K mg) : FmK P w K mg base CX0 1 "BadBook" "field" (spX1 K "field") := by
  refine T.X_BadBook.init.okK sc_BadBook_init (fun _ _ _ _ _ _ us hl => match us, hl with | [_, _], _ => rfl) (fun _ _ _ _ _ _ _ _ => rfl)
    (fun vs H Q E h => ?_) (fun cdv A outer s H vs Q E hr h => ?_)
  · obtain ⟨a, C, v, rfl, _⟩ := h
    rfl
  · obtain ⟨a, C, v, rfl, TC, no, ha, k⟩ := h
    refine ⟨_, (pss_cons (ps_expr (pe_reinit rfl T.g_RoadError T.r_RoadError (pa_cons (pv 0) (pa_cons pe_str pa_nil))))
  (pss_one (ps_ost (pv 0) (pv 1)))), ?_⟩
    refine ⟨_, rfl, a, C, [.str "book not allowed"], rfl, (by show 1 ≤ 1000; decide), TC, ha, _, rfl, _, rfl, a, C, rfl, TC, no, .inl ⟨ha, fun dx hdx ne => k dx hdx ne⟩⟩
abbrev s_BadSitting_init : Stmt := inClass (top 13) 0
theorem sc_BadSitting_init : FnScope ["self", "index"] ["self", "index"] (defScope s_BadSitting_init) := ⟨rfl, rfl, rfl, by decide +kernel, rfl, by decide +kernel, by decide +kernel⟩
theorem ok_BadSitting (T : Tx w K mg) : FmK P w K mg base CX0 1 "BadSitting" "index" (spX1 K "index") := by
  refine T.X_BadSitting.init.okK sc_BadSitting_init (fun _ _ _ _ _ _ us hl => match us, hl with | [_, _], _ => rfl) (fun _ _ _ _ _ _ _ _ => rfl)
    (fun vs H Q E h => ?_) (fun cdv A outer s H vs Q E hr h => ?_)
  · obtain ⟨a, C, v, rfl, _⟩ := h
    rfl
  · obtain ⟨a, C, v, rfl, TC, no, ha, k⟩ := h
    refine ⟨_, (pss_cons (ps_expr (pe_reinit rfl T.g_RoadError T.r_RoadError (pa_cons (pv 0) (pa_cons pe_str pa_nil))))
  (pss_one (ps_ost (pv 0) (pv 1)))), ?_⟩
    refine ⟨_, rfl, a, C, [.str "sitting not allowed"], rfl, (by show 1 ≤ 1000; decide), TC, ha, _, rfl, _, rfl, a, C, rfl, TC, no, .inl ⟨ha, fun dx hdx ne => k dx hdx ne⟩⟩
abbrev s_NoSitting_init : Stmt := inClass (top 14) 0
theorem sc_NoSitting_init : FnScope ["self", "number"] ["self", "number"] (defScope s_NoSitting_init) := ⟨rfl, rfl, rfl, by decide +kernel, rfl, by decide +kernel, by decide +kernel⟩
theorem ok_NoSitting (T : Tx w K mg) : FmK P w K mg base CX0 1 "NoSitting" "number" (spX1 K "number") := by
  refine T.X_NoSitting.init.okK sc_NoSitting_init (fun _ _ _ _ _ _ us hl => match us, hl with | [_, _], _ => rfl) (fun _ _ _ _ _ _ _ _ => rfl)
    (fun vs H Q E h => ?_) (fun cdv A outer s H vs Q E hr h => ?_)
  · obtain ⟨a, C, v, rfl, _⟩ := h
    rfl
  · obtain ⟨a, C, v, rfl, TC, no, ha, k⟩ := h
    refine ⟨_, (pss_cons (ps_expr (pe_reinit rfl T.g_RoadError T.r_RoadError (pa_cons (pv 0) (pa_cons pe_str pa_nil))))
  (pss_one (ps_ost (pv 0) (pv 1)))), ?_⟩
    refine ⟨_, rfl, a, C, [.str "no such sitting"], rfl, (by show 1 ≤ 1000; decide), TC, ha, _, rfl, _, rfl, a, C, rfl, TC, no, .inl ⟨ha, fun dx hdx ne => k dx hdx ne⟩⟩
abbrev s_NotPlain_init : Stmt := inClass (top 15) 0
theorem sc_NotPlain_init : FnScope ["self"] ["self"] (defScope s_NotPlain_init) := ⟨rfl, rfl, rfl, by decide +kernel, rfl, by decide +kernel, by decide +kernel⟩
theorem ok_NotPlain (T : Tx w K mg) : Fm P w K mg base CX0 1 "NotPlain" "__init__" ["self"] (spX0 K) := by
  refine T.X0_NotPlain.init.ok0 sc_NotPlain_init (fun _ _ _ _ _ _ us hl => match us, hl with | [_], _ => rfl)
    (fun vs H Q E h => ?_) (fun cdv A outer s H vs Q E hr h => ?_)
  · obtain ⟨a, C, rfl, _⟩ := h
    rfl
  · obtain ⟨a, C, rfl, TC, ha, k⟩ := h
    refine ⟨_, (pss_one (ps_expr (pe_reinit rfl T.g_RoadError T.r_RoadError (pa_cons (pv 0) (pa_cons pe_str pa_nil))))), ?_⟩
    exact ⟨_, rfl, a, C, [.str "not plain"], rfl, (by show 1 ≤ 1000; decide), TC, ha, k⟩
abbrev s_NotWaiting_init : Stmt := inClass (top 16) 0
theorem sc_NotWaiting_init : FnScope ["self", "number"] ["self", "number"] (defScope s_NotWaiting_init) := ⟨rfl, rfl, rfl, by decide +kernel, rfl, by decide +kernel, by decide +kernel⟩
theorem ok_NotWaiting (T : Tx w K mg) : FmK P w K mg base CX0 1 "NotWaiting" "number" (spX1 K "number") := by
  refine T.X_NotWaiting.init.okK sc_NotWaiting_init (fun _ _ _ _ _ _ us hl => match us, hl with | [_, _], _ => rfl) (fun _ _ _ _ _ _ _ _ => rfl)
    (fun vs H Q E h => ?_) (fun cdv A outer s H vs Q E hr h => ?_)
  · obtain ⟨a, C, v, rfl, _⟩ := h
    rfl
  · obtain ⟨a, C, v, rfl, TC, no, ha, k⟩ := h
    refine ⟨_, (pss_cons (ps_expr (pe_reinit rfl T.g_RoadError T.r_RoadError (pa_cons (pv 0) (pa_cons pe_str pa_nil))))
  (pss_one (ps_ost (pv 0) (pv 1)))), ?_⟩
    refine ⟨_, rfl, a, C, [.str "not waiting"], rfl, (by show 1 ≤ 1000; decide), TC, ha, _, rfl, _, rfl, a, C, rfl, TC, no, .inl ⟨ha, fun dx hdx ne => k dx hdx ne⟩⟩
abbrev s_NotHeld_init : Stmt := inClass (top 17) 0
theorem sc_NotHeld_init : FnScope ["self"] ["self"] (defScope s_NotHeld_init) := ⟨rfl, rfl, rfl, by decide +kernel, rfl, by decide +kernel, by decide +kernel⟩
theorem ok_NotHeld (T : Tx w K mg) : Fm P w K mg base CX0 1 "NotHeld" "__init__" ["self"] (spX0 K) := by
  refine T.X0_NotHeld.init.ok0 sc_NotHeld_init (fun _ _ _ _ _ _ us hl => match us, hl with | [_], _ => rfl)
    (fun vs H Q E h => ?_) (fun cdv A outer s H vs Q E hr h => ?_)
  · obtain ⟨a, C, rfl, _⟩ := h
    rfl
  · obtain ⟨a, C, rfl, TC, ha, k⟩ := h
    refine ⟨_, (pss_one (ps_expr (pe_reinit rfl T.g_RoadError T.r_RoadError (pa_cons (pv 0) (pa_cons pe_str pa_nil))))), ?_⟩
    exact ⟨_, rfl, a, C, [.str "cannot be made"], rfl, (by show 1 ≤ 1000; decide), TC, ha, k⟩
abbrev s_NoMatch_init : Stmt := inClass (top 18) 0
theorem sc_NoMatch_init : FnScope ["self"] ["self"] (defScope s_NoMatch_init) := ⟨rfl, rfl, rfl, by decide +kernel, rfl, by decide +kernel, by decide +kernel⟩
theorem ok_NoMatch (T : Tx w K mg) : Fm P w K mg base CX0 1 "NoMatch" "__init__" ["self"] (spX0 K) := by
  refine T.X0_NoMatch.init.ok0 sc_NoMatch_init (fun _ _ _ _ _ _ us hl => match us, hl with | [_], _ => rfl)
    (fun vs H Q E h => ?_) (fun cdv A outer s H vs Q E hr h => ?_)
  · obtain ⟨a, C, rfl, _⟩ := h
    rfl
  · obtain ⟨a, C, rfl, TC, ha, k⟩ := h
    refine ⟨_, (pss_one (ps_expr (pe_reinit rfl T.g_RoadError T.r_RoadError (pa_cons (pv 0) (pa_cons pe_str pa_nil))))), ?_⟩
    exact ⟨_, rfl, a, C, [.str "not the awaited letter"], rfl, (by show 1 ≤ 1000; decide), TC, ha, k⟩
abbrev s_NotDone_init : Stmt := inClass (top 19) 0
theorem sc_NotDone_init : FnScope ["self", "place"] ["self", "place"] (defScope s_NotDone_init) := ⟨rfl, rfl, rfl, by decide +kernel, rfl, by decide +kernel, by decide +kernel⟩
theorem ok_NotDone (T : Tx w K mg) : FmK P w K mg base CX0 1 "NotDone" "place" (spX1 K "place") := by
  refine T.X_NotDone.init.okK sc_NotDone_init (fun _ _ _ _ _ _ us hl => match us, hl with | [_, _], _ => rfl) (fun _ _ _ _ _ _ _ _ => rfl)
    (fun vs H Q E h => ?_) (fun cdv A outer s H vs Q E hr h => ?_)
  · obtain ⟨a, C, v, rfl, _⟩ := h
    rfl
  · obtain ⟨a, C, v, rfl, TC, no, ha, k⟩ := h
    refine ⟨_, (pss_cons (ps_expr (pe_reinit rfl T.g_RoadError T.r_RoadError (pa_cons (pv 0) (pa_cons pe_str pa_nil))))
  (pss_one (ps_ost (pv 0) (pv 1)))), ?_⟩
    refine ⟨_, rfl, a, C, [.str "deed not done"], rfl, (by show 1 ≤ 1000; decide), TC, ha, _, rfl, _, rfl, a, C, rfl, TC, no, .inl ⟨ha, fun dx hdx ne => k dx hdx ne⟩⟩
abbrev s_BadFilling_init : Stmt := inClass (top 20) 0
theorem sc_BadFilling_init : FnScope ["self"] ["self"] (defScope s_BadFilling_init) := ⟨rfl, rfl, rfl, by decide +kernel, rfl, by decide +kernel, by decide +kernel⟩
theorem ok_BadFilling (T : Tx w K mg) : Fm P w K mg base CX0 1 "BadFilling" "__init__" ["self"] (spX0 K) := by
  refine T.X0_BadFilling.init.ok0 sc_BadFilling_init (fun _ _ _ _ _ _ us hl => match us, hl with | [_], _ => rfl)
    (fun vs H Q E h => ?_) (fun cdv A outer s H vs Q E hr h => ?_)
  · obtain ⟨a, C, rfl, _⟩ := h
    rfl
  · obtain ⟨a, C, rfl, TC, ha, k⟩ := h
    refine ⟨_, (pss_one (ps_expr (pe_reinit rfl T.g_RoadError T.r_RoadError (pa_cons (pv 0) (pa_cons pe_str pa_nil))))), ?_⟩
    exact ⟨_, rfl, a, C, [.str "filling not allowed"], rfl, (by show 1 ≤ 1000; decide), TC, ha, k⟩
abbrev s_BadWishes_init : Stmt := inClass (top 21) 0
theorem sc_BadWishes_init : FnScope ["self", "index"] ["self", "index"] (defScope s_BadWishes_init) := ⟨rfl, rfl, rfl, by decide +kernel, rfl, by decide +kernel, by decide +kernel⟩
theorem ok_BadWishes (T : Tx w K mg) : FmK P w K mg base CX0 1 "BadWishes" "index" (spX1 K "index") := by
  refine T.X_BadWishes.init.okK sc_BadWishes_init (fun _ _ _ _ _ _ us hl => match us, hl with | [_, _], _ => rfl) (fun _ _ _ _ _ _ _ _ => rfl)
    (fun vs H Q E h => ?_) (fun cdv A outer s H vs Q E hr h => ?_)
  · obtain ⟨a, C, v, rfl, _⟩ := h
    rfl
  · obtain ⟨a, C, v, rfl, TC, no, ha, k⟩ := h
    refine ⟨_, (pss_cons (ps_expr (pe_reinit rfl T.g_RoadError T.r_RoadError (pa_cons (pv 0) (pa_cons pe_str pa_nil))))
  (pss_one (ps_ost (pv 0) (pv 1)))), ?_⟩
    refine ⟨_, rfl, a, C, [.str "wishes not orderly"], rfl, (by show 1 ≤ 1000; decide), TC, ha, _, rfl, _, rfl, a, C, rfl, TC, no, .inl ⟨ha, fun dx hdx ne => k dx hdx ne⟩⟩
abbrev s_BadGoal_init : Stmt := inClass (top 22) 0
theorem sc_BadGoal_init : FnScope ["self"] ["self"] (defScope s_BadGoal_init) := ⟨rfl, rfl, rfl, by decide +kernel, rfl, by decide +kernel, by decide +kernel⟩
theorem ok_BadGoal (T : Tx w K mg) : Fm P w K mg base CX0 1 "BadGoal" "__init__" ["self"] (spX0 K) := by
  refine T.X0_BadGoal.init.ok0 sc_BadGoal_init (fun _ _ _ _ _ _ us hl => match us, hl with | [_], _ => rfl)
    (fun vs H Q E h => ?_) (fun cdv A outer s H vs Q E hr h => ?_)
  · obtain ⟨a, C, rfl, _⟩ := h
    rfl
  · obtain ⟨a, C, rfl, TC, ha, k⟩ := h
    refine ⟨_, (pss_one (ps_expr (pe_reinit rfl T.g_RoadError T.r_RoadError (pa_cons (pv 0) (pa_cons pe_str pa_nil))))), ?_⟩
    exact ⟨_, rfl, a, C, [.str "no goal"], rfl, (by show 1 ≤ 1000; decide), TC, ha, k⟩
abbrev s_BadCommand_init : Stmt := inClass (top 23) 0
theorem sc_BadCommand_init : FnScope ["self"] ["self"] (defScope s_BadCommand_init) := ⟨rfl, rfl, rfl, by decide +kernel, rfl, by decide +kernel, by decide +kernel⟩
theorem ok_BadCommand (T : Tx w K mg) : Fm P w K mg base CX0 1 "BadCommand" "__init__" ["self"] (spX0 K) := by
  refine T.X0_BadCommand.init.ok0 sc_BadCommand_init (fun _ _ _ _ _ _ us hl => match us, hl with | [_], _ => rfl)
    (fun vs H Q E h => ?_) (fun cdv A outer s H vs Q E hr h => ?_)
  · obtain ⟨a, C, rfl, _⟩ := h
    rfl
  · obtain ⟨a, C, rfl, TC, ha, k⟩ := h
    refine ⟨_, (pss_one (ps_expr (pe_reinit rfl T.g_RoadError T.r_RoadError (pa_cons (pv 0) (pa_cons pe_str pa_nil))))), ?_⟩
    exact ⟨_, rfl, a, C, [.str "no command"], rfl, (by show 1 ≤ 1000; decide), TC, ha, k⟩
end
end Rd
namespace Rd
open PySem L2
structure AtL {β : Type} (R : Hp → β → V → Prop) (H : Hp) (bs : List β) (vs : List V) : Prop where
  len : vs.length = bs.length
  get : ∀ (i : Nat) r v, bs[i]? = some r → vs[i]? = some v → R H r v
theorem AtL.nil {β : Type} {R : Hp → β → V → Prop} {H : Hp} : AtL R H [] [] := ⟨rfl, fun i r v h => by simp at h⟩
theorem AtL.mp {β : Type} {R R' : Hp → β → V → Prop} {H H' : Hp} {rs : List β} {vs : List V} (h : AtL R H rs vs) (f : ∀ r v, R H r v → R' H' r v) : AtL R' H' rs vs := ⟨h.len, fun i r v a b => f r v (h.get i r v a b)⟩
theorem AtL.cons {β : Type} {R : Hp → β → V → Prop} {H : Hp} {rs : List β} {vs : List V} {r : β} {v : V} (g : R H r v) (h : AtL R H rs vs) : AtL R H (r :: rs) (v :: vs) := by
  refine ⟨by rw [List.length_cons, List.length_cons, h.len], fun i r' v' h1 h2 => ?_⟩
  cases i with
  | zero => cases h1; cases h2; exact g
  | succ i => exact h.get i r' v' h1 h2
theorem AtL.app {β : Type} {R : Hp → β → V → Prop} {H : Hp} {vs ws : List V} {ts : List β} (g : AtL R H ts ws) : ∀ {rs : List β} {vs : List V}, AtL R H rs vs → AtL R H (rs ++ ts) (vs ++ ws)
  | [], [], _ => g
  | r :: rs, v :: vs, h => .cons (h.get 0 r v rfl rfl) (AtL.app (vs := ws) g ⟨Nat.succ.inj h.len, fun i r v a b => h.get (i + 1) r v a b⟩)
  | [], v :: vs, h => by cases h.len
  | r :: rs, [], h => by cases h.len
/-- an error of a class -/
def ExA (K : PySem.W.Frag) (H : Hp) (c : Str) (v : V) : Prop := ∃ (a : Addr) (d : Option Addr), v = .ref a ∧ H a = some (exo a (He.ga K c) d) ∧ (d = none ∨ ∃ (dd : Addr) (fs : List (Str × V)), d = some dd ∧ H dd = some (exd dd fs))
/-- the pair of one thing -/
def TwoA (v : V) (H : Hp) (_ : Unit) (u : V) : Prop := ∃ p, u = .ref p ∧ H p = some (.tup [v, v])
theorem exo_lst {e C : Addr} {d : Option Addr} {xs : List V} : exo e C d ≠ .lst xs := fun z => by
  have z' : HO.ext _ = HO.lst xs := z
  cases z'
theorem exd_lst {e : Addr} {fs : List (Str × V)} {xs : List V} : exd e fs ≠ .lst xs := fun z => by
  have z' : HO.ext _ = HO.lst xs := z
  cases z'
theorem ExA.but {K : PySem.W.Frag} {R : Addr} {H H' : Hp} {c : Str} {v : V} {xs : List V} (b : But R H H') (hR : H R = some (.lst xs)) (h : ExA K H c v) : ExA K H' c v := by
  obtain ⟨a, d, e, h1, h2⟩ := h
  refine ⟨a, d, e, b _ _ (fun z => ?_) h1, h2.imp id fun ⟨dd, fs, e1, e2⟩ => ⟨dd, fs, e1, b _ _ (fun z => ?_) e2⟩⟩
  · rw [z, hR] at h1
    exact exo_lst (Option.some.inj h1).symm
  · rw [z, hR] at e2
    exact exd_lst (Option.some.inj e2).symm
theorem ExA.same {K : PySem.W.Frag} {H H' : Hp} {c : Str} {v : V} (s : Same H H') (h : ExA K H c v) : ExA K H' c v := by
  obtain ⟨a, d, e, h1, h2⟩ := h
  exact ⟨a, d, e, s _ _ h1, h2.imp id fun ⟨dd, fs, e1, e2⟩ => ⟨dd, fs, e1, s _ _ e2⟩⟩
theorem TwoA.same {v : V} {H H' : Hp} {u : Unit} {x : V} (s : Same H H') (h : TwoA v H u x) : TwoA v H' u x :=
  let ⟨p, e, h⟩ := h
  ⟨p, e, s _ _ h⟩
theorem TwoA.but {v : V} {R : Addr} {H H' : Hp} {u : Unit} {x : V} {xs : List V} (b : But R H H') (hR : H R = some (.lst xs)) (h : TwoA v H u x) : TwoA v H' u x := by
  obtain ⟨p, e, h⟩ := h
  exact ⟨p, e, b _ _ (fun z => by rw [z, hR] at h; cases h) h⟩
theorem rd_xv1 {K : PySem.W.Frag} {C : Addr} {f : Str} {v : V} {ta : TA} {σ : St} {H : Hp} {Q : VK} (hv : ∀ Q' : List V → Hp → Prop, Q' [v] H → ta σ H Q') (T : OexC K C) (no : PySem.W.findIn K (.ref C) f = some none)
    (k : ∀ a d H', Same H H' → H' a = some (exo a C (some d)) → H' d = some (exd d [(f, v)]) → Q (.ref a) H') : tXv C (spX1 K f) ta σ H Q := by
  refine hv _ ⟨by show 1 ≤ 1000; decide, fun a ha => ⟨a, C, v, rfl, T, no, upd_same, fun dx hdx ne => ⟨rfl, k a dx _ (fun b o e => ?_) upd_same ?_⟩⟩⟩
  · rw [upd_ne ne] at hdx
    rw [upd_ne (ne_of_none e ha), upd_ne (ne_of_none e hdx), upd_ne (ne_of_none e ha)]
    exact e
  · rw [upd_ne ne, upd_same]
theorem rd_xv0 {K : PySem.W.Frag} {C : Addr} {σ : St} {H : Hp} {Q : VK} (T : OexC K C) (k : ∀ a H', Same H H' → H' a = some (exo a C none) → Q (.ref a) H') : tXv C (spX0 K) tNil σ H Q :=
  ⟨Nat.zero_le _, fun a ha => ⟨a, C, rfl, T, upd_same, rfl, k a _ (Rd.Same.upd ha) upd_same⟩⟩
theorem rd_xf1 {K : PySem.W.Frag} {C : Addr} {f : Str} {v : V} {ta : TA} {σ : St} {H : Hp} {Q : VK} (hv : ∀ Q' : List V → Hp → Prop, Q' [v] H → ta σ H Q') (T : OexC K C) (no : PySem.W.findIn K (.ref C) f = some none)
    (k : ∀ H', Same H H' → Q v H') : tXvf C f (tXv C (spX1 K f) ta) σ H Q :=
  rd_xv1 hv T no fun a d H' s h1 h2 => ⟨a, d, [(f, v)], v, rfl, h1, h2, by simp [List.lookup], k H' s⟩
theorem rd_two {K : PySem.W.Frag} {C : Addr} {f : Str} {v : V} {i : Nat} {σ : St} {H : Hp} {Q : VK} (hi : σ[i]? = some (some v)) (T : OexC K C) (no : PySem.W.findIn K (.ref C) f = some none)
    (k : ∀ q H', Same H H' → TwoA v H' () (.ref q) → Q (.ref q) H') : tTup (tCons (tXvf C f (tXv C (spX1 K f) (tCons (tVar i) tNil))) (tCons (tXvf C f (tXv C (spX1 K f) (tCons (tVar i) tNil))) tNil)) σ H Q :=
  rd_xf1 (fun Q' q => ⟨v, hi, q⟩) T no fun H1 s1 => rd_xf1 (fun Q' q => ⟨v, hi, q⟩) T no fun H2 s2 => ⟨(by show 2 ≤ sizeLine; decide), fun q hq => k q _ ((s1.trans s2).trans (Rd.Same.upd hq)) ⟨q, rfl, upd_same⟩⟩
theorem rd_ex1 {K : PySem.W.Frag} {c f : Str} {v : V} {i : Nat} {σ : St} {H : Hp} {Q : VK} (hi : σ[i]? = some (some v)) (T : OexC K (He.ga K c)) (no : PySem.W.findIn K (.ref (He.ga K c)) f = some none)
    (k : ∀ a H', Same H H' → ExA K H' c (.ref a) → Q (.ref a) H') : tXv (He.ga K c) (spX1 K f) (tCons (tVar i) tNil) σ H Q :=
  rd_xv1 (fun Q' q => ⟨v, hi, q⟩) T no fun a d H' s h1 h2 => k a H' s ⟨a, some d, rfl, h1, .inr ⟨d, _, rfl, h2⟩⟩
theorem rd_ex0 {K : PySem.W.Frag} {c : Str} {σ : St} {H : Hp} {Q : VK} (T : OexC K (He.ga K c)) (k : ∀ a H', Same H H' → ExA K H' c (.ref a) → Q (.ref a) H') : tXv (He.ga K c) (spX0 K) tNil σ H Q :=
  rd_xv0 T fun a H' s h1 => k a H' s ⟨a, none, rfl, h1, .inl rfl⟩
theorem lst_of {ta : TA} {σ : St} {H : Hp} {Q : VK} (h : ta σ H fun xs H1 => xs.length ≤ sizeLine ∧ ∀ p, H1 p = none → Q (.ref p) (upd H1 p (.lst xs))) : tLst ta σ H Q := h
theorem cons_of {t : TE} {ta : TA} {σ : St} {H : Hp} {Q : List V → Hp → Prop} (h : t σ H fun x H1 => ta σ H1 fun xs H2 => Q (x :: xs) H2) : tCons t ta σ H Q := h
theorem nil_of {σ : St} {H : Hp} {Q : List V → Hp → Prop} (h : Q [] H) : tNil σ H Q := h
def TWO : List Unit := List.replicate 14 ()
def sp_lwt : Sp := fun vs H Q _ => ∃ v, vs = [v] ∧ ∀ q us H', Same H H' → H q = none → H' q = some (.lst us) → AtL (TwoA v) H' TWO us → Q (.ref q) H'
def sp_lmade (K : PySem.W.Frag) : Sp := fun vs H Q _ => ∃ v, vs = [v] ∧ ∀ q us H', Same H H' → H q = none → H' q = some (.lst us) → AtL (ExA K) H' EXS us → Q (.ref q) H'
def sp_lkinds (K : PySem.W.Frag) : Sp := fun vs H Q _ => ∃ (v : V) (c : Str), vs = [v] ∧ ExA K H c v ∧ c ∈ EXS ∧ One31 K c ∧ ∀ q H', Same H H' → H q = none → H' q = some (.lst (EXS.map fun d => V.bl (decide (c = d)))) → Q (.ref q) H'
section
variable {P : Program} {w : World} {K : PySem.W.Frag} {mg : Str → Option Value} {base : Heap}
abbrev s__law_with_text : Stmt := top 28
theorem sc__law_with_text : FnScope ["_law_thing", "_law_rows"] ["_law_thing"] (defScope s__law_with_text) := ⟨rfl, rfl, rfl, by decide +kernel, rfl, by decide +kernel, by decide +kernel⟩
theorem ok__law_with_text (T : Tx w K mg) : Fk P w K mg base CX0 4 "_law_with_text" ["_law_thing"] sp_lwt := by
  refine T.F__law_with_text.ok0 sc__law_with_text (fun _ _ _ _ _ _ us hl => match us, hl with | [_], _ => rfl)
    (fun vs H Q E h => ?_) (fun cdv A outer s H vs Q E hr h => ?_)
  · obtain ⟨v, rfl, _⟩ := h
    rfl
  · obtain ⟨v, rfl, k⟩ := h
    refine ⟨_, (pss_cons (ps_set (i := 1) sc__law_with_text.nd rfl (Or.inl rfl) (pe_lst (pa_cons (pe_tup (pa_cons (pe_xvf T.X_BadAtom.xf T.X_BadAtom.no (pe_xv T.X_BadAtom (ok_BadAtom T).fm (hr.mono (by omega)) rfl (pa_cons (pv 0) pa_nil))) (pa_cons (pe_xvf T.X_BadAtom.xf T.X_BadAtom.no (pe_xvK T.X_BadAtom (ok_BadAtom T) (hr.mono (by omega)) rfl (pv 0))) pa_nil))) (pa_cons (pe_tup (pa_cons (pe_xvf T.X_BadForm.xf T.X_BadForm.no (pe_xv T.X_BadForm (ok_BadForm T).fm (hr.mono (by omega)) rfl (pa_cons (pv 0) pa_nil))) (pa_cons (pe_xvf T.X_BadForm.xf T.X_BadForm.no (pe_xvK T.X_BadForm (ok_BadForm T) (hr.mono (by omega)) rfl (pv 0))) pa_nil))) pa_nil))))
  (pss_cons (ps_expr (pe_bm PySem.F.plainAttrs_list PySem.F.slot_list_extend PySem.F.type_list_extend mt_extend (pv 1) (pa_cons (pe_lst (pa_cons (pe_tup (pa_cons (pe_xvf T.X_BadKey.xf T.X_BadKey.no (pe_xv T.X_BadKey (ok_BadKey T).fm (hr.mono (by omega)) rfl (pa_cons (pv 0) pa_nil))) (pa_cons (pe_xvf T.X_BadKey.xf T.X_BadKey.no (pe_xvK T.X_BadKey (ok_BadKey T) (hr.mono (by omega)) rfl (pv 0))) pa_nil))) (pa_cons (pe_tup (pa_cons (pe_xvf T.X_BadText.xf T.X_BadText.no (pe_xv T.X_BadText (ok_BadText T).fm (hr.mono (by omega)) rfl (pa_cons (pv 0) pa_nil))) (pa_cons (pe_xvf T.X_BadText.xf T.X_BadText.no (pe_xvK T.X_BadText (ok_BadText T) (hr.mono (by omega)) rfl (pv 0))) pa_nil))) pa_nil))) pa_nil)))
  (pss_cons (ps_expr (pe_bm PySem.F.plainAttrs_list PySem.F.slot_list_extend PySem.F.type_list_extend mt_extend (pv 1) (pa_cons (pe_lst (pa_cons (pe_tup (pa_cons (pe_xvf T.X_BadHeap.xf T.X_BadHeap.no (pe_xv T.X_BadHeap (ok_BadHeap T).fm (hr.mono (by omega)) rfl (pa_cons (pv 0) pa_nil))) (pa_cons (pe_xvf T.X_BadHeap.xf T.X_BadHeap.no (pe_xvK T.X_BadHeap (ok_BadHeap T) (hr.mono (by omega)) rfl (pv 0))) pa_nil))) pa_nil)) pa_nil)))
  (pss_cons (ps_expr (pe_bm PySem.F.plainAttrs_list PySem.F.slot_list_extend PySem.F.type_list_extend mt_extend (pv 1) (pa_cons (pe_lst (pa_cons (pe_tup (pa_cons (pe_xvf T.X_NoWay.xf T.X_NoWay.no (pe_xv T.X_NoWay (ok_NoWay T).fm (hr.mono (by omega)) rfl (pa_cons (pv 0) pa_nil))) (pa_cons (pe_xvf T.X_NoWay.xf T.X_NoWay.no (pe_xvK T.X_NoWay (ok_NoWay T) (hr.mono (by omega)) rfl (pv 0))) pa_nil))) pa_nil)) pa_nil)))
  (pss_cons (ps_expr (pe_bm PySem.F.plainAttrs_list PySem.F.slot_list_extend PySem.F.type_list_extend mt_extend (pv 1) (pa_cons (pe_lst (pa_cons (pe_tup (pa_cons (pe_xvf T.X_BadRole.xf T.X_BadRole.no (pe_xv T.X_BadRole (ok_BadRole T).fm (hr.mono (by omega)) rfl (pa_cons (pv 0) pa_nil))) (pa_cons (pe_xvf T.X_BadRole.xf T.X_BadRole.no (pe_xvK T.X_BadRole (ok_BadRole T) (hr.mono (by omega)) rfl (pv 0))) pa_nil))) pa_nil)) pa_nil)))
  (pss_cons (ps_expr (pe_bm PySem.F.plainAttrs_list PySem.F.slot_list_extend PySem.F.type_list_extend mt_extend (pv 1) (pa_cons (pe_lst (pa_cons (pe_tup (pa_cons (pe_xvf T.X_NotFit.xf T.X_NotFit.no (pe_xv T.X_NotFit (ok_NotFit T).fm (hr.mono (by omega)) rfl (pa_cons (pv 0) pa_nil))) (pa_cons (pe_xvf T.X_NotFit.xf T.X_NotFit.no (pe_xvK T.X_NotFit (ok_NotFit T) (hr.mono (by omega)) rfl (pv 0))) pa_nil))) pa_nil)) pa_nil)))
  (pss_cons (ps_expr (pe_bm PySem.F.plainAttrs_list PySem.F.slot_list_extend PySem.F.type_list_extend mt_extend (pv 1) (pa_cons (pe_lst (pa_cons (pe_tup (pa_cons (pe_xvf T.X_BadBook.xf T.X_BadBook.no (pe_xv T.X_BadBook (ok_BadBook T).fm (hr.mono (by omega)) rfl (pa_cons (pv 0) pa_nil))) (pa_cons (pe_xvf T.X_BadBook.xf T.X_BadBook.no (pe_xvK T.X_BadBook (ok_BadBook T) (hr.mono (by omega)) rfl (pv 0))) pa_nil))) pa_nil)) pa_nil)))
  (pss_cons (ps_expr (pe_bm PySem.F.plainAttrs_list PySem.F.slot_list_extend PySem.F.type_list_extend mt_extend (pv 1) (pa_cons (pe_lst (pa_cons (pe_tup (pa_cons (pe_xvf T.X_BadSitting.xf T.X_BadSitting.no (pe_xv T.X_BadSitting (ok_BadSitting T).fm (hr.mono (by omega)) rfl (pa_cons (pv 0) pa_nil))) (pa_cons (pe_xvf T.X_BadSitting.xf T.X_BadSitting.no (pe_xvK T.X_BadSitting (ok_BadSitting T) (hr.mono (by omega)) rfl (pv 0))) pa_nil))) pa_nil)) pa_nil)))
  (pss_cons (ps_expr (pe_bm PySem.F.plainAttrs_list PySem.F.slot_list_extend PySem.F.type_list_extend mt_extend (pv 1) (pa_cons (pe_lst (pa_cons (pe_tup (pa_cons (pe_xvf T.X_NoSitting.xf T.X_NoSitting.no (pe_xv T.X_NoSitting (ok_NoSitting T).fm (hr.mono (by omega)) rfl (pa_cons (pv 0) pa_nil))) (pa_cons (pe_xvf T.X_NoSitting.xf T.X_NoSitting.no (pe_xvK T.X_NoSitting (ok_NoSitting T) (hr.mono (by omega)) rfl (pv 0))) pa_nil))) pa_nil)) pa_nil)))
  (pss_cons (ps_expr (pe_bm PySem.F.plainAttrs_list PySem.F.slot_list_extend PySem.F.type_list_extend mt_extend (pv 1) (pa_cons (pe_lst (pa_cons (pe_tup (pa_cons (pe_xvf T.X_NotWaiting.xf T.X_NotWaiting.no (pe_xv T.X_NotWaiting (ok_NotWaiting T).fm (hr.mono (by omega)) rfl (pa_cons (pv 0) pa_nil))) (pa_cons (pe_xvf T.X_NotWaiting.xf T.X_NotWaiting.no (pe_xvK T.X_NotWaiting (ok_NotWaiting T) (hr.mono (by omega)) rfl (pv 0))) pa_nil))) pa_nil)) pa_nil)))
  (pss_cons (ps_expr (pe_bm PySem.F.plainAttrs_list PySem.F.slot_list_extend PySem.F.type_list_extend mt_extend (pv 1) (pa_cons (pe_lst (pa_cons (pe_tup (pa_cons (pe_xvf T.X_NotDone.xf T.X_NotDone.no (pe_xv T.X_NotDone (ok_NotDone T).fm (hr.mono (by omega)) rfl (pa_cons (pv 0) pa_nil))) (pa_cons (pe_xvf T.X_NotDone.xf T.X_NotDone.no (pe_xvK T.X_NotDone (ok_NotDone T) (hr.mono (by omega)) rfl (pv 0))) pa_nil))) pa_nil)) pa_nil)))
  (pss_one (ps_ret (pe_op op_cat (pv 1) (pe_lst (pa_cons (pe_tup (pa_cons (pe_xvf T.X_BadWishes.xf T.X_BadWishes.no (pe_xv T.X_BadWishes (ok_BadWishes T).fm (hr.mono (by omega)) rfl (pa_cons (pv 0) pa_nil))) (pa_cons (pe_xvf T.X_BadWishes.xf T.X_BadWishes.no (pe_xvK T.X_BadWishes (ok_BadWishes T) (hr.mono (by omega)) rfl (pv 0))) pa_nil))) pa_nil)))))))))))))))), ?_⟩
    have big : 16777216 ≤ sizeLine := by decide
    refine seqAsg (lst_of (cons_of (rd_two rfl T.X_BadAtom.oex T.X_BadAtom.no fun a1 H1 s1 e1 => cons_of (rd_two rfl T.X_BadForm.oex T.X_BadForm.no fun a2 H2 s2 e2 => nil_of ⟨by show 2 ≤ _; omega, fun R gR => ?_⟩))))
    have e1 := e1.same (s2)
    have fR : H R = none := ((s1).trans s2).free gR
    have b0 : But R H (upd H2 R (.lst [.ref a1, .ref a2])) := fun c o hc e => Rd.Same.upd gR _ _ (((s1).trans s2) _ _ e)
    have hR : upd H2 R (.lst [.ref a1, .ref a2]) R = some (.lst [.ref a1, .ref a2]) := upd_same
    have at0 : AtL (TwoA v) (upd H2 R (.lst [.ref a1, .ref a2])) (List.replicate 2 ()) [.ref a1, .ref a2] := .cons (e1.same (Rd.Same.upd gR)) (.cons (e2.same (Rd.Same.upd gR)) (AtL.nil))
    generalize upd H2 R (.lst [.ref a1, .ref a2]) = J0 at b0 hR at0 ⊢
    generalize ([.ref a1, .ref a2] : List V) = us0 at hR at0
    have l0 : us0.length = 2 := at0.len
    refine gName_k ?_
    try dsimp only
    refine ⟨_, rfl, .inl ⟨rfl, _, SqL.of hR⟩, cons_of (lst_of (cons_of (rd_two rfl T.X_BadKey.oex T.X_BadKey.no fun a3 H3 s3 e3 => cons_of (rd_two rfl T.X_BadText.oex T.X_BadText.no fun a4 H4 s4 e4 => nil_of ⟨by show 2 ≤ _; omega, fun q0 g0 => nil_of ?_⟩))))⟩
    have e3 := e3.same (s4)
    have t0 := ((s3).trans s4).trans (Rd.Same.upd (o := .lst [.ref a3, .ref a4]) g0)
    have hq0 : upd H4 q0 (.lst [.ref a3, .ref a4]) q0 = some (.lst [.ref a3, .ref a4]) := upd_same
    have ag0 : AtL (TwoA v) (upd H4 q0 (.lst [.ref a3, .ref a4])) (List.replicate 2 ()) [.ref a3, .ref a4] := .cons (e3.same (Rd.Same.upd g0)) (.cons (e4.same (Rd.Same.upd g0)) (AtL.nil))
    generalize upd H4 q0 (.lst [.ref a3, .ref a4]) = M0 at t0 hq0 ag0 ⊢
    generalize ([.ref a3, .ref a4] : List V) = zs0 at hq0 ag0
    have lz0 : zs0.length = 2 := ag0.len
    have hRM0 := t0 _ _ hR
    refine ⟨R, q0, us0, zs0, rfl, rfl, hRM0, hq0, by omega, ?_⟩
    have bu0 : But R M0 (upd M0 R (.lst (us0 ++ zs0))) := But.upd
    have hR : upd M0 R (.lst (us0 ++ zs0)) R = some (.lst (us0 ++ zs0)) := upd_same
    have b1 : But R H (upd M0 R (.lst (us0 ++ zs0))) := (b0.trans (But.of_same t0)).trans bu0
    have at1 : AtL (TwoA v) (upd M0 R (.lst (us0 ++ zs0))) (List.replicate 4 ()) (us0 ++ zs0) := AtL.app (vs := zs0) (ag0.mp fun _ _ h => h.but bu0 hRM0) (at0.mp fun _ _ h => (h.same t0).but bu0 hRM0)
    generalize upd M0 R (.lst (us0 ++ zs0)) = J1 at hR b1 at1 ⊢
    have l1 : (us0 ++ zs0).length = 4 := at1.len
    generalize us0 ++ zs0 = us1 at hR at1 l1
    try dsimp only
    refine ⟨_, rfl, .inl ⟨rfl, _, SqL.of hR⟩, cons_of (lst_of (cons_of (rd_two rfl T.X_BadHeap.oex T.X_BadHeap.no fun a5 H5 s5 e5 => nil_of ⟨by show 1 ≤ _; omega, fun q1 g1 => nil_of ?_⟩)))⟩
    have t1 := (s5).trans (Rd.Same.upd (o := .lst [.ref a5]) g1)
    have hq1 : upd H5 q1 (.lst [.ref a5]) q1 = some (.lst [.ref a5]) := upd_same
    have ag1 : AtL (TwoA v) (upd H5 q1 (.lst [.ref a5])) (List.replicate 1 ()) [.ref a5] := .cons (e5.same (Rd.Same.upd g1)) (AtL.nil)
    generalize upd H5 q1 (.lst [.ref a5]) = M1 at t1 hq1 ag1 ⊢
    generalize ([.ref a5] : List V) = zs1 at hq1 ag1
    have lz1 : zs1.length = 1 := ag1.len
    have hRM1 := t1 _ _ hR
    refine ⟨R, q1, us1, zs1, rfl, rfl, hRM1, hq1, by omega, ?_⟩
    have bu1 : But R M1 (upd M1 R (.lst (us1 ++ zs1))) := But.upd
    have hR : upd M1 R (.lst (us1 ++ zs1)) R = some (.lst (us1 ++ zs1)) := upd_same
    have b2 : But R H (upd M1 R (.lst (us1 ++ zs1))) := (b1.trans (But.of_same t1)).trans bu1
    have at2 : AtL (TwoA v) (upd M1 R (.lst (us1 ++ zs1))) (List.replicate 5 ()) (us1 ++ zs1) := AtL.app (vs := zs1) (ag1.mp fun _ _ h => h.but bu1 hRM1) (at1.mp fun _ _ h => (h.same t1).but bu1 hRM1)
    generalize upd M1 R (.lst (us1 ++ zs1)) = J2 at hR b2 at2 ⊢
    have l2 : (us1 ++ zs1).length = 5 := at2.len
    generalize us1 ++ zs1 = us2 at hR at2 l2
    try dsimp only
    refine ⟨_, rfl, .inl ⟨rfl, _, SqL.of hR⟩, cons_of (lst_of (cons_of (rd_two rfl T.X_NoWay.oex T.X_NoWay.no fun a6 H6 s6 e6 => nil_of ⟨by show 1 ≤ _; omega, fun q2 g2 => nil_of ?_⟩)))⟩
    have t2 := (s6).trans (Rd.Same.upd (o := .lst [.ref a6]) g2)
    have hq2 : upd H6 q2 (.lst [.ref a6]) q2 = some (.lst [.ref a6]) := upd_same
    have ag2 : AtL (TwoA v) (upd H6 q2 (.lst [.ref a6])) (List.replicate 1 ()) [.ref a6] := .cons (e6.same (Rd.Same.upd g2)) (AtL.nil)
    generalize upd H6 q2 (.lst [.ref a6]) = M2 at t2 hq2 ag2 ⊢
    generalize ([.ref a6] : List V) = zs2 at hq2 ag2
    have lz2 : zs2.length = 1 := ag2.len
    have hRM2 := t2 _ _ hR
    refine ⟨R, q2, us2, zs2, rfl, rfl, hRM2, hq2, by omega, ?_⟩
    have bu2 : But R M2 (upd M2 R (.lst (us2 ++ zs2))) := But.upd
    have hR : upd M2 R (.lst (us2 ++ zs2)) R = some (.lst (us2 ++ zs2)) := upd_same
    have b3 : But R H (upd M2 R (.lst (us2 ++ zs2))) := (b2.trans (But.of_same t2)).trans bu2
    have at3 : AtL (TwoA v) (upd M2 R (.lst (us2 ++ zs2))) (List.replicate 6 ()) (us2 ++ zs2) := AtL.app (vs := zs2) (ag2.mp fun _ _ h => h.but bu2 hRM2) (at2.mp fun _ _ h => (h.same t2).but bu2 hRM2)
    generalize upd M2 R (.lst (us2 ++ zs2)) = J3 at hR b3 at3 ⊢
    have l3 : (us2 ++ zs2).length = 6 := at3.len
    generalize us2 ++ zs2 = us3 at hR at3 l3
    try dsimp only
    refine ⟨_, rfl, .inl ⟨rfl, _, SqL.of hR⟩, cons_of (lst_of (cons_of (rd_two rfl T.X_BadRole.oex T.X_BadRole.no fun a7 H7 s7 e7 => nil_of ⟨by show 1 ≤ _; omega, fun q3 g3 => nil_of ?_⟩)))⟩
    have t3 := (s7).trans (Rd.Same.upd (o := .lst [.ref a7]) g3)
    have hq3 : upd H7 q3 (.lst [.ref a7]) q3 = some (.lst [.ref a7]) := upd_same
    have ag3 : AtL (TwoA v) (upd H7 q3 (.lst [.ref a7])) (List.replicate 1 ()) [.ref a7] := .cons (e7.same (Rd.Same.upd g3)) (AtL.nil)
    generalize upd H7 q3 (.lst [.ref a7]) = M3 at t3 hq3 ag3 ⊢
    generalize ([.ref a7] : List V) = zs3 at hq3 ag3
    have lz3 : zs3.length = 1 := ag3.len
    have hRM3 := t3 _ _ hR
    refine ⟨R, q3, us3, zs3, rfl, rfl, hRM3, hq3, by omega, ?_⟩
    have bu3 : But R M3 (upd M3 R (.lst (us3 ++ zs3))) := But.upd
    have hR : upd M3 R (.lst (us3 ++ zs3)) R = some (.lst (us3 ++ zs3)) := upd_same
    have b4 : But R H (upd M3 R (.lst (us3 ++ zs3))) := (b3.trans (But.of_same t3)).trans bu3
    have at4 : AtL (TwoA v) (upd M3 R (.lst (us3 ++ zs3))) (List.replicate 7 ()) (us3 ++ zs3) := AtL.app (vs := zs3) (ag3.mp fun _ _ h => h.but bu3 hRM3) (at3.mp fun _ _ h => (h.same t3).but bu3 hRM3)
    generalize upd M3 R (.lst (us3 ++ zs3)) = J4 at hR b4 at4 ⊢
    have l4 : (us3 ++ zs3).length = 7 := at4.len
    generalize us3 ++ zs3 = us4 at hR at4 l4
    try dsimp only
    refine ⟨_, rfl, .inl ⟨rfl, _, SqL.of hR⟩, cons_of (lst_of (cons_of (rd_two rfl T.X_NotFit.oex T.X_NotFit.no fun a8 H8 s8 e8 => nil_of ⟨by show 1 ≤ _; omega, fun q4 g4 => nil_of ?_⟩)))⟩
    have t4 := (s8).trans (Rd.Same.upd (o := .lst [.ref a8]) g4)
    have hq4 : upd H8 q4 (.lst [.ref a8]) q4 = some (.lst [.ref a8]) := upd_same
    have ag4 : AtL (TwoA v) (upd H8 q4 (.lst [.ref a8])) (List.replicate 1 ()) [.ref a8] := .cons (e8.same (Rd.Same.upd g4)) (AtL.nil)
    generalize upd H8 q4 (.lst [.ref a8]) = M4 at t4 hq4 ag4 ⊢
    generalize ([.ref a8] : List V) = zs4 at hq4 ag4
    have lz4 : zs4.length = 1 := ag4.len
    have hRM4 := t4 _ _ hR
    refine ⟨R, q4, us4, zs4, rfl, rfl, hRM4, hq4, by omega, ?_⟩
    have bu4 : But R M4 (upd M4 R (.lst (us4 ++ zs4))) := But.upd
    have hR : upd M4 R (.lst (us4 ++ zs4)) R = some (.lst (us4 ++ zs4)) := upd_same
    have b5 : But R H (upd M4 R (.lst (us4 ++ zs4))) := (b4.trans (But.of_same t4)).trans bu4
    have at5 : AtL (TwoA v) (upd M4 R (.lst (us4 ++ zs4))) (List.replicate 8 ()) (us4 ++ zs4) := AtL.app (vs := zs4) (ag4.mp fun _ _ h => h.but bu4 hRM4) (at4.mp fun _ _ h => (h.same t4).but bu4 hRM4)
    generalize upd M4 R (.lst (us4 ++ zs4)) = J5 at hR b5 at5 ⊢
    have l5 : (us4 ++ zs4).length = 8 := at5.len
    generalize us4 ++ zs4 = us5 at hR at5 l5
    try dsimp only
    refine ⟨_, rfl, .inl ⟨rfl, _, SqL.of hR⟩, cons_of (lst_of (cons_of (rd_two rfl T.X_BadBook.oex T.X_BadBook.no fun a9 H9 s9 e9 => nil_of ⟨by show 1 ≤ _; omega, fun q5 g5 => nil_of ?_⟩)))⟩
    have t5 := (s9).trans (Rd.Same.upd (o := .lst [.ref a9]) g5)
    have hq5 : upd H9 q5 (.lst [.ref a9]) q5 = some (.lst [.ref a9]) := upd_same
    have ag5 : AtL (TwoA v) (upd H9 q5 (.lst [.ref a9])) (List.replicate 1 ()) [.ref a9] := .cons (e9.same (Rd.Same.upd g5)) (AtL.nil)
    generalize upd H9 q5 (.lst [.ref a9]) = M5 at t5 hq5 ag5 ⊢
    generalize ([.ref a9] : List V) = zs5 at hq5 ag5
    have lz5 : zs5.length = 1 := ag5.len
    have hRM5 := t5 _ _ hR
    refine ⟨R, q5, us5, zs5, rfl, rfl, hRM5, hq5, by omega, ?_⟩
    have bu5 : But R M5 (upd M5 R (.lst (us5 ++ zs5))) := But.upd
    have hR : upd M5 R (.lst (us5 ++ zs5)) R = some (.lst (us5 ++ zs5)) := upd_same
    have b6 : But R H (upd M5 R (.lst (us5 ++ zs5))) := (b5.trans (But.of_same t5)).trans bu5
    have at6 : AtL (TwoA v) (upd M5 R (.lst (us5 ++ zs5))) (List.replicate 9 ()) (us5 ++ zs5) := AtL.app (vs := zs5) (ag5.mp fun _ _ h => h.but bu5 hRM5) (at5.mp fun _ _ h => (h.same t5).but bu5 hRM5)
    generalize upd M5 R (.lst (us5 ++ zs5)) = J6 at hR b6 at6 ⊢
    have l6 : (us5 ++ zs5).length = 9 := at6.len
    generalize us5 ++ zs5 = us6 at hR at6 l6
    try dsimp only
    refine ⟨_, rfl, .inl ⟨rfl, _, SqL.of hR⟩, cons_of (lst_of (cons_of (rd_two rfl T.X_BadSitting.oex T.X_BadSitting.no fun a10 H10 s10 e10 => nil_of ⟨by show 1 ≤ _; omega, fun q6 g6 => nil_of ?_⟩)))⟩
    have t6 := (s10).trans (Rd.Same.upd (o := .lst [.ref a10]) g6)
    have hq6 : upd H10 q6 (.lst [.ref a10]) q6 = some (.lst [.ref a10]) := upd_same
    have ag6 : AtL (TwoA v) (upd H10 q6 (.lst [.ref a10])) (List.replicate 1 ()) [.ref a10] := .cons (e10.same (Rd.Same.upd g6)) (AtL.nil)
    generalize upd H10 q6 (.lst [.ref a10]) = M6 at t6 hq6 ag6 ⊢
    generalize ([.ref a10] : List V) = zs6 at hq6 ag6
    have lz6 : zs6.length = 1 := ag6.len
    have hRM6 := t6 _ _ hR
    refine ⟨R, q6, us6, zs6, rfl, rfl, hRM6, hq6, by omega, ?_⟩
    have bu6 : But R M6 (upd M6 R (.lst (us6 ++ zs6))) := But.upd
    have hR : upd M6 R (.lst (us6 ++ zs6)) R = some (.lst (us6 ++ zs6)) := upd_same
    have b7 : But R H (upd M6 R (.lst (us6 ++ zs6))) := (b6.trans (But.of_same t6)).trans bu6
    have at7 : AtL (TwoA v) (upd M6 R (.lst (us6 ++ zs6))) (List.replicate 10 ()) (us6 ++ zs6) := AtL.app (vs := zs6) (ag6.mp fun _ _ h => h.but bu6 hRM6) (at6.mp fun _ _ h => (h.same t6).but bu6 hRM6)
    generalize upd M6 R (.lst (us6 ++ zs6)) = J7 at hR b7 at7 ⊢
    have l7 : (us6 ++ zs6).length = 10 := at7.len
    generalize us6 ++ zs6 = us7 at hR at7 l7
    try dsimp only
    refine ⟨_, rfl, .inl ⟨rfl, _, SqL.of hR⟩, cons_of (lst_of (cons_of (rd_two rfl T.X_NoSitting.oex T.X_NoSitting.no fun a11 H11 s11 e11 => nil_of ⟨by show 1 ≤ _; omega, fun q7 g7 => nil_of ?_⟩)))⟩
    have t7 := (s11).trans (Rd.Same.upd (o := .lst [.ref a11]) g7)
    have hq7 : upd H11 q7 (.lst [.ref a11]) q7 = some (.lst [.ref a11]) := upd_same
    have ag7 : AtL (TwoA v) (upd H11 q7 (.lst [.ref a11])) (List.replicate 1 ()) [.ref a11] := .cons (e11.same (Rd.Same.upd g7)) (AtL.nil)
    generalize upd H11 q7 (.lst [.ref a11]) = M7 at t7 hq7 ag7 ⊢
    generalize ([.ref a11] : List V) = zs7 at hq7 ag7
    have lz7 : zs7.length = 1 := ag7.len
    have hRM7 := t7 _ _ hR
    refine ⟨R, q7, us7, zs7, rfl, rfl, hRM7, hq7, by omega, ?_⟩
    have bu7 : But R M7 (upd M7 R (.lst (us7 ++ zs7))) := But.upd
    have hR : upd M7 R (.lst (us7 ++ zs7)) R = some (.lst (us7 ++ zs7)) := upd_same
    have b8 : But R H (upd M7 R (.lst (us7 ++ zs7))) := (b7.trans (But.of_same t7)).trans bu7
    have at8 : AtL (TwoA v) (upd M7 R (.lst (us7 ++ zs7))) (List.replicate 11 ()) (us7 ++ zs7) := AtL.app (vs := zs7) (ag7.mp fun _ _ h => h.but bu7 hRM7) (at7.mp fun _ _ h => (h.same t7).but bu7 hRM7)
    generalize upd M7 R (.lst (us7 ++ zs7)) = J8 at hR b8 at8 ⊢
    have l8 : (us7 ++ zs7).length = 11 := at8.len
    generalize us7 ++ zs7 = us8 at hR at8 l8
    try dsimp only
    refine ⟨_, rfl, .inl ⟨rfl, _, SqL.of hR⟩, cons_of (lst_of (cons_of (rd_two rfl T.X_NotWaiting.oex T.X_NotWaiting.no fun a12 H12 s12 e12 => nil_of ⟨by show 1 ≤ _; omega, fun q8 g8 => nil_of ?_⟩)))⟩
    have t8 := (s12).trans (Rd.Same.upd (o := .lst [.ref a12]) g8)
    have hq8 : upd H12 q8 (.lst [.ref a12]) q8 = some (.lst [.ref a12]) := upd_same
    have ag8 : AtL (TwoA v) (upd H12 q8 (.lst [.ref a12])) (List.replicate 1 ()) [.ref a12] := .cons (e12.same (Rd.Same.upd g8)) (AtL.nil)
    generalize upd H12 q8 (.lst [.ref a12]) = M8 at t8 hq8 ag8 ⊢
    generalize ([.ref a12] : List V) = zs8 at hq8 ag8
    have lz8 : zs8.length = 1 := ag8.len
    have hRM8 := t8 _ _ hR
    refine ⟨R, q8, us8, zs8, rfl, rfl, hRM8, hq8, by omega, ?_⟩
    have bu8 : But R M8 (upd M8 R (.lst (us8 ++ zs8))) := But.upd
    have hR : upd M8 R (.lst (us8 ++ zs8)) R = some (.lst (us8 ++ zs8)) := upd_same
    have b9 : But R H (upd M8 R (.lst (us8 ++ zs8))) := (b8.trans (But.of_same t8)).trans bu8
    have at9 : AtL (TwoA v) (upd M8 R (.lst (us8 ++ zs8))) (List.replicate 12 ()) (us8 ++ zs8) := AtL.app (vs := zs8) (ag8.mp fun _ _ h => h.but bu8 hRM8) (at8.mp fun _ _ h => (h.same t8).but bu8 hRM8)
    generalize upd M8 R (.lst (us8 ++ zs8)) = J9 at hR b9 at9 ⊢
    have l9 : (us8 ++ zs8).length = 12 := at9.len
    generalize us8 ++ zs8 = us9 at hR at9 l9
    try dsimp only
    refine ⟨_, rfl, .inl ⟨rfl, _, SqL.of hR⟩, cons_of (lst_of (cons_of (rd_two rfl T.X_NotDone.oex T.X_NotDone.no fun a13 H13 s13 e13 => nil_of ⟨by show 1 ≤ _; omega, fun q9 g9 => nil_of ?_⟩)))⟩
    have t9 := (s13).trans (Rd.Same.upd (o := .lst [.ref a13]) g9)
    have hq9 : upd H13 q9 (.lst [.ref a13]) q9 = some (.lst [.ref a13]) := upd_same
    have ag9 : AtL (TwoA v) (upd H13 q9 (.lst [.ref a13])) (List.replicate 1 ()) [.ref a13] := .cons (e13.same (Rd.Same.upd g9)) (AtL.nil)
    generalize upd H13 q9 (.lst [.ref a13]) = M9 at t9 hq9 ag9 ⊢
    generalize ([.ref a13] : List V) = zs9 at hq9 ag9
    have lz9 : zs9.length = 1 := ag9.len
    have hRM9 := t9 _ _ hR
    refine ⟨R, q9, us9, zs9, rfl, rfl, hRM9, hq9, by omega, ?_⟩
    have bu9 : But R M9 (upd M9 R (.lst (us9 ++ zs9))) := But.upd
    have hR : upd M9 R (.lst (us9 ++ zs9)) R = some (.lst (us9 ++ zs9)) := upd_same
    have b10 : But R H (upd M9 R (.lst (us9 ++ zs9))) := (b9.trans (But.of_same t9)).trans bu9
    have at10 : AtL (TwoA v) (upd M9 R (.lst (us9 ++ zs9))) (List.replicate 13 ()) (us9 ++ zs9) := AtL.app (vs := zs9) (ag9.mp fun _ _ h => h.but bu9 hRM9) (at9.mp fun _ _ h => (h.same t9).but bu9 hRM9)
    generalize upd M9 R (.lst (us9 ++ zs9)) = J10 at hR b10 at10 ⊢
    have l10 : (us9 ++ zs9).length = 13 := at10.len
    generalize us9 ++ zs9 = us10 at hR at10 l10
    try dsimp only
    refine ⟨_, rfl, lst_of (cons_of (rd_two rfl T.X_BadWishes.oex T.X_BadWishes.no fun a14 H14 s14 e14 => nil_of ⟨by show 1 ≤ _; omega, fun qz gz => ?_⟩))⟩
    have tz := (s14).trans (Rd.Same.upd (o := .lst [.ref a14]) gz)
    have hqz : upd H14 qz (.lst [.ref a14]) qz = some (.lst [.ref a14]) := upd_same
    have agz : AtL (TwoA v) (upd H14 qz (.lst [.ref a14])) (List.replicate 1 ()) [.ref a14] := .cons (e14.same (Rd.Same.upd gz)) (AtL.nil)
    generalize upd H14 qz (.lst [.ref a14]) = Mz at tz hqz agz ⊢
    generalize ([.ref a14] : List V) = zsz at hqz agz
    have lzz : zsz.length = 1 := agz.len
    refine ⟨R, qz, us10, zsz, rfl, rfl, tz _ _ hR, hqz, by omega, fun q gq => ?_⟩
    have sq := Rd.Same.upd (o := .lst (us10 ++ zsz)) gq
    have bz : But R H Mz := b10.trans (But.of_same tz)
    have nqR : q ≠ R := fun z => by rw [z, tz _ _ hR] at gq; cases gq
    have fq : H q = none := by
      cases e : H q with
      | none => rfl
      | some o => rw [bz _ _ nqR e] at gq; cases gq
    refine k q _ _ (fun c o e => sq _ _ (bz _ _ (fun z => by rw [z, fR] at e; cases e) e)) fq upd_same ?_
    exact AtL.app (vs := zsz) (agz.mp fun _ _ h => h.same sq) (at10.mp fun _ _ h => (h.same tz).same sq)
abbrev s__law_made : Stmt := top 29
theorem sc__law_made : FnScope ["_law_thing", "_law_found"] ["_law_thing"] (defScope s__law_made) := ⟨rfl, rfl, rfl, by decide +kernel, rfl, by decide +kernel, by decide +kernel⟩
theorem ok__law_made (T : Tx w K mg) : Fk P w K mg base CX0 4 "_law_made" ["_law_thing"] (sp_lmade K) := by
  refine T.F__law_made.ok0 sc__law_made (fun _ _ _ _ _ _ us hl => match us, hl with | [_], _ => rfl)
    (fun vs H Q E h => ?_) (fun cdv A outer s H vs Q E hr h => ?_)
  · obtain ⟨v, rfl, _⟩ := h
    rfl
  · obtain ⟨v, rfl, k⟩ := h
    refine ⟨_, (pss_cons (ps_set (i := 1) sc__law_made.nd rfl (Or.inl rfl) (pe_lst (pa_cons (pe_xv T.X_BadAtom (ok_BadAtom T).fm (hr.mono (by omega)) rfl (pa_cons (pv 0) pa_nil)) (pa_cons (pe_xv T.X_BadForm (ok_BadForm T).fm (hr.mono (by omega)) rfl (pa_cons (pv 0) pa_nil)) (pa_cons (pe_xv T.X_BadKey (ok_BadKey T).fm (hr.mono (by omega)) rfl (pa_cons (pv 0) pa_nil)) (pa_cons (pe_xv T.X_BadText (ok_BadText T).fm (hr.mono (by omega)) rfl (pa_cons (pv 0) pa_nil)) (pa_cons (pe_xv T.X_BadHeap (ok_BadHeap T).fm (hr.mono (by omega)) rfl (pa_cons (pv 0) pa_nil)) (pa_cons (pe_xv0 T.X0_BadRecipe (ok_BadRecipe T) (hr.mono (by omega)) rfl) pa_nil))))))))
  (pss_cons (ps_expr (pe_bm PySem.F.plainAttrs_list PySem.F.slot_list_extend PySem.F.type_list_extend mt_extend (pv 1) (pa_cons (pe_lst (pa_cons (pe_xv T.X_NoWay (ok_NoWay T).fm (hr.mono (by omega)) rfl (pa_cons (pv 0) pa_nil)) (pa_cons (pe_xv0 T.X0_BadHeaps (ok_BadHeaps T) (hr.mono (by omega)) rfl) (pa_cons (pe_xv T.X_BadRole (ok_BadRole T).fm (hr.mono (by omega)) rfl (pa_cons (pv 0) pa_nil)) (pa_cons (pe_xv T.X_NotFit (ok_NotFit T).fm (hr.mono (by omega)) rfl (pa_cons (pv 0) pa_nil)) (pa_cons (pe_xv T.X_BadBook (ok_BadBook T).fm (hr.mono (by omega)) rfl (pa_cons (pv 0) pa_nil)) pa_nil)))))) pa_nil)))
  (pss_cons (ps_expr (pe_bm PySem.F.plainAttrs_list PySem.F.slot_list_extend PySem.F.type_list_extend mt_extend (pv 1) (pa_cons (pe_lst (pa_cons (pe_xv T.X_BadSitting (ok_BadSitting T).fm (hr.mono (by omega)) rfl (pa_cons (pv 0) pa_nil)) (pa_cons (pe_xv T.X_NoSitting (ok_NoSitting T).fm (hr.mono (by omega)) rfl (pa_cons (pv 0) pa_nil)) pa_nil))) pa_nil)))
  (pss_cons (ps_expr (pe_bm PySem.F.plainAttrs_list PySem.F.slot_list_extend PySem.F.type_list_extend mt_extend (pv 1) (pa_cons (pe_lst (pa_cons (pe_xv0 T.X0_NotPlain (ok_NotPlain T) (hr.mono (by omega)) rfl) (pa_cons (pe_xv T.X_NotWaiting (ok_NotWaiting T).fm (hr.mono (by omega)) rfl (pa_cons (pv 0) pa_nil)) (pa_cons (pe_xv0 T.X0_NotHeld (ok_NotHeld T) (hr.mono (by omega)) rfl) (pa_cons (pe_xv0 T.X0_NoMatch (ok_NoMatch T) (hr.mono (by omega)) rfl) (pa_cons (pe_xv T.X_NotDone (ok_NotDone T).fm (hr.mono (by omega)) rfl (pa_cons (pv 0) pa_nil)) (pa_cons (pe_xv0 T.X0_BadFilling (ok_BadFilling T) (hr.mono (by omega)) rfl) pa_nil))))))) pa_nil)))
  (pss_one (ps_ret (pe_op op_cat (pv 1) (pe_lst (pa_cons (pe_xv T.X_BadWishes (ok_BadWishes T).fm (hr.mono (by omega)) rfl (pa_cons (pv 0) pa_nil)) (pa_cons (pe_xv0 T.X0_BadGoal (ok_BadGoal T) (hr.mono (by omega)) rfl) (pa_cons (pe_xv0 T.X0_BadCommand (ok_BadCommand T) (hr.mono (by omega)) rfl) pa_nil))))))))))), ?_⟩
    have big : 16777216 ≤ sizeLine := by decide
    refine seqAsg (lst_of (cons_of (rd_ex1 rfl T.X_BadAtom.oex T.X_BadAtom.no fun a1 H1 s1 e1 => cons_of (rd_ex1 rfl T.X_BadForm.oex T.X_BadForm.no fun a2 H2 s2 e2 => cons_of (rd_ex1 rfl T.X_BadKey.oex T.X_BadKey.no fun a3 H3 s3 e3 => cons_of (rd_ex1 rfl T.X_BadText.oex T.X_BadText.no fun a4 H4 s4 e4 => cons_of (rd_ex1 rfl T.X_BadHeap.oex T.X_BadHeap.no fun a5 H5 s5 e5 => cons_of (rd_ex0 T.X0_BadRecipe.oex fun a6 H6 s6 e6 => nil_of ⟨by show 6 ≤ _; omega, fun R gR => ?_⟩))))))))
    have e1 := e1.same (((((s2).trans s3).trans s4).trans s5).trans s6)
    have e2 := e2.same ((((s3).trans s4).trans s5).trans s6)
    have e3 := e3.same (((s4).trans s5).trans s6)
    have e4 := e4.same ((s5).trans s6)
    have e5 := e5.same (s6)
    have fR : H R = none := ((((((s1).trans s2).trans s3).trans s4).trans s5).trans s6).free gR
    have b0 : But R H (upd H6 R (.lst [.ref a1, .ref a2, .ref a3, .ref a4, .ref a5, .ref a6])) := fun c o hc e => Rd.Same.upd gR _ _ (((((((s1).trans s2).trans s3).trans s4).trans s5).trans s6) _ _ e)
    have hR : upd H6 R (.lst [.ref a1, .ref a2, .ref a3, .ref a4, .ref a5, .ref a6]) R = some (.lst [.ref a1, .ref a2, .ref a3, .ref a4, .ref a5, .ref a6]) := upd_same
    have at0 : AtL (ExA K) (upd H6 R (.lst [.ref a1, .ref a2, .ref a3, .ref a4, .ref a5, .ref a6])) (["BadAtom", "BadForm", "BadKey", "BadText", "BadHeap", "BadRecipe"] : List Str) [.ref a1, .ref a2, .ref a3, .ref a4, .ref a5, .ref a6] := .cons (e1.same (Rd.Same.upd gR)) (.cons (e2.same (Rd.Same.upd gR)) (.cons (e3.same (Rd.Same.upd gR)) (.cons (e4.same (Rd.Same.upd gR)) (.cons (e5.same (Rd.Same.upd gR)) (.cons (e6.same (Rd.Same.upd gR)) (AtL.nil))))))
    generalize upd H6 R (.lst [.ref a1, .ref a2, .ref a3, .ref a4, .ref a5, .ref a6]) = J0 at b0 hR at0 ⊢
    generalize ([.ref a1, .ref a2, .ref a3, .ref a4, .ref a5, .ref a6] : List V) = us0 at hR at0
    have l0 : us0.length = 6 := at0.len
    refine gName_k ?_
    try dsimp only
    refine ⟨_, rfl, .inl ⟨rfl, _, SqL.of hR⟩, cons_of (lst_of (cons_of (rd_ex1 rfl T.X_NoWay.oex T.X_NoWay.no fun a7 H7 s7 e7 => cons_of (rd_ex0 T.X0_BadHeaps.oex fun a8 H8 s8 e8 => cons_of (rd_ex1 rfl T.X_BadRole.oex T.X_BadRole.no fun a9 H9 s9 e9 => cons_of (rd_ex1 rfl T.X_NotFit.oex T.X_NotFit.no fun a10 H10 s10 e10 => cons_of (rd_ex1 rfl T.X_BadBook.oex T.X_BadBook.no fun a11 H11 s11 e11 => nil_of ⟨by show 5 ≤ _; omega, fun q0 g0 => nil_of ?_⟩)))))))⟩
    have e7 := e7.same ((((s8).trans s9).trans s10).trans s11)
    have e8 := e8.same (((s9).trans s10).trans s11)
    have e9 := e9.same ((s10).trans s11)
    have e10 := e10.same (s11)
    have t0 := (((((s7).trans s8).trans s9).trans s10).trans s11).trans (Rd.Same.upd (o := .lst [.ref a7, .ref a8, .ref a9, .ref a10, .ref a11]) g0)
    have hq0 : upd H11 q0 (.lst [.ref a7, .ref a8, .ref a9, .ref a10, .ref a11]) q0 = some (.lst [.ref a7, .ref a8, .ref a9, .ref a10, .ref a11]) := upd_same
    have ag0 : AtL (ExA K) (upd H11 q0 (.lst [.ref a7, .ref a8, .ref a9, .ref a10, .ref a11])) (["NoWay", "BadHeaps", "BadRole", "NotFit", "BadBook"] : List Str) [.ref a7, .ref a8, .ref a9, .ref a10, .ref a11] := .cons (e7.same (Rd.Same.upd g0)) (.cons (e8.same (Rd.Same.upd g0)) (.cons (e9.same (Rd.Same.upd g0)) (.cons (e10.same (Rd.Same.upd g0)) (.cons (e11.same (Rd.Same.upd g0)) (AtL.nil)))))
    generalize upd H11 q0 (.lst [.ref a7, .ref a8, .ref a9, .ref a10, .ref a11]) = M0 at t0 hq0 ag0 ⊢
    generalize ([.ref a7, .ref a8, .ref a9, .ref a10, .ref a11] : List V) = zs0 at hq0 ag0
    have lz0 : zs0.length = 5 := ag0.len
    have hRM0 := t0 _ _ hR
    refine ⟨R, q0, us0, zs0, rfl, rfl, hRM0, hq0, by omega, ?_⟩
    have bu0 : But R M0 (upd M0 R (.lst (us0 ++ zs0))) := But.upd
    have hR : upd M0 R (.lst (us0 ++ zs0)) R = some (.lst (us0 ++ zs0)) := upd_same
    have b1 : But R H (upd M0 R (.lst (us0 ++ zs0))) := (b0.trans (But.of_same t0)).trans bu0
    have at1 : AtL (ExA K) (upd M0 R (.lst (us0 ++ zs0))) (["BadAtom", "BadForm", "BadKey", "BadText", "BadHeap", "BadRecipe", "NoWay", "BadHeaps", "BadRole", "NotFit", "BadBook"] : List Str) (us0 ++ zs0) := AtL.app (vs := zs0) (ag0.mp fun _ _ h => h.but bu0 hRM0) (at0.mp fun _ _ h => (h.same t0).but bu0 hRM0)
    generalize upd M0 R (.lst (us0 ++ zs0)) = J1 at hR b1 at1 ⊢
    have l1 : (us0 ++ zs0).length = 11 := at1.len
    generalize us0 ++ zs0 = us1 at hR at1 l1
    try dsimp only
    refine ⟨_, rfl, .inl ⟨rfl, _, SqL.of hR⟩, cons_of (lst_of (cons_of (rd_ex1 rfl T.X_BadSitting.oex T.X_BadSitting.no fun a12 H12 s12 e12 => cons_of (rd_ex1 rfl T.X_NoSitting.oex T.X_NoSitting.no fun a13 H13 s13 e13 => nil_of ⟨by show 2 ≤ _; omega, fun q1 g1 => nil_of ?_⟩))))⟩
    have e12 := e12.same (s13)
    have t1 := ((s12).trans s13).trans (Rd.Same.upd (o := .lst [.ref a12, .ref a13]) g1)
    have hq1 : upd H13 q1 (.lst [.ref a12, .ref a13]) q1 = some (.lst [.ref a12, .ref a13]) := upd_same
    have ag1 : AtL (ExA K) (upd H13 q1 (.lst [.ref a12, .ref a13])) (["BadSitting", "NoSitting"] : List Str) [.ref a12, .ref a13] := .cons (e12.same (Rd.Same.upd g1)) (.cons (e13.same (Rd.Same.upd g1)) (AtL.nil))
    generalize upd H13 q1 (.lst [.ref a12, .ref a13]) = M1 at t1 hq1 ag1 ⊢
    generalize ([.ref a12, .ref a13] : List V) = zs1 at hq1 ag1
    have lz1 : zs1.length = 2 := ag1.len
    have hRM1 := t1 _ _ hR
    refine ⟨R, q1, us1, zs1, rfl, rfl, hRM1, hq1, by omega, ?_⟩
    have bu1 : But R M1 (upd M1 R (.lst (us1 ++ zs1))) := But.upd
    have hR : upd M1 R (.lst (us1 ++ zs1)) R = some (.lst (us1 ++ zs1)) := upd_same
    have b2 : But R H (upd M1 R (.lst (us1 ++ zs1))) := (b1.trans (But.of_same t1)).trans bu1
    have at2 : AtL (ExA K) (upd M1 R (.lst (us1 ++ zs1))) (["BadAtom", "BadForm", "BadKey", "BadText", "BadHeap", "BadRecipe", "NoWay", "BadHeaps", "BadRole", "NotFit", "BadBook", "BadSitting", "NoSitting"] : List Str) (us1 ++ zs1) := AtL.app (vs := zs1) (ag1.mp fun _ _ h => h.but bu1 hRM1) (at1.mp fun _ _ h => (h.same t1).but bu1 hRM1)
    generalize upd M1 R (.lst (us1 ++ zs1)) = J2 at hR b2 at2 ⊢
    have l2 : (us1 ++ zs1).length = 13 := at2.len
    generalize us1 ++ zs1 = us2 at hR at2 l2
    try dsimp only
    refine ⟨_, rfl, .inl ⟨rfl, _, SqL.of hR⟩, cons_of (lst_of (cons_of (rd_ex0 T.X0_NotPlain.oex fun a14 H14 s14 e14 => cons_of (rd_ex1 rfl T.X_NotWaiting.oex T.X_NotWaiting.no fun a15 H15 s15 e15 => cons_of (rd_ex0 T.X0_NotHeld.oex fun a16 H16 s16 e16 => cons_of (rd_ex0 T.X0_NoMatch.oex fun a17 H17 s17 e17 => cons_of (rd_ex1 rfl T.X_NotDone.oex T.X_NotDone.no fun a18 H18 s18 e18 => cons_of (rd_ex0 T.X0_BadFilling.oex fun a19 H19 s19 e19 => nil_of ⟨by show 6 ≤ _; omega, fun q2 g2 => nil_of ?_⟩))))))))⟩
    have e14 := e14.same (((((s15).trans s16).trans s17).trans s18).trans s19)
    have e15 := e15.same ((((s16).trans s17).trans s18).trans s19)
    have e16 := e16.same (((s17).trans s18).trans s19)
    have e17 := e17.same ((s18).trans s19)
    have e18 := e18.same (s19)
    have t2 := ((((((s14).trans s15).trans s16).trans s17).trans s18).trans s19).trans (Rd.Same.upd (o := .lst [.ref a14, .ref a15, .ref a16, .ref a17, .ref a18, .ref a19]) g2)
    have hq2 : upd H19 q2 (.lst [.ref a14, .ref a15, .ref a16, .ref a17, .ref a18, .ref a19]) q2 = some (.lst [.ref a14, .ref a15, .ref a16, .ref a17, .ref a18, .ref a19]) := upd_same
    have ag2 : AtL (ExA K) (upd H19 q2 (.lst [.ref a14, .ref a15, .ref a16, .ref a17, .ref a18, .ref a19])) (["NotPlain", "NotWaiting", "NotHeld", "NoMatch", "NotDone", "BadFilling"] : List Str) [.ref a14, .ref a15, .ref a16, .ref a17, .ref a18, .ref a19] := .cons (e14.same (Rd.Same.upd g2)) (.cons (e15.same (Rd.Same.upd g2)) (.cons (e16.same (Rd.Same.upd g2)) (.cons (e17.same (Rd.Same.upd g2)) (.cons (e18.same (Rd.Same.upd g2)) (.cons (e19.same (Rd.Same.upd g2)) (AtL.nil))))))
    generalize upd H19 q2 (.lst [.ref a14, .ref a15, .ref a16, .ref a17, .ref a18, .ref a19]) = M2 at t2 hq2 ag2 ⊢
    generalize ([.ref a14, .ref a15, .ref a16, .ref a17, .ref a18, .ref a19] : List V) = zs2 at hq2 ag2
    have lz2 : zs2.length = 6 := ag2.len
    have hRM2 := t2 _ _ hR
    refine ⟨R, q2, us2, zs2, rfl, rfl, hRM2, hq2, by omega, ?_⟩
    have bu2 : But R M2 (upd M2 R (.lst (us2 ++ zs2))) := But.upd
    have hR : upd M2 R (.lst (us2 ++ zs2)) R = some (.lst (us2 ++ zs2)) := upd_same
    have b3 : But R H (upd M2 R (.lst (us2 ++ zs2))) := (b2.trans (But.of_same t2)).trans bu2
    have at3 : AtL (ExA K) (upd M2 R (.lst (us2 ++ zs2))) (["BadAtom", "BadForm", "BadKey", "BadText", "BadHeap", "BadRecipe", "NoWay", "BadHeaps", "BadRole", "NotFit", "BadBook", "BadSitting", "NoSitting", "NotPlain", "NotWaiting", "NotHeld", "NoMatch", "NotDone", "BadFilling"] : List Str) (us2 ++ zs2) := AtL.app (vs := zs2) (ag2.mp fun _ _ h => h.but bu2 hRM2) (at2.mp fun _ _ h => (h.same t2).but bu2 hRM2)
    generalize upd M2 R (.lst (us2 ++ zs2)) = J3 at hR b3 at3 ⊢
    have l3 : (us2 ++ zs2).length = 19 := at3.len
    generalize us2 ++ zs2 = us3 at hR at3 l3
    try dsimp only
    refine ⟨_, rfl, lst_of (cons_of (rd_ex1 rfl T.X_BadWishes.oex T.X_BadWishes.no fun a20 H20 s20 e20 => cons_of (rd_ex0 T.X0_BadGoal.oex fun a21 H21 s21 e21 => cons_of (rd_ex0 T.X0_BadCommand.oex fun a22 H22 s22 e22 => nil_of ⟨by show 3 ≤ _; omega, fun qz gz => ?_⟩))))⟩
    have e20 := e20.same ((s21).trans s22)
    have e21 := e21.same (s22)
    have tz := (((s20).trans s21).trans s22).trans (Rd.Same.upd (o := .lst [.ref a20, .ref a21, .ref a22]) gz)
    have hqz : upd H22 qz (.lst [.ref a20, .ref a21, .ref a22]) qz = some (.lst [.ref a20, .ref a21, .ref a22]) := upd_same
    have agz : AtL (ExA K) (upd H22 qz (.lst [.ref a20, .ref a21, .ref a22])) (["BadWishes", "BadGoal", "BadCommand"] : List Str) [.ref a20, .ref a21, .ref a22] := .cons (e20.same (Rd.Same.upd gz)) (.cons (e21.same (Rd.Same.upd gz)) (.cons (e22.same (Rd.Same.upd gz)) (AtL.nil)))
    generalize upd H22 qz (.lst [.ref a20, .ref a21, .ref a22]) = Mz at tz hqz agz ⊢
    generalize ([.ref a20, .ref a21, .ref a22] : List V) = zsz at hqz agz
    have lzz : zsz.length = 3 := agz.len
    refine ⟨R, qz, us3, zsz, rfl, rfl, tz _ _ hR, hqz, by omega, fun q gq => ?_⟩
    have sq := Rd.Same.upd (o := .lst (us3 ++ zsz)) gq
    have bz : But R H Mz := b3.trans (But.of_same tz)
    have nqR : q ≠ R := fun z => by rw [z, tz _ _ hR] at gq; cases gq
    have fq : H q = none := by
      cases e : H q with
      | none => rfl
      | some o => rw [bz _ _ nqR e] at gq; cases gq
    refine k q _ _ (fun c o e => sq _ _ (bz _ _ (fun z => by rw [z, fR] at e; cases e) e)) fq upd_same ?_
    exact AtL.app (vs := zsz) (agz.mp fun _ _ h => h.same sq) (at3.mp fun _ _ h => (h.same tz).same sq)
end
end Rd
namespace Rd
open PySem L2
theorem rd_isi {K : PySem.W.Frag} {c d : Str} {v : V} {i : Nat} {σ : St} {H : Hp} {Q : VK} (hi : σ[i]? = some (some v)) (ex : ExA K H c v) (o : One31 K c) (hd : d ∈ EXS) (k : Q (.bl (decide (c = d))) H) :
    tCB (rIsV K) (tCons (tVar i) (tCons (tC (.ref (He.ga K d))) tNil)) σ H Q := by
  obtain ⟨a, e, rfl, h1, h2⟩ := ex
  exact ⟨_, hi, a, He.ga K c, e, .ref (He.ga K d), .ref (He.ga K d), decide (c = d), rfl, h1, h2, o.ex, fun u r => r, o.one d hd, k⟩
section
variable {P : Program} {w : World} {K : PySem.W.Frag} {mg : Str → Option Value} {base : Heap}
abbrev s__law_kinds : Stmt := top 30
theorem sc__law_kinds : FnScope ["_law_one", "_law_first"] ["_law_one"] (defScope s__law_kinds) := ⟨rfl, rfl, rfl, by decide +kernel, rfl, by decide +kernel, by decide +kernel⟩
theorem ok__law_kinds (T : Tx w K mg) : Fk P w K mg base CX0 4 "_law_kinds" ["_law_one"] (sp_lkinds K) := by
  refine T.F__law_kinds.ok0 sc__law_kinds (fun _ _ _ _ _ _ us hl => match us, hl with | [_], _ => rfl)
    (fun vs H Q E h => ?_) (fun cdv A outer s H vs Q E hr h => ?_)
  · obtain ⟨v, c, rfl, _⟩ := h
    rfl
  · obtain ⟨v, c, rfl, ex, hc, o3, k⟩ := h
    refine ⟨_, (pss_cons (ps_set (i := 1) sc__law_kinds.nd rfl (Or.inl rfl) (pe_lst (pa_cons (pe_callB call_isV (by rfl) T.z_isinstance (by decide +kernel) (pa_cons (pv 0) (pa_cons (pe_gcls rfl T.X_BadAtom.g) pa_nil))) (pa_cons (pe_callB call_isV (by rfl) T.z_isinstance (by decide +kernel) (pa_cons (pv 0) (pa_cons (pe_gcls rfl T.X_BadForm.g) pa_nil))) (pa_cons (pe_callB call_isV (by rfl) T.z_isinstance (by decide +kernel) (pa_cons (pv 0) (pa_cons (pe_gcls rfl T.X_BadKey.g) pa_nil))) pa_nil)))))
  (pss_cons (ps_expr (pe_bm PySem.F.plainAttrs_list PySem.F.slot_list_append PySem.F.type_list_append mt_append (pv 1) (pa_cons (pe_callB call_isV (by rfl) T.z_isinstance (by decide +kernel) (pa_cons (pv 0) (pa_cons (pe_gcls rfl T.X_BadText.g) pa_nil))) pa_nil)))
  (pss_cons (ps_expr (pe_bm PySem.F.plainAttrs_list PySem.F.slot_list_extend PySem.F.type_list_extend mt_extend (pv 1) (pa_cons (pe_lst (pa_cons (pe_callB call_isV (by rfl) T.z_isinstance (by decide +kernel) (pa_cons (pv 0) (pa_cons (pe_gcls rfl T.X_BadHeap.g) pa_nil))) (pa_cons (pe_callB call_isV (by rfl) T.z_isinstance (by decide +kernel) (pa_cons (pv 0) (pa_cons (pe_gcls rfl T.X0_BadRecipe.g) pa_nil))) (pa_cons (pe_callB call_isV (by rfl) T.z_isinstance (by decide +kernel) (pa_cons (pv 0) (pa_cons (pe_gcls rfl T.X_NoWay.g) pa_nil))) pa_nil)))) pa_nil)))
  (pss_cons (ps_expr (pe_bm PySem.F.plainAttrs_list PySem.F.slot_list_extend PySem.F.type_list_extend mt_extend (pv 1) (pa_cons (pe_lst (pa_cons (pe_callB call_isV (by rfl) T.z_isinstance (by decide +kernel) (pa_cons (pv 0) (pa_cons (pe_gcls rfl T.X0_BadHeaps.g) pa_nil))) (pa_cons (pe_callB call_isV (by rfl) T.z_isinstance (by decide +kernel) (pa_cons (pv 0) (pa_cons (pe_gcls rfl T.X_BadRole.g) pa_nil))) (pa_cons (pe_callB call_isV (by rfl) T.z_isinstance (by decide +kernel) (pa_cons (pv 0) (pa_cons (pe_gcls rfl T.X_NotFit.g) pa_nil))) pa_nil)))) pa_nil)))
  (pss_cons (ps_expr (pe_bm PySem.F.plainAttrs_list PySem.F.slot_list_extend PySem.F.type_list_extend mt_extend (pv 1) (pa_cons (pe_lst (pa_cons (pe_callB call_isV (by rfl) T.z_isinstance (by decide +kernel) (pa_cons (pv 0) (pa_cons (pe_gcls rfl T.X_BadBook.g) pa_nil))) (pa_cons (pe_callB call_isV (by rfl) T.z_isinstance (by decide +kernel) (pa_cons (pv 0) (pa_cons (pe_gcls rfl T.X_BadSitting.g) pa_nil))) (pa_cons (pe_callB call_isV (by rfl) T.z_isinstance (by decide +kernel) (pa_cons (pv 0) (pa_cons (pe_gcls rfl T.X_NoSitting.g) pa_nil))) pa_nil)))) pa_nil)))
  (pss_cons (ps_expr (pe_bm PySem.F.plainAttrs_list PySem.F.slot_list_extend PySem.F.type_list_extend mt_extend (pv 1) (pa_cons (pe_lst (pa_cons (pe_callB call_isV (by rfl) T.z_isinstance (by decide +kernel) (pa_cons (pv 0) (pa_cons (pe_gcls rfl T.X0_NotPlain.g) pa_nil))) (pa_cons (pe_callB call_isV (by rfl) T.z_isinstance (by decide +kernel) (pa_cons (pv 0) (pa_cons (pe_gcls rfl T.X_NotWaiting.g) pa_nil))) (pa_cons (pe_callB call_isV (by rfl) T.z_isinstance (by decide +kernel) (pa_cons (pv 0) (pa_cons (pe_gcls rfl T.X0_NotHeld.g) pa_nil))) pa_nil)))) pa_nil)))
  (pss_cons (ps_expr (pe_bm PySem.F.plainAttrs_list PySem.F.slot_list_extend PySem.F.type_list_extend mt_extend (pv 1) (pa_cons (pe_lst (pa_cons (pe_callB call_isV (by rfl) T.z_isinstance (by decide +kernel) (pa_cons (pv 0) (pa_cons (pe_gcls rfl T.X0_NoMatch.g) pa_nil))) (pa_cons (pe_callB call_isV (by rfl) T.z_isinstance (by decide +kernel) (pa_cons (pv 0) (pa_cons (pe_gcls rfl T.X_NotDone.g) pa_nil))) (pa_cons (pe_callB call_isV (by rfl) T.z_isinstance (by decide +kernel) (pa_cons (pv 0) (pa_cons (pe_gcls rfl T.X0_BadFilling.g) pa_nil))) pa_nil)))) pa_nil)))
  (pss_one (ps_ret (pe_op op_cat (pv 1) (pe_lst (pa_cons (pe_callB call_isV (by rfl) T.z_isinstance (by decide +kernel) (pa_cons (pv 0) (pa_cons (pe_gcls rfl T.X_BadWishes.g) pa_nil))) (pa_cons (pe_callB call_isV (by rfl) T.z_isinstance (by decide +kernel) (pa_cons (pv 0) (pa_cons (pe_gcls rfl T.X0_BadGoal.g) pa_nil))) (pa_cons (pe_callB call_isV (by rfl) T.z_isinstance (by decide +kernel) (pa_cons (pv 0) (pa_cons (pe_gcls rfl T.X0_BadCommand.g) pa_nil))) pa_nil)))))))))))))), ?_⟩
    have big : 16777216 ≤ sizeLine := by decide
    refine seqAsg (lst_of (cons_of (rd_isi rfl ex o3 (by decide +kernel) (cons_of (rd_isi rfl ex o3 (by decide +kernel) (cons_of (rd_isi rfl ex o3 (by decide +kernel) (nil_of ⟨by show 3 ≤ _; omega, fun R gR => ?_⟩))))))))
    have b0 := Rd.Same.upd (o := .lst [V.bl (decide (c = "BadAtom")), V.bl (decide (c = "BadForm")), V.bl (decide (c = "BadKey"))]) gR
    have hR : upd H R (.lst [V.bl (decide (c = "BadAtom")), V.bl (decide (c = "BadForm")), V.bl (decide (c = "BadKey"))]) R = some (.lst ((["BadAtom", "BadForm", "BadKey"] : List Str).map fun d => V.bl (decide (c = d)))) := upd_same
    generalize upd H R (.lst [V.bl (decide (c = "BadAtom")), V.bl (decide (c = "BadForm")), V.bl (decide (c = "BadKey"))]) = J0 at b0 hR ⊢
    have bb0 : But R H J0 := But.of_same b0
    have ex0 := ex.same b0
    refine gName_k ?_
    try dsimp only
    refine ⟨_, rfl, .inl ⟨rfl, _, SqL.of hR⟩, cons_of (rd_isi rfl ex0 o3 (by decide +kernel) (nil_of ⟨R, _, _, rfl, rfl, hR, by show 3 < _; omega, ?_⟩))⟩
    have hR1 : upd J0 R (.lst (((["BadAtom", "BadForm", "BadKey"] : List Str).map fun d => V.bl (decide (c = d))) ++ [V.bl (decide (c = "BadText"))])) R = some (.lst ((["BadAtom", "BadForm", "BadKey", "BadText"] : List Str).map fun d => V.bl (decide (c = d)))) := upd_same
    have bu0 : But R J0 (upd J0 R (.lst (((["BadAtom", "BadForm", "BadKey"] : List Str).map fun d => V.bl (decide (c = d))) ++ [V.bl (decide (c = "BadText"))]))) := But.upd
    generalize upd J0 R (.lst (((["BadAtom", "BadForm", "BadKey"] : List Str).map fun d => V.bl (decide (c = d))) ++ [V.bl (decide (c = "BadText"))])) = J1 at hR1 bu0 ⊢
    have bb1 := bb0.trans bu0
    have ex1 := ex0.but bu0 hR
    replace hR := hR1
    try dsimp only
    refine ⟨_, rfl, .inl ⟨rfl, _, SqL.of hR⟩, cons_of (lst_of (cons_of (rd_isi rfl ex1 o3 (by decide +kernel) (cons_of (rd_isi rfl ex1 o3 (by decide +kernel) (cons_of (rd_isi rfl ex1 o3 (by decide +kernel) (nil_of ⟨by show 3 ≤ _; omega, fun q1 g1 => nil_of ?_⟩))))))))⟩
    have t1 := Rd.Same.upd (o := .lst [V.bl (decide (c = "BadHeap")), V.bl (decide (c = "BadRecipe")), V.bl (decide (c = "NoWay"))]) g1
    have hq1 : upd J1 q1 (.lst [V.bl (decide (c = "BadHeap")), V.bl (decide (c = "BadRecipe")), V.bl (decide (c = "NoWay"))]) q1 = some (.lst [V.bl (decide (c = "BadHeap")), V.bl (decide (c = "BadRecipe")), V.bl (decide (c = "NoWay"))]) := upd_same
    generalize upd J1 q1 (.lst [V.bl (decide (c = "BadHeap")), V.bl (decide (c = "BadRecipe")), V.bl (decide (c = "NoWay"))]) = M1 at t1 hq1 ⊢
    have hM1 := t1 _ _ hR
    refine ⟨R, q1, _, _, rfl, rfl, hM1, hq1, by show 7 ≤ _; omega, ?_⟩
    have hR2 : upd M1 R (.lst (((["BadAtom", "BadForm", "BadKey", "BadText"] : List Str).map fun d => V.bl (decide (c = d))) ++ [V.bl (decide (c = "BadHeap")), V.bl (decide (c = "BadRecipe")), V.bl (decide (c = "NoWay"))])) R = some (.lst ((["BadAtom", "BadForm", "BadKey", "BadText", "BadHeap", "BadRecipe", "NoWay"] : List Str).map fun d => V.bl (decide (c = d)))) := upd_same
    have bu1 : But R M1 (upd M1 R (.lst (((["BadAtom", "BadForm", "BadKey", "BadText"] : List Str).map fun d => V.bl (decide (c = d))) ++ [V.bl (decide (c = "BadHeap")), V.bl (decide (c = "BadRecipe")), V.bl (decide (c = "NoWay"))]))) := But.upd
    generalize upd M1 R (.lst (((["BadAtom", "BadForm", "BadKey", "BadText"] : List Str).map fun d => V.bl (decide (c = d))) ++ [V.bl (decide (c = "BadHeap")), V.bl (decide (c = "BadRecipe")), V.bl (decide (c = "NoWay"))])) = J2 at hR2 bu1 ⊢
    have bb2 := (bb1.trans (But.of_same t1)).trans bu1
    have ex2 := (ex1.same t1).but bu1 hM1
    replace hR := hR2
    try dsimp only
    refine ⟨_, rfl, .inl ⟨rfl, _, SqL.of hR⟩, cons_of (lst_of (cons_of (rd_isi rfl ex2 o3 (by decide +kernel) (cons_of (rd_isi rfl ex2 o3 (by decide +kernel) (cons_of (rd_isi rfl ex2 o3 (by decide +kernel) (nil_of ⟨by show 3 ≤ _; omega, fun q2 g2 => nil_of ?_⟩))))))))⟩
    have t2 := Rd.Same.upd (o := .lst [V.bl (decide (c = "BadHeaps")), V.bl (decide (c = "BadRole")), V.bl (decide (c = "NotFit"))]) g2
    have hq2 : upd J2 q2 (.lst [V.bl (decide (c = "BadHeaps")), V.bl (decide (c = "BadRole")), V.bl (decide (c = "NotFit"))]) q2 = some (.lst [V.bl (decide (c = "BadHeaps")), V.bl (decide (c = "BadRole")), V.bl (decide (c = "NotFit"))]) := upd_same
    generalize upd J2 q2 (.lst [V.bl (decide (c = "BadHeaps")), V.bl (decide (c = "BadRole")), V.bl (decide (c = "NotFit"))]) = M2 at t2 hq2 ⊢
    have hM2 := t2 _ _ hR
    refine ⟨R, q2, _, _, rfl, rfl, hM2, hq2, by show 10 ≤ _; omega, ?_⟩
    have hR3 : upd M2 R (.lst (((["BadAtom", "BadForm", "BadKey", "BadText", "BadHeap", "BadRecipe", "NoWay"] : List Str).map fun d => V.bl (decide (c = d))) ++ [V.bl (decide (c = "BadHeaps")), V.bl (decide (c = "BadRole")), V.bl (decide (c = "NotFit"))])) R = some (.lst ((["BadAtom", "BadForm", "BadKey", "BadText", "BadHeap", "BadRecipe", "NoWay", "BadHeaps", "BadRole", "NotFit"] : List Str).map fun d => V.bl (decide (c = d)))) := upd_same
    have bu2 : But R M2 (upd M2 R (.lst (((["BadAtom", "BadForm", "BadKey", "BadText", "BadHeap", "BadRecipe", "NoWay"] : List Str).map fun d => V.bl (decide (c = d))) ++ [V.bl (decide (c = "BadHeaps")), V.bl (decide (c = "BadRole")), V.bl (decide (c = "NotFit"))]))) := But.upd
    generalize upd M2 R (.lst (((["BadAtom", "BadForm", "BadKey", "BadText", "BadHeap", "BadRecipe", "NoWay"] : List Str).map fun d => V.bl (decide (c = d))) ++ [V.bl (decide (c = "BadHeaps")), V.bl (decide (c = "BadRole")), V.bl (decide (c = "NotFit"))])) = J3 at hR3 bu2 ⊢
    have bb3 := (bb2.trans (But.of_same t2)).trans bu2
    have ex3 := (ex2.same t2).but bu2 hM2
    replace hR := hR3
    try dsimp only
    refine ⟨_, rfl, .inl ⟨rfl, _, SqL.of hR⟩, cons_of (lst_of (cons_of (rd_isi rfl ex3 o3 (by decide +kernel) (cons_of (rd_isi rfl ex3 o3 (by decide +kernel) (cons_of (rd_isi rfl ex3 o3 (by decide +kernel) (nil_of ⟨by show 3 ≤ _; omega, fun q3 g3 => nil_of ?_⟩))))))))⟩
    have t3 := Rd.Same.upd (o := .lst [V.bl (decide (c = "BadBook")), V.bl (decide (c = "BadSitting")), V.bl (decide (c = "NoSitting"))]) g3
    have hq3 : upd J3 q3 (.lst [V.bl (decide (c = "BadBook")), V.bl (decide (c = "BadSitting")), V.bl (decide (c = "NoSitting"))]) q3 = some (.lst [V.bl (decide (c = "BadBook")), V.bl (decide (c = "BadSitting")), V.bl (decide (c = "NoSitting"))]) := upd_same
    generalize upd J3 q3 (.lst [V.bl (decide (c = "BadBook")), V.bl (decide (c = "BadSitting")), V.bl (decide (c = "NoSitting"))]) = M3 at t3 hq3 ⊢
    have hM3 := t3 _ _ hR
    refine ⟨R, q3, _, _, rfl, rfl, hM3, hq3, by show 13 ≤ _; omega, ?_⟩
    have hR4 : upd M3 R (.lst (((["BadAtom", "BadForm", "BadKey", "BadText", "BadHeap", "BadRecipe", "NoWay", "BadHeaps", "BadRole", "NotFit"] : List Str).map fun d => V.bl (decide (c = d))) ++ [V.bl (decide (c = "BadBook")), V.bl (decide (c = "BadSitting")), V.bl (decide (c = "NoSitting"))])) R = some (.lst ((["BadAtom", "BadForm", "BadKey", "BadText", "BadHeap", "BadRecipe", "NoWay", "BadHeaps", "BadRole", "NotFit", "BadBook", "BadSitting", "NoSitting"] : List Str).map fun d => V.bl (decide (c = d)))) := upd_same
    have bu3 : But R M3 (upd M3 R (.lst (((["BadAtom", "BadForm", "BadKey", "BadText", "BadHeap", "BadRecipe", "NoWay", "BadHeaps", "BadRole", "NotFit"] : List Str).map fun d => V.bl (decide (c = d))) ++ [V.bl (decide (c = "BadBook")), V.bl (decide (c = "BadSitting")), V.bl (decide (c = "NoSitting"))]))) := But.upd
    generalize upd M3 R (.lst (((["BadAtom", "BadForm", "BadKey", "BadText", "BadHeap", "BadRecipe", "NoWay", "BadHeaps", "BadRole", "NotFit"] : List Str).map fun d => V.bl (decide (c = d))) ++ [V.bl (decide (c = "BadBook")), V.bl (decide (c = "BadSitting")), V.bl (decide (c = "NoSitting"))])) = J4 at hR4 bu3 ⊢
    have bb4 := (bb3.trans (But.of_same t3)).trans bu3
    have ex4 := (ex3.same t3).but bu3 hM3
    replace hR := hR4
    try dsimp only
    refine ⟨_, rfl, .inl ⟨rfl, _, SqL.of hR⟩, cons_of (lst_of (cons_of (rd_isi rfl ex4 o3 (by decide +kernel) (cons_of (rd_isi rfl ex4 o3 (by decide +kernel) (cons_of (rd_isi rfl ex4 o3 (by decide +kernel) (nil_of ⟨by show 3 ≤ _; omega, fun q4 g4 => nil_of ?_⟩))))))))⟩
    have t4 := Rd.Same.upd (o := .lst [V.bl (decide (c = "NotPlain")), V.bl (decide (c = "NotWaiting")), V.bl (decide (c = "NotHeld"))]) g4
    have hq4 : upd J4 q4 (.lst [V.bl (decide (c = "NotPlain")), V.bl (decide (c = "NotWaiting")), V.bl (decide (c = "NotHeld"))]) q4 = some (.lst [V.bl (decide (c = "NotPlain")), V.bl (decide (c = "NotWaiting")), V.bl (decide (c = "NotHeld"))]) := upd_same
    generalize upd J4 q4 (.lst [V.bl (decide (c = "NotPlain")), V.bl (decide (c = "NotWaiting")), V.bl (decide (c = "NotHeld"))]) = M4 at t4 hq4 ⊢
    have hM4 := t4 _ _ hR
    refine ⟨R, q4, _, _, rfl, rfl, hM4, hq4, by show 16 ≤ _; omega, ?_⟩
    have hR5 : upd M4 R (.lst (((["BadAtom", "BadForm", "BadKey", "BadText", "BadHeap", "BadRecipe", "NoWay", "BadHeaps", "BadRole", "NotFit", "BadBook", "BadSitting", "NoSitting"] : List Str).map fun d => V.bl (decide (c = d))) ++ [V.bl (decide (c = "NotPlain")), V.bl (decide (c = "NotWaiting")), V.bl (decide (c = "NotHeld"))])) R = some (.lst ((["BadAtom", "BadForm", "BadKey", "BadText", "BadHeap", "BadRecipe", "NoWay", "BadHeaps", "BadRole", "NotFit", "BadBook", "BadSitting", "NoSitting", "NotPlain", "NotWaiting", "NotHeld"] : List Str).map fun d => V.bl (decide (c = d)))) := upd_same
    have bu4 : But R M4 (upd M4 R (.lst (((["BadAtom", "BadForm", "BadKey", "BadText", "BadHeap", "BadRecipe", "NoWay", "BadHeaps", "BadRole", "NotFit", "BadBook", "BadSitting", "NoSitting"] : List Str).map fun d => V.bl (decide (c = d))) ++ [V.bl (decide (c = "NotPlain")), V.bl (decide (c = "NotWaiting")), V.bl (decide (c = "NotHeld"))]))) := But.upd
    generalize upd M4 R (.lst (((["BadAtom", "BadForm", "BadKey", "BadText", "BadHeap", "BadRecipe", "NoWay", "BadHeaps", "BadRole", "NotFit", "BadBook", "BadSitting", "NoSitting"] : List Str).map fun d => V.bl (decide (c = d))) ++ [V.bl (decide (c = "NotPlain")), V.bl (decide (c = "NotWaiting")), V.bl (decide (c = "NotHeld"))])) = J5 at hR5 bu4 ⊢
    have bb5 := (bb4.trans (But.of_same t4)).trans bu4
    have ex5 := (ex4.same t4).but bu4 hM4
    replace hR := hR5
    try dsimp only
    refine ⟨_, rfl, .inl ⟨rfl, _, SqL.of hR⟩, cons_of (lst_of (cons_of (rd_isi rfl ex5 o3 (by decide +kernel) (cons_of (rd_isi rfl ex5 o3 (by decide +kernel) (cons_of (rd_isi rfl ex5 o3 (by decide +kernel) (nil_of ⟨by show 3 ≤ _; omega, fun q5 g5 => nil_of ?_⟩))))))))⟩
    have t5 := Rd.Same.upd (o := .lst [V.bl (decide (c = "NoMatch")), V.bl (decide (c = "NotDone")), V.bl (decide (c = "BadFilling"))]) g5
    have hq5 : upd J5 q5 (.lst [V.bl (decide (c = "NoMatch")), V.bl (decide (c = "NotDone")), V.bl (decide (c = "BadFilling"))]) q5 = some (.lst [V.bl (decide (c = "NoMatch")), V.bl (decide (c = "NotDone")), V.bl (decide (c = "BadFilling"))]) := upd_same
    generalize upd J5 q5 (.lst [V.bl (decide (c = "NoMatch")), V.bl (decide (c = "NotDone")), V.bl (decide (c = "BadFilling"))]) = M5 at t5 hq5 ⊢
    have hM5 := t5 _ _ hR
    refine ⟨R, q5, _, _, rfl, rfl, hM5, hq5, by show 19 ≤ _; omega, ?_⟩
    have hR6 : upd M5 R (.lst (((["BadAtom", "BadForm", "BadKey", "BadText", "BadHeap", "BadRecipe", "NoWay", "BadHeaps", "BadRole", "NotFit", "BadBook", "BadSitting", "NoSitting", "NotPlain", "NotWaiting", "NotHeld"] : List Str).map fun d => V.bl (decide (c = d))) ++ [V.bl (decide (c = "NoMatch")), V.bl (decide (c = "NotDone")), V.bl (decide (c = "BadFilling"))])) R = some (.lst ((["BadAtom", "BadForm", "BadKey", "BadText", "BadHeap", "BadRecipe", "NoWay", "BadHeaps", "BadRole", "NotFit", "BadBook", "BadSitting", "NoSitting", "NotPlain", "NotWaiting", "NotHeld", "NoMatch", "NotDone", "BadFilling"] : List Str).map fun d => V.bl (decide (c = d)))) := upd_same
    have bu5 : But R M5 (upd M5 R (.lst (((["BadAtom", "BadForm", "BadKey", "BadText", "BadHeap", "BadRecipe", "NoWay", "BadHeaps", "BadRole", "NotFit", "BadBook", "BadSitting", "NoSitting", "NotPlain", "NotWaiting", "NotHeld"] : List Str).map fun d => V.bl (decide (c = d))) ++ [V.bl (decide (c = "NoMatch")), V.bl (decide (c = "NotDone")), V.bl (decide (c = "BadFilling"))]))) := But.upd
    generalize upd M5 R (.lst (((["BadAtom", "BadForm", "BadKey", "BadText", "BadHeap", "BadRecipe", "NoWay", "BadHeaps", "BadRole", "NotFit", "BadBook", "BadSitting", "NoSitting", "NotPlain", "NotWaiting", "NotHeld"] : List Str).map fun d => V.bl (decide (c = d))) ++ [V.bl (decide (c = "NoMatch")), V.bl (decide (c = "NotDone")), V.bl (decide (c = "BadFilling"))])) = J6 at hR6 bu5 ⊢
    have bb6 := (bb5.trans (But.of_same t5)).trans bu5
    have ex6 := (ex5.same t5).but bu5 hM5
    replace hR := hR6
    try dsimp only
    refine ⟨_, rfl, lst_of (cons_of (rd_isi rfl ex6 o3 (by decide +kernel) (cons_of (rd_isi rfl ex6 o3 (by decide +kernel) (cons_of (rd_isi rfl ex6 o3 (by decide +kernel) (nil_of ⟨by show 3 ≤ _; omega, fun qz gz => ?_⟩)))))))⟩
    have tz := Rd.Same.upd (o := .lst [V.bl (decide (c = "BadWishes")), V.bl (decide (c = "BadGoal")), V.bl (decide (c = "BadCommand"))]) gz
    have hqz : upd J6 qz (.lst [V.bl (decide (c = "BadWishes")), V.bl (decide (c = "BadGoal")), V.bl (decide (c = "BadCommand"))]) qz = some (.lst [V.bl (decide (c = "BadWishes")), V.bl (decide (c = "BadGoal")), V.bl (decide (c = "BadCommand"))]) := upd_same
    generalize upd J6 qz (.lst [V.bl (decide (c = "BadWishes")), V.bl (decide (c = "BadGoal")), V.bl (decide (c = "BadCommand"))]) = Mz at tz hqz ⊢
    refine ⟨R, qz, _, _, rfl, rfl, tz _ _ hR, hqz, by show 22 ≤ _; omega, fun q gq => ?_⟩
    have bz : But R H Mz := bb6.trans (But.of_same tz)
    have nqR : q ≠ R := fun z => by rw [z, tz _ _ hR] at gq; cases gq
    have fq : H q = none := by
      cases e : H q with
      | none => rfl
      | some o => rw [bz _ _ nqR e] at gq; cases gq
    exact k q _ (fun x o e => Rd.Same.upd gq _ _ (bz _ _ (fun z => by rw [z, gR] at e; cases e) e)) fq upd_same
end
end Rd
namespace Rd
open PySem L2
theorem seqJoin {s1 rest : TS} {D : Ends} {σ : St} {H : Hp} (R : St → Hp → Prop) (h : ∀ K : St → Hp → Prop, (∀ σ' H', R σ' H' → K σ' H') → s1 { D with nx := K } σ H) (hR : ∀ σ' H', R σ' H' → rest D σ' H') : tSeq s1 rest D σ H := h _ hR
theorem SqL.kept {K : PySem.W.Frag} {H H' : Hp} {a : Addr} {xs : List V} (h : SqL K H a xs) (s : Same H H') : SqL K H' a xs := by
  rcases h with (h | ⟨n, h⟩) | h
  · exact .inl (.inl (s _ _ h))
  · exact .inl (.inr ⟨n, s _ _ h⟩)
  · exact .inr h
theorem SqT.kept {K : PySem.W.Frag} {H H' : Hp} {a : Addr} {xs : List V} (h : SqT K H a xs) (s : Same H H') : SqT K H' a xs := by
  rcases h with (h | ⟨n, h⟩) | h
  · exact .inl (.inl (s _ _ h))
  · exact .inl (.inr ⟨n, s _ _ h⟩)
  · exact .inr h
theorem iteN {c A B : Prop} [Decidable c] (h : ¬ c) (b : B) : if c then A else B := ite2 (fun q => absurd q h) fun _ => b
end Rd
namespace Rd
open PySem L2
mutual
theorem dp_same {K : PySem.W.Frag} {H H' : Hp} (s : Same H H') : ∀ (d : PyData) (v : V), Dp K H v d → Dp K H' v d
  | .none, _, h => by cases h; exact .non
  | .bool b, _, h => by cases h; exact .bl b
  | .int i, _, h => by cases h; exact .int i
  | .str x, _, h => by cases h; exact .str x
  | .list ds, _, h => by
    cases h with
    | lst a b => exact .lst (SqL.kept a s) (dpAll_same s ds _ b)
  | .tuple ds, _, h => by
    cases h with
    | tup a b => exact .tup (SqT.kept a s) (dpAll_same s ds _ b)
  | .dict kvs, _, h => by cases h
theorem dpAll_same {K : PySem.W.Frag} {H H' : Hp} (s : Same H H') : ∀ (ds : List PyData) (vs : List V), DpAll K H vs ds → DpAll K H' vs ds
  | [], _, h => by cases h; exact .nil
  | d :: ds, _, h => by
    cases h with
    | cons a b => exact .cons (dp_same s d _ a) (dpAll_same s ds _ b)
end
end Rd
namespace Rd
open PySem L2
/-- the drawn thing is no other than itself -/
def ThOk (K : PySem.W.Frag) (H : Hp) (v : V) : Prop := ∀ H' Q, Same H H' → Q (.bl false) H' → rNeV K v v H' Q
theorem ThOk.same {K : PySem.W.Frag} {H H' : Hp} {v : V} (s : Same H H') (h : ThOk K H v) : ThOk K H' v := fun H2 Q s2 q => h H2 Q (s.trans s2) q
theorem th_dat {K : PySem.W.Frag} {H : Hp} {v : V} {d : PyData} (h : Dp K H v d) (sh : SeqAt.shaped d = true) (e : PyData.eqv d d = true) : ThOk K H v :=
  fun H' Q s q => .inl ⟨d, d, dp_same s d v h, dp_same s d v h, sh, sh, by rw [e]; exact q⟩
theorem th_dict {K : PySem.W.Frag} {H : Hp} {a : Addr} (h : H a = some (.dK [(.inr "x", .int 1)])) : ThOk K H (.ref a) :=
  fun H' Q s q => .inr ⟨a, a, _, _, rfl, rfl, s _ _ h, s _ _ h, rfl, fun p hp => by
    rw [List.mem_singleton.mp hp]
    exact ⟨.int 1, by simp [valV], .int 1, .int 1, .int 1, .int 1, rfl, rfl, by decide +kernel⟩, q⟩
/-- a comprehension over a list, every item of which is False -/
theorem lcFalse {K : PySem.W.Frag} {a D : Addr} {xs : List V} {g : TG} {te : TE} {vs : List Nat} {σ : St} {H1 : Hp} {Qd : Hp → Prop} (hS : SqL K H1 a xs) (hl : xs.length ≤ 100000) (hD : H1 D = none)
    (hte : ∀ (i : Nat) (x : V) (H : Hp) (Q : VK), xs[i]? = some x → Same H1 H → (Q (.bl false) H) → g x (wipe σ vs) H fun σ2 H2 => wipe σ2 vs = wipe σ vs ∧ te σ2 H2 Q)
    (hq : ∀ H', Same H1 H' → H' D = some (.lst ((List.replicate xs.length false).map V.bl)) → Qd H') :
    ∃ W : Nat → Nat → Hp → Prop, (∃ m, W 0 m (L2.upd H1 D (.lst []))) ∧ ∀ i m H, W i m H →
      ((Itl K a).stop i H ∧ Qd H) ∨ ((Itl K a).go i H ∧ ∃ Nx : Hp → Prop, (∀ H', Nx H' → ∃ m', m' < m ∧ W (i + 1) m' H') ∧ ∀ x H', (Itl K a).yld i H x H' → g x (wipe σ vs) H' fun σ2 H2 => wipe σ2 vs = wipe σ vs ∧ tYes σ2 H2 fun b H3 =>
        if b = true then te σ2 H3 fun y H4 => ∃ acc, H4 D = some (.lst acc) ∧ acc.length < sizeLine ∧ Nx (L2.upd H4 D (.lst (acc ++ [y]))) else Nx H3) := by
  refine lc_list (K := K) (a := a) (xs := xs) (fun i H => Same H1 H ∧ H D = some (.lst ((List.replicate i false).map V.bl))) ⟨Rd.Same.upd hD, upd_same⟩ (fun i H _ ⟨s, _⟩ => SqL.kept hS s) ?_ fun H ⟨s, h⟩ => hq H s h
  rintro i x H hx ⟨s, hDv⟩
  have hlt := (List.getElem?_eq_some_iff.mp hx).1
  have : 100000 < sizeLine := by decide
  refine hte i x H (fun y H4 => ∃ acc, H4 D = some (.lst acc) ∧ acc.length < sizeLine ∧ Same H1 (L2.upd H4 D (.lst (acc ++ [y]))) ∧ L2.upd H4 D (.lst (acc ++ [y])) D = some (.lst ((List.replicate (i + 1) false).map V.bl))) hx s ⟨_, hDv, by rw [List.length_map, List.length_replicate]; omega, fun c o e => ?_, ?_⟩
  · rw [upd_ne (ne_of_none e hD)]
    exact s c o e
  · rw [upd_same, List.replicate_succ', List.map_append]
    rfl
/-- [i for i in range(n) if ..] -/
theorem lcSel {n : Nat} {tt : TT} {i0 : Nat} {σ : St} {H1 : Hp} {D : Addr} {Qd : Hp → Prop} (pr : Nat → Bool) (hn : n ≤ 1000) (hD : H1 D = none) (h0 : ∀ p : V, ((wipe σ [i0]).set i0 (some p))[i0]? = some (some p))
    (htt : ∀ (i : Nat) (H : Hp) (Q : Bool → Hp → Prop), i < n → Same H1 H → (∀ H', Same H H' → Q (pr i) H') → tt ((wipe σ [i0]).set i0 (some (.int ((0 : Int) + (i : Int))))) H Q)
    (hq : ∀ H', Same H1 H' → H' D = some (.lst (((List.range n).filter pr).map fun (i : Nat) => V.int (i : Int))) → Qd H') :
    ∃ W : Nat → Nat → Hp → Prop, (∃ m, W 0 m (L2.upd H1 D (.lst []))) ∧ ∀ i m H, W i m H →
      ((Itr (0 : Int) n).stop i H ∧ Qd H) ∨ ((Itr (0 : Int) n).go i H ∧ ∃ Nx : Hp → Prop, (∀ H', Nx H' → ∃ m', m' < m ∧ W (i + 1) m' H') ∧ ∀ x H', (Itr (0 : Int) n).yld i H x H' → gName i0 x (wipe σ [i0]) H' fun σ2 H2 => wipe σ2 [i0] = wipe σ [i0] ∧ tt σ2 H2 fun b H3 =>
        if b = true then tVar i0 σ2 H3 fun y H4 => ∃ acc, H4 D = some (.lst acc) ∧ acc.length < sizeLine ∧ Nx (L2.upd H4 D (.lst (acc ++ [y]))) else Nx H3) := by
  refine lc_range (lo := 0) (n := n) (fun i H => Same H1 H ∧ H D = some (.lst (((List.range i).filter pr).map fun (i : Nat) => V.int (i : Int)))) ⟨Rd.Same.upd hD, upd_same⟩ ?_ fun H ⟨s, h⟩ => hq H s h
  rintro i H hi ⟨s, hDv⟩
  have big : 100000 < sizeLine := by decide
  refine gName_k ⟨by simp [wipe], htt i H _ hi s fun H' s' => ?_⟩
  have hD' := s' _ _ hDv
  cases e : pr i with
  | false =>
    refine iteF ⟨s.trans s', ?_⟩
    rw [hD', List.range_succ, List.filter_append, List.filter_cons, if_neg (by rw [e]; decide), List.filter_nil, List.append_nil]
  | true =>
    have fl := List.length_filter_le pr (List.range i)
    rw [List.length_range] at fl
    refine iteT ⟨_, h0 _, _, hD', by rw [List.length_map]; omega, fun c o e => ?_, ?_⟩
    · rw [upd_ne (ne_of_none e hD)]
      exact s' _ _ (s c o e)
    · rw [upd_same, List.range_succ, List.filter_append, List.filter_cons, if_pos (by rw [e]), List.filter_nil, List.map_append]
      show _ = some (HO.lst (_ ++ [V.int (i : Int)]))
      rw [Int.zero_add]
def exN (i : Nat) : Str := (EXS[i]?).getD ""
theorem exN_at : ∀ i, i < 22 → EXS[i]? = some (exN i) := by decide +kernel
theorem exN_sel : ∀ i, i < 22 → ((List.range 22).filter fun j => decide (exN i = exN j)) = [i] := by decide +kernel
theorem one_sh : ∀ i, i < 22 → SeqAt.shaped (.list [.int ((i : Nat) : Int)]) = true ∧ PyData.eqv (.list [.int ((i : Nat) : Int)]) (.list [.int ((i : Nat) : Int)]) = true := by decide +kernel
def spLaw (K : PySem.W.Frag) : Sp := fun vs H Q _ => ∃ (a : Addr) (ns : List Int), vs = [.ref a] ∧ SqL K H a (ns.map V.int) ∧ ns.length ≤ 63 ∧ ∀ H', Q (.bl true) H'
section
variable {P : Program} {w : World} {K : PySem.W.Frag} {mg : Str → Option Value} {base : Heap}
abbrev s_law : Stmt := top 31
theorem sc_law : FnScope ["_law_script", "_law_stream_here", "_law_thing", "_law_first", "_law_second", "_law_made_here", "_law_k", "_law_j"] ["_law_script"] (defScope s_law) := ⟨rfl, rfl, rfl, by decide +kernel, rfl, by decide +kernel, by decide +kernel⟩
theorem ok_law {f : Addr} {fd : FuncData} (F : FunD K "law" "law" (defArgs s_law) (defBody s_law) (defScope s_law) [] [] f fd) (T : Tx w K mg) : FnOk P w K mg base CX0 20 f fd ["_law_script"] (spLaw K) := by
  refine F.ok sc_law (fun vs H Q E h => ?_) (fun cdv A outer s H vs Q E hr h => ?_)
  · obtain ⟨a, ns, rfl, _⟩ := h
    rfl
  · obtain ⟨a, ns, rfl, hS, hn, k⟩ := h
    refine ⟨_, PSs.nox (pss_cons (ps_set (i := 1) sc_law.nd rfl (Or.inl rfl) (pe_fk (ok__law_stream T) (hr.mono (by omega)) rfl pass0 (pa_cons (pv 0) (pa_cons pe_int pa_nil))))
  (pss_cons (ps_set (i := 2) sc_law.nd rfl (Or.inr rfl) (pe_fk (ok__law_pick T) (hr.mono (by omega)) rfl pass0 (pa_cons (pv 1) (pa_cons (pe_lst (pa_cons pe_str (pa_cons pe_str (pa_cons pe_int (pa_cons (pe_un un_neg pe_int) (pa_cons pe_non (pa_cons pe_bl (pa_cons (pe_tup (pa_cons pe_str (pa_cons pe_int pa_nil))) (pa_cons (pe_lst (pa_cons pe_int (pa_cons pe_str pa_nil))) (pa_cons (pe_tup pa_nil) (pa_cons (pe_disp (pps_cons pe_str pe_int pps_nil) (by rfl) (by rfl) (fun z => by cases z) (by decide)) pa_nil))))))))))) pa_nil))))
  (pss_cons (ps_if (pt_val (pe_callB (cr_any rfl) (by rfl) T.z_any (by decide +kernel) (pa_cons (pe_lc (own := [("_law_first", 3), ("_law_second", 4)])  (tt := tYes) (by rfl) sc_law.nd (pi_list (pe_fk (ok__law_with_text T) (hr.mono (by omega)) rfl pass0 (pa_cons (pv 2) pa_nil))) (blkOk_by (own := [("_law_first", 3), ("_law_second", 4)]) (N := ["_law_script", "_law_stream_here", "_law_thing", "_law_first", "_law_second", "_law_made_here", "_law_k", "_law_j"]) (sc := defScope s_law) (by decide +kernel)) (fun _ _ _ _ _ => (pg_tupk (K := K) (n := 2) rfl rfl (pgs_cons (pg_name (i := 3) sc_law.nd rfl (Or.inl rfl)) (pgs_cons (pg_name (i := 4) sc_law.nd rfl (Or.inl rfl)) pgs_nil)))) (fun _ _ _ _ _ => pts_nil) (fun _ _ _ _ _ => (pe_or (pe_cmpR (kOp (r := rNeV) (K := K) rfl (op_neV hr.units hr.units65)) (pv 3) (pv 2) (nomark _)) (pe_one (pe_cmpR (kOp (r := rNeV) (K := K) rfl (op_neV hr.units hr.units65)) (pv 4) (pv 2) (nomark _)))))) pa_nil)))
  (pss_one (ps_ret pe_bl))
  pss_nil)
  (pss_cons (ps_set (i := 5) sc_law.nd rfl (Or.inr rfl) (pe_fk (ok__law_made T) (hr.mono (by omega)) rfl pass0 (pa_cons (pv 2) pa_nil)))
  (pss_cons (ps_for PassesOwn.never rfl (pi_range1 rfl T.z_range (pa_cons (pe_callB call_len_seq (by rfl) T.z_len (by decide +kernel) (pa_cons (pv 5) pa_nil)) pa_nil)) (pg_name (i := 6) sc_law.nd rfl (Or.inr rfl))
  (pss_cons (ps_if (PW.pt (pw_or (pt_not (pt_val (pe_callB call_isV (by rfl) T.z_isinstance (by decide +kernel) (pa_cons (pe_ix ix_list (pv 5) (pv 6) (fun _ _ => rfl)) (pa_cons (pe_gcls rfl T.g_RoadError) pa_nil))))) (pw_or1 (pt_not (pt_val (pe_callB call_isV (by rfl) T.z_isinstance (by decide +kernel) (pa_cons (pe_ix ix_list (pv 5) (pv 6) (fun _ _ => rfl)) (pa_cons (pe_bltn (v := .ty "ValueError") (u := .type "ValueError") rfl T.z_ValueError (by decide +kernel) rfl) pa_nil))))))))
  (pss_one (ps_ret pe_bl))
  pss_nil)
  (pss_one (ps_if (pt_cmpR (op_neD hr.units) (pe_lc (own := [("_law_j", 7)]) (g := gName 7)  (by rfl) sc_law.nd (pi_range1 rfl T.z_range (pa_cons (pe_callB call_len_seq (by rfl) T.z_len (by decide +kernel) (pa_cons (pv 5) pa_nil)) pa_nil)) (blkOk_by (own := [("_law_j", 7)]) (N := ["_law_script", "_law_stream_here", "_law_thing", "_law_first", "_law_second", "_law_made_here", "_law_k", "_law_j"]) (sc := defScope s_law) (by decide +kernel)) (fun _ _ _ _ _ => (pg_name (i := 7) sc_law.nd rfl (Or.inl rfl))) (fun _ _ _ _ _ => (pts_one (pt_val (pe_ix (kIx (r := rIxL) (K := K) rfl ix_list) (pe_fk (ok__law_kinds T) (hr.mono (by omega)) rfl pass0 (pa_cons (pe_ix (kIx (r := rIxL) (K := K) rfl ix_list) (pv 5) (pv 6) (fun _ _ => rfl)) pa_nil)) (pv 7) (fun _ _ => rfl))))) (fun _ _ _ _ _ => (pv 7))) (pe_lst (pa_cons (pv 6) pa_nil)) (nomark _))
  (pss_one (ps_ret pe_bl))
  pss_nil))))
  (pss_one (ps_ret (pe_cmpR op_eq (pe_callB call_len_seq (by rfl) T.z_len (by decide +kernel) (pa_cons (pv 5) pa_nil)) pe_int (nomark _))))))))), ?_⟩
    have big : 16777216 ≤ sizeLine := by decide
    have l0 : 0 ≤ sizeLine := Nat.zero_le _
    have l2 : 2 ≤ sizeLine := by omega
    refine seqAsg ⟨_, rfl, a, ns, 0, rfl, hS, hn, by decide, by decide, fun p xs H1 s1 np hp hx => ?_⟩
    refine gName_k ?_
    try dsimp only
    refine seqAsg ⟨_, rfl, ?_⟩
    refine ⟨1, rfl, l2, fun t1 g1 => ⟨l2, fun t2 g2 => ⟨l0, fun t3 g3 => ?_⟩⟩⟩
    have u1 := Rd.Same.upd (o := .tup [.str "at", .int 7]) g1
    have e1 : upd H1 t1 (.tup [.str "at", .int 7]) t1 = some (.tup [.str "at", .int 7]) := upd_same
    generalize upd H1 t1 (.tup [.str "at", .int 7]) = Ha at u1 e1 g2 g3 ⊢
    have u2 := Rd.Same.upd (o := .lst [.int 1, .str "b"]) g2
    have e2 : upd Ha t2 (.lst [.int 1, .str "b"]) t2 = some (.lst [.int 1, .str "b"]) := upd_same
    generalize upd Ha t2 (.lst [.int 1, .str "b"]) = Hb at u2 e2 g3 ⊢
    have u3 := Rd.Same.upd (o := .tup []) g3
    have e3 : upd Hb t3 (.tup []) t3 = some (.tup []) := upd_same
    generalize upd Hb t3 (.tup []) = Hc at u3 e3 ⊢
    refine fun dq gd => ⟨upd_same, [(.inr "x", .int 1)], rfl, by decide, (by show 10 ≤ sizeLine; omega), fun L gL => ?_⟩
    have u4 : Same Hc (upd (upd Hc dq (.dK [])) dq (.dK (mergeK [] [(.inr "x", .int 1)]))) := fun c o e => by rw [upd_ne (ne_of_none e gd), upd_ne (ne_of_none e gd)]; exact e
    have e4 : upd (upd Hc dq (.dK [])) dq (.dK (mergeK [] [(.inr "x", .int 1)])) dq = some (.dK [(.inr "x", .int 1)]) := upd_same
    generalize upd (upd Hc dq (.dK [])) dq (.dK (mergeK [] [(.inr "x", .int 1)])) = Hd at u4 e4 gL ⊢
    have u5 := Rd.Same.upd (o := .lst [.str "a", .str "", .int 5, .int (-1), .non, .bl true, .ref t1, .ref t2, .ref t3, .ref dq]) gL
    have e5 : upd Hd L (.lst [.str "a", .str "", .int 5, .int (-1), .non, .bl true, .ref t1, .ref t2, .ref t3, .ref dq]) L = some (.lst [.str "a", .str "", .int 5, .int (-1), .non, .bl true, .ref t1, .ref t2, .ref t3, .ref dq]) := upd_same
    generalize upd Hd L (.lst [.str "a", .str "", .int 5, .int (-1), .non, .bl true, .ref t1, .ref t2, .ref t3, .ref dq]) = Hu at u5 e5 ⊢
    have s45 := u4.trans u5
    have s35 := u3.trans s45
    have s25 := u2.trans s35
    have S5 := u1.trans s25
    have hp5 := S5 _ _ hp
    have nLp : L ≠ p := fun z => by rw [z, ((u1.trans u2).trans (u3.trans u4)) _ _ hp] at gL; cases gL
    have n1 : t1 ≠ p := fun z => by rw [z, hp] at g1; cases g1
    have n2 : t2 ≠ p := fun z => by rw [z, u1 _ _ hp] at g2; cases g2
    have n3 : t3 ≠ p := fun z => by rw [z, u2 _ _ (u1 _ _ hp)] at g3; cases g3
    have n4 : dq ≠ p := fun z => by rw [z, u3 _ _ (u2 _ _ (u1 _ _ hp))] at gd; cases gd
    refine ⟨p, L, xs, _, 1000, rfl, hp5, hx.mono (by decide), SqL.of e5, SqL.of (by rw [upd_ne nLp]; exact e5), (by show 0 < 10; decide), (by show 10 < 1073741824; decide), fun j v ys hv hy => ?_⟩
    have f1 : upd Hu p (.lst ys) t1 = some (.tup [.str "at", .int 7]) := by rw [upd_ne n1]; exact s25 _ _ e1
    have f2 : upd Hu p (.lst ys) t2 = some (.lst [.int 1, .str "b"]) := by rw [upd_ne n2]; exact s35 _ _ e2
    have f3 : upd Hu p (.lst ys) t3 = some (.tup []) := by rw [upd_ne n3]; exact s45 _ _ e3
    have f4 : upd Hu p (.lst ys) dq = some (.dK [(.inr "x", .int 1)]) := by rw [upd_ne n4]; exact u5 _ _ e4
    generalize upd Hu p (.lst ys) = H2 at f1 f2 f3 f4 ⊢
    have th : ThOk K H2 v := by
      match j, hv with
      | 0, hv => cases hv; exact th_dat (.str "a") (by decide +kernel) (by decide +kernel)
      | 1, hv => cases hv; exact th_dat (.str "") (by decide +kernel) (by decide +kernel)
      | 2, hv => cases hv; exact th_dat (.int 5) (by decide +kernel) (by decide +kernel)
      | 3, hv => cases hv; exact th_dat (.int (-1)) (by decide +kernel) (by decide +kernel)
      | 4, hv => cases hv; exact th_dat .non rfl (by decide +kernel)
      | 5, hv => cases hv; exact th_dat (.bl true) (by decide +kernel) (by decide +kernel)
      | 6, hv => cases hv; exact th_dat (.tup (SqT.of f1) (.cons (.str "at") (.cons (.int 7) .nil))) (by decide +kernel) (by decide +kernel)
      | 7, hv => cases hv; exact th_dat (.lst (SqL.of f2) (.cons (.int 1) (.cons (.str "b") .nil))) (by decide +kernel) (by decide +kernel)
      | 8, hv => cases hv; exact th_dat (.tup (SqT.of f3) .nil) (by decide +kernel) (by decide +kernel)
      | 9, hv => cases hv; exact th_dict f4
    clear f1 f2 f3 f4 hv
    refine gName_k ?_
    try dsimp only
    -- the pairs
    refine ⟨_, rfl, v, rfl, fun q2 us2 H3 s3 nq2 hq2 at2 => ⟨q2, rfl, ⟨_, SqL.of hq2⟩, fun D hD => ?_⟩⟩
    have ul2 := at2.len
    refine lcFalse (K := K) (SqL.of hq2) (by rw [ul2]; decide) hD (fun i x Hi Qi hxi si qi => ?_) fun H4 s4 hD4 => ?_
    · have hlt := (List.getElem?_eq_some_iff.mp hxi).1
      have ht : TWO[i]? = some TWO[i] := List.getElem?_eq_getElem (by omega)
      obtain ⟨pz, rfl, hpz⟩ := at2.get i _ _ ht hxi
      have thi := (th.same s3).same si
      refine ⟨pz, _, rfl, SqT.of (si _ _ hpz), rfl, _, _, rfl, _, _, rfl, rfl, rfl, ?_⟩
      refine ⟨_, rfl, _, rfl, thi _ _ (Same.refl _) ⟨false, rfl, iteN (by decide) ⟨_, rfl, _, rfl, thi _ _ (Same.refl _) ?_⟩⟩⟩
      exact qi
    refine ⟨D, List.replicate 14 false, rfl, SqL.of (by rw [← ul2.trans (show TWO.length = 14 from rfl)]; exact hD4), _, rfl, ?_⟩
    refine iteN (by decide) ?_
    try dsimp only
    have th4 := (th.same s3).same s4
    refine nxt ?_
    try dsimp only
    -- the errors
    refine seqAsg ⟨_, rfl, v, rfl, fun q5 us5 H5 s5 nq5 hq5 at5 => ?_⟩
    refine gName_k ?_
    try dsimp only
    have ul5 : us5.length = 22 := at5.len
    refine seqJoin (fun σ Hc => ∃ (x3 x4 x6 x7 : Option V), σ = [some (.ref a), some (.ref p), some v, x3, x4, some (.ref q5), x6, x7] ∧ Same H5 Hc) (fun KK hK => ?_) ?_
    · refine ⟨_, rfl, q5, us5, rfl, .inl (SqL.of hq5), ((22 : Nat) : Int), congrArg (fun z : Int => [V.int z]) (by rw [ul5]), by decide, by decide, ?_⟩
      refine for_range (n := 22) (fun i σ Hc => ∃ (x3 x4 x6 x7 : Option V), σ = [some (.ref a), some (.ref p), some v, x3, x4, some (.ref q5), x6, x7] ∧ Same H5 Hc) ⟨_, _, _, _, rfl, Same.refl _⟩ ?_ (fun σ Hc h => hK σ Hc h)
      rintro i σ Hc hi ⟨x3, x4, x6, x7, rfl, sc⟩
      rw [Int.zero_add]
      have hz := exN_at i hi
      have hv5 : us5[i]? = some (us5[i]'(by omega)) := List.getElem?_eq_getElem _
      have exi := (at5.get i _ _ hz hv5).same sc
      have hce : exN i ∈ EXS := List.mem_of_getElem? hz
      have o3 := one31_ok T.tab31 hce
      generalize us5[i]'(by omega) = ve at hv5 exi
      obtain ⟨ea, ed, rfl, x1, x2⟩ := id exi
      refine gName_k ?_
      try dsimp only
      have hqc := sc _ _ hq5
      refine ⟨_, rfl, _, rfl, q5, us5, _, .ref ea, rfl, rfl, SqL.of hqc, at_of (j := i) rfl hv5, ea, _, ed, .ref (He.ga K "RoadError"), .ref (He.ga K "RoadError"), true, rfl, x1, x2, o3.ex, (fun u r => r), o3.re, _, rfl, ?_⟩
      refine iteN (by decide) ?_
      refine ⟨_, rfl, _, rfl, q5, us5, _, .ref ea, rfl, rfl, SqL.of hqc, at_of (j := i) rfl hv5, ea, _, ed, .ty "ValueError", .type "ValueError", true, rfl, x1, x2, o3.ex, (fun u r => r), o3.ve, _, rfl, ?_⟩
      refine iteN (by decide) ?_
      refine nxt ?_
      refine ⟨_, rfl, q5, us5, rfl, .inl (SqL.of hqc), ((22 : Nat) : Int), congrArg (fun z : Int => [V.int z]) (by rw [ul5]), by decide, by decide, fun D6 hD6 => ?_⟩
      refine lcSel (n := 22) (fun j => decide (exN i = exN j)) (by decide) hD6 (fun _ => rfl) (fun j Hj Qj hj sj kj => ?_) fun H7 s7 hD7 => ?_
      · rw [Int.zero_add]
        have hzj := exN_at j hj
        have hqj := sj _ _ hqc
        refine ⟨_, rfl, _, rfl, q5, us5, _, .ref ea, rfl, rfl, SqL.of hqj, at_of (j := i) rfl hv5, .ref ea, exN i, rfl, exi.same sj, hce, o3, fun q8 H8 s8 nq8 hq8 => ?_⟩
        refine ⟨_, rfl, q8, _, _, .bl (decide (exN i = exN j)), rfl, rfl, SqL.of hq8, at_of (j := j) rfl (by rw [List.getElem?_map, hzj]; rfl), _, rfl, kj H8 s8⟩
      rw [exN_sel i hi] at hD7
      obtain ⟨sh, ev⟩ := one_sh i hi
      refine ⟨_, rfl, (by show 1 ≤ sizeLine; omega), fun q9 g9 => ?_⟩
      refine ⟨_, _, .lst (SqL.of (Rd.Same.upd g9 _ _ hD7)) (.cons (.int _) .nil), .lst (SqL.of upd_same) (.cons (.int _) .nil), sh, sh, _, rfl, ?_⟩
      rw [ev]
      refine iteN (by decide) ?_
      exact ⟨_, _, _, _, rfl, (sc.trans s7).trans (Rd.Same.upd g9)⟩
    · rintro σ Hc ⟨x3, x4, x6, x7, rfl, sc⟩
      refine ⟨_, rfl, q5, us5, rfl, .inl (SqL.of (sc _ _ hq5)), rfl, ?_⟩
      rw [ul5]
      exact k _
end
end Rd
set_option maxHeartbeats 0
namespace Rd
open PySem L2
theorem tx_ok {w : World} {K : PySem.W.Frag} {h : Heap} {mg : Str → Option Value} (X : K.In h) (G : h.Ns mainGlobals mg) (ct : He.SaysT fa fn ts w K) (cc : He.SaysD fa fn K) (cz : He5.SaysA [] fs K) (hx : exq K = true) : Tx w K mg where
  z_len := He.free_ok X G (cc.fact 0 rfl)
  z_any := He.free_ok X G (cc.fact 1 rfl)
  z_abs := He.free_ok X G (cc.fact 2 rfl)
  z_int := He.free_ok X G (cc.fact 3 rfl)
  z_range := He.free_ok X G (cc.fact 4 rfl)
  z_isinstance := He.free_ok X G (cc.fact 5 rfl)
  z_ValueError := He.free_ok X G (cc.fact 6 rfl)
  F__law_stream := ⟨(cc.def_ 0 (d := d0) rfl), He.glo_ok X G (cc.fact 7 rfl)⟩
  F__law_draw := ⟨(cc.def_ 1 (d := d1) rfl), He.glo_ok X G (cc.fact 8 rfl)⟩
  F__law_pick := ⟨(cc.def_ 2 (d := d2) rfl), He.glo_ok X G (cc.fact 9 rfl)⟩
  F__law_with_text := ⟨(cc.def_ 3 (d := d3) rfl), He.glo_ok X G (cc.fact 10 rfl)⟩
  F__law_made := ⟨(cc.def_ 4 (d := d4) rfl), He.glo_ok X G (cc.fact 11 rfl)⟩
  F__law_kinds := ⟨(cc.def_ 5 (d := d5) rfl), He.glo_ok X G (cc.fact 12 rfl)⟩
  g_RoadError := He.glo_ok X G (cc.fact 14 rfl)
  r_RoadError := rexB_ok (exl_ok hx 0 rfl)
  X_BadAtom := ⟨He.glo_ok X G (cc.fact 15 rfl), oexB_ok (exl_ok hx 1 rfl), He.noat_ok (cc.fact 18 rfl), ⟨(cc.def_ 7 (d := d7) rfl), He.meth_ok (cc.fact 17 rfl)⟩, xfB_ok (exl_ok hx 2 rfl), He.exm_ok (cc.fact 16 rfl)⟩
  X_BadForm := ⟨He.glo_ok X G (cc.fact 19 rfl), oexB_ok (exl_ok hx 3 rfl), He.noat_ok (cc.fact 22 rfl), ⟨(cc.def_ 8 (d := d8) rfl), He.meth_ok (cc.fact 21 rfl)⟩, xfB_ok (exl_ok hx 4 rfl), He.exm_ok (cc.fact 20 rfl)⟩
  X_BadKey := ⟨He.glo_ok X G (cc.fact 23 rfl), oexB_ok (exl_ok hx 5 rfl), He.noat_ok (cc.fact 26 rfl), ⟨(cc.def_ 9 (d := d9) rfl), He.meth_ok (cc.fact 25 rfl)⟩, xfB_ok (exl_ok hx 6 rfl), He.exm_ok (cc.fact 24 rfl)⟩
  X_BadText := ⟨He.glo_ok X G (cc.fact 27 rfl), oexB_ok (exl_ok hx 7 rfl), He.noat_ok (cc.fact 30 rfl), ⟨(cc.def_ 10 (d := d10) rfl), He.meth_ok (cc.fact 29 rfl)⟩, xfB_ok (exl_ok hx 8 rfl), He.exm_ok (cc.fact 28 rfl)⟩
  X_BadHeap := ⟨He.glo_ok X G (cc.fact 31 rfl), oexB_ok (exl_ok hx 9 rfl), He.noat_ok (cc.fact 34 rfl), ⟨(cc.def_ 11 (d := d11) rfl), He.meth_ok (cc.fact 33 rfl)⟩, xfB_ok (exl_ok hx 10 rfl), He.exm_ok (cc.fact 32 rfl)⟩
  X0_BadRecipe := ⟨He.glo_ok X G (cc.fact 35 rfl), oexB_ok (exl_ok hx 11 rfl), ⟨(cc.def_ 12 (d := d12) rfl), He.meth_ok (cc.fact 37 rfl)⟩, He.exm_ok (cc.fact 36 rfl)⟩
  X_NoWay := ⟨He.glo_ok X G (cc.fact 38 rfl), oexB_ok (exl_ok hx 12 rfl), He.noat_ok (cc.fact 41 rfl), ⟨(cc.def_ 13 (d := d13) rfl), He.meth_ok (cc.fact 40 rfl)⟩, xfB_ok (exl_ok hx 13 rfl), He.exm_ok (cc.fact 39 rfl)⟩
  X0_BadHeaps := ⟨He.glo_ok X G (cc.fact 42 rfl), oexB_ok (exl_ok hx 14 rfl), ⟨(cc.def_ 14 (d := d14) rfl), He.meth_ok (cc.fact 44 rfl)⟩, He.exm_ok (cc.fact 43 rfl)⟩
  X_BadRole := ⟨He.glo_ok X G (cc.fact 45 rfl), oexB_ok (exl_ok hx 15 rfl), He.noat_ok (cc.fact 48 rfl), ⟨(cc.def_ 15 (d := d15) rfl), He.meth_ok (cc.fact 47 rfl)⟩, xfB_ok (exl_ok hx 16 rfl), He.exm_ok (cc.fact 46 rfl)⟩
  X_NotFit := ⟨He.glo_ok X G (cc.fact 49 rfl), oexB_ok (exl_ok hx 17 rfl), He.noat_ok (cc.fact 52 rfl), ⟨(cc.def_ 16 (d := d16) rfl), He.meth_ok (cc.fact 51 rfl)⟩, xfB_ok (exl_ok hx 18 rfl), He.exm_ok (cc.fact 50 rfl)⟩
  X_BadBook := ⟨He.glo_ok X G (cc.fact 53 rfl), oexB_ok (exl_ok hx 19 rfl), He.noat_ok (cc.fact 56 rfl), ⟨(cc.def_ 17 (d := d17) rfl), He.meth_ok (cc.fact 55 rfl)⟩, xfB_ok (exl_ok hx 20 rfl), He.exm_ok (cc.fact 54 rfl)⟩
  X_BadSitting := ⟨He.glo_ok X G (cc.fact 57 rfl), oexB_ok (exl_ok hx 21 rfl), He.noat_ok (cc.fact 60 rfl), ⟨(cc.def_ 18 (d := d18) rfl), He.meth_ok (cc.fact 59 rfl)⟩, xfB_ok (exl_ok hx 22 rfl), He.exm_ok (cc.fact 58 rfl)⟩
  X_NoSitting := ⟨He.glo_ok X G (cc.fact 61 rfl), oexB_ok (exl_ok hx 23 rfl), He.noat_ok (cc.fact 64 rfl), ⟨(cc.def_ 19 (d := d19) rfl), He.meth_ok (cc.fact 63 rfl)⟩, xfB_ok (exl_ok hx 24 rfl), He.exm_ok (cc.fact 62 rfl)⟩
  X0_NotPlain := ⟨He.glo_ok X G (cc.fact 65 rfl), oexB_ok (exl_ok hx 25 rfl), ⟨(cc.def_ 20 (d := d20) rfl), He.meth_ok (cc.fact 67 rfl)⟩, He.exm_ok (cc.fact 66 rfl)⟩
  X_NotWaiting := ⟨He.glo_ok X G (cc.fact 68 rfl), oexB_ok (exl_ok hx 26 rfl), He.noat_ok (cc.fact 71 rfl), ⟨(cc.def_ 21 (d := d21) rfl), He.meth_ok (cc.fact 70 rfl)⟩, xfB_ok (exl_ok hx 27 rfl), He.exm_ok (cc.fact 69 rfl)⟩
  X0_NotHeld := ⟨He.glo_ok X G (cc.fact 72 rfl), oexB_ok (exl_ok hx 28 rfl), ⟨(cc.def_ 22 (d := d22) rfl), He.meth_ok (cc.fact 74 rfl)⟩, He.exm_ok (cc.fact 73 rfl)⟩
  X0_NoMatch := ⟨He.glo_ok X G (cc.fact 75 rfl), oexB_ok (exl_ok hx 29 rfl), ⟨(cc.def_ 23 (d := d23) rfl), He.meth_ok (cc.fact 77 rfl)⟩, He.exm_ok (cc.fact 76 rfl)⟩
  X_NotDone := ⟨He.glo_ok X G (cc.fact 78 rfl), oexB_ok (exl_ok hx 30 rfl), He.noat_ok (cc.fact 81 rfl), ⟨(cc.def_ 24 (d := d24) rfl), He.meth_ok (cc.fact 80 rfl)⟩, xfB_ok (exl_ok hx 31 rfl), He.exm_ok (cc.fact 79 rfl)⟩
  X0_BadFilling := ⟨He.glo_ok X G (cc.fact 82 rfl), oexB_ok (exl_ok hx 32 rfl), ⟨(cc.def_ 25 (d := d25) rfl), He.meth_ok (cc.fact 84 rfl)⟩, He.exm_ok (cc.fact 83 rfl)⟩
  X_BadWishes := ⟨He.glo_ok X G (cc.fact 85 rfl), oexB_ok (exl_ok hx 33 rfl), He.noat_ok (cc.fact 88 rfl), ⟨(cc.def_ 26 (d := d26) rfl), He.meth_ok (cc.fact 87 rfl)⟩, xfB_ok (exl_ok hx 34 rfl), He.exm_ok (cc.fact 86 rfl)⟩
  X0_BadGoal := ⟨He.glo_ok X G (cc.fact 89 rfl), oexB_ok (exl_ok hx 35 rfl), ⟨(cc.def_ 27 (d := d27) rfl), He.meth_ok (cc.fact 91 rfl)⟩, He.exm_ok (cc.fact 90 rfl)⟩
  X0_BadCommand := ⟨He.glo_ok X G (cc.fact 92 rfl), oexB_ok (exl_ok hx 36 rfl), ⟨(cc.def_ 28 (d := d28) rfl), He.meth_ok (cc.fact 94 rfl)⟩, He.exm_ok (cc.fact 93 rfl)⟩
  tab31 := (exl_ok hx 37 rfl)
theorem facts {P : Program} {w : World} {K : PySem.W.Frag} {h : Heap} {mg : Str → Option Value} {f : Addr} (X : K.In h) (G : h.Ns mainGlobals mg) (hfa : mg ("law" : Str) = some (.ref f)) (c : SaysZ fa fn ts exq fs w K) :
    ∃ fd : FuncData, (∀ (s : Shared) (v : Value), BindsTo s fd ⟨[v], []⟩ [("_law_script", v)]) ∧ ∀ base : Heap, K.In base → base.Ns mainGlobals mg → FnOk P w K mg base CX0 20 f fd ["_law_script"] (spLaw K) := by
  have cc := c.y.t.d
  have T := tx_ok X G c.y.t cc c.s c.y.more
  obtain ⟨fd, F⟩ := cc.def_ 6 (d := d6) rfl
  have e := hfa.symm.trans (He.glo_ok X G (cc.fact 13 (f := .glo "law") rfl))
  cases e
  have b := FunD.bindsA (ps := ["_law_script"]) F fun _ _ _ _ _ _ us hl => match us, hl with | [_], _ => rfl
  exact ⟨fd, fun s v => b s [v] rfl, fun base _ _ => ok_law F T⟩
end Rd
open PySem PySem.W PySem.Calls PyProof.Rows
set_option maxRecDepth 100000 in
set_option maxHeartbeats 0 in
theorem PySem.Challenge.cw_openroads_k31_errors_made_holds : PySem.Challenge.rw_openroads_k31_errors_made.Holds := by
  w_on; o_law
  refine HandSHeadRun.head_any (r := OpenLaw.row PySem.Challenge.rw_openroads_k31_errors_made) (q := Rd.qv) (H := Rd.hk) (ob := Rd.ob) (M := 8000) (loose := Rd.loo) (d := HandSHeadRun.topDef (OpenLaw.row PySem.Challenge.rw_openroads_k31_errors_made).prog 31) (kwd := []) Rd.ob_eq
    (by kernel_rfl) (fun s => by kernel_rfl) Rd.run (by kernel_rfl) (by kernel_rfl) (by kernel_rfl) (by rfl) (by first | assumption | decide +kernel) (by decide +kernel) ⟨rfl, rfl, rfl, rfl, rfl, by decide +kernel⟩ ?hw ?hc
  case hw => w_witness2
  case hc =>
    refine L2.walk_ofE (l := PySem.Challenge.rw_openroads_k31_errors_made) (n := 63) (k := 20) (x := "_law_script") (CX := L2.CX0) rfl (by decide) (by kernel_rfl) ⟨rfl, by decide, by decide⟩ ?F (fun _ _ _ _ z => z)
    intro w mg fa h Y G hmg0
    obtain ⟨K, KX, c⟩ := Y
    have hmg : mg ("law" : PySem.Str) = some (.ref fa) := by
      have e : (HandSHeadRun.topDef (OpenLaw.row PySem.Challenge.rw_openroads_k31_errors_made).prog 31).name = ("law" : PySem.Str) := by kernel_rfl
      rw [← e]
      exact hmg0
    obtain ⟨fd, hb, hF⟩ := Rd.facts (P := (PySem.Challenge.rw_openroads_k31_errors_made).prog) (w := w) KX G hmg c
    exact ⟨K, fd, Rd.spLaw K, KX, hb, fun H a ns hl _ hS => ⟨a, ns, rfl, hS, hl, fun _ => rfl⟩, hF⟩
