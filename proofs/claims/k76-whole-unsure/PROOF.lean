import PyProof.Rows.All
import Wide.All
import OpenK.AllK
import Wide.FinOn
import KE.KStateDown
import KE.SortData
import KE.KDictKeyed
import HandS.ForMost
import HandS.Codes
import HandS.Defaults
import HandS.Exc
import HandS.TryOnly
import HandS.ExcOwn
import HandS.ExcCtx
import HandS.ExcInit
import HandS.ExcSuper
import HandS.WordsExc
import HandS.HotCalls
import HandS.CallSlots
import HandS.Star
import HandS.IsInst
import HandS.Property
import HandS.ClsMeth
import HandS.DictComp
import HandS.SetFor
import HandS.Strs
import HandS.SortInts
import HandS.SortRule
import HandS.Style
import HandS.More
import HandS.Walk
import HandS.RaiseMore
import HandS.Zip
import HandS.HeadEnd
import HandS.HeadHook1
import HandS.HeadHook2
import HandS.HeadHook3
import HandS.HeadNt
import HandS.Head0
import HandS.Head1
import HandS.Head2
import KE.KExcSuper
import KE.GoesEnum
import KE.KDictCopyH
import HandS.Conv
import PySem.Challenge.RW_termstill_k76_whole_unsure_and_live_clai
set_option Elab.async false
set_option linter.all false
set_option maxRecDepth 100000
set_option maxHeartbeats 4000000
namespace Ts
open PySem PySem.Spec PyProof.Rows L2 C8 He
/-! ### the text by places; builders -/
def top (i : Nat) : Stmt := PySem.Challenge.pw_termstill_k76_whole_unsure_and_live_clai.main.body.getD i (.Pass ⟨0, 0, 0, 0⟩)
/-- a def as it stands behind the top, some function object of it -/
def FnP (K : PySem.W.Frag) (x q : Str) (st : Stmt) (dvs : List V) (f : Addr) : Prop := ∃ fd, FunD K x q (defArgs st) (defBody st) (defScope st) dvs [] f fd
/-- the getter of a property -/
def propAt (K : PySem.W.Frag) (C : Addr) (m : Str) : Addr := match PySem.W.recIn K (ma K C m) "property" with
  | some (.ref f :: _) => f
  | _ => 0
def propB (K : PySem.W.Frag) (C : Addr) (m : Str) : Bool := eqO (PySem.W.findIn K (.ref C) m) (some (some (.ref (ma K C m)))) && (eqO (PySem.W.specialIn K (.ref (ma K C m)) "__get__") (some (some (.builtin "property.__get__"))) &&
  (decide (PySem.W.takesIn K (.ref (ma K C m)) = some true) && (match PySem.W.recIn K (ma K C m) "property" with
    | some (.ref _ :: _) => true
    | _ => false)))
theorem propB_ok {K : PySem.W.Frag} {C : Addr} {m : Str} (h : propB K C m = true) : PropOf K C m (ma K C m) (propAt K C m) := by
  obtain ⟨h1, h⟩ := ba h
  obtain ⟨h2, h⟩ := ba h
  obtain ⟨h3, h4⟩ := ba h
  refine ⟨eqO_ok h1, eqO_ok h2, of_decide_eq_true h3, ?_⟩
  unfold propAt
  split at h4
  · rename_i f r e
    exact ⟨r, by rw [e]⟩
  · cases h4
abbrev InsF := C8.InsC
def insB (K : PySem.W.Frag) (C : Addr) : Bool := (PySem.W.plainGet K C Str.empty && (PySem.W.hasDictIn K C && (PySem.W.plainOver K C && eqO (PySem.W.findIn K (.ref C) "__setattr__") (some (some (.builtin "object.__setattr__")))))) &&
  (eqO (PySem.W.findIn K (.ref C) "__class__") (some (some (.builtin "object.__class__"))) && (eqO (PySem.W.specialIn K (.builtin "object.__class__") "__get__") (some (some (.builtin "getset_descriptor.__get__"))) &&
  (decide (PySem.W.takesIn K (.builtin "object.__class__") = some true) && (decide (PySem.W.mroIn K C (.type "object") = some true) && decide (PySem.W.kitOne K (.ref C) (.ref C) = some true)))))
theorem insB_ok {K : PySem.W.Frag} {C : Addr} (h : insB K C = true) : InsF K C := by
  obtain ⟨h0, h⟩ := ba h
  obtain ⟨c1, c⟩ := ba h0
  obtain ⟨c2, c⟩ := ba c
  obtain ⟨c3, c4⟩ := ba c
  obtain ⟨h1, h⟩ := ba h
  obtain ⟨h2, h⟩ := ba h
  obtain ⟨h3, h⟩ := ba h
  obtain ⟨h4, h5⟩ := ba h
  exact ⟨⟨c1, c2, c3, eqO_ok c4⟩, eqO_ok h1, eqO_ok h2, of_decide_eq_true h3, of_decide_eq_true h4, of_decide_eq_true h5⟩
def nsIntB (K : PySem.W.Frag) (d : Addr) (x : Str) (i : Int) : Bool := match PySem.W.nsIn K d x with
  | some (some (.int j _)) => decide (j = i)
  | _ => false
theorem nsIntB_ok {K : PySem.W.Frag} {d : Addr} {x : Str} {i : Int} (h : nsIntB K d x i = true) : ∃ t, PySem.W.nsIn K d x = some (some (.int i t)) := by
  unfold nsIntB at h
  split at h
  · rename_i j t e
    exact ⟨t, by rw [e, of_decide_eq_true h]⟩
  · cases h
def creadB (K : PySem.W.Frag) (C : Addr) : Bool := PySem.W.readsIn K C (.type "type") && eqO (PySem.W.specialIn K (.ref C) "__getattribute__") (some (some (.builtin "type.__getattribute__")))
theorem creadB_ok {K : PySem.W.Frag} {C : Addr} (h : creadB K C = true) : ClX.CRead K C (.type "type") := by
  obtain ⟨h1, h2⟩ := ba h
  exact ⟨h1, eqO_ok h2⟩
def cmetB (K : PySem.W.Frag) (C : Addr) (m : Str) : Bool := He5.wrapB K C "classmethod" "classmethod.__get__" m && PySem.W.fnIn K (He5.wf K C "classmethod" m)
theorem cmetB_ok {K : PySem.W.Frag} {C : Addr} {m : Str} (h : cmetB K C m = true) : ClX.CMet K C (.type "type") m (ma K C m) (He5.wf K C "classmethod" m) := by
  obtain ⟨h1, h2⟩ := ba h
  exact He5.cmet_of h1 h2
/-- the default () of Story.__init__ -/
def v0B (K : PySem.W.Frag) : Bool := match K.lookup (dflAt ("Story", some "__init__") 0 K) with
  | some ⟨.type c, _, .seq its _, _⟩ => decide (c = "tuple") && decide (its.size = 0)
  | _ => false
theorem v0B_ok {K : PySem.W.Frag} (h : v0B K = true) (H : Hp) : SqT K H (dflAt ("Story", some "__init__") 0 K) [] := by
  unfold v0B at h
  split at h
  · rename_i c od its n sl e
    obtain ⟨h1, h2⟩ := ba h
    have h3 : its = #[] := Array.eq_empty_of_size_eq_zero (of_decide_eq_true h2)
    subst h3
    exact .inr ⟨_, #[], n, e, congrArg Value.type (of_decide_eq_true h1), rfl, Nat.zero_le _, .nil⟩
  · cases h
section
variable {P : Program} {w : World} {K : PySem.W.Frag} {mg : Str → Option Value} {base : Heap}
/-- how arguments bind where no default stands -/
def BindN (x q : Str) (st : Stmt) (ps : List Str) : Prop := ∀ (kV doc pm : Value) (an : Option Addr) (cdv ct : Value) (us : List Value), us.length = ps.length →
  bindArgs (PySem.W.fnOf x q (defArgs st) (defBody st) (defScope st) .none kV doc pm an cdv ct) ⟨us, []⟩ = pure (ps.zip us)
/-- .. where n values are written and the defaults behind the first j fill up -/
def BindD (x q : Str) (st : Stmt) (ps : List Str) (d n j : Nat) : Prop := ∀ (T : Addr) (kV doc pm : Value) (an : Option Addr) (cdv ct : Value) (us its : List Value), us.length = n → its.length = d →
  ∃ k, bindArgs (PySem.W.fnOf x q (defArgs st) (defBody st) (defScope st) (.ref T) kV doc pm an cdv ct) ⟨us, []⟩ = seqItems? (.ref T) >>= k ∧ k (some its.toArray) = pure (ps.zip (us ++ its.drop j))
/-- what is shown of a body -/
abbrev Body (P : Program) (w : World) (K : PySem.W.Frag) (mg : Str → Option Value) (base : Heap) (k : Nat) (q : Str) (st : Stmt) (N : List Str) (f : Addr) (sp : Sp) : Prop :=
  ∀ (cdv : Value) (A : Around) (outer : List Env) (s : Shared) (H : Hp) (vs : List V) (Q : VK) (E : XK), Room k (A.deeper (envOfC q (defScope st) s.heap.objs.size f cdv)) → sp vs H Q E →
    ∃ t, PSs (cxOf C8.CX0 P w K mg base N q (defScope st) f cdv A outer s H E).nox (defBody st) t ∧ t { nx := fun _ H' => Q .non H', rt := Q } (start N vs) H
abbrev Len (ps : List Str) (sp : Sp) : Prop := ∀ vs H Q E, sp vs H Q E → vs.length = ps.length
theorem fnok {x q : Str} {st : Stmt} {f : Addr} {fd : FuncData} {dvs : List V} {N ps : List Str} {k : Nat} {sp : Sp} (F : FunD K x q (defArgs st) (defBody st) (defScope st) dvs [] f fd) (S : FnScope N ps (defScope st)) (len : Len ps sp)
    (hb : Body P w K mg base k q st N f sp) : FnOk P w K mg base C8.CX0 (k + 1) f fd ps sp :=
  F.ok S len fun cdv A outer s H vs Q E hr h => by
    obtain ⟨t, a, b⟩ := hb cdv A outer s H vs Q E hr h
    exact ⟨t, a.nox, b⟩
/-- a def of the module, by its body -/
theorem calN {x nm q : Str} {st : Stmt} {f : Addr} {N ps : List Str} {k : Nat} {sp : Sp} (F : FnP K nm q st [] f) (hm : mg x = some (.ref f)) (S : FnScope N ps (defScope st)) (b : BindN nm q st ps) (len : Len ps sp)
    (hb : Body P w K mg base k q st N f sp) : Cal P w K mg base (k + 1) x sp [] := by
  obtain ⟨fd, F⟩ := F
  exact ⟨f, fd, ps, [], fnok F S len hb, hm, F.kp, F.bindsN b, .nil⟩
/-- a method, by its body -/
theorem metN {m q : Str} {st : Stmt} {C f : Addr} {N ps : List Str} {k : Nat} {sp : Sp} (F : FnP K m q st [] f) (c : Cls K C) (me : Meth K C m f) (S : FnScope N ps (defScope st)) (b : BindN m q st ps) (len : Len ps sp)
    (hb : Body P w K mg base k q st N f sp) : Met P w K mg base (k + 1) C m sp [] := by
  obtain ⟨fd, F⟩ := F
  exact ⟨f, fd, ps, [], c, me, fnok F S len hb, F.bindsN b, .nil⟩
/-- a class by its __init__, without defaults -/
theorem makN {x q : Str} {st : Stmt} {C f : Addr} {N ps : List Str} {k : Nat} {sp : Sp} (F : FnP K "__init__" q st [] f) (M : Mk K C f) (hm : mg x = some (.ref C)) (S : FnScope N ps (defScope st)) (b : BindN "__init__" q st ps) (len : Len ps sp)
    (hb : Body P w K mg base k q st N f sp) : Mak P w K mg base (k + 1) x C sp [] := by
  obtain ⟨fd, F⟩ := F
  exact ⟨f, fd, ps, [], M, fnok F S len hb, hm, F.bindsN b, .nil⟩
/-- .. with defaults: n written values, the defaults behind the first j -/
theorem makD {x q : Str} {st : Stmt} {C f : Addr} {dvs : List V} {N ps : List Str} {k : Nat} {sp : Sp} (n j : Nat) (F : FnP K "__init__" q st dvs f) (hd : dvs ≠ []) (M : Mk K C f) (hm : mg x = some (.ref C)) (S : FnScope N ps (defScope st)) (hn : n + (dvs.length - j) = ps.length)
    (b : BindD "__init__" q st ps dvs.length n j) (len : Len ps sp) (hb : Body P w K mg base k q st N f sp) : Mak P w K mg base (k + 1) x C sp (dvs.drop j) := by
  obtain ⟨fd, F⟩ := F
  obtain ⟨ds, r, bd⟩ := F.binds1 n j hd hn b
  exact ⟨f, fd, ps, ds, M, fnok F S len hb, hm, bd, r⟩
end
end Ts
set_option maxHeartbeats 4000000
namespace Ts
open PySem PySem.Spec PyProof.Rows L2 C8 He
/-! ### Refused(at): the exception's own __init__ -/
abbrev s_Refused : Stmt := inClass (top 8) 0
structure RefF (P : Program) (K : PySem.W.Frag) (C f cc cda : Addr) : Prop where
  cls : OexC K C
  init : PySem.W.findIn K (.ref C) "__init__" = some (some (.ref f))
  tf : PySem.W.typeIn K (.ref f) = some (.type "function")
  fn : ∃ oc od kV doc pm an ct osl, K.lookup f = some ⟨oc, od, .func (PySem.W.ksFn "__init__" "Refused.__init__" (defArgs s_Refused) (defBody s_Refused) (defScope s_Refused) .none kV doc pm an (.ref cda) ct cc), osl⟩
  code : PySem.W.codeIn K (.ref cda) "Refused.__init__" = true
  file : ∃ ccl cdd vs ccs tf, K.lookup cda = some ⟨ccl, cdd, .fields vs, ccs⟩ ∧ vs[2]? = some (.str P.main.file tf)
  cell : ∃ cl cld csl, K.lookup cc = some ⟨cl, cld, .cell (some (.ref C)), csl⟩
  msub : PySem.W.mroIn K C (.ref C) = some true
  opq : PySem.W.nsIn K PySem.cStatics "thirdparty.any" = some none
  sup : PySem.W.ks_superIn K C C "__init__" = some (some (.builtin "ValueError.__init__"))
  veC : PySem.W.subIn K (.ref C) (.type "ValueError") = some true
  noat : PySem.W.findIn K (.ref C) "at" = some none
  top : (P.main.scope.names.lookup ("super" : Str)).isSome = false
/-! its check in the head's facts -/
def excB (K : PySem.W.Frag) (C : Addr) : Bool := match K.lookup C with
  | some ⟨.type t, _, .cls cd, sl⟩ => (match cd.mro, sl.toList with
    | .ref C' :: bm, [_, _, _, _, some (.builtin n), _] => decide (t = "type") && (decide (C' = C) && (decide (n = "ValueError.__new__") && (!cd.hasDel && (cd.hasDict && PySem.HandSPX.refsVE bm))))
    | _, _ => false)
  | _ => false
theorem excB_ok {K : PySem.W.Frag} {C : Addr} (h : excB K C = true) : ∃ nm q N bs bm sn sub ab col dd k0 k1 k2 k3 k5, K.lookup C = some (excClassObj nm q C N bs bm true sn sub ab col dd k0 k1 k2 k3 k5 "ValueError.__new__") ∧ PySem.HandSPX.refsVE bm = true := by
  unfold excB at h
  split at h
  · rename_i t dd cd sl ho
    split at h
    · rename_i C' bm k0 k1 k2 k3 n k5 hm hs
      obtain ⟨h1, h⟩ := ba h
      obtain ⟨h2, h⟩ := ba h
      obtain ⟨h3, h⟩ := ba h
      obtain ⟨h4, h⟩ := ba h
      obtain ⟨h5, h6⟩ := ba h
      obtain ⟨nm, bs, mro, ns, qn, hd, sn, sb, ab, col, del⟩ := cd
      have e1 := of_decide_eq_true h1
      have e2 := of_decide_eq_true h2
      have e3 := of_decide_eq_true h3
      dsimp only at hm h4 h5
      subst hm h5
      have e4 : del = false := by simpa using h4
      subst e4
      have e5 : sl = #[k0, k1, k2, k3, some (.builtin n), k5] := by
        rw [← hs]
      subst e5
      subst e1 e2 e3
      exact ⟨nm, qn, ns, bs, bm, sn, sb, ab, col, dd, k0, k1, k2, k3, k5, ho, h6⟩
    · cases h
  · cases h
def refAt (K : PySem.W.Frag) : Addr := ma K (ga K "Refused") "__init__"
def fnC (K : PySem.W.Frag) (a : Addr) : He.FnW := (He5.fnA K a).map fun x => (x.1, x.2.1, x.2.2.1, x.2.2.2.1, x.2.2.2.2.1, x.2.2.2.2.2.1, [], x.2.2.2.2.2.2.2)
def fnRefV : He.FnW := some ("__init__", "Refused.__init__", defArgs s_Refused, .stmts (defBody s_Refused), defScope s_Refused, mainGlobals, [], builtinsNs)
def cloB (K : PySem.W.Frag) (file : Str) : Bool := match K.lookup (refAt K) with
  | some ⟨_, _, .func fd, _⟩ => (match fd.code, fd.closure, fd.defaults with
    | .ref cda, [(x, cc)], .none => decide (x = "__class__") && (PySem.W.codeIn K (.ref cda) "Refused.__init__" && ((match K.lookup cda with
      | some ⟨_, _, .fields vs, _⟩ => (match (vs[2]? : Option Value) with
        | some (.str z _) => decide (z = file)
        | _ => false)
      | _ => false) && (match K.lookup cc with
      | some ⟨_, _, .cell (some (.ref D)), _⟩ => decide (D = ga K "Refused")
      | _ => false)))
    | _, _, _ => false)
  | _ => false
def refB (K : PySem.W.Frag) (file : Str) : Bool := excB K (ga K "Refused") && (eqO (PySem.W.findIn K (.ref (ga K "Refused")) "__setattr__") (some (some (.builtin "object.__setattr__"))) && (decide (PySem.W.subIn K (.ref (ga K "Refused")) (.type "BaseException") = some true) &&
  (decide (PySem.W.typeIn K (.ref (ga K "Refused")) = some (.type "type")) && (PySem.W.keepIn K (.ref (ga K "Refused")) && (eqO (PySem.W.findIn K (.ref (ga K "Refused")) "__init__") (some (some (.ref (refAt K)))) && (decide (PySem.W.typeIn K (.ref (refAt K)) = some (.type "function")) &&
  (decide (PySem.W.mroIn K (ga K "Refused") (.ref (ga K "Refused")) = some true) && (eqO (PySem.W.nsIn K PySem.cStatics "thirdparty.any") (some none) && (eqO (PySem.W.ks_superIn K (ga K "Refused") (ga K "Refused") "__init__") (some (some (.builtin "ValueError.__init__"))) &&
  (decide (PySem.W.subIn K (.ref (ga K "Refused")) (.type "ValueError") = some true) && (eqO (PySem.W.findIn K (.ref (ga K "Refused")) "at") (some none) && cloB K file)))))))))))
theorem refB_ok {P : Program} {K : PySem.W.Frag} {file : Str} (h : refB K file = true) (hf : fnC K (refAt K) = fnRefV) (hp : P.main.file = file) (ht : (P.main.scope.names.lookup ("super" : Str)).isSome = false) :
    ∃ f cc cda, RefF P K (ga K "Refused") f cc cda := by
  obtain ⟨a1, h⟩ := ba h
  obtain ⟨a2, h⟩ := ba h
  obtain ⟨a3, h⟩ := ba h
  obtain ⟨a4, h⟩ := ba h
  obtain ⟨a5, h⟩ := ba h
  obtain ⟨a6, h⟩ := ba h
  obtain ⟨a7, h⟩ := ba h
  obtain ⟨a8, h⟩ := ba h
  obtain ⟨a9, h⟩ := ba h
  obtain ⟨a10, h⟩ := ba h
  obtain ⟨a11, h⟩ := ba h
  obtain ⟨a12, h⟩ := ba h
  unfold cloB at h
  split at h
  · rename_i oc od fd osl lk
    split at h
    · rename_i cda x cc e1 e2 e3
      obtain ⟨b1, h⟩ := ba h
      obtain ⟨b2, h⟩ := ba h
      obtain ⟨b3, b4⟩ := ba h
      have ex := of_decide_eq_true b1
      subst ex
      split at b3
      · rename_i ccl cdd vs ccs lk2
        split at b3
        · rename_i z tf ez
          have ef := of_decide_eq_true b3
          subst ef
          split at b4
          · rename_i cl cld D csl lk3
            have eD := of_decide_eq_true b4
            subst eD
            refine ⟨refAt K, cc, cda, ⟨excB_ok a1, eqO_ok a2, of_decide_eq_true a3, of_decide_eq_true a4, a5⟩, eqO_ok a6, of_decide_eq_true a7, ?_, b2, ⟨ccl, cdd, vs, ccs, tf, lk2, by rw [hp]; exact ez⟩, ⟨cl, cld, csl, lk3⟩, of_decide_eq_true a8, eqO_ok a9, eqO_ok a10, of_decide_eq_true a11, eqO_ok a12, ht⟩
            unfold fnC He5.fnA at hf
            rw [lk] at hf
            obtain ⟨n1, n2, n3, n4, n5, n6, n7, n8, n9, n10, n11, n12, n13, n14, n15⟩ := fd
            dsimp only at e1 e2 e3
            subst e1 e2 e3
            have e4 : (some (n1, n2, n3, n4, n5, n6, ([] : List (Str × Addr)), n15) : He.FnW) = some (("__init__" : Str), ("Refused.__init__" : Str), defArgs s_Refused, FuncBody.stmts (defBody s_Refused), defScope s_Refused, mainGlobals, [], builtinsNs) := hf
            simp only [Option.some.injEq, Prod.mk.injEq] at e4
            obtain ⟨h1, h2, h3, h4, h5, h6, _, h8⟩ := e4
            subst h1 h2 h3 h4 h5 h6 h8
            exact ⟨_, _, _, _, _, _, _, _, lk⟩
          · cases b4
        · cases b3
      · cases b3
    · cases h
  · cases h
end Ts
set_option maxHeartbeats 4000000
namespace Ts
open PySem PySem.Spec PyProof.Rows L2 C8 He
/-! ### the text by places -/
abbrev s_is_integer : Stmt := top 16
abbrev n_is_integer : List Str := ["value"]
theorem sc_is_integer : FnScope n_is_integer ["value"] (defScope s_is_integer) := fnScope_by (by decide +kernel)
abbrev s_is_number : Stmt := top 17
abbrev n_is_number : List Str := ["value"]
theorem sc_is_number : FnScope n_is_number ["value"] (defScope s_is_number) := fnScope_by (by decide +kernel)
abbrev s_is_length : Stmt := top 18
abbrev n_is_length : List Str := ["value"]
theorem sc_is_length : FnScope n_is_length ["value"] (defScope s_is_length) := fnScope_by (by decide +kernel)
abbrev s_is_name : Stmt := top 19
abbrev n_is_name : List Str := ["value", "letter"]
theorem sc_is_name : FnScope n_is_name ["value"] (defScope s_is_name) := fnScope_by (by decide +kernel)
abbrev s_is_sequence : Stmt := top 20
abbrev n_is_sequence : List Str := ["value"]
theorem sc_is_sequence : FnScope n_is_sequence ["value"] (defScope s_is_sequence) := fnScope_by (by decide +kernel)
abbrev s_number_in : Stmt := top 21
abbrev n_number_in : List Str := ["word", "sign"]
theorem sc_number_in : FnScope n_number_in ["word"] (defScope s_number_in) := fnScope_by (by decide +kernel)
abbrev s_need : Stmt := top 24
abbrev n_need : List Str := ["word", "is_fit"]
theorem sc_need : FnScope n_need ["word", "is_fit"] (defScope s_need) := fnScope_by (by decide +kernel)
abbrev s_is_many : Stmt := top 25
abbrev n_is_many : List Str := ["value"]
theorem sc_is_many : FnScope n_is_many ["value"] (defScope s_is_many) := fnScope_by (by decide +kernel)
abbrev s_told_by : Stmt := top 31
abbrev n_told_by : List Str := ["text", "words", "numbers", "times", "word"]
theorem sc_told_by : FnScope n_told_by ["text"] (defScope s_told_by) := fnScope_by (by decide +kernel)
abbrev s_made_of : Stmt := top 32
abbrev n_made_of : List Str := ["told"]
theorem sc_made_of : FnScope n_made_of ["told"] (defScope s_made_of) := fnScope_by (by decide +kernel)
abbrev s_after : Stmt := top 34
abbrev n_after : List Str := ["kind", "left", "going", "many"]
theorem sc_after : FnScope n_after ["kind", "left", "going", "many"] (defScope s_after) := fnScope_by (by decide +kernel)
abbrev s_gone : Stmt := top 35
abbrev n_gone : List Str := ["left", "going", "many", "stood"]
theorem sc_gone : FnScope n_gone ["left", "going", "many"] (defScope s_gone) := fnScope_by (by decide +kernel)
abbrev s_end_by : Stmt := top 36
abbrev n_end_by : List Str := ["rule", "today", "left", "going", "end"]
theorem sc_end_by : FnScope n_end_by ["rule", "today", "left", "going"] (defScope s_end_by) := fnScope_by (by decide +kernel)
abbrev s_course_of : Stmt := top 38
abbrev n_course_of : List Str := ["rule", "story", "found"]
theorem sc_course_of : FnScope n_course_of ["rule", "story"] (defScope s_course_of) := fnScope_by (by decide +kernel)
abbrev s_lapse : Stmt := top 39
abbrev n_lapse : List Str := ["rule", "story"]
theorem sc_lapse : FnScope n_lapse ["rule", "story"] (defScope s_lapse) := fnScope_by (by decide +kernel)
abbrev s_counted : Stmt := top 40
abbrev n_counted : List Str := ["rule", "story"]
theorem sc_counted : FnScope n_counted ["rule", "story"] (defScope s_counted) := fnScope_by (by decide +kernel)
abbrev s_is_occasion_stories : Stmt := top 42
abbrev n_is_occasion_stories : List Str := ["value"]
theorem sc_is_occasion_stories : FnScope n_is_occasion_stories ["value"] (defScope s_is_occasion_stories) := fnScope_by (by decide +kernel)
abbrev s_need_occasions : Stmt := top 44
abbrev n_need_occasions : List Str := ["occasions", "day", "at", "value"]
theorem sc_need_occasions : FnScope n_need_occasions ["occasions"] (defScope s_need_occasions) := fnScope_by (by decide +kernel)
abbrev s_is_occasion_live : Stmt := top 49
abbrev n_is_occasion_live : List Str := ["value"]
theorem sc_is_occasion_live : FnScope n_is_occasion_live ["value"] (defScope s_is_occasion_live) := fnScope_by (by decide +kernel)
abbrev s_are_rests : Stmt := top 55
abbrev n_are_rests : List Str := ["value", "one"]
theorem sc_are_rests : FnScope n_are_rests ["value"] (defScope s_are_rests) := fnScope_by (by decide +kernel)
abbrev s_are_kinds : Stmt := top 56
abbrev n_are_kinds : List Str := ["value", "one"]
theorem sc_are_kinds : FnScope n_are_kinds ["value"] (defScope s_are_kinds) := fnScope_by (by decide +kernel)
abbrev s_head_in : Stmt := top 57
abbrev n_head_in : List Str := ["line", "words", "length", "rests", "cap", "word"]
theorem sc_head_in : FnScope n_head_in ["line"] (defScope s_head_in) := fnScope_by (by decide +kernel)
abbrev s_is_unsure : Stmt := top 60
abbrev n_is_unsure : List Str := ["value", "first", "last", "name", "days"]
theorem sc_is_unsure : FnScope n_is_unsure ["value"] (defScope s_is_unsure) := fnScope_by (by decide +kernel)
abbrev s_choices : Stmt := top 62
abbrev n_choices : List Str := ["unsure", "found", "first", "last", "name", "days", "some", "day"]
theorem sc_choices : FnScope n_choices ["unsure"] (defScope s_choices) := fnScope_by (by decide +kernel)
abbrev s_filled : Stmt := top 63
abbrev n_filled : List Str := ["unsure", "days_chosen", "order", "at", "day"]
theorem sc_filled : FnScope n_filled ["unsure", "days_chosen"] (defScope s_filled) := fnScope_by (by decide +kernel)
abbrev s_fillings : Stmt := top 64
abbrev n_fillings : List Str := ["unsure", "known", "some", "story", "occasions"]
theorem sc_fillings : FnScope n_fillings ["unsure"] (defScope s_fillings) := fnScope_by (by decide +kernel)
abbrev s_ends_by_choice : Stmt := top 65
abbrev n_ends_by_choice : List Str := ["rule", "unsure", "some"]
theorem sc_ends_by_choice : FnScope n_ends_by_choice ["rule", "unsure"] (defScope s_ends_by_choice) := fnScope_by (by decide +kernel)
abbrev s_lapses : Stmt := top 66
abbrev n_lapses : List Str := ["rule", "unsure"]
theorem sc_lapses : FnScope n_lapses ["rule", "unsure"] (defScope s_lapses) := fnScope_by (by decide +kernel)
abbrev s_told_of : Stmt := top 67
abbrev n_told_of : List Str := ["found", "day", "lives", "end"]
theorem sc_told_of : FnScope n_told_of ["found", "day"] (defScope s_told_of) := fnScope_by (by decide +kernel)
abbrev s_surely : Stmt := top 68
abbrev n_surely : List Str := ["rule", "unsure", "day"]
theorem sc_surely : FnScope n_surely ["rule", "unsure", "day"] (defScope s_surely) := fnScope_by (by decide +kernel)
abbrev s_u_law_deal : Stmt := top 70
abbrev n_u_law_deal : List Str := ["_law_script", "_law_base", "_law_cells", "_law_blend", "_law_cell"]
theorem sc_u_law_deal : FnScope n_u_law_deal ["_law_script", "_law_base"] (defScope s_u_law_deal) := fnScope_by (by decide +kernel)
abbrev s_u_law_draw : Stmt := top 71
abbrev n_u_law_draw : List Str := ["_law_deal_here", "_law_amount", "_law_left"]
theorem sc_u_law_draw : FnScope n_u_law_draw ["_law_deal_here", "_law_amount"] (defScope s_u_law_draw) := fnScope_by (by decide +kernel)
abbrev s_u_law_pick : Stmt := top 72
abbrev n_u_law_pick : List Str := ["_law_deal_here", "_law_some"]
theorem sc_u_law_pick : FnScope n_u_law_pick ["_law_deal_here", "_law_some"] (defScope s_u_law_pick) := fnScope_by (by decide +kernel)
abbrev s_u_law_mixed : Stmt := top 73
abbrev n_u_law_mixed : List Str := ["_law_deal_here", "_law_some", "_law_left", "_law_found"]
theorem sc_u_law_mixed : FnScope n_u_law_mixed ["_law_deal_here", "_law_some"] (defScope s_u_law_mixed) := fnScope_by (by decide +kernel)
abbrev s_u_law_rests : Stmt := top 74
abbrev n_u_law_rests : List Str := ["_law_deal_here"]
theorem sc_u_law_rests : FnScope n_u_law_rests ["_law_deal_here"] (defScope s_u_law_rests) := fnScope_by (by decide +kernel)
abbrev s_u_law_text : Stmt := top 75
abbrev n_u_law_text : List Str := ["_law_plan_here", "_law_size", "_law_free", "_law_most", "_law_sorts_here", "_law_words", "_law_lines", "_law_form", "_law_title", "_law_number", "_law_high", "_law_often", "_law_middle", "_law_one"]
theorem sc_u_law_text : FnScope n_u_law_text ["_law_plan_here"] (defScope s_u_law_text) := fnScope_by (by decide +kernel)
abbrev s_u_law_made : Stmt := top 76
abbrev n_u_law_made : List Str := ["_law_plan_here"]
theorem sc_u_law_made : FnScope n_u_law_made ["_law_plan_here"] (defScope s_u_law_made) := fnScope_by (by decide +kernel)
abbrev s_u_law_sorts : Stmt := top 77
abbrev n_u_law_sorts : List Str := ["_law_deal_here", "_law_many", "_law_sizes", "_law_often", "_law_found", "_law_title", "_law_form"]
theorem sc_u_law_sorts : FnScope n_u_law_sorts ["_law_deal_here", "_law_many", "_law_sizes", "_law_often"] (defScope s_u_law_sorts) := fnScope_by (by decide +kernel)
abbrev s_u_law_plan : Stmt := top 78
abbrev n_u_law_plan : List Str := ["_law_deal_here", "_law_many", "_law_sizes", "_law_often", "_law_cap"]
theorem sc_u_law_plan : FnScope n_u_law_plan ["_law_deal_here", "_law_many", "_law_sizes", "_law_often"] (defScope s_u_law_plan) := fnScope_by (by decide +kernel)
abbrev s_u_law_last : Stmt := top 79
abbrev n_u_law_last : List Str := ["_law_made_here", "_law_story", "_law_live", "_law_occasion"]
theorem sc_u_law_last : FnScope n_u_law_last ["_law_made_here", "_law_story"] (defScope s_u_law_last) := fnScope_by (by decide +kernel)
abbrev s_law : Stmt := top 80
abbrev n_law : List Str := ["_law_script", "_law_deal_here", "_law_turn", "_law_plan_here", "_law_made_here", "_law_titles", "_law_some", "_law_row", "_law_found", "_law_told", "_law_day", "_law_sure", "_law_every", "_law_bare", "_law_first", "_law_lives", "_law_due", "_law_story", "_law_last_here", "_law_title", "_law_long", "_law_sort"]
theorem sc_law : FnScope n_law ["_law_script"] (defScope s_law) := fnScope_by (by decide +kernel)
abbrev s_Kind_read : Stmt := inClass (top 23) 0
abbrev n_Kind_read : List Str := ["cls", "text", "told", "error"]
theorem sc_Kind_read : FnScope n_Kind_read ["cls", "text"] (defScope s_Kind_read) := fnScope_by (by decide +kernel)
abbrev s_Still_init : Stmt := inClass (top 27) 0
abbrev n_Still_init : List Str := ["self", "name", "days", "times"]
theorem sc_Still_init : FnScope n_Still_init ["self", "name", "days", "times"] (defScope s_Still_init) := fnScope_by (by decide +kernel)
abbrev s_Anew_init : Stmt := inClass (top 28) 0
abbrev n_Anew_init : List Str := ["self", "name", "left", "times"]
theorem sc_Anew_init : FnScope n_Anew_init ["self", "name", "left", "times"] (defScope s_Anew_init) := fnScope_by (by decide +kernel)
abbrev s_Lift_init : Stmt := inClass (top 29) 0
abbrev n_Lift_init : List Str := ["self", "name", "by", "top", "times"]
theorem sc_Lift_init : FnScope n_Lift_init ["self", "name", "by", "top", "times"] (defScope s_Lift_init) := fnScope_by (by decide +kernel)
abbrev s_Course_init : Stmt := inClass (top 37) 0
abbrev n_Course_init : List Str := ["self", "rule"]
theorem sc_Course_init : FnScope n_Course_init ["self", "rule"] (defScope s_Course_init) := fnScope_by (by decide +kernel)
abbrev s_Course_end : Stmt := inClass (top 37) 1
abbrev n_Course_end : List Str := ["self"]
theorem sc_Course_end : FnScope n_Course_end ["self"] (defScope s_Course_end) := fnScope_by (by decide +kernel)
abbrev s_Course_go_to : Stmt := inClass (top 37) 2
abbrev n_Course_go_to : List Str := ["self", "later"]
theorem sc_Course_go_to : FnScope n_Course_go_to ["self", "later"] (defScope s_Course_go_to) := fnScope_by (by decide +kernel)
abbrev s_Course_hear : Stmt := inClass (top 37) 3
abbrev n_Course_hear : List Str := ["self", "name", "many", "some", "often", "kind"]
theorem sc_Course_hear : FnScope n_Course_hear ["self", "name", "many"] (defScope s_Course_hear) := fnScope_by (by decide +kernel)
abbrev s_Course_take : Stmt := inClass (top 37) 4
abbrev n_Course_take : List Str := ["self", "story", "at", "begin", "name", "many"]
theorem sc_Course_take : FnScope n_Course_take ["self", "story"] (defScope s_Course_take) := fnScope_by (by decide +kernel)
abbrev s_Story_init : Stmt := inClass (top 46) 0
abbrev n_Story_init : List Str := ["self", "occasions"]
theorem sc_Story_init : FnScope n_Story_init ["self", "occasions"] (defScope s_Story_init) := fnScope_by (by decide +kernel)
abbrev s_Story_further : Stmt := inClass (top 46) 3
abbrev n_Story_further : List Str := ["self", "occasions"]
theorem sc_Story_further : FnScope n_Story_further ["self", "occasions"] (defScope s_Story_further) := fnScope_by (by decide +kernel)
abbrev s_Story_len : Stmt := inClass (top 46) 4
abbrev n_Story_len : List Str := ["self"]
theorem sc_Story_len : FnScope n_Story_len ["self"] (defScope s_Story_len) := fnScope_by (by decide +kernel)
abbrev s_Point_init : Stmt := inClass (top 48) 0
abbrev n_Point_init : List Str := ["self", "rule", "story", "day"]
theorem sc_Point_init : FnScope n_Point_init ["self", "rule", "story", "day"] (defScope s_Point_init) := fnScope_by (by decide +kernel)
abbrev s_Point_is_on : Stmt := inClass (top 48) 1
abbrev n_Point_is_on : List Str := ["self"]
theorem sc_Point_is_on : FnScope n_Point_is_on ["self"] (defScope s_Point_is_on) := fnScope_by (by decide +kernel)
abbrev s_Point_beginning : Stmt := inClass (top 48) 2
abbrev n_Point_beginning : List Str := ["self", "name", "days", "later", "does_count"]
theorem sc_Point_beginning : FnScope n_Point_beginning ["self", "name", "days"] (defScope s_Point_beginning) := fnScope_by (by decide +kernel)
abbrev s_Live_init : Stmt := inClass (top 51) 0
abbrev n_Live_init : List Str := ["self", "rule"]
theorem sc_Live_init : FnScope n_Live_init ["self", "rule"] (defScope s_Live_init) := fnScope_by (by decide +kernel)
abbrev s_Live_last : Stmt := inClass (top 51) 4
abbrev n_Live_last : List Str := ["self"]
theorem sc_Live_last : FnScope n_Live_last ["self"] (defScope s_Live_last) := fnScope_by (by decide +kernel)
abbrev s_Live_several : Stmt := inClass (top 51) 9
abbrev n_Live_several : List Str := ["self", "occasions", "point", "found", "at", "occasion", "does_count"]
theorem sc_Live_several : FnScope n_Live_several ["self", "occasions"] (defScope s_Live_several) := fnScope_by (by decide +kernel)
abbrev s_Rule_init : Stmt := inClass (top 58) 0
abbrev n_Rule_init : List Str := ["self", "length", "rests", "cap", "kinds", "kind", "one"]
theorem sc_Rule_init : FnScope n_Rule_init ["self", "length", "rests", "cap", "kinds"] (defScope s_Rule_init) := fnScope_by (by decide +kernel)
abbrev s_Rule_read : Stmt := inClass (top 58) 1
abbrev n_Rule_read : List Str := ["cls", "text", "lines", "head", "kinds", "at", "line", "error"]
theorem sc_Rule_read : FnScope n_Rule_read ["cls", "text"] (defScope s_Rule_read) := fnScope_by (by decide +kernel)
abbrev s_Rule_work : Stmt := inClass (top 58) 3
abbrev n_Rule_work : List Str := ["self", "day"]
theorem sc_Rule_work : FnScope n_Rule_work ["self", "day"] (defScope s_Rule_work) := fnScope_by (by decide +kernel)
abbrev s_Unsure_init : Stmt := inClass (top 61) 0
abbrev n_Unsure_init : List Str := ["self", "occasions", "at", "one"]
theorem sc_Unsure_init : FnScope n_Unsure_init ["self", "occasions"] (defScope s_Unsure_init) := fnScope_by (by decide +kernel)
/-! ### what the top leaves -/
structure Txt (P : Program) (w : World) (K : PySem.W.Frag) (mg : Str → Option Value) : Prop where
  g_is_integer : mg "is_integer" = some (.ref (ga K "is_integer"))
  g_is_number : mg "is_number" = some (.ref (ga K "is_number"))
  g_is_length : mg "is_length" = some (.ref (ga K "is_length"))
  g_is_name : mg "is_name" = some (.ref (ga K "is_name"))
  g_is_sequence : mg "is_sequence" = some (.ref (ga K "is_sequence"))
  g_number_in : mg "number_in" = some (.ref (ga K "number_in"))
  g_need : mg "need" = some (.ref (ga K "need"))
  g_is_many : mg "is_many" = some (.ref (ga K "is_many"))
  g_told_by : mg "told_by" = some (.ref (ga K "told_by"))
  g_made_of : mg "made_of" = some (.ref (ga K "made_of"))
  g_after : mg "after" = some (.ref (ga K "after"))
  g_gone : mg "gone" = some (.ref (ga K "gone"))
  g_end_by : mg "end_by" = some (.ref (ga K "end_by"))
  g_course_of : mg "course_of" = some (.ref (ga K "course_of"))
  g_lapse : mg "lapse" = some (.ref (ga K "lapse"))
  g_counted : mg "counted" = some (.ref (ga K "counted"))
  g_is_occasion_stories : mg "is_occasion_stories" = some (.ref (ga K "is_occasion_stories"))
  g_need_occasions : mg "need_occasions" = some (.ref (ga K "need_occasions"))
  g_is_occasion_live : mg "is_occasion_live" = some (.ref (ga K "is_occasion_live"))
  g_are_rests : mg "are_rests" = some (.ref (ga K "are_rests"))
  g_are_kinds : mg "are_kinds" = some (.ref (ga K "are_kinds"))
  g_head_in : mg "head_in" = some (.ref (ga K "head_in"))
  g_is_unsure : mg "is_unsure" = some (.ref (ga K "is_unsure"))
  g_choices : mg "choices" = some (.ref (ga K "choices"))
  g_filled : mg "filled" = some (.ref (ga K "filled"))
  g_fillings : mg "fillings" = some (.ref (ga K "fillings"))
  g_ends_by_choice : mg "ends_by_choice" = some (.ref (ga K "ends_by_choice"))
  g_lapses : mg "lapses" = some (.ref (ga K "lapses"))
  g_told_of : mg "told_of" = some (.ref (ga K "told_of"))
  g_surely : mg "surely" = some (.ref (ga K "surely"))
  g_u_law_deal : mg "_law_deal" = some (.ref (ga K "_law_deal"))
  g_u_law_draw : mg "_law_draw" = some (.ref (ga K "_law_draw"))
  g_u_law_pick : mg "_law_pick" = some (.ref (ga K "_law_pick"))
  g_u_law_mixed : mg "_law_mixed" = some (.ref (ga K "_law_mixed"))
  g_u_law_rests : mg "_law_rests" = some (.ref (ga K "_law_rests"))
  g_u_law_text : mg "_law_text" = some (.ref (ga K "_law_text"))
  g_u_law_made : mg "_law_made" = some (.ref (ga K "_law_made"))
  g_u_law_sorts : mg "_law_sorts" = some (.ref (ga K "_law_sorts"))
  g_u_law_plan : mg "_law_plan" = some (.ref (ga K "_law_plan"))
  g_u_law_last : mg "_law_last" = some (.ref (ga K "_law_last"))
  g_law : mg "law" = some (.ref (ga K "law"))
  g_Kind : mg "Kind" = some (.ref (ga K "Kind"))
  g_Still : mg "Still" = some (.ref (ga K "Still"))
  g_Anew : mg "Anew" = some (.ref (ga K "Anew"))
  g_Lift : mg "Lift" = some (.ref (ga K "Lift"))
  g_Course : mg "Course" = some (.ref (ga K "Course"))
  g_Story : mg "Story" = some (.ref (ga K "Story"))
  g_Point : mg "Point" = some (.ref (ga K "Point"))
  g_Live : mg "Live" = some (.ref (ga K "Live"))
  g_Rule : mg "Rule" = some (.ref (ga K "Rule"))
  g_Unsure : mg "Unsure" = some (.ref (ga K "Unsure"))
  b_isinstance : mg "isinstance" = none
  b_int : mg "int" = none
  b_bool : mg "bool" = none
  b_str : mg "str" = none
  b_list : mg "list" = none
  b_tuple : mg "tuple" = none
  b_len : mg "len" = none
  b_all : mg "all" = none
  b_enumerate : mg "enumerate" = none
  b_super : mg "super" = none
  b_range : mg "range" = none
  b_sorted : mg "sorted" = none
  b_set : mg "set" = none
  b_max : mg "max" = none
  b_min : mg "min" = none
  b_abs : mg "abs" = none
  b_repr : mg "repr" = none
  i_WEEK : ∃ t, mg "WEEK" = some (.int 7 t)
  i_MOST_RESTS : ∃ t, mg "MOST_RESTS" = some (.int 6 t)
  i_MOST_LETTERS : ∃ t, mg "MOST_LETTERS" = some (.int 4 t)
  i_MOST_SIGNS : ∃ t, mg "MOST_SIGNS" = some (.int 19 t)
  t_LETTERS : ∃ t, mg "LETTERS" = some (.str "abcdefghijklmnopqrstuvwxyz" t)
  t_SIGNS : ∃ t, mg "SIGNS" = some (.str "0123456789" t)
  g_BARRED : mg "BARRED" = some (.ref (ga K "BARRED"))
  g_FORMS : mg "FORMS" = some (.ref (ga K "FORMS"))
  g_Refused : mg "Refused" = some (.ref (ga K "Refused"))
  c_Still : Cls K (ga K "Still")
  k_Still : Mk K (ga K "Still") (ma K (ga K "Still") "__init__")
  no_Still_name : NoAttr K (ga K "Still") "name"
  no_Still_days : NoAttr K (ga K "Still") "days"
  no_Still_times : NoAttr K (ga K "Still") "times"
  c_Anew : Cls K (ga K "Anew")
  k_Anew : Mk K (ga K "Anew") (ma K (ga K "Anew") "__init__")
  no_Anew_name : NoAttr K (ga K "Anew") "name"
  no_Anew_left : NoAttr K (ga K "Anew") "left"
  no_Anew_times : NoAttr K (ga K "Anew") "times"
  c_Lift : Cls K (ga K "Lift")
  k_Lift : Mk K (ga K "Lift") (ma K (ga K "Lift") "__init__")
  no_Lift_name : NoAttr K (ga K "Lift") "name"
  no_Lift_by : NoAttr K (ga K "Lift") "by"
  no_Lift_top : NoAttr K (ga K "Lift") "top"
  no_Lift_times : NoAttr K (ga K "Lift") "times"
  c_Course : Cls K (ga K "Course")
  k_Course : Mk K (ga K "Course") (ma K (ga K "Course") "__init__")
  no_Course_plan : NoAttr K (ga K "Course") "plan"
  no_Course_today : NoAttr K (ga K "Course") "today"
  no_Course_rest : NoAttr K (ga K "Course") "rest"
  no_Course_going : NoAttr K (ga K "Course") "going"
  no_Course_used : NoAttr K (ga K "Course") "used"
  no_Course_heard : NoAttr K (ga K "Course") "heard"
  c_Story : Cls K (ga K "Story")
  k_Story : Mk K (ga K "Story") (ma K (ga K "Story") "__init__")
  no_Story_occasions : NoAttr K (ga K "Story") "occasions"
  c_Point : Cls K (ga K "Point")
  k_Point : Mk K (ga K "Point") (ma K (ga K "Point") "__init__")
  no_Point_plan : NoAttr K (ga K "Point") "plan"
  no_Point_told : NoAttr K (ga K "Point") "told"
  no_Point_over_by : NoAttr K (ga K "Point") "over_by"
  no_Point_today : NoAttr K (ga K "Point") "today"
  c_Live : Cls K (ga K "Live")
  k_Live : Mk K (ga K "Live") (ma K (ga K "Live") "__init__")
  no_Live_past : NoAttr K (ga K "Live") "past"
  c_Rule : Cls K (ga K "Rule")
  k_Rule : Mk K (ga K "Rule") (ma K (ga K "Rule") "__init__")
  no_Rule_length : NoAttr K (ga K "Rule") "length"
  no_Rule_rests : NoAttr K (ga K "Rule") "rests"
  no_Rule_cap : NoAttr K (ga K "Rule") "cap"
  no_Rule_kinds : NoAttr K (ga K "Rule") "kinds"
  no_Rule_names : NoAttr K (ga K "Rule") "names"
  c_Unsure : Cls K (ga K "Unsure")
  k_Unsure : Mk K (ga K "Unsure") (ma K (ga K "Unsure") "__init__")
  no_Unsure_occasions : NoAttr K (ga K "Unsure") "occasions"
  m_Course_end : Meth K (ga K "Course") "end" (ma K (ga K "Course") "end")
  m_Course_go_to : Meth K (ga K "Course") "go_to" (ma K (ga K "Course") "go_to")
  m_Course_hear : Meth K (ga K "Course") "hear" (ma K (ga K "Course") "hear")
  m_Course_take : Meth K (ga K "Course") "take" (ma K (ga K "Course") "take")
  m_Story_further : Meth K (ga K "Story") "further" (ma K (ga K "Story") "further")
  m_Story_len : Meth K (ga K "Story") "__len__" (ma K (ga K "Story") "__len__")
  m_Point_is_on : Meth K (ga K "Point") "is_on" (ma K (ga K "Point") "is_on")
  m_Point_beginning : Meth K (ga K "Point") "beginning" (ma K (ga K "Point") "beginning")
  m_Live_several : Meth K (ga K "Live") "several" (ma K (ga K "Live") "several")
  m_Rule_work : Meth K (ga K "Rule") "work" (ma K (ga K "Rule") "work")
  ic_Still : InsF K (ga K "Still")
  ic_Anew : InsF K (ga K "Anew")
  ic_Lift : InsF K (ga K "Lift")
  ic_Course : InsF K (ga K "Course")
  ic_Story : InsF K (ga K "Story")
  ic_Point : InsF K (ga K "Point")
  ic_Live : InsF K (ga K "Live")
  ic_Rule : InsF K (ga K "Rule")
  ic_Unsure : InsF K (ga K "Unsure")
  is_Still_Kind : PySem.W.kitOne K (.ref (ga K "Still")) (.ref (ga K "Kind")) = some true
  is_Still_Still : PySem.W.kitOne K (.ref (ga K "Still")) (.ref (ga K "Still")) = some true
  is_Still_Anew : PySem.W.kitOne K (.ref (ga K "Still")) (.ref (ga K "Anew")) = some false
  is_Still_Lift : PySem.W.kitOne K (.ref (ga K "Still")) (.ref (ga K "Lift")) = some false
  is_Anew_Kind : PySem.W.kitOne K (.ref (ga K "Anew")) (.ref (ga K "Kind")) = some true
  is_Anew_Still : PySem.W.kitOne K (.ref (ga K "Anew")) (.ref (ga K "Still")) = some false
  is_Anew_Anew : PySem.W.kitOne K (.ref (ga K "Anew")) (.ref (ga K "Anew")) = some true
  is_Anew_Lift : PySem.W.kitOne K (.ref (ga K "Anew")) (.ref (ga K "Lift")) = some false
  is_Lift_Kind : PySem.W.kitOne K (.ref (ga K "Lift")) (.ref (ga K "Kind")) = some true
  is_Lift_Still : PySem.W.kitOne K (.ref (ga K "Lift")) (.ref (ga K "Still")) = some false
  is_Lift_Anew : PySem.W.kitOne K (.ref (ga K "Lift")) (.ref (ga K "Anew")) = some false
  is_Lift_Lift : PySem.W.kitOne K (.ref (ga K "Lift")) (.ref (ga K "Lift")) = some true
  v_BARRED : ∀ H : Hp, SqT K H (ga K "BARRED") [.str "any", .str "none", .str "anew", .str "lift", .str "term"]
  f_still : ∃ t, PySem.W.nsIn K (ga K "FORMS") "still" = some (some (.int 4 t))
  f_anew : ∃ t, PySem.W.nsIn K (ga K "FORMS") "anew" = some (some (.int 4 t))
  f_lift : ∃ t, PySem.W.nsIn K (ga K "FORMS") "lift" = some (some (.int 5 t))
  p_last : PropOf K (ga K "Live") "last" (ma K (ga K "Live") "last") (propAt K (ga K "Live") "last")
  exm_Refused : PySem.W.exmOne K (.ref (ga K "Refused")) (.ref (ga K "Refused")) = some true
  cr_Kind : ClX.CRead K (ga K "Kind") (.type "type")
  cm_Kind : ClX.CMet K (ga K "Kind") (.type "type") "read" (ma K (ga K "Kind") "read") (He5.wf K (ga K "Kind") "classmethod" "read")
  cr_Rule : ClX.CRead K (ga K "Rule") (.type "type")
  cm_Rule : ClX.CMet K (ga K "Rule") (.type "type") "read" (ma K (ga K "Rule") "read") (He5.wf K (ga K "Rule") "classmethod" "read")
  kd_FORMS : ∃ es n, KDict K w (ga K "FORMS") es n
  ref : ∃ f cc cda, RefF P K (ga K "Refused") f cc cda
  v_story0 : ∀ H : Hp, SqT K H (dflAt ("Story", some "__init__") 0 K) []
  d_is_integer : FnP K "is_integer" "is_integer" s_is_integer [] (ga K "is_integer")
  d_is_number : FnP K "is_number" "is_number" s_is_number [] (ga K "is_number")
  d_is_length : FnP K "is_length" "is_length" s_is_length [] (ga K "is_length")
  d_is_name : FnP K "is_name" "is_name" s_is_name [] (ga K "is_name")
  d_is_sequence : FnP K "is_sequence" "is_sequence" s_is_sequence [] (ga K "is_sequence")
  d_number_in : FnP K "number_in" "number_in" s_number_in [] (ga K "number_in")
  d_need : FnP K "need" "need" s_need [] (ga K "need")
  d_is_many : FnP K "is_many" "is_many" s_is_many [] (ga K "is_many")
  d_told_by : FnP K "told_by" "told_by" s_told_by [] (ga K "told_by")
  d_made_of : FnP K "made_of" "made_of" s_made_of [] (ga K "made_of")
  d_after : FnP K "after" "after" s_after [] (ga K "after")
  d_gone : FnP K "gone" "gone" s_gone [] (ga K "gone")
  d_end_by : FnP K "end_by" "end_by" s_end_by [] (ga K "end_by")
  d_course_of : FnP K "course_of" "course_of" s_course_of [] (ga K "course_of")
  d_lapse : FnP K "lapse" "lapse" s_lapse [] (ga K "lapse")
  d_counted : FnP K "counted" "counted" s_counted [] (ga K "counted")
  d_is_occasion_stories : FnP K "is_occasion" "is_occasion" s_is_occasion_stories [] (ga K "is_occasion_stories")
  d_need_occasions : FnP K "need_occasions" "need_occasions" s_need_occasions [] (ga K "need_occasions")
  d_is_occasion_live : FnP K "is_occasion" "is_occasion" s_is_occasion_live [] (ga K "is_occasion_live")
  d_are_rests : FnP K "are_rests" "are_rests" s_are_rests [] (ga K "are_rests")
  d_are_kinds : FnP K "are_kinds" "are_kinds" s_are_kinds [] (ga K "are_kinds")
  d_head_in : FnP K "head_in" "head_in" s_head_in [] (ga K "head_in")
  d_is_unsure : FnP K "is_unsure" "is_unsure" s_is_unsure [] (ga K "is_unsure")
  d_choices : FnP K "choices" "choices" s_choices [] (ga K "choices")
  d_filled : FnP K "filled" "filled" s_filled [] (ga K "filled")
  d_fillings : FnP K "fillings" "fillings" s_fillings [] (ga K "fillings")
  d_ends_by_choice : FnP K "ends_by_choice" "ends_by_choice" s_ends_by_choice [] (ga K "ends_by_choice")
  d_lapses : FnP K "lapses" "lapses" s_lapses [] (ga K "lapses")
  d_told_of : FnP K "told_of" "told_of" s_told_of [] (ga K "told_of")
  d_surely : FnP K "surely" "surely" s_surely [] (ga K "surely")
  d_u_law_deal : FnP K "_law_deal" "_law_deal" s_u_law_deal [] (ga K "_law_deal")
  d_u_law_draw : FnP K "_law_draw" "_law_draw" s_u_law_draw [] (ga K "_law_draw")
  d_u_law_pick : FnP K "_law_pick" "_law_pick" s_u_law_pick [] (ga K "_law_pick")
  d_u_law_mixed : FnP K "_law_mixed" "_law_mixed" s_u_law_mixed [] (ga K "_law_mixed")
  d_u_law_rests : FnP K "_law_rests" "_law_rests" s_u_law_rests [] (ga K "_law_rests")
  d_u_law_text : FnP K "_law_text" "_law_text" s_u_law_text [] (ga K "_law_text")
  d_u_law_made : FnP K "_law_made" "_law_made" s_u_law_made [] (ga K "_law_made")
  d_u_law_sorts : FnP K "_law_sorts" "_law_sorts" s_u_law_sorts [] (ga K "_law_sorts")
  d_u_law_plan : FnP K "_law_plan" "_law_plan" s_u_law_plan [] (ga K "_law_plan")
  d_u_law_last : FnP K "_law_last" "_law_last" s_u_law_last [] (ga K "_law_last")
  d_law : FnP K "law" "law" s_law [] (ga K "law")
  d_Kind_read : FnP K "read" "Kind.read" s_Kind_read [] (He5.wf K (ga K "Kind") "classmethod" "read")
  d_Still_init : FnP K "__init__" "Still.__init__" s_Still_init [V.non] (ma K (ga K "Still") "__init__")
  d_Anew_init : FnP K "__init__" "Anew.__init__" s_Anew_init [V.non] (ma K (ga K "Anew") "__init__")
  d_Lift_init : FnP K "__init__" "Lift.__init__" s_Lift_init [V.non] (ma K (ga K "Lift") "__init__")
  d_Course_init : FnP K "__init__" "Course.__init__" s_Course_init [] (ma K (ga K "Course") "__init__")
  d_Course_end : FnP K "end" "Course.end" s_Course_end [] (ma K (ga K "Course") "end")
  d_Course_go_to : FnP K "go_to" "Course.go_to" s_Course_go_to [] (ma K (ga K "Course") "go_to")
  d_Course_hear : FnP K "hear" "Course.hear" s_Course_hear [] (ma K (ga K "Course") "hear")
  d_Course_take : FnP K "take" "Course.take" s_Course_take [] (ma K (ga K "Course") "take")
  d_Story_init : FnP K "__init__" "Story.__init__" s_Story_init [V.ref (dflAt ("Story", some "__init__") 0 K)] (ma K (ga K "Story") "__init__")
  d_Story_further : FnP K "further" "Story.further" s_Story_further [] (ma K (ga K "Story") "further")
  d_Story_len : FnP K "__len__" "Story.__len__" s_Story_len [] (ma K (ga K "Story") "__len__")
  d_Point_init : FnP K "__init__" "Point.__init__" s_Point_init [] (ma K (ga K "Point") "__init__")
  d_Point_is_on : FnP K "is_on" "Point.is_on" s_Point_is_on [] (ma K (ga K "Point") "is_on")
  d_Point_beginning : FnP K "beginning" "Point.beginning" s_Point_beginning [] (ma K (ga K "Point") "beginning")
  d_Live_init : FnP K "__init__" "Live.__init__" s_Live_init [] (ma K (ga K "Live") "__init__")
  d_Live_last : FnP K "last" "Live.last" s_Live_last [] (propAt K (ga K "Live") "last")
  d_Live_several : FnP K "several" "Live.several" s_Live_several [] (ma K (ga K "Live") "several")
  d_Rule_init : FnP K "__init__" "Rule.__init__" s_Rule_init [V.ref (dflAt ("Rule", some "__init__") 0 K), V.non, V.ref (dflAt ("Rule", some "__init__") 2 K)] (ma K (ga K "Rule") "__init__")
  d_Rule_read : FnP K "read" "Rule.read" s_Rule_read [] (He5.wf K (ga K "Rule") "classmethod" "read")
  d_Rule_work : FnP K "work" "Rule.work" s_Rule_work [] (ma K (ga K "Rule") "work")
  d_Unsure_init : FnP K "__init__" "Unsure.__init__" s_Unsure_init [] (ma K (ga K "Unsure") "__init__")
end Ts
set_option maxHeartbeats 4000000
namespace Ts
open PySem PySem.Spec PyProof.Rows L2 C8 He
/-! ### heaps -/
theorem sm_new {H : Hp} {p : Addr} {o : HO} (h : H p = none) : Same H (upd H p o) := fun b u e => by rw [upd_ne (ne_of_none e h)]; exact e
theorem sm_to {H H' : Hp} {p : Addr} {o : HO} (s : Same H H') (h : H p = none) : Same H (upd H' p o) := fun b u e => by rw [upd_ne (ne_of_none e h)]; exact s b u e
theorem sm_seqT {K : PySem.W.Frag} {H H' : Hp} {a : Addr} {xs : List V} (e : Same H H') (h : SqT K H a xs) : SqT K H' a xs := by
  rcases h with (h | ⟨o, h⟩) | h
  · exact .inl (.inl (e _ _ h))
  · exact .inl (.inr ⟨o, e _ _ h⟩)
  · exact .inr h
def isL : HO → Bool
  | .lst _ => true
  | _ => false
/-- all that is no list is as it was -/
def SameI (H H' : Hp) : Prop := ∀ b o, H b = some o → isL o = false → H' b = some o
theorem SameI.of {H H' : Hp} (s : Same H H') : SameI H H' := fun b o e _ => s b o e
theorem SameI.refl (H : Hp) : SameI H H := fun _ _ e _ => e
theorem SameI.trans {H H1 H2 : Hp} (a : SameI H H1) (b : SameI H1 H2) : SameI H H2 := fun c o e l => b c o (a c o e l) l
theorem SameI.new {H : Hp} {p : Addr} {o : HO} (h : H p = none) : SameI H (upd H p o) := SameI.of (sm_new h)
theorem SameI.lst {H : Hp} {p : Addr} {xs : List V} {o : HO} (h : H p = some (.lst xs)) : SameI H (upd H p o) := fun b u e l => by
  by_cases hb : b = p
  · subst hb
    rw [h] at e
    cases e
    cases l
  · rw [upd_ne hb]
    exact e
theorem SameI.seqT {K : PySem.W.Frag} {H H' : Hp} {a : Addr} {xs : List V} (e : SameI H H') (h : SqT K H a xs) : SqT K H' a xs := by
  rcases h with (h | ⟨o, h⟩) | h
  · exact .inl (.inl (e _ _ h rfl))
  · exact .inl (.inr ⟨o, e _ _ h rfl⟩)
  · exact .inr h
/-! ### a list comprehension without a test whose elements change nothing that stood -/
section
variable {J : It} {n : Nat} {G : Hp → Prop} {Y : Nat → Hp → V → Hp → Prop}
theorem lc_map (w : Walk J n G Y) {g : TG} {te : TE} {vs : List Nat} {σ : L2.St} {H1 : Hp} {D : Addr} {Qd : Hp → Prop} (hD : H1 D = none) (hG : ∀ H, Same H1 H → G H) (hn : n ≤ 1000) (R : Nat → V → Hp → Prop)
    (hR : ∀ i y H H', SameI H H' → R i y H → R i y H')
    (hs : ∀ i x H H', i < n → Same H1 H → Y i H x H' → ∀ k : V → Hp → Prop, (∀ y H4, Same H H4 → R i y H4 → k y H4) → g x (wipe σ vs) H' fun σ2 H2 => wipe σ2 vs = wipe σ vs ∧ te σ2 H2 k)
    (hd : ∀ H ys, Same H1 H → H D = some (.lst ys) → ys.length = n → (∀ i y, ys[i]? = some y → R i y H) → Qd H) :
    ∃ W : Nat → Nat → Hp → Prop, (∃ m, W 0 m (upd H1 D (.lst []))) ∧ ∀ i m H, W i m H →
      (J.stop i H ∧ Qd H) ∨ (J.go i H ∧ ∃ Nx : Hp → Prop, (∀ H', Nx H' → ∃ m', m' < m ∧ W (i + 1) m' H') ∧ ∀ x H', J.yld i H x H' → g x (wipe σ vs) H' fun σ2 H2 => wipe σ2 vs = wipe σ vs ∧ tYes σ2 H2 fun b H3 =>
        if b = true then te σ2 H3 fun y H4 => ∃ acc, H4 D = some (.lst acc) ∧ acc.length < sizeLine ∧ Nx (upd H4 D (.lst (acc ++ [y]))) else Nx H3) := by
  refine lc_it w (fun i H => Same H1 H ∧ ∃ ys, H D = some (.lst ys) ∧ ys.length = i ∧ ∀ j y, ys[j]? = some y → R j y H) ⟨sm_new hD, [], upd_same, rfl, fun j y e => by simp at e⟩ (fun i H _ p => hG H p.1) ?_ ?_
  · rintro i x H H' hi ⟨s1, ys, hy, hl, hr⟩ y
    refine hs i x H H' hi s1 y _ fun z H4 s4 r4 => ⟨ys, s4 _ _ hy, ?_, sm_to (s1.trans s4) hD, ys ++ [z], upd_same, by simp [hl], fun j u e => ?_⟩
    · rw [hl]
      exact Nat.lt_of_lt_of_le (Nat.lt_of_lt_of_le hi hn) (by decide)
    · have up : SameI H4 (upd H4 D (.lst (ys ++ [z]))) := SameI.lst (s4 _ _ hy)
      by_cases hj : j < ys.length
      · rw [List.getElem?_append_left hj] at e
        exact hR _ _ _ _ ((SameI.of s4).trans up) (hr j u e)
      · have ej : j = i := by
          have := (List.getElem?_eq_some_iff.mp e).1
          rw [List.length_append, List.length_singleton] at this
          omega
        subst ej
        rw [List.getElem?_append_right (by omega), hl, Nat.sub_self] at e
        have : z = u := by simpa using e
        subst this
        exact hR _ _ _ _ up r4
  · rintro H ⟨s1, ys, hy, hl, hr⟩
    exact hd H ys s1 hy hl hr
/-- .. whose elements are values told by a function -/
theorem lc_fn (w : Walk J n G Y) {g : TG} {te : TE} {vs : List Nat} {σ : L2.St} {H1 : Hp} {D : Addr} {Qd : Hp → Prop} (hD : H1 D = none) (hG : ∀ H, Same H1 H → G H) (hn : n ≤ 1000) (f : Nat → V)
    (hs : ∀ i x H H', i < n → Same H1 H → Y i H x H' → ∀ k : V → Hp → Prop, (∀ H4, Same H H4 → k (f i) H4) → g x (wipe σ vs) H' fun σ2 H2 => wipe σ2 vs = wipe σ vs ∧ te σ2 H2 k)
    (hd : ∀ H, Same H1 H → H D = some (.lst ((List.range n).map f)) → Qd H) :
    ∃ W : Nat → Nat → Hp → Prop, (∃ m, W 0 m (upd H1 D (.lst []))) ∧ ∀ i m H, W i m H →
      (J.stop i H ∧ Qd H) ∨ (J.go i H ∧ ∃ Nx : Hp → Prop, (∀ H', Nx H' → ∃ m', m' < m ∧ W (i + 1) m' H') ∧ ∀ x H', J.yld i H x H' → g x (wipe σ vs) H' fun σ2 H2 => wipe σ2 vs = wipe σ vs ∧ tYes σ2 H2 fun b H3 =>
        if b = true then te σ2 H3 fun y H4 => ∃ acc, H4 D = some (.lst acc) ∧ acc.length < sizeLine ∧ Nx (upd H4 D (.lst (acc ++ [y]))) else Nx H3) := by
  refine lc_map w hD hG hn (fun i y _ => y = f i) (fun _ _ _ _ _ e => e) (fun i x H H' hi s1 y k hk => hs i x H H' hi s1 y k fun H4 s4 => hk _ H4 s4 rfl) fun H ys s1 hy hl hr => hd H s1 ?_
  have e : ys = (List.range n).map f := by
    refine List.ext_getElem? fun i => ?_
    by_cases hi : i < n
    · rw [List.getElem?_map, List.getElem?_range hi]
      have hi' : i < ys.length := by omega
      rw [List.getElem?_eq_getElem hi']
      exact congrArg some (hr i _ (List.getElem?_eq_getElem hi'))
    · rw [List.getElem?_eq_none (by omega), List.getElem?_eq_none (by simp; omega)]
  rw [← e]
  exact hy
end
end Ts
set_option maxHeartbeats 4000000
namespace Ts
open PySem PySem.Spec PyProof.Rows L2 C8 He
/-! ### kinds and rules as plain data, their texts -/
inductive Fm where
  | still (d : Int) | anew (l : Int) | lift (b t : Int)
structure Kd where
  nm : Str
  tm : Option Int
  fm : Fm
structure Rl where
  len : Int
  rests : List Int
  cap : Option Int
  kinds : List Kd
def oV : Option Int → V
  | none => .non
  | some i => .int i
def nt (i : Int) : Str := Str.ofString (toString i)
def tmT : Option Int → Str
  | none => "any"
  | some i => nt i
def capT : Option Int → Str
  | none => "none"
  | some i => nt i
def kWords (k : Kd) : List Str := match k.fm with
  | .still d => ["still", k.nm, nt d, tmT k.tm]
  | .anew l => ["anew", k.nm, nt l, tmT k.tm]
  | .lift b t => ["lift", k.nm, nt b, nt t, tmT k.tm]
def kLine (k : Kd) : Str := Txt.join " " (kWords k)
def restW (l : List Int) : List Str := match l with
  | [] => ["none"]
  | l => l.map nt
def rWords (R : Rl) : List Str := (["term", nt R.len, "rests"] : List Str) ++ (restW R.rests ++ (["cap", capT R.cap] : List Str))
def rText (R : Rl) : Str := Txt.join "\n" (Txt.join " " (rWords R) :: R.kinds.map kLine)
/-- a small number from 1 on -/
def NumI (i : Int) : Prop := 1 ≤ i ∧ i < 100
/-- a name that the package takes -/
structure NameOk (x : Str) : Prop where
  bar : inV (.str x) [.str "any", .str "none", .str "anew", .str "lift", .str "term"] = false
  lo : 1 ≤ x.length
  hi : x.length ≤ 4
  let_ : ∀ c ∈ x.cps.toList, c ∈ ("abcdefghijklmnopqrstuvwxyz" : Str).cps.toList
def FmOk : Fm → Prop
  | .still d => NumI d
  | .anew l => NumI l
  | .lift b t => NumI b ∧ NumI t
structure KdOk (k : Kd) : Prop where
  nm : NameOk k.nm
  tm : ∀ i, k.tm = some i → NumI i
  fm : FmOk k.fm
structure RlOk (R : Rl) : Prop where
  len : NumI R.len
  rest : ∀ r ∈ R.rests, 0 ≤ r ∧ r < 7
  rl : R.rests.length ≤ 6
  nd : R.rests.Nodup
  srt : R.rests.Pairwise (· ≤ ·)
  cap : ∀ i, R.cap = some i → NumI i
  kinds : ∀ k ∈ R.kinds, KdOk k
  kl : R.kinds.length ≤ 3
  knd : (R.kinds.map (·.nm)).Nodup
/-! ### numbers' texts -/
/-- the text tells the number -/
structure NumOk (x : Str) (n : Int) : Prop where
  lo : 1 ≤ x.length
  hi : x.length ≤ 2
  dig : ∀ c ∈ x.cps.toList, c ∈ ("0123456789" : Str).cps.toList
  val : PySem.intText? x = some n
  first : ∃ c, atI x.cps.toList 0 = some c ∧ (c = 48 → x.length = 1)
def numB (n : Nat) : Bool := decide (1 ≤ (nt n).length) && (decide ((nt n).length ≤ 2) && ((nt n).cps.toList.all (fun c => decide (c ∈ ("0123456789" : Str).cps.toList)) && (decide (PySem.intText? (nt n) = some (n : Int)) &&
  match atI (nt n).cps.toList 0 with
  | some c => !decide (c = 48) || decide ((nt n).length = 1)
  | none => false)))
theorem numB_all : (List.range 100).all numB = true := by decide +kernel
theorem num_ok {i : Int} (h0 : 0 ≤ i) (h1 : i < 100) : NumOk (nt i) i := by
  obtain ⟨n, rfl⟩ : ∃ n : Nat, i = (n : Int) := ⟨i.toNat, by omega⟩
  have h := List.all_eq_true.mp numB_all n (List.mem_range.mpr (by omega))
  unfold numB at h
  obtain ⟨a1, h⟩ := ba h
  obtain ⟨a2, h⟩ := ba h
  obtain ⟨a3, h⟩ := ba h
  obtain ⟨a4, h⟩ := ba h
  refine ⟨of_decide_eq_true a1, of_decide_eq_true a2, fun c hc => of_decide_eq_true (List.all_eq_true.mp a3 c hc), of_decide_eq_true a4, ?_⟩
  split at h
  · rename_i c e
    refine ⟨c, e, fun e2 => ?_⟩
    subst e2
    simpa using h
  · cases h
theorem num_ok1 {i : Int} (h : NumI i) : NumOk (nt i) i := num_ok (by have := h.1; omega) h.2
/-! ### splits of joins -/
theorem sp_eq : (" " : Str) = SX.S [32] := by decide +kernel
theorem nl_eq : ("\n" : Str) = SX.S [10] := by decide +kernel
theorem split_join (c : Nat) (hc : c < 256) (ws : List Str) (hne : ws ≠ []) (h : ∀ x ∈ ws, c ∉ x.cps.toList) : Txt.split (Txt.join (SX.S [c]) ws) (SX.S [c]) = ws := by
  have e : ws = (ws.map fun x => x.cps.toList).map SX.S := by
    rw [List.map_map]
    exact (List.map_id ws).symm.trans (List.map_congr_left fun x _ => (SX.S_tl x).symm)
  rw [e, SX.join_S, SX.split_S (by simp) (by simp [hc]), SX.spl_join (by simpa using hne) ?_]
  intro p hp
  obtain ⟨x, hx, rfl⟩ := List.mem_map.mp hp
  exact h x hx
theorem joinL_len (s : List Nat) : ∀ l : List (List Nat), (TL.joinL s l).length ≤ (l.map (·.length)).sum + l.length * s.length
  | [] => by simp [TL.joinL]
  | [x] => by simp [TL.joinL]
  | x :: y :: r => by
    have ih := joinL_len s (y :: r)
    have e : TL.joinL s (x :: y :: r) = x ++ (s ++ TL.joinL s (y :: r)) := by simp [TL.joinL]
    rw [e, List.length_append, List.length_append, List.map_cons, List.sum_cons, List.length_cons, Nat.add_mul]
    omega
theorem join_len (c : Nat) (ws : List Str) (m : Nat) (h : ∀ x ∈ ws, x.length ≤ m) : (Txt.join (SX.S [c]) ws).length ≤ ws.length * (m + 1) := by
  have e : ws = (ws.map fun x => x.cps.toList).map SX.S := by
    rw [List.map_map]
    exact (List.map_id ws).symm.trans (List.map_congr_left fun x _ => (SX.S_tl x).symm)
  have z : (Txt.join (SX.S [c]) ws).length = (TL.joinL [c] (ws.map fun x => x.cps.toList)).length := by
    rw [← SX.S_len, ← SX.join_S, ← e]
  rw [z]
  refine Nat.le_trans (joinL_len _ _) ?_
  have s : ∀ l : List Str, (∀ x ∈ l, x.length ≤ m) → ((l.map fun x => x.cps.toList).map (·.length)).sum ≤ l.length * m := by
    intro l
    induction l with
    | nil => simp
    | cons x r ih =>
      intro hl
      rw [List.map_cons, List.map_cons, List.sum_cons, List.length_cons, Nat.add_mul]
      have h1 : x.cps.toList.length ≤ m := by
        have := hl x List.mem_cons_self
        simpa [Str.length] using this
      have h2 := ih fun y hy => hl y (List.mem_cons_of_mem _ hy)
      omega
  have := s ws h
  rw [List.length_map, List.length_singleton, Nat.mul_add]
  omega
end Ts
set_option maxHeartbeats 4000000
namespace Ts
open PySem PySem.Spec PyProof.Rows L2 C8 He
theorem gcI {mg : Str → Option Value} {x : Str} {i : Int} (h : ∃ t, mg x = some (.int i t)) : ∃ u, mg x = some u ∧ RelV (.int i) u := by
  obtain ⟨t, e⟩ := h
  exact ⟨_, e, t, rfl⟩
theorem gcS {mg : Str → Option Value} {x z : Str} (h : ∃ t, mg x = some (.str z t)) : ∃ u, mg x = some u ∧ RelV (.str z) u := by
  obtain ⟨t, e⟩ := h
  exact ⟨_, e, t, rfl⟩
theorem kitI (K : PySem.W.Frag) {a b : String} {r : Bool} (h : kitB a b = some r) : PySem.W.kitOne K (.type a) (.type b) = some r := h
def spIsInt : Sp := fun vs H Q _ => ∃ i : Int, vs = [.int i] ∧ Q (.bl true) H
def spIsNum : Sp := fun vs H Q _ => ∃ i : Int, vs = [.int i] ∧ Q (.bl (decide (0 ≤ i))) H
def spIsLen : Sp := fun vs H Q _ => ∃ i : Int, vs = [.int i] ∧ Q (.bl (decide (1 ≤ i))) H
def spIsName : Sp := fun vs H Q _ => ∃ x : Str, vs = [.str x] ∧ NameOk x ∧ ∀ H', Same H H' → Q (.bl true) H'
/-- what isinstance asks of a list, a tuple that is read -/
theorem ty_list {K : PySem.W.Frag} {H : Hp} {a : Addr} {xs : List V} (h : SqL K H a xs) : TyX K H (.ref a) (.type "list") := by
  rcases h with (h | ⟨o, h⟩) | ⟨o, its, n, h, c, _⟩
  · exact .base (.lst h)
  · exact .base (.frz h)
  · exact .kList h c
theorem ty_tup {K : PySem.W.Frag} {H : Hp} {a : Addr} {xs : List V} (h : SqT K H a xs) : TyX K H (.ref a) (.type "tuple") := by
  rcases h with (h | ⟨o, h⟩) | ⟨o, its, n, h, c, _⟩
  · exact .base (.tup h)
  · exact .fTuple h
  · exact .kTuple h c
def spIsSeq (K : PySem.W.Frag) : Sp := fun vs H Q _ => ∃ (a : Addr) (xs : List V), vs = [.ref a] ∧ (SqL K H a xs ∨ SqT K H a xs) ∧ ∀ H', Same H H' → Q (.bl true) H'
def spNumIn : Sp := fun vs H Q _ => ∃ (x : Str) (n : Int), vs = [.str x] ∧ NumOk x n ∧ ∀ H', Same H H' → Q (.int n) H'
def spNeed : Sp := fun vs H Q _ => ∃ x : Str, vs = [.str x, .bl true] ∧ Q .non H
def spIsMany : Sp := fun vs H Q _ => ∃ o : Option Int, vs = [oV o] ∧ (∀ i, o = some i → NumI i) ∧ Q (.bl true) H
section
variable {P : Program} {w : World} {K : PySem.W.Frag} {mg : Str → Option Value} {base : Heap}
theorem G_is_integer (T : Txt P w K mg) : Cal P w K mg base 1 "is_integer" spIsInt [] := by
  refine calN T.d_is_integer T.g_is_integer sc_is_integer (fun _ _ _ _ _ _ us hl => match us, hl with | [_], _ => rfl) (fun vs H Q E h => ?_) (fun cdv A outer s H vs Q E hr h => ?_)
  · obtain ⟨i, rfl, _⟩ := h
    rfl
  · obtain ⟨i, rfl, k⟩ := h
    refine ⟨_, (pss_one (ps_ret (pe_and (pe_callB call_isi (by rfl) T.b_isinstance boot_isinstance (pa_cons (pv 0) (pa_cons (pe_bltn (v := .ty "int") (by rfl) T.b_int boot_int rfl) pa_nil))) (pe_one (pe_not (pe_callB call_isi (by rfl) T.b_isinstance boot_isinstance (pa_cons (pv 0) (pa_cons (pe_bltn (v := .ty "bool") (by rfl) T.b_bool boot_bool rfl) pa_nil)))))))), ?_⟩
    refine ⟨_, rfl, _, _, _, _, true, rfl, .ty _, .base (.int i), kitI K (by decide +kernel), _, rfl, ?_⟩
    refine iteT ?_
    exact ⟨_, rfl, _, _, _, _, false, rfl, .ty _, .base (.int i), kitI K (by decide +kernel), _, rfl, k⟩
theorem G_is_number (T : Txt P w K mg) : Cal P w K mg base 2 "is_number" spIsNum [] := by
  have G_is_integer := G_is_integer (P := P) (w := w) (base := base) T
  refine calN T.d_is_number T.g_is_number sc_is_number (fun _ _ _ _ _ _ us hl => match us, hl with | [_], _ => rfl) (fun vs H Q E h => ?_) (fun cdv A outer s H vs Q E hr h => ?_)
  · obtain ⟨i, rfl, _⟩ := h
    rfl
  · obtain ⟨i, rfl, k⟩ := h
    refine ⟨_, (pss_one (ps_ret (pe_and (pe_c G_is_integer hr (by decide) (by rfl) (pa_cons (pv 0) pa_nil)) (pe_one (pe_cmpR op_ge (pv 0) pe_int (nomark _)))))), ?_⟩
    exact ⟨_, rfl, _, rfl, _, rfl, iteT ⟨_, rfl, _, _, rfl, rfl, k⟩⟩
theorem G_is_length (T : Txt P w K mg) : Cal P w K mg base 2 "is_length" spIsLen [] := by
  have G_is_integer := G_is_integer (P := P) (w := w) (base := base) T
  refine calN T.d_is_length T.g_is_length sc_is_length (fun _ _ _ _ _ _ us hl => match us, hl with | [_], _ => rfl) (fun vs H Q E h => ?_) (fun cdv A outer s H vs Q E hr h => ?_)
  · obtain ⟨i, rfl, _⟩ := h
    rfl
  · obtain ⟨i, rfl, k⟩ := h
    refine ⟨_, (pss_one (ps_ret (pe_and (pe_c G_is_integer hr (by decide) (by rfl) (pa_cons (pv 0) pa_nil)) (pe_one (pe_cmpR op_ge (pv 0) pe_int (nomark _)))))), ?_⟩
    exact ⟨_, rfl, _, rfl, _, rfl, iteT ⟨_, rfl, _, _, rfl, rfl, k⟩⟩
theorem G_is_name (T : Txt P w K mg) : Cal P w K mg base 1 "is_name" spIsName [] := by
  refine calN T.d_is_name T.g_is_name sc_is_name (fun _ _ _ _ _ _ us hl => match us, hl with | [_], _ => rfl) (fun vs H Q E h => ?_) (fun cdv A outer s H vs Q E hr h => ?_)
  · obtain ⟨i, rfl, _⟩ := h
    rfl
  · obtain ⟨x, rfl, nm, k⟩ := h
    refine ⟨_, (pss_cons (ps_if (PW.pt (pw_or (pt_not (pt_val (pe_callB call_isi (by rfl) T.b_isinstance boot_isinstance (pa_cons (pv 0) (pa_cons (pe_bltn (v := .ty "str") (by rfl) T.b_str boot_str rfl) pa_nil))))) (pw_or (pt_cmpR op_in_seq (pv 0) (pe_glob (v := .ref (ga K "BARRED")) (by rfl) T.g_BARRED rfl) (by rfl)) (pw_or1 (pt_not (pt_chain op_le op_le pe_int (pe_callB call_len_str (by rfl) T.b_len boot_len (pa_cons (pv 0) pa_nil)) (pe_gc (by rfl) (gcI T.i_MOST_LETTERS)))))))) (pss_one (ps_ret pe_bl)) pss_nil)
      (pss_one (ps_ret (pe_callB (cr_all rfl) (by rfl) T.b_all boot_all (pa_cons (pe_lc (own := [("letter", 1)]) (by rfl) sc_is_name.nd (pi_str (pv 0)) (blkOk_by (N := n_is_name) (sc := defScope s_is_name) (by decide +kernel)) (fun _ _ _ _ _ => (pg_name (i := 1) sc_is_name.nd rfl (Or.inl rfl))) (fun _ _ _ _ _ => pts_nil) (fun _ _ _ _ _ => (pe_cmpR op_in_sign (pv 1) (pe_gc (by rfl) (gcS T.t_LETTERS)) (by rfl)))) pa_nil))))), ?_⟩
    refine ⟨_, rfl, _, _, _, _, true, rfl, .ty _, .base (.str x), kitI K (by decide +kernel), _, rfl, ?_⟩
    refine iteF ?_
    refine ⟨_, rfl, _, _, rfl, .inr (T.v_BARRED H), rfl, by decide +kernel, ?_⟩
    refine ⟨false, congrArg V.bl nm.bar, iteF ?_⟩
    have l4 : x.length ≤ sizeLine := Nat.le_trans nm.hi (by decide)
    refine ⟨_, rfl, _, rfl, l4, _, _, rfl, rfl, _, rfl, ?_⟩
    rw [decide_eq_true (show (1 : Int) ≤ (x.length : Int) by have := nm.lo; omega)]
    refine iteT ⟨_, _, rfl, rfl, true, ?_, ?_⟩
    · exact congrArg V.bl (decide_eq_true (show (x.length : Int) ≤ 4 by have := nm.hi; omega))
    refine iteF ?_
    refine ⟨_, rfl, x, rfl, fun D hD => ?_⟩
    refine lc_fn (walk_str (z := x)) hD (fun _ _ => trivial) (Nat.le_trans nm.hi (by decide)) (fun _ => .bl true) ?_ ?_
    · rintro i v H1 H2 hi s1 ⟨rfl, c, hc, rfl⟩ k2 hk
      refine ⟨rfl, _, rfl, _, _, rfl, rfl, ?_⟩
      rw [decide_eq_true (nm.let_ c (by rw [← Array.getElem?_toList] at hc; exact List.mem_of_getElem? hc))]
      exact hk _ (Same.refl _)
    · intro H1 s1 hy
      refine ⟨D, List.replicate x.cps.size true, rfl, SqL.of (by rw [hy, List.map_replicate]; simp [List.map_const']), ?_⟩
      have e : (List.replicate x.cps.size true).all id = true := by simp
      rw [e]
      exact k H1 s1
theorem G_is_sequence (T : Txt P w K mg) : Cal P w K mg base 1 "is_sequence" (spIsSeq K) [] := by
  refine calN T.d_is_sequence T.g_is_sequence sc_is_sequence (fun _ _ _ _ _ _ us hl => match us, hl with | [_], _ => rfl) (fun vs H Q E h => ?_) (fun cdv A outer s H vs Q E hr h => ?_)
  · obtain ⟨a, xs, rfl, _⟩ := h
    rfl
  · obtain ⟨a, xs, rfl, hx, k⟩ := h
    refine ⟨_, (pss_one (ps_ret (pe_callB call_isiT (by rfl) T.b_isinstance boot_isinstance (pa_cons (pv 0) (pa_cons (pe_tup (pa_cons (pe_bltn (v := .ty "list") (by rfl) T.b_list boot_list rfl) (pa_cons (pe_bltn (v := .ty "tuple") (by rfl) T.b_tuple boot_tuple rfl) pa_nil))) pa_nil))))), ?_⟩
    refine ⟨_, rfl, Nat.le_of_ble_eq_true (by decide +kernel), fun p hp => ?_⟩
    rcases hx with hx | hx
    · refine ⟨_, p, _, _, [.type "list", .type "tuple"], true, rfl, upd_same, .cons (.ty _) (.cons (.ty _) .nil), ty_list ((Same.seq (sm_new hp) hx)), ?_, k _ (sm_new hp)⟩
      exact kitAny_cons (b := true) (kitI K (by decide +kernel)) (fun z => nomatch z) (fun _ => rfl)
    · refine ⟨_, p, _, _, [.type "list", .type "tuple"], true, rfl, upd_same, .cons (.ty _) (.cons (.ty _) .nil), ty_tup (sm_seqT (sm_new hp) hx), ?_, k _ (sm_new hp)⟩
      exact kitAny_cons (b := false) (kitI K (by decide +kernel)) (fun _ => kitAny_cons (b := true) (kitI K (by decide +kernel)) (fun z => nomatch z) (fun _ => rfl)) (fun z => nomatch z)
theorem G_need (T : Txt P w K mg) : Cal P w K mg base 1 "need" spNeed [] := by
  refine calN T.d_need T.g_need sc_need (fun _ _ _ _ _ _ us hl => match us, hl with | [_, _], _ => rfl) (fun vs H Q E h => ?_) (fun cdv A outer s H vs Q E hr h => ?_)
  · obtain ⟨x, rfl, _⟩ := h
    rfl
  · obtain ⟨x, rfl, k⟩ := h
    refine ⟨_, (pss_one (ps_if (pt_not (pt_val (pv 1))) pss_never pss_nil)), ?_⟩
    exact ⟨_, rfl, _, rfl, iteF k⟩
theorem G_is_many (T : Txt P w K mg) : Cal P w K mg base 3 "is_many" spIsMany [] := by
  have G_is_length := G_is_length (P := P) (w := w) (base := base) T
  refine calN T.d_is_many T.g_is_many sc_is_many (fun _ _ _ _ _ _ us hl => match us, hl with | [_], _ => rfl) (fun vs H Q E h => ?_) (fun cdv A outer s H vs Q E hr h => ?_)
  · obtain ⟨x, rfl, _⟩ := h
    rfl
  · obtain ⟨o, rfl, ho, k⟩ := h
    refine ⟨_, (pss_one (ps_ret (pe_or (pe_cmpR op_isN (pv 0) pe_non (nomark _)) (pe_one (pe_c G_is_length hr (by decide) (by rfl) (pa_cons (pv 0) pa_nil)))))), ?_⟩
    cases o with
    | none => exact ⟨_, rfl, rfl, _, rfl, iteT k⟩
    | some i =>
      refine ⟨_, rfl, rfl, false, rfl, iteF ⟨_, rfl, i, rfl, ?_⟩⟩
      rw [decide_eq_true (ho i rfl).1]
      exact k
theorem G_number_in (T : Txt P w K mg) : Cal P w K mg base 1 "number_in" spNumIn [] := by
  refine calN T.d_number_in T.g_number_in sc_number_in (fun _ _ _ _ _ _ us hl => match us, hl with | [_], _ => rfl) (fun vs H Q E h => ?_) (fun cdv A outer s H vs Q E hr h => ?_)
  · obtain ⟨i, n, rfl, _⟩ := h
    rfl
  · obtain ⟨x, n, rfl, nm, k⟩ := h
    refine ⟨_, (pss_cons (ps_if (PW.pt (pw_or (pt_not (pt_chain op_le op_le pe_int (pe_callB call_len_str (by rfl) T.b_len boot_len (pa_cons (pv 0) pa_nil)) (pe_gc (by rfl) (gcI T.i_MOST_SIGNS)))) (pw_or1 (pt_not (pt_val (pe_callB (cr_all rfl) (by rfl) T.b_all boot_all (pa_cons (pe_lc (own := [("sign", 1)]) (by rfl) sc_number_in.nd (pi_str (pv 0)) (blkOk_by (N := n_number_in) (sc := defScope s_number_in) (by decide +kernel)) (fun _ _ _ _ _ => (pg_name (i := 1) sc_number_in.nd rfl (Or.inl rfl))) (fun _ _ _ _ _ => pts_nil) (fun _ _ _ _ _ => (pe_cmpR op_in_sign (pv 1) (pe_gc (by rfl) (gcS T.t_SIGNS)) (by rfl)))) pa_nil))))))) (pss_one (ps_ret pe_non)) pss_nil)
      (pss_one (ps_ret (pe_ifExp (PW.pt (pw_and (pt_cmpR op_eq (pe_ix ix_str (pv 0) pe_int (fun _ _ => rfl)) pe_str (nomark _)) (pw_and1 (pt_cmpR op_gt (pe_callB call_len_str (by rfl) T.b_len boot_len (pa_cons (pv 0) pa_nil)) pe_int (nomark _))))) pe_non (pe_callTy call_int_str (by rfl) T.b_int boot_int (pa_cons (pv 0) pa_nil)))))), ?_⟩
    have l4 : x.length ≤ sizeLine := Nat.le_trans nm.hi (by decide)
    refine ⟨_, rfl, _, rfl, l4, _, _, rfl, rfl, _, rfl, ?_⟩
    rw [decide_eq_true (show (1 : Int) ≤ (x.length : Int) by have := nm.lo; omega)]
    refine iteT ⟨_, _, rfl, rfl, true, ?_, ?_⟩
    · exact congrArg V.bl (decide_eq_true (show (x.length : Int) ≤ 19 by have := nm.hi; omega))
    refine iteF ?_
    refine ⟨_, rfl, x, rfl, fun D hD => ?_⟩
    refine lc_fn (walk_str (z := x)) hD (fun _ _ => trivial) (Nat.le_trans nm.hi (by decide)) (fun _ => .bl true) ?_ ?_
    · rintro i v H1 H2 hi s1 ⟨rfl, c, hc, rfl⟩ k2 hk
      refine ⟨rfl, _, rfl, _, _, rfl, rfl, ?_⟩
      rw [decide_eq_true (nm.dig c (by rw [← Array.getElem?_toList] at hc; exact List.mem_of_getElem? hc))]
      exact hk _ (Same.refl _)
    · intro H1 s1 hy
      refine ⟨D, List.replicate x.cps.size true, rfl, SqL.of (by rw [hy, List.map_replicate]; simp [List.map_const']), ?_⟩
      have e : (List.replicate x.cps.size true).all id = true := by simp
      rw [e]
      refine ⟨_, rfl, iteF ?_⟩
      obtain ⟨c, hc, h1⟩ := nm.first
      refine ⟨_, rfl, _, _, c, rfl, rfl, l4, hc, rfl, _, rfl, ?_⟩
      have fin : (∃ a n', [V.str x] = [V.str a] ∧ PySem.intText? a = some n' ∧ a.length ≤ 640 ∧ Q (.int n') H1) := ⟨x, n, rfl, nm.val, Nat.le_trans nm.hi (by decide), k H1 s1⟩
      refine ite2 (fun hc => ?_) (fun _ => ⟨_, rfl, x, n, rfl, nm.val, Nat.le_trans nm.hi (by decide), k H1 s1⟩)
      have e2 : c = 48 := by
        have z := of_decide_eq_true hc
        injection z with z
        have z2 : (⟨#[c]⟩ : Str) = SX.S [48] := z.trans (by decide +kernel)
        have z3 := congrArg (fun y : Str => y.cps.toList) z2
        simpa using z3
      refine ⟨_, rfl, x, rfl, l4, _, _, rfl, rfl, _, rfl, ?_⟩
      rw [h1 e2]
      exact ⟨_, rfl, x, n, rfl, nm.val, Nat.le_trans nm.hi (by decide), k H1 s1⟩
end
end Ts
set_option maxHeartbeats 4000000
namespace Ts
open PySem PySem.Spec PyProof.Rows L2 C8 He
/-! ### the words of a kind's line -/
def plainW (x : Str) : Prop := (∀ c ∈ x.cps.toList, c ≠ 32 ∧ c ≠ 10) ∧ x.length ≤ 5
def plainB (x : Str) : Bool := x.cps.toList.all (fun c => !decide (c = 32) && !decide (c = 10)) && decide (x.length ≤ 5)
theorem plainB_ok {x : Str} (h : plainB x = true) : plainW x := by
  obtain ⟨h1, h2⟩ := ba h
  refine ⟨fun c hc => ?_, of_decide_eq_true h2⟩
  have := List.all_eq_true.mp h1 c hc
  simpa using this
theorem letters_plain : (("abcdefghijklmnopqrstuvwxyz" : Str).cps.toList.all (fun c => !decide (c = 32) && !decide (c = 10))) = true := by decide +kernel
theorem digits_plain : (("0123456789" : Str).cps.toList.all (fun c => !decide (c = 32) && !decide (c = 10))) = true := by decide +kernel
theorem name_plain {x : Str} (h : NameOk x) : plainW x := ⟨fun c hc => by
  have := List.all_eq_true.mp letters_plain c (h.let_ c hc)
  simpa using this, Nat.le_trans h.hi (by decide)⟩
theorem numok_plain {x : Str} {n : Int} (h : NumOk x n) : plainW x := ⟨fun c hc => by
  have := List.all_eq_true.mp digits_plain c (h.dig c hc)
  simpa using this, Nat.le_trans h.hi (by decide)⟩
theorem nt_plain {i : Int} (h : NumI i) : plainW (nt i) := numok_plain (num_ok1 h)
theorem tm_plain {o : Option Int} (h : ∀ i, o = some i → NumI i) : plainW (tmT o) := by
  cases o with
  | none => exact plainB_ok (by decide +kernel)
  | some i => exact nt_plain (h i rfl)
theorem kWords_plain {k : Kd} (ok : KdOk k) : ∀ x ∈ kWords k, plainW x := by
  obtain ⟨nm, tm, fm⟩ := k
  intro x hx
  have h1 := name_plain ok.nm
  have h2 := tm_plain ok.tm
  have h3 := ok.fm
  cases fm with
  | still d =>
    simp only [kWords, List.mem_cons, List.not_mem_nil, or_false] at hx
    rcases hx with rfl | rfl | rfl | rfl
    · exact plainB_ok (by decide +kernel)
    · exact h1
    · exact nt_plain h3
    · exact h2
  | anew d =>
    simp only [kWords, List.mem_cons, List.not_mem_nil, or_false] at hx
    rcases hx with rfl | rfl | rfl | rfl
    · exact plainB_ok (by decide +kernel)
    · exact h1
    · exact nt_plain h3
    · exact h2
  | lift b t =>
    simp only [kWords, List.mem_cons, List.not_mem_nil, or_false] at hx
    rcases hx with rfl | rfl | rfl | rfl | rfl
    · exact plainB_ok (by decide +kernel)
    · exact h1
    · exact nt_plain h3.1
    · exact nt_plain h3.2
    · exact h2
theorem kWords_len (k : Kd) : (kWords k).length ≤ 5 := by
  obtain ⟨nm, tm, fm⟩ := k
  cases fm <;> simp [kWords]
theorem kWords_ne (k : Kd) : kWords k ≠ [] := by
  obtain ⟨nm, tm, fm⟩ := k
  cases fm <;> simp [kWords]
theorem kLine_split {k : Kd} (ok : KdOk k) : Txt.split (kLine k) " " = kWords k := by
  unfold kLine
  rw [sp_eq]
  exact split_join 32 (by decide) _ (kWords_ne k) fun x hx hc => ((kWords_plain ok x hx).1 32 hc).1 rfl
theorem kLine_len {k : Kd} (ok : KdOk k) : (kLine k).length ≤ 30 := by
  unfold kLine
  rw [sp_eq]
  refine Nat.le_trans (join_len 32 _ 5 fun x hx => (kWords_plain ok x hx).2) ?_
  have := kWords_len k
  omega
/-! ### kinds as objects -/
def kCls (k : Kd) : Str := match k.fm with
  | .still _ => "Still"
  | .anew _ => "Anew"
  | .lift _ _ => "Lift"
abbrev fld (fs : List (Str × V)) (f : Str) : Option V := fs.lookup f
def FmF (fs : List (Str × V)) : Fm → Prop
  | .still d => fld fs "days" = some (V.int d)
  | .anew l => fld fs "left" = some (V.int l)
  | .lift b t => fld fs "by" = some (V.int b) ∧ fld fs "top" = some (V.int t)
def KdAt (K : PySem.W.Frag) (H : Hp) (a : Addr) (k : Kd) : Prop := ∃ dx fs, H a = some (.ins (ga K (kCls k)) dx fs) ∧ fld fs "name" = some (.str k.nm) ∧ fld fs "times" = some (oV k.tm) ∧ FmF fs k.fm
theorem KdAt.mono {K : PySem.W.Frag} {H H' : Hp} {a : Addr} {k : Kd} (s : SameI H H') (h : KdAt K H a k) : KdAt K H' a k := by
  obtain ⟨dx, fs, e, r⟩ := h
  exact ⟨dx, fs, s _ _ e rfl, r⟩
def spStill (K : PySem.W.Frag) : Sp := fun vs H Q _ => ∃ (H0 : Hp) (p dx : Addr) (nm : Str) (d : Int) (o : Option Int), vs = [.ref p, .str nm, .int d, oV o] ∧ NameOk nm ∧ NumI d ∧ (∀ i, o = some i → NumI i) ∧ H0 p = none ∧ Same H0 H ∧
  H p = some (.ins (ga K "Still") dx []) ∧ ∀ H', Same H0 H' → KdAt K H' p ⟨nm, o, .still d⟩ → Q .non H'
def spAnew (K : PySem.W.Frag) : Sp := fun vs H Q _ => ∃ (H0 : Hp) (p dx : Addr) (nm : Str) (d : Int) (o : Option Int), vs = [.ref p, .str nm, .int d, oV o] ∧ NameOk nm ∧ NumI d ∧ (∀ i, o = some i → NumI i) ∧ H0 p = none ∧ Same H0 H ∧
  H p = some (.ins (ga K "Anew") dx []) ∧ ∀ H', Same H0 H' → KdAt K H' p ⟨nm, o, .anew d⟩ → Q .non H'
def spLift (K : PySem.W.Frag) : Sp := fun vs H Q _ => ∃ (H0 : Hp) (p dx : Addr) (nm : Str) (b t : Int) (o : Option Int), vs = [.ref p, .str nm, .int b, .int t, oV o] ∧ NameOk nm ∧ NumI b ∧ NumI t ∧ (∀ i, o = some i → NumI i) ∧ H0 p = none ∧ Same H0 H ∧
  H p = some (.ins (ga K "Lift") dx []) ∧ ∀ H', Same H0 H' → KdAt K H' p ⟨nm, o, .lift b t⟩ → Q .non H'
def toldV (k : Kd) : List V := match k.fm with
  | .still d => [.str "still", .str k.nm, .int d, oV k.tm]
  | .anew l => [.str "anew", .str k.nm, .int l, oV k.tm]
  | .lift b t => [.str "lift", .str k.nm, .int b, .int t, oV k.tm]
def spToldBy : Sp := fun vs H Q _ => ∃ k : Kd, vs = [.str (kLine k)] ∧ KdOk k ∧ ∀ H' p, Same H H' → H' p = some (.tup (toldV k)) → Q (.ref p) H'
def spMadeOf (K : PySem.W.Frag) : Sp := fun vs H Q _ => ∃ (k : Kd) (p : Addr), vs = [.ref p] ∧ KdOk k ∧ H p = some (.tup (toldV k)) ∧ ∀ H' a, Same H H' → KdAt K H' a k → Q (.ref a) H'
def spKindRead (K : PySem.W.Frag) : Sp := fun vs H Q _ => ∃ (k : Kd) (c : V), vs = [c, .str (kLine k)] ∧ KdOk k ∧ ∀ H' a, Same H H' → KdAt K H' a k → Q (.ref a) H'
theorem lkE {f : Str} {v : V} {fs : List (Str × V)} : (putF f v fs).lookup f = some v := by rw [lookup_putF, if_pos rfl]
theorem lkN {f g : Str} {v : V} {fs : List (Str × V)} {r : Option V} (h : ¬ g = f) (e : fs.lookup g = r) : (putF f v fs).lookup g = r := by rw [lookup_putF, if_neg h, e]
theorem bT {p : Prop} [Decidable p] (x : V) (h : p) : [x, V.bl (decide p)] ++ [] = [x, V.bl true] := by rw [decide_eq_true h]; rfl
theorem itT {c : Bool} {A B : Prop} (h : c = true) (a : A) : if c = true then A else B := by rw [if_pos h]; exact a
theorem itF {c : Bool} {A B : Prop} (h : c = false) (b : B) : if c = true then A else B := by rw [h]; exact iteF b
theorem sne {a b : Str} (h : ¬ a = b) : decide (V.str a = V.str b) = false := decide_eq_false fun e => h (V.str.inj e)
/-! ### the words by place -/
def formW (k : Kd) : Str := match k.fm with
  | .still _ => "still"
  | .anew _ => "anew"
  | .lift _ _ => "lift"
def nums (k : Kd) : List Int := match k.fm with
  | .still d => [d]
  | .anew l => [l]
  | .lift b t => [b, t]
theorem kWords_eq (k : Kd) : kWords k = formW k :: k.nm :: ((nums k).map nt ++ [tmT k.tm]) := by
  obtain ⟨nm, tm, fm⟩ := k
  cases fm <;> rfl
theorem toldV_eq (k : Kd) : toldV k = .str (formW k) :: .str k.nm :: ((nums k).map V.int ++ [oV k.tm]) := by
  obtain ⟨nm, tm, fm⟩ := k
  cases fm <;> rfl
theorem nums_ok {k : Kd} (ok : KdOk k) : ∀ n ∈ nums k, NumI n := by
  obtain ⟨nm, tm, fm⟩ := k
  have h := ok.fm
  cases fm with
  | still d => simpa [nums, FmOk] using h
  | anew d => simpa [nums, FmOk] using h
  | lift b t => simpa [nums, FmOk] using h
theorem nums_len (k : Kd) : (nums k).length ≤ 2 := by
  obtain ⟨nm, tm, fm⟩ := k
  cases fm <;> simp [nums]
theorem cut2 (a b t : V) (l : List V) : cutV (a :: b :: (l ++ [t])) (some 2) (some (-1)) = l := by
  have e1 : HT.sIx (a :: b :: (l ++ [t])).length 0 (some 2) = 2 := by
    have := HT.sIx_nat (a :: b :: (l ++ [t])).length 0 2
    rw [show ((2 : Nat) : Int) = 2 from rfl] at this
    rw [this]
    simp
  have e2 : HT.sIx (a :: b :: (l ++ [t])).length (a :: b :: (l ++ [t])).length (some (-1)) = l.length + 2 := by
    have h := HT.clip_eq (-1) (a :: b :: (l ++ [t])).length (a :: b :: (l ++ [t])).length
    rw [if_pos (by decide)] at h
    have hl : (a :: b :: (l ++ [t])).length = l.length + 3 := by simp
    rw [hl] at h ⊢
    have h2 : max ((-1 : Int) + ((l.length + 3 : Nat) : Int)) 0 = ((l.length + 2 : Nat) : Int) := by omega
    rw [h2] at h
    exact (Int.ofNat.inj h).symm
  unfold cutV
  rw [e1, e2]
  simp
theorem nt_ne {i : Int} (h : NumI i) {x : Str} (hx : 3 ≤ x.length) : nt i ≠ x := fun e => by
  have h1 := (num_ok1 h).hi
  rw [e] at h1
  omega
theorem inV_ints (ns : List Int) : inV .non (ns.map V.int) = false := by
  unfold inV
  rw [List.any_eq_false]
  intro y hy
  obtain ⟨n, _, rfl⟩ := List.mem_map.mp hy
  simp [eqV]
theorem flat_ints (ns : List Int) : (ns.map V.int).all flatV = true := by
  rw [List.all_eq_true]
  intro y hy
  obtain ⟨n, _, rfl⟩ := List.mem_map.mp hy
  rfl
theorem small {n : Nat} (h : n < 1000) : n < 1000 := h
theorem putF_len {f : Str} {v : V} {fs : List (Str × V)} {n : Nat} (h : fs.length ≤ n) : (putF f v fs).length ≤ n + 1 := Nat.le_trans (length_putF f v fs) (Nat.succ_le_succ h)
section
variable {P : Program} {w : World} {K : PySem.W.Frag} {mg : Str → Option Value} {base : Heap}
theorem M_Still (T : Txt P w K mg) : Mak P w K mg base 4 "Still" (ga K "Still") (spStill K) [] := by
  have G_need := G_need (P := P) (w := w) (base := base) T
  have G_is_name := G_is_name (P := P) (w := w) (base := base) T
  have G_is_length := G_is_length (P := P) (w := w) (base := base) T
  have G_is_many := G_is_many (P := P) (w := w) (base := base) T
  have z : Mak P w K mg base 4 "Still" (ga K "Still") (spStill K) ([V.non].drop 1) := makD 4 1 T.d_Still_init (by simp) T.k_Still T.g_Still sc_Still_init rfl
    (fun T kV doc pm an cdv ct us its h1 h2 => match us, its, h1, h2 with | [_, _, _, _], [_], _, _ => ⟨_, rfl, rfl⟩) (fun vs H Q E h => ?_) (fun cdv A outer s H vs Q E hr h => ?_)
  · exact z
  · obtain ⟨H0, p, dx, nm, d, o, rfl, _⟩ := h
    rfl
  · obtain ⟨H0, p, dx, nm, d, o, rfl, nok, dok, ook, n0, s0, hp, k⟩ := h
    refine ⟨_, (pss_cons (ps_expr (pe_c G_need hr (by decide) (by rfl) (pa_cons pe_str (pa_cons (pe_c G_is_name hr (by decide) (by rfl) (pa_cons (pv 1) pa_nil)) pa_nil))))
      (pss_cons (ps_expr (pe_c G_need hr (by decide) (by rfl) (pa_cons pe_str (pa_cons (pe_c G_is_length hr (by decide) (by rfl) (pa_cons (pv 2) pa_nil)) pa_nil))))
      (pss_cons (ps_expr (pe_c G_need hr (by decide) (by rfl) (pa_cons pe_str (pa_cons (pe_c G_is_many hr (by decide) (by rfl) (pa_cons (pv 3) pa_nil)) pa_nil))))
      (pss_cons (ps_fld (pv 0) (pv 1) rfl)
      (pss_cons (ps_fld (pv 0) (pv 2) rfl)
      (pss_one (ps_fld (pv 0) (pv 3) rfl))))))), ?_⟩
    refine ⟨_, rfl, nm, rfl, nok, fun H1 s1 => ⟨_, rfl, ?_⟩⟩
    refine ⟨_, rfl, d, rfl, ⟨_, bT _ dok.1, ?_⟩⟩
    refine ⟨_, rfl, o, rfl, ook, ⟨_, rfl, ?_⟩⟩
    refine ⟨_, rfl, _, rfl, p, _, dx, [], rfl, s1 _ _ hp, T.c_Still, T.no_Still_name, Nat.le_of_ble_eq_true rfl, ?_⟩
    refine ⟨_, rfl, _, rfl, p, _, dx, _, rfl, upd_same, T.c_Still, T.no_Still_days, Nat.le_of_ble_eq_true rfl, ?_⟩
    refine ⟨_, rfl, _, rfl, p, _, dx, _, rfl, upd_same, T.c_Still, T.no_Still_times, Nat.le_trans (Nat.succ_le_succ (putF_len (putF_len (n := 0) (Nat.le_refl _)))) (by decide), ?_⟩
    exact k _ (sm_to (sm_to (sm_to (s0.trans s1) n0) n0) n0) ⟨dx, _, upd_same, lkN (by decide +kernel) (lkN (by decide +kernel) lkE), lkE, lkN (by decide +kernel) lkE⟩
theorem M_Anew (T : Txt P w K mg) : Mak P w K mg base 4 "Anew" (ga K "Anew") (spAnew K) [] := by
  have G_need := G_need (P := P) (w := w) (base := base) T
  have G_is_name := G_is_name (P := P) (w := w) (base := base) T
  have G_is_length := G_is_length (P := P) (w := w) (base := base) T
  have G_is_many := G_is_many (P := P) (w := w) (base := base) T
  have z : Mak P w K mg base 4 "Anew" (ga K "Anew") (spAnew K) ([V.non].drop 1) := makD 4 1 T.d_Anew_init (by simp) T.k_Anew T.g_Anew sc_Anew_init rfl
    (fun T kV doc pm an cdv ct us its h1 h2 => match us, its, h1, h2 with | [_, _, _, _], [_], _, _ => ⟨_, rfl, rfl⟩) (fun vs H Q E h => ?_) (fun cdv A outer s H vs Q E hr h => ?_)
  · exact z
  · obtain ⟨H0, p, dx, nm, d, o, rfl, _⟩ := h
    rfl
  · obtain ⟨H0, p, dx, nm, d, o, rfl, nok, dok, ook, n0, s0, hp, k⟩ := h
    refine ⟨_, (pss_cons (ps_expr (pe_c G_need hr (by decide) (by rfl) (pa_cons pe_str (pa_cons (pe_c G_is_name hr (by decide) (by rfl) (pa_cons (pv 1) pa_nil)) pa_nil))))
      (pss_cons (ps_expr (pe_c G_need hr (by decide) (by rfl) (pa_cons pe_str (pa_cons (pe_c G_is_length hr (by decide) (by rfl) (pa_cons (pv 2) pa_nil)) pa_nil))))
      (pss_cons (ps_expr (pe_c G_need hr (by decide) (by rfl) (pa_cons pe_str (pa_cons (pe_c G_is_many hr (by decide) (by rfl) (pa_cons (pv 3) pa_nil)) pa_nil))))
      (pss_cons (ps_fld (pv 0) (pv 1) rfl)
      (pss_cons (ps_fld (pv 0) (pv 2) rfl)
      (pss_one (ps_fld (pv 0) (pv 3) rfl))))))), ?_⟩
    refine ⟨_, rfl, nm, rfl, nok, fun H1 s1 => ⟨_, rfl, ?_⟩⟩
    refine ⟨_, rfl, d, rfl, ⟨_, bT _ dok.1, ?_⟩⟩
    refine ⟨_, rfl, o, rfl, ook, ⟨_, rfl, ?_⟩⟩
    refine ⟨_, rfl, _, rfl, p, _, dx, [], rfl, s1 _ _ hp, T.c_Anew, T.no_Anew_name, Nat.le_of_ble_eq_true rfl, ?_⟩
    refine ⟨_, rfl, _, rfl, p, _, dx, _, rfl, upd_same, T.c_Anew, T.no_Anew_left, Nat.le_of_ble_eq_true rfl, ?_⟩
    refine ⟨_, rfl, _, rfl, p, _, dx, _, rfl, upd_same, T.c_Anew, T.no_Anew_times, Nat.le_trans (Nat.succ_le_succ (putF_len (putF_len (n := 0) (Nat.le_refl _)))) (by decide), ?_⟩
    exact k _ (sm_to (sm_to (sm_to (s0.trans s1) n0) n0) n0) ⟨dx, _, upd_same, lkN (by decide +kernel) (lkN (by decide +kernel) lkE), lkE, lkN (by decide +kernel) lkE⟩
theorem M_Lift (T : Txt P w K mg) : Mak P w K mg base 4 "Lift" (ga K "Lift") (spLift K) [] := by
  have G_need := G_need (P := P) (w := w) (base := base) T
  have G_is_name := G_is_name (P := P) (w := w) (base := base) T
  have G_is_length := G_is_length (P := P) (w := w) (base := base) T
  have G_is_many := G_is_many (P := P) (w := w) (base := base) T
  have z : Mak P w K mg base 4 "Lift" (ga K "Lift") (spLift K) ([V.non].drop 1) := makD 5 1 T.d_Lift_init (by simp) T.k_Lift T.g_Lift sc_Lift_init rfl
    (fun T kV doc pm an cdv ct us its h1 h2 => match us, its, h1, h2 with | [_, _, _, _, _], [_], _, _ => ⟨_, rfl, rfl⟩) (fun vs H Q E h => ?_) (fun cdv A outer s H vs Q E hr h => ?_)
  · exact z
  · obtain ⟨H0, p, dx, nm, b, t, o, rfl, _⟩ := h
    rfl
  · obtain ⟨H0, p, dx, nm, b, t, o, rfl, nok, bok, tok, ook, n0, s0, hp, k⟩ := h
    refine ⟨_, (pss_cons (ps_expr (pe_c G_need hr (by decide) (by rfl) (pa_cons pe_str (pa_cons (pe_c G_is_name hr (by decide) (by rfl) (pa_cons (pv 1) pa_nil)) pa_nil))))
      (pss_cons (ps_expr (pe_c G_need hr (by decide) (by rfl) (pa_cons pe_str (pa_cons (pe_c G_is_length hr (by decide) (by rfl) (pa_cons (pv 2) pa_nil)) pa_nil))))
      (pss_cons (ps_expr (pe_c G_need hr (by decide) (by rfl) (pa_cons pe_str (pa_cons (pe_c G_is_length hr (by decide) (by rfl) (pa_cons (pv 3) pa_nil)) pa_nil))))
      (pss_cons (ps_expr (pe_c G_need hr (by decide) (by rfl) (pa_cons pe_str (pa_cons (pe_c G_is_many hr (by decide) (by rfl) (pa_cons (pv 4) pa_nil)) pa_nil))))
      (pss_cons (ps_fld (pv 0) (pv 1) rfl)
      (pss_cons (ps_fld (pv 0) (pv 2) rfl)
      (pss_cons (ps_fld (pv 0) (pv 3) rfl)
      (pss_one (ps_fld (pv 0) (pv 4) rfl))))))))), ?_⟩
    refine ⟨_, rfl, nm, rfl, nok, fun H1 s1 => ⟨_, rfl, ?_⟩⟩
    refine ⟨_, rfl, b, rfl, ⟨_, bT _ bok.1, ?_⟩⟩
    refine ⟨_, rfl, t, rfl, ⟨_, bT _ tok.1, ?_⟩⟩
    refine ⟨_, rfl, o, rfl, ook, ⟨_, rfl, ?_⟩⟩
    refine ⟨_, rfl, _, rfl, p, _, dx, [], rfl, s1 _ _ hp, T.c_Lift, T.no_Lift_name, Nat.le_of_ble_eq_true rfl, ?_⟩
    refine ⟨_, rfl, _, rfl, p, _, dx, _, rfl, upd_same, T.c_Lift, T.no_Lift_by, Nat.le_of_ble_eq_true rfl, ?_⟩
    refine ⟨_, rfl, _, rfl, p, _, dx, _, rfl, upd_same, T.c_Lift, T.no_Lift_top, Nat.le_trans (Nat.succ_le_succ (putF_len (putF_len (n := 0) (Nat.le_refl _)))) (by decide), ?_⟩
    refine ⟨_, rfl, _, rfl, p, _, dx, _, rfl, upd_same, T.c_Lift, T.no_Lift_times, Nat.le_trans (Nat.succ_le_succ (putF_len (putF_len (putF_len (n := 0) (Nat.le_refl _))))) (by decide), ?_⟩
    exact k _ (sm_to (sm_to (sm_to (sm_to (s0.trans s1) n0) n0) n0) n0) ⟨dx, _, upd_same, lkN (by decide +kernel) (lkN (by decide +kernel) (lkN (by decide +kernel) lkE)), lkE, lkN (by decide +kernel) (lkN (by decide +kernel) lkE), lkN (by decide +kernel) lkE⟩
theorem forms_at (T : Txt P w K mg) (k : Kd) : ∃ t, PySem.W.nsIn K (ga K "FORMS") (formW k) = some (some (.int ((kWords k).length : Int) t)) := by
  obtain ⟨nm, tm, fm⟩ := k
  cases fm with
  | still d => exact T.f_still
  | anew d => exact T.f_anew
  | lift b t => exact T.f_lift
theorem G_told_by (T : Txt P w K mg) : Cal P w K mg base 2 "told_by" spToldBy [] := by
  have G_is_name := G_is_name (P := P) (w := w) (base := base) T
  have G_number_in := G_number_in (P := P) (w := w) (base := base) T
  obtain ⟨es, n0, KD⟩ := T.kd_FORMS
  refine calN T.d_told_by T.g_told_by sc_told_by (fun _ _ _ _ _ _ us hl => match us, hl with | [_], _ => rfl) (fun vs H Q E h => ?_) (fun cdv A outer s H vs Q E hr h => ?_)
  · obtain ⟨k, rfl, _⟩ := h
    rfl
  · obtain ⟨k, rfl, ok, kk⟩ := h
    refine ⟨_, (pss_cons (ps_set (i := 1) sc_told_by.nd rfl (Or.inl rfl) (pe_split (pv 0) pe_str))
      (pss_cons (ps_if (PW.pt (pw_or (pt_cmpR (op_notIn_kd KD) (pe_ix ix_list (pv 1) pe_int (fun _ _ => rfl)) (pe_glob (v := .ref (ga K "FORMS")) (by rfl) T.g_FORMS rfl) (by rfl)) (pw_or (pt_cmpR op_ne (pe_callB call_len_seq (by rfl) T.b_len boot_len (pa_cons (pv 1) pa_nil)) (pe_ix ix_kdict (pe_glob (v := .ref (ga K "FORMS")) (by rfl) T.g_FORMS rfl) (pe_ix ix_list (pv 1) pe_int (fun _ _ => rfl)) (fun _ _ => rfl)) (nomark _)) (pw_or1 (pt_not (pt_val (pe_c G_is_name hr (by decide) (by rfl) (pa_cons (pe_ix ix_list (pv 1) pe_int (fun _ _ => rfl)) pa_nil)))))))) (pss_one (ps_ret pe_non)) pss_nil)
      (pss_cons (ps_setLc (i := 2)  (own := [("word", 4)]) (by rfl) sc_told_by.nd rfl rfl (sw_true rfl rfl rfl (by decide +kernel)) (pi_list (pe_slice sl_list (pv 1) (po_some pe_int) (po_some (pe_un un_neg pe_int)))) (blkOk_by (N := n_told_by) (sc := defScope s_told_by) (by decide +kernel)) (fun _ _ _ _ _ => (pg_name (i := 4) sc_told_by.nd rfl (Or.inl rfl))) (fun _ _ _ _ _ => pts_nil) (fun _ _ _ _ _ => (pe_c G_number_in hr (by decide) (by rfl) (pa_cons (pv 4) pa_nil))))
      (pss_cons (ps_set (i := 3) sc_told_by.nd rfl (Or.inl rfl) (pe_ifExp (pt_cmpR op_eq (pe_ix ix_list (pv 1) (pe_un un_neg pe_int) (fun _ _ => rfl)) pe_str (nomark _)) pe_non (pe_c G_number_in hr (by decide) (by rfl) (pa_cons (pe_ix ix_list (pv 1) (pe_un un_neg pe_int) (fun _ _ => rfl)) pa_nil))))
      (pss_cons (ps_if (PW.pt (pw_or (pt_cmpR op_in_seq pe_non (pv 2) (by rfl)) (pw_or1 (PW.pt (pw_and (pt_cmpR op_isN (pv 3) pe_non (nomark _)) (pw_and1 (pt_cmpR op_ne (pe_ix ix_list (pv 1) (pe_un un_neg pe_int) (fun _ _ => rfl)) pe_str (nomark _)))))))) (pss_one (ps_ret pe_non)) pss_nil)
      (pss_one (ps_ret (pe_tup (pa_cons (pe_ix ix_list (pv 1) pe_int (fun _ _ => rfl)) (pa_cons (pe_ix ix_list (pv 1) pe_int (fun _ _ => rfl)) (StX.pa_star (pv 2) (pa_cons (pv 3) pa_nil)))))))))))), ?_⟩
    refine ⟨_, rfl, ⟨_, rfl⟩, _, _, rfl, rfl, rfl, ?_, fun q hq => ?_⟩
    · have := kLine_len ok
      exact Nat.le_trans (Nat.add_le_add_right this 2) (by decide)
    rw [kLine_split ok]
    have hw : (kWords k).map V.str = .str (formW k) :: .str k.nm :: (((nums k).map nt).map V.str ++ [.str (tmT k.tm)]) := by rw [kWords_eq]; simp
    have hwl : ((kWords k).map V.str).length = (kWords k).length := List.length_map ..
    have at0 : atI ((kWords k).map V.str) 0 = some (.str (formW k)) := by rw [hw]; exact atI_nat (j := 0) rfl
    have at1 : atI ((kWords k).map V.str) 1 = some (.str k.nm) := by rw [hw]; exact atI_nat (j := 1) rfl
    have atL : atI ((kWords k).map V.str) (-1) = some (.str (tmT k.tm)) := by
      rw [hw]
      exact atI_last (.str (formW k) :: .str k.nm :: ((nums k).map nt).map V.str) _
    generalize hWs : (kWords k).map V.str = Ws at *
    obtain ⟨ft, hf⟩ := forms_at T k
    have w0 : ∀ H', Same (upd H q (.lst Ws)) H' → SqL K H' q Ws := fun H' z => SqL.of (z _ _ upd_same)
    have hS : Same H (upd H q (.lst Ws)) := sm_new hq
    -- words[0] not in FORMS
    refine ⟨_, rfl, _, _, _, _, rfl, rfl, w0 _ (Same.refl _), at0, _, _, rfl, rfl, hf, _, rfl, iteF ?_⟩
    -- len(words) != FORMS[words[0]]
    refine ⟨_, rfl, _, _, rfl, .inl (w0 _ (Same.refl _)), _, rfl, _, _, _, _, rfl, rfl, w0 _ (Same.refl _), at0, _, _, V.int ((kWords k).length : Int), rfl, rfl, ⟨es, n0, _, KD.at_, KD.lit, hf, ft, rfl⟩, rfl, false, ?_, iteF ?_⟩
    · rw [hwl, decide_eq_true rfl]
      rfl
    -- not is_name(words[1])
    refine ⟨_, rfl, _, _, _, _, rfl, rfl, w0 _ (Same.refl _), at1, _, rfl, ok.nm, fun H1 s1 => ⟨_, rfl, iteF ?_⟩⟩
    -- numbers
    refine ⟨_, rfl, 2, rfl, ?_⟩
    refine ⟨_, rfl, _, rfl, q, Ws, rfl, w0 _ s1, fun z hz => ?_⟩
    have ecut : cutV Ws (some 2) (some (-1)) = ((nums k).map nt).map V.str := by rw [hw]; exact cut2 _ _ _ _
    have s2 : Same H1 (upd H1 z (.lst (cutV Ws (some 2) (some (-1))))) := sm_new hz
    refine ⟨z, rfl, ⟨_, SqL.of upd_same⟩, fun D hD => ?_⟩
    have nl : (((nums k).map nt).map V.str).length = (nums k).length := by simp
    refine lc_fn (walk_list (K := K) (a := z) (xs := ((nums k).map nt).map V.str)) hD (fun H2 s => SqL.of (by rw [← ecut]; exact s _ _ upd_same)) (by rw [nl]; have := nums_len k; omega) (fun i => .int ((nums k).getD i 0)) ?_ ?_
    · rintro i v H2 H3 hi s3 ⟨rfl, hv⟩ k2 hk
      rw [nl] at hi
      have ev : v = .str (nt ((nums k)[i])) := by
        rw [List.getElem?_map, List.getElem?_map, List.getElem?_eq_getElem hi] at hv
        exact (Option.some.inj hv).symm
      subst ev
      refine ⟨rfl, _, rfl, _, _, rfl, num_ok1 (nums_ok ok _ (List.getElem_mem hi)), fun H4 s4 => ?_⟩
      have e : (nums k)[i] = (nums k).getD i 0 := by simp [List.getD, List.getElem?_eq_getElem hi]
      rw [e]
      exact hk _ s4
    intro H2 s3 hy
    have ey : (List.range (((nums k).map nt).map V.str).length).map (fun i => V.int ((nums k).getD i 0)) = (nums k).map V.int := by
      rw [nl]
      refine List.ext_getElem? fun i => ?_
      by_cases hi : i < (nums k).length
      · rw [List.getElem?_map, List.getElem?_range hi, List.getElem?_map, List.getElem?_eq_getElem hi]
        simp [List.getD, List.getElem?_eq_getElem hi]
      · rw [List.getElem?_eq_none (by simp; omega), List.getElem?_eq_none (by simp; omega)]
    rw [ey] at hy
    -- times
    have sA : Same (upd H q (.lst Ws)) H2 := s1.trans (s2.trans s3)
    refine ⟨_, rfl, _, rfl, _, _, _, _, rfl, rfl, w0 _ sA, atL, rfl, _, rfl, ?_⟩
    have fin : ∀ H3 H4 : Hp, Same H2 H3 → Same H3 H4 → ∀ p, H4 p = none → ∀ y : V, y = oV k.tm → Q (.ref p) (upd H4 p (.tup (.str (formW k) :: .str k.nm :: ((nums k).map V.int ++ [y])))) := fun H3 H4 z3 z4 p hp y hy2 => by
      refine kk _ p (hS.trans (sA.trans (z3.trans (z4.trans (sm_new hp))))) ?_
      rw [upd_same, toldV_eq, hy2]
    have lz : ∀ y : V, (V.str (formW k) :: V.str k.nm :: ((nums k).map V.int ++ [y])).length ≤ sizeLine := fun y => Nat.le_trans (show _ ≤ 5 by simp; exact nums_len k) (by decide)
    cases htm : k.tm with
    | none =>
      rw [htm] at atL fin
      refine itT (decide_eq_true rfl) ?_
      refine ⟨_, rfl, D, _, rfl, .inl (SqL.of hy), rfl, flat_ints _, false, congrArg V.bl (inV_ints _), iteF ?_⟩
      refine ⟨_, rfl, rfl, true, rfl, iteT ?_⟩
      refine ⟨_, rfl, _, rfl, _, _, _, _, rfl, rfl, w0 _ sA, atL, rfl, false, rfl, iteF ?_⟩
      refine ⟨_, rfl, _, _, _, _, rfl, rfl, w0 _ sA, at0, _, rfl, _, _, _, _, rfl, rfl, w0 _ sA, at1, _, rfl, D, _, rfl, .inr (SqL.of hy), _, rfl, ?_⟩
      exact ⟨lz _, fun p hp => fin H2 H2 (Same.refl _) (Same.refl _) p hp .non rfl⟩
    | some i =>
      have hi : NumI i := ok.tm i htm
      rw [htm] at atL fin
      have ne : V.str (tmT (some i)) ≠ V.str "any" := fun e => by
        injection e with e
        exact nt_ne hi (by decide +kernel) e
      refine itF (decide_eq_false ne) ?_
      refine ⟨_, rfl, _, rfl, _, _, _, _, rfl, rfl, w0 _ sA, atL, _, i, rfl, num_ok1 hi, fun H3 s4 => ?_⟩
      have hy3 := s4 _ _ hy
      have sB := sA.trans s4
      refine ⟨_, rfl, D, _, rfl, .inl (SqL.of hy3), rfl, flat_ints _, false, congrArg V.bl (inV_ints _), iteF ?_⟩
      refine ⟨_, rfl, rfl, false, rfl, iteF (iteF ?_)⟩
      refine ⟨_, rfl, _, _, _, _, rfl, rfl, w0 _ sB, at0, _, rfl, _, _, _, _, rfl, rfl, w0 _ sB, at1, _, rfl, D, _, rfl, .inr (SqL.of hy3), _, rfl, ?_⟩
      exact ⟨lz _, fun p hp => fin H3 H3 s4 (Same.refl _) p hp (.int i) rfl⟩
theorem made_same {H : Hp} {x dx C : Addr} (nx : H x = none) (nd : H dx = none) : Same H (upd (upd H dx (.own x)) x (.ins C dx [])) := sm_to (sm_new nd) nx
theorem G_made_of (T : Txt P w K mg) : Cal P w K mg base 6 "made_of" (spMadeOf K) [] := by
  have M_Still := M_Still (P := P) (w := w) (base := base) T
  have M_Anew := M_Anew (P := P) (w := w) (base := base) T
  have M_Lift := M_Lift (P := P) (w := w) (base := base) T
  refine calN T.d_made_of T.g_made_of sc_made_of (fun _ _ _ _ _ _ us hl => match us, hl with | [_], _ => rfl) (fun vs H Q E h => ?_) (fun cdv A outer s H vs Q E hr h => ?_)
  · obtain ⟨k, p, rfl, _⟩ := h
    rfl
  · obtain ⟨k, p, rfl, ok, hp, kk⟩ := h
    refine ⟨_, (pss_cons (ps_if (pt_cmpR op_eq (pe_ix ix_tup (pv 0) pe_int (fun _ _ => rfl)) pe_str (nomark _)) (pss_one (ps_ret (pe_mk M_Still hr (by decide) (by rfl) (pa_cons (pe_ix ix_tup (pv 0) pe_int (fun _ _ => rfl)) (pa_cons (pe_ix ix_tup (pv 0) pe_int (fun _ _ => rfl)) (pa_cons (pe_ix ix_tup (pv 0) pe_int (fun _ _ => rfl)) pa_nil)))))) pss_nil)
      (pss_cons (ps_if (pt_cmpR op_eq (pe_ix ix_tup (pv 0) pe_int (fun _ _ => rfl)) pe_str (nomark _)) (pss_one (ps_ret (pe_mk M_Anew hr (by decide) (by rfl) (pa_cons (pe_ix ix_tup (pv 0) pe_int (fun _ _ => rfl)) (pa_cons (pe_ix ix_tup (pv 0) pe_int (fun _ _ => rfl)) (pa_cons (pe_ix ix_tup (pv 0) pe_int (fun _ _ => rfl)) pa_nil)))))) pss_nil)
      (pss_one (ps_ret (pe_mk M_Lift hr (by decide) (by rfl) (pa_cons (pe_ix ix_tup (pv 0) pe_int (fun _ _ => rfl)) (pa_cons (pe_ix ix_tup (pv 0) pe_int (fun _ _ => rfl)) (pa_cons (pe_ix ix_tup (pv 0) pe_int (fun _ _ => rfl)) (pa_cons (pe_ix ix_tup (pv 0) pe_int (fun _ _ => rfl)) pa_nil))))))))), ?_⟩
    obtain ⟨nm, tm, fm⟩ := k
    have h1 := ok.nm
    have h2 := ok.tm
    have h3 := ok.fm
    have tt : SqT K H p _ := SqT.of hp
    cases fm with
    | still d =>
      refine ⟨_, rfl, _, _, _, _, rfl, rfl, tt, atI_nat (j := 0) rfl, rfl, _, rfl, itT (decide_eq_true rfl) ?_⟩
      refine ⟨_, rfl, _, _, _, _, rfl, rfl, tt, atI_nat (j := 1) rfl, _, rfl, _, _, _, _, rfl, rfl, tt, atI_nat (j := 2) rfl, _, rfl, _, _, _, _, rfl, rfl, tt, atI_nat (j := 3) rfl, fun x dx nx ndx nex => ?_⟩
      exact ⟨H, x, dx, nm, d, tm, rfl, h1, h3, h2, nx, made_same nx ndx, upd_same, fun H' s' ka => ⟨rfl, kk _ _ s' ka⟩⟩
    | anew d =>
      refine ⟨_, rfl, _, _, _, _, rfl, rfl, tt, atI_nat (j := 0) rfl, rfl, _, rfl, itF (sne (by decide +kernel)) ?_⟩
      refine ⟨_, rfl, _, _, _, _, rfl, rfl, tt, atI_nat (j := 0) rfl, rfl, _, rfl, itT (decide_eq_true rfl) ?_⟩
      refine ⟨_, rfl, _, _, _, _, rfl, rfl, tt, atI_nat (j := 1) rfl, _, rfl, _, _, _, _, rfl, rfl, tt, atI_nat (j := 2) rfl, _, rfl, _, _, _, _, rfl, rfl, tt, atI_nat (j := 3) rfl, fun x dx nx ndx nex => ?_⟩
      exact ⟨H, x, dx, nm, d, tm, rfl, h1, h3, h2, nx, made_same nx ndx, upd_same, fun H' s' ka => ⟨rfl, kk _ _ s' ka⟩⟩
    | lift b t =>
      refine ⟨_, rfl, _, _, _, _, rfl, rfl, tt, atI_nat (j := 0) rfl, rfl, _, rfl, itF (sne (by decide +kernel)) ?_⟩
      refine ⟨_, rfl, _, _, _, _, rfl, rfl, tt, atI_nat (j := 0) rfl, rfl, _, rfl, itF (sne (by decide +kernel)) ?_⟩
      refine ⟨_, rfl, _, _, _, _, rfl, rfl, tt, atI_nat (j := 1) rfl, _, rfl, _, _, _, _, rfl, rfl, tt, atI_nat (j := 2) rfl, _, rfl, _, _, _, _, rfl, rfl, tt, atI_nat (j := 3) rfl, _, rfl, _, _, _, _, rfl, rfl, tt, atI_nat (j := 4) rfl, fun x dx nx ndx nex => ?_⟩
      exact ⟨H, x, dx, nm, b, t, tm, rfl, h1, h3.1, h3.2, h2, nx, made_same nx ndx, upd_same, fun H' s' ka => ⟨rfl, kk _ _ s' ka⟩⟩
/-- a class method, by its body -/
theorem cmN {m q : Str} {st : Stmt} {f : Addr} {N ps : List Str} {k : Nat} {sp : Sp} (F : FnP K m q st [] f) (S : FnScope N ps (defScope st)) (b : BindN m q st ps) (len : Len ps sp) (hb : Body P w K mg base k q st N f sp) : FnR P w K mg base C8.CX0 (k + 1) f sp := by
  obtain ⟨fd, F⟩ := F
  exact (FnOk.raw (fnok F S len hb) (F.bindsN b) .nil).imp fun vs H Q E h => by rw [List.append_nil]; exact h
theorem R_Kind_read (T : Txt P w K mg) : FnR P w K mg base C8.CX0 7 (He5.wf K (ga K "Kind") "classmethod" "read") (spKindRead K) := by
  have G_told_by := G_told_by (P := P) (w := w) (base := base) T
  have G_made_of := G_made_of (P := P) (w := w) (base := base) T
  refine cmN T.d_Kind_read sc_Kind_read (fun _ _ _ _ _ _ us hl => match us, hl with | [_, _], _ => rfl) (fun vs H Q E h => ?_) (fun cdv A outer s H vs Q E hr h => ?_)
  · obtain ⟨k, c, rfl, _⟩ := h
    rfl
  · obtain ⟨k, c, rfl, ok, kk⟩ := h
    refine ⟨_, (pss_cons (ps_set (i := 2) sc_Kind_read.nd rfl (Or.inl rfl) (pe_c G_told_by hr (by decide) (by rfl) (pa_cons (pv 1) pa_nil)))
      (pss_cons (ps_if (pt_cmpR op_isN (pv 2) pe_non (nomark _)) pss_never pss_nil)
      (pss_one (ps_try_thru0 (pss_one (ps_ret (pe_c G_made_of hr (by decide) (by rfl) (pa_cons (pv 2) pa_nil)))))))), ?_⟩
    refine ⟨_, rfl, k, rfl, ok, fun H1 p s1 hp => ?_⟩
    refine ⟨_, rfl, rfl, false, rfl, iteF ?_⟩
    exact ⟨_, rfl, k, p, rfl, ok, hp, fun H2 a s2 ka => kk _ _ (s1.trans s2) ka⟩
end
end Ts
set_option maxHeartbeats 4000000
namespace Ts
open PySem PySem.Spec PyProof.Rows L2 C8 He
/-! ### rules within a comprehension's block -/
section
variable {X : Cx} {K : PySem.W.Frag}
theorem pe_fldK {e : Expr} {f : Str} {pos : Pos} {ta : TE} (hK : X.K = K) (he : PE X e ta) (hb : attributeBase e f X.env (eval e X.env) = eval e X.env) : PE X (.Attribute e f pos) (tFld K ta f) := by
  subst hK
  exact pe_fld he hb
theorem call_isiK (hK : X.K = K) : CallR X (.builtin "isinstance") (rIsi K) := by
  subst hK
  exact call_isi
theorem ix_tupK (hK : X.K = K) : IxR X (rIxT K) := by
  subst hK
  exact ix_tup
theorem ix_listK (hK : X.K = K) : IxR X (rIxL K) := by
  subst hK
  exact ix_list
theorem pa_starK {e : Expr} {p : Pos} {es : List Expr} {te : TE} {t : TA} (hK : X.K = K) (he : PE X e te) (hr : PA X es t) (hs : starEach (.Starred e p :: es) X.env = (true, eval e X.env) :: starEach es X.env := by rfl) : PA X (.Starred e p :: es) (StX.tStar K te t) := by
  subst hK
  exact StX.pa_star he hr hs
theorem pg_tupK {es : List Expr} {pos : Pos} {k : Nat} {t : TGs} {n : Nat} (hK : X.K = K) (hc : X.calm = true) (h : PGs X es t)
    (hn : (assignEach es X.env).length = n := by rfl) (hst : (assignEach es X.env).findIdx? (·.1) = none := by rfl) : PG X (.Tuple es k pos) (gTup K n t) := by
  subst hK
  exact pg_tup hc h hn hst
end
/-! ### a dict comprehension over a walk -/
section
variable {J : It} {n : Nat} {G : Hp → Prop} {Y : Nat → Hp → V → Hp → Prop}
theorem dc_it (w : Walk J n G Y) {g : TG} {tt : TT} {tk tv : TE} {vs : List Nat} {σ : L2.St} {H1 : Hp} {D : Addr} {Qd : Hp → Prop} (Pv : Nat → Hp → Prop) (h0 : Pv 0 (upd H1 D (.dK []))) (hG : ∀ i H, i ≤ n → Pv i H → G H)
    (hs : ∀ i x H H', i < n → Pv i H → Y i H x H' → g x (wipe σ vs) H' fun σ2 H2 => wipe σ2 vs = wipe σ vs ∧ tt σ2 H2 fun b H3 =>
      if b = true then tk σ2 H3 fun y H4 => tv σ2 H4 fun z H5 => ∃ kvs k, y = kV k ∧ H5 D = some (.dK kvs) ∧ kvs.length < sizeLine ∧ Pv (i + 1) (upd H5 D (.dK (putK kvs k z))) else Pv (i + 1) H3) (hd : ∀ H, Pv n H → Qd H) :
    ∃ W : Nat → Nat → Hp → Prop, (∃ m, W 0 m (upd H1 D (.dK []))) ∧ ∀ i m H, W i m H →
      (J.stop i H ∧ Qd H) ∨ (J.go i H ∧ ∃ Nx : Hp → Prop, (∀ H', Nx H' → ∃ m', m' < m ∧ W (i + 1) m' H') ∧ ∀ x H', J.yld i H x H' → g x (wipe σ vs) H' fun σ2 H2 => wipe σ2 vs = wipe σ vs ∧ tt σ2 H2 fun b H3 =>
        if b = true then tk σ2 H3 fun y H4 => tv σ2 H4 fun z H5 => ∃ kvs k, y = kV k ∧ H5 D = some (.dK kvs) ∧ kvs.length < sizeLine ∧ Nx (upd H5 D (.dK (putK kvs k z))) else Nx H3) := by
  refine ⟨fun i m H => m = n - i ∧ i ≤ n ∧ Pv i H, ⟨n, by simp, Nat.zero_le _, h0⟩, ?_⟩
  rintro i m H ⟨rfl, hi, p⟩
  have q := hG i H hi p
  by_cases hlt : i < n
  · exact .inr ⟨w.goes i H hlt q, Pv (i + 1), fun H' p' => ⟨n - (i + 1), by omega, rfl, hlt, p'⟩, fun x H' y => hs i x H H' hlt p (w.yields i H x H' hlt q y)⟩
  · have e : i = n := by omega
    subst e
    exact .inl ⟨w.stops H q, hd H p⟩
end
theorem valV_none {κ : Type} [DecidableEq κ] {kvs : List (κ × V)} {k : κ} (h : k ∉ kvs.map (·.1)) : valV kvs k = none := by
  unfold valV
  have : (kvs.find? fun kv => decide (kv.1 = k)) = none := by
    rw [List.find?_eq_none]
    intro p hp e
    exact h (List.mem_map.mpr ⟨p, hp, of_decide_eq_true e⟩)
  rw [this]
  rfl
/-! ### kinds in a list -/
def KdsAt (K : PySem.W.Frag) (H : Hp) (xs : List V) (ks : List Kd) : Prop := xs.length = ks.length ∧ ∀ (i : Nat) (k : Kd), ks[i]? = some k → ∃ a, xs[i]? = some (.ref a) ∧ KdAt K H a k
theorem KdsAt.mono {K : PySem.W.Frag} {H H' : Hp} {xs : List V} {ks : List Kd} (s : SameI H H') (h : KdsAt K H xs ks) : KdsAt K H' xs ks := ⟨h.1, fun i k e => by
  obtain ⟨a, h1, h2⟩ := h.2 i k e
  exact ⟨a, h1, h2.mono s⟩⟩
theorem KdsAt.at_ {K : PySem.W.Frag} {H : Hp} {xs : List V} {ks : List Kd} (h : KdsAt K H xs ks) {i : Nat} {x : V} (e : xs[i]? = some x) : ∃ a k, x = .ref a ∧ ks[i]? = some k ∧ KdAt K H a k := by
  have hi : i < ks.length := by
    have := (List.getElem?_eq_some_iff.mp e).1
    rw [← h.1]
    exact this
  obtain ⟨a, h1, h2⟩ := h.2 i _ (List.getElem?_eq_getElem hi)
  rw [e] at h1
  exact ⟨a, _, Option.some.inj h1, List.getElem?_eq_getElem hi, h2⟩
def spAreRests (K : PySem.W.Frag) : Sp := fun vs H Q _ => ∃ (a : Addr) (l : List Int), vs = [.ref a] ∧ SqL K H a (l.map V.int) ∧ l.length ≤ 6 ∧ l.Nodup ∧ (∀ r ∈ l, 0 ≤ r ∧ r < 7) ∧ ∀ H', Same H H' → Q (.bl true) H'
def spAreKinds (K : PySem.W.Frag) : Sp := fun vs H Q _ => ∃ (a : Addr) (xs : List V) (ks : List Kd), vs = [.ref a] ∧ SqL K H a xs ∧ KdsAt K H xs ks ∧ ks.length ≤ 3 ∧ (ks.map (·.nm)).Nodup ∧ ∀ H', Same H H' → Q (.bl true) H'
section
variable {P : Program} {w : World} {K : PySem.W.Frag} {mg : Str → Option Value} {base : Heap}
theorem KdAt.nameF (T : Txt P w K mg) {H : Hp} {a : Addr} {k : Kd} (h : KdAt K H a k) : ∃ C dx fs, H a = some (.ins C dx fs) ∧ Cls K C ∧ NoAttr K C "name" ∧ fld fs "name" = some (.str k.nm) := by
  obtain ⟨dx, fs, e, h1, h2, h3⟩ := h
  obtain ⟨nm, tm, fm⟩ := k
  cases fm with
  | still d => exact ⟨_, dx, fs, e, T.c_Still, T.no_Still_name, h1⟩
  | anew d => exact ⟨_, dx, fs, e, T.c_Anew, T.no_Anew_name, h1⟩
  | lift b t => exact ⟨_, dx, fs, e, T.c_Lift, T.no_Lift_name, h1⟩
theorem KdAt.timesF (T : Txt P w K mg) {H : Hp} {a : Addr} {k : Kd} (h : KdAt K H a k) : ∃ C dx fs, H a = some (.ins C dx fs) ∧ Cls K C ∧ NoAttr K C "times" ∧ fld fs "times" = some (oV k.tm) := by
  obtain ⟨dx, fs, e, h1, h2, h3⟩ := h
  obtain ⟨nm, tm, fm⟩ := k
  cases fm with
  | still d => exact ⟨_, dx, fs, e, T.c_Still, T.no_Still_times, h2⟩
  | anew d => exact ⟨_, dx, fs, e, T.c_Anew, T.no_Anew_times, h2⟩
  | lift b t => exact ⟨_, dx, fs, e, T.c_Lift, T.no_Lift_times, h2⟩
theorem tyI {H : Hp} {a C dx : Addr} {fs : List (Str × V)} (c : C8.InsC K C) (e : H a = some (.ins C dx fs)) : TyX K H (.ref a) (.ref C) := .base (TyOf.ins e c.cl c.ha c.hn c.htk c.hm)
theorem KdAt.isKind (T : Txt P w K mg) {H : Hp} {a : Addr} {k : Kd} (h : KdAt K H a k) : ∃ C, TyX K H (.ref a) (.ref C) ∧ PySem.W.kitOne K (.ref C) (.ref (ga K "Kind")) = some true := by
  obtain ⟨dx, fs, e, h1, h2, h3⟩ := h
  obtain ⟨nm, tm, fm⟩ := k
  cases fm with
  | still d => exact ⟨_, tyI T.ic_Still e, T.is_Still_Kind⟩
  | anew d => exact ⟨_, tyI T.ic_Anew e, T.is_Anew_Kind⟩
  | lift b t => exact ⟨_, tyI T.ic_Lift e, T.is_Lift_Kind⟩
theorem all_true (n : Nat) : (List.replicate n true).all id = true := by simp
theorem map_true (n : Nat) : (List.range n).map (fun _ => V.bl true) = (List.replicate n true).map V.bl := by
  rw [List.map_replicate]
  simp [List.map_const']
theorem G_are_rests (T : Txt P w K mg) : Cal P w K mg base 2 "are_rests" (spAreRests K) [] := by
  have G_is_sequence := G_is_sequence (P := P) (w := w) (base := base) T
  have G_is_integer := G_is_integer (P := P) (w := w) (base := base) T
  refine calN T.d_are_rests T.g_are_rests sc_are_rests (fun _ _ _ _ _ _ us hl => match us, hl with | [_], _ => rfl) (fun vs H Q E h => ?_) (fun cdv A outer s H vs Q E hr h => ?_)
  · obtain ⟨a, l, rfl, _⟩ := h
    rfl
  · obtain ⟨a, l, rfl, hl, h6, hnd, h7, k⟩ := h
    refine ⟨_, (pss_cons (ps_if (PW.pt (pw_or (pt_not (pt_val (pe_c G_is_sequence hr (by decide) (by rfl) (pa_cons (pv 0) pa_nil)))) (pw_or1 (pt_cmpR op_gt (pe_callB call_len_seq (by rfl) T.b_len boot_len (pa_cons (pv 0) pa_nil)) (pe_gc (by rfl) (gcI T.i_MOST_RESTS)) (nomark _))))) (pss_one (ps_ret pe_bl)) pss_nil)
      (pss_cons (ps_if (pt_not (pt_val (pe_callB (cr_all rfl) (by rfl) T.b_all boot_all (pa_cons (pe_lc (own := [("one", 1)]) (by rfl) sc_are_rests.nd (pi_list (pv 0)) (blkOk_by (N := n_are_rests) (sc := defScope s_are_rests) (by decide +kernel)) (fun _ _ _ _ _ => (pg_name (i := 1) sc_are_rests.nd rfl (Or.inl rfl))) (fun _ _ _ _ _ => pts_nil) (fun _ _ _ _ _ => (pe_and (pe_c G_is_integer hr (by decide) (by rfl) (pa_cons (pv 1) pa_nil)) (pe_one (pe_chain op_le op_lt pe_int (pv 1) (pe_gc (by rfl) (gcI T.i_WEEK))))))) pa_nil)))) (pss_one (ps_ret pe_bl)) pss_nil)
      (pss_one (ps_ret (pe_cmpR op_eq (RZ.pe_lenSetI (by rfl) T.b_len (by rfl) T.b_set (pv 0)) (pe_callB call_len_seq (by rfl) T.b_len boot_len (pa_cons (pv 0) pa_nil)) (nomark _)))))), ?_⟩
    have ll : (l.map V.int).length = l.length := List.length_map ..
    refine ⟨_, rfl, a, _, rfl, .inl hl, fun H1 s1 => ⟨_, rfl, iteF ?_⟩⟩
    have hl1 := Same.seq s1 hl
    refine ⟨_, rfl, a, _, rfl, .inl hl1, _, _, rfl, rfl, _, rfl, ?_⟩
    refine itF (decide_eq_false (by show ¬ ((6 : Int) < (((l.map V.int).length : Nat) : Int)); rw [ll]; omega)) ?_
    refine ⟨_, rfl, a, rfl, ⟨_, hl1⟩, fun D hD => ?_⟩
    refine lc_fn (walk_list (K := K) (a := a) (xs := l.map V.int)) hD (fun H2 s => Same.seq s hl1) (by rw [ll]; omega) (fun _ => .bl true) ?_ ?_
    · rintro i v H2 H3 hi s3 ⟨rfl, hv⟩ k2 hk
      rw [List.getElem?_map] at hv
      obtain ⟨r, hr2, rfl⟩ := Option.map_eq_some_iff.mp hv
      obtain ⟨r0, r7⟩ := h7 r (List.mem_of_getElem? hr2)
      refine ⟨rfl, _, rfl, _, rfl, _, rfl, iteT ?_⟩
      refine ⟨_, rfl, _, _, rfl, rfl, _, rfl, itT (decide_eq_true r0) ⟨_, _, rfl, rfl, ?_⟩⟩
      have e7 : decide (r < 7) = true := decide_eq_true r7
      show k2 (.bl (decide (r < 7))) _
      rw [e7]
      exact hk _ (Same.refl _)
    · intro H2 s2 hy
      refine ⟨D, List.replicate l.length true, rfl, SqL.of (by rw [hy, map_true, ll]), ?_⟩
      rw [all_true]
      refine ⟨_, rfl, iteF ?_⟩
      have s02 := s1.trans s2
      have hl2 := Same.seq s02 hl
      refine ⟨_, rfl, a, l, rfl, hl2, hnd, by omega, _, rfl, a, _, rfl, .inl hl2, rfl, ?_⟩
      have e : decide (V.int (l.length : Int) = V.int ((l.map V.int).length : Nat)) = true := decide_eq_true (by rw [ll])
      rw [e]
      exact k _ s02
theorem G_are_kinds (T : Txt P w K mg) : Cal P w K mg base 2 "are_kinds" (spAreKinds K) [] := by
  have G_is_sequence := G_is_sequence (P := P) (w := w) (base := base) T
  refine calN T.d_are_kinds T.g_are_kinds sc_are_kinds (fun _ _ _ _ _ _ us hl => match us, hl with | [_], _ => rfl) (fun vs H Q E h => ?_) (fun cdv A outer s H vs Q E hr h => ?_)
  · obtain ⟨a, xs, ks, rfl, _⟩ := h
    rfl
  · obtain ⟨a, xs, ks, rfl, hl, hk0, h3, hnd, k⟩ := h
    refine ⟨_, (pss_cons (ps_if (PW.pt (pw_or (pt_not (pt_val (pe_c G_is_sequence hr (by decide) (by rfl) (pa_cons (pv 0) pa_nil)))) (pw_or1 (pt_not (pt_val (pe_callB (cr_all rfl) (by rfl) T.b_all boot_all (pa_cons (pe_lc (own := [("one", 1)]) (by rfl) sc_are_kinds.nd (pi_list (pv 0)) (blkOk_by (N := n_are_kinds) (sc := defScope s_are_kinds) (by decide +kernel)) (fun _ _ _ _ _ => (pg_name (i := 1) sc_are_kinds.nd rfl (Or.inl rfl))) (fun _ _ _ _ _ => pts_nil) (fun _ _ _ _ _ => (pe_callB (call_isiK (K := K) rfl) (by rfl) T.b_isinstance boot_isinstance (pa_cons (pv 1) (pa_cons (pe_glob (v := .ref (ga K "Kind")) (by rfl) T.g_Kind rfl) pa_nil))))) pa_nil))))))) (pss_one (ps_ret pe_bl)) pss_nil)
      (pss_one (ps_ret (pe_cmpR op_eq (pe_callB call_lenD (by rfl) T.b_len boot_len (pa_cons (pe_dc (own := [("one", 1)]) (by rfl) sc_are_kinds.nd (pi_list (pv 0)) (blkOk_by (N := n_are_kinds) (sc := defScope s_are_kinds) (by decide +kernel)) (fun _ _ _ _ _ => (pg_name (i := 1) sc_are_kinds.nd rfl (Or.inl rfl))) (fun _ _ _ _ _ => pts_nil) (fun _ _ _ _ _ => (pe_fldK (K := K) (by rfl) (pv 1) (by rfl))) (fun _ _ _ _ _ => pe_bl)) pa_nil)) (pe_callB call_len_seq (by rfl) T.b_len boot_len (pa_cons (pv 0) pa_nil)) (nomark _))))), ?_⟩
    have xl : xs.length ≤ 3 := by rw [hk0.1]; exact h3
    refine ⟨_, rfl, a, _, rfl, .inl hl, fun H1 s1 => ⟨_, rfl, iteF ?_⟩⟩
    have hl1 := Same.seq s1 hl
    refine ⟨_, rfl, a, rfl, ⟨_, hl1⟩, fun D hD => ?_⟩
    refine lc_fn (walk_list (K := K) (a := a) (xs := xs)) hD (fun H2 s => Same.seq s hl1) (by omega) (fun _ => .bl true) ?_ ?_
    · rintro i v H2 H3 hi s3 ⟨rfl, hv⟩ k2 hk
      obtain ⟨b, kd, rfl, hkd, hb⟩ := hk0.at_ hv
      obtain ⟨C, ty, kit⟩ := (hb.mono (SameI.of (s1.trans s3))).isKind T
      refine ⟨rfl, _, rfl, _, _, _, _, true, rfl, .own _, ty, kit, ?_⟩
      exact hk _ (Same.refl _)
    · intro H2 s2 hy
      refine ⟨D, List.replicate xs.length true, rfl, SqL.of (by rw [hy, map_true]), ?_⟩
      rw [all_true]
      refine ⟨_, rfl, iteF ?_⟩
      have s02 := s1.trans s2
      have hl2 := Same.seq s02 hl
      refine ⟨_, rfl, a, rfl, ⟨_, hl2⟩, fun D2 hD2 => ?_⟩
      refine dc_it (walk_list (K := K) (a := a) (xs := xs)) (fun i H => Same H2 H ∧ ∃ kvs, H D2 = some (.dK kvs) ∧ kvs.map (·.1) = (ks.take i).map fun k => Sum.inr k.nm) ⟨sm_new hD2, [], upd_same, by simp⟩ (fun i H _ p => Same.seq p.1 hl2) ?_ ?_
      · rintro i v H3 H4 hi ⟨s3, kvs, hv1, hv2⟩ ⟨rfl, hv⟩
        obtain ⟨b, kd, rfl, hkd, hb⟩ := hk0.at_ hv
        obtain ⟨C, dx, fs, h1, h2, h4, h5⟩ := (hb.mono (SameI.of (s02.trans s3))).nameF T
        have hlen : kvs.length ≤ i := by
          have := congrArg List.length hv2
          rw [List.length_map, List.length_map, List.length_take] at this
          omega
        have hnew : (Sum.inr kd.nm : Key) ∉ kvs.map (·.1) := by
          rw [hv2]
          intro hm
          obtain ⟨k', hk', e⟩ := List.mem_map.mp hm
          injection e with e
          obtain ⟨j, hj⟩ := List.getElem?_of_mem hk'
          rw [List.getElem?_take] at hj
          split at hj
          · rename_i hji
            have h1 : (ks.map (·.nm))[j]? = some kd.nm := by rw [List.getElem?_map, hj, ← e]; rfl
            have h2 : (ks.map (·.nm))[i]? = some kd.nm := by rw [List.getElem?_map, hkd]; rfl
            have := (List.getElem?_inj (by rw [List.length_map]; have := (List.getElem?_eq_some_iff.mp hkd).1; omega) hnd).mp (h1.trans h2.symm)
            omega
          · cases hj
        refine ⟨rfl, _, rfl, b, C, dx, fs, _, rfl, h1, h2, h4, h5, kvs, Sum.inr kd.nm, rfl, hv1, Nat.lt_of_le_of_lt hlen (Nat.lt_of_lt_of_le hi (Nat.le_trans xl (by decide))), sm_to s3 hD2, _, upd_same, ?_⟩
        have et : ks.take (i + 1) = ks.take i ++ [kd] := by rw [List.take_succ, hkd]; rfl
        rw [putK_new _ (valV_none hnew), List.map_append, hv2, et, List.map_append]
        rfl
      · rintro H3 ⟨s3, kvs, hv1, hv2⟩
        have s03 := s02.trans s3
        have hlen : kvs.length = xs.length := by
          have := congrArg List.length hv2
          rw [List.length_map, List.length_map, List.length_take] at this
          have := hk0.1
          omega
        refine ⟨D2, kvs, rfl, hv1, _, rfl, a, _, rfl, .inl (Same.seq s03 hl), rfl, ?_⟩
        have e : decide (V.int (kvs.length : Int) = V.int (xs.length : Nat)) = true := decide_eq_true (by rw [hlen])
        rw [e]
        exact k _ s03
end
end Ts
set_option maxHeartbeats 4000000
namespace Ts
open PySem PySem.Spec PyProof.Rows L2 C8 He
/-! ### the head's line -/
def hLine (R : Rl) : Str := Txt.join " " (rWords R)
def digB (n : Nat) : Bool := decide (nt n = (⟨#[48 + n]⟩ : Str)) && (decide ((48 + n) ∈ ("0123456789" : Str).cps.toList) && !decide (nt n = ("none" : Str)))
theorem digB_all : (List.range 7).all digB = true := by decide +kernel
theorem dig_ok {r : Int} (h : 0 ≤ r ∧ r < 7) : ∃ c, nt r = ⟨#[c]⟩ ∧ c ∈ ("0123456789" : Str).cps.toList ∧ c < 100 ∧ ¬ nt r = "none" := by
  obtain ⟨n, rfl⟩ : ∃ n : Nat, r = (n : Int) := ⟨r.toNat, by omega⟩
  obtain ⟨h1, h2⟩ := ba (List.all_eq_true.mp digB_all n (List.mem_range.mpr (by omega)))
  obtain ⟨h3, h4⟩ := ba h2
  exact ⟨_, of_decide_eq_true h1, of_decide_eq_true h3, by omega, by simpa using h4⟩
theorem cap_plain {o : Option Int} (h : ∀ i, o = some i → NumI i) : plainW (capT o) := by
  cases o with
  | none => exact plainB_ok (by decide +kernel)
  | some i => exact nt_plain (h i rfl)
theorem rest_plain {l : List Int} (h : ∀ r ∈ l, 0 ≤ r ∧ r < 7) : ∀ x ∈ restW l, plainW x := by
  intro x hx
  cases l with
  | nil =>
    simp only [restW, List.mem_singleton] at hx
    subst hx
    exact plainB_ok (by decide +kernel)
  | cons a r =>
    obtain ⟨i, hi, rfl⟩ := List.mem_map.mp hx
    have := h i hi
    exact numok_plain (num_ok this.1 (by omega))
theorem restW_len {R : Rl} (ok : RlOk R) : 1 ≤ (restW R.rests).length ∧ (restW R.rests).length ≤ 6 := by
  have := ok.rl
  cases e : R.rests with
  | nil => simp [restW]
  | cons a r =>
    rw [e] at this
    simp only [restW, List.length_map, List.length_cons] at this ⊢
    omega
theorem rWords_plain {R : Rl} (ok : RlOk R) : ∀ x ∈ rWords R, plainW x := by
  intro x hx
  unfold rWords at hx
  rw [List.mem_append, List.mem_append] at hx
  rcases hx with hx | hx | hx
  · simp only [List.mem_cons, List.not_mem_nil, or_false] at hx
    rcases hx with rfl | rfl | rfl
    · exact plainB_ok (by decide +kernel)
    · exact nt_plain ok.len
    · exact plainB_ok (by decide +kernel)
  · exact rest_plain ok.rest x hx
  · simp only [List.mem_cons, List.not_mem_nil, or_false] at hx
    rcases hx with rfl | rfl
    · exact plainB_ok (by decide +kernel)
    · exact cap_plain ok.cap
theorem rWords_len {R : Rl} (ok : RlOk R) : 6 ≤ (rWords R).length ∧ (rWords R).length ≤ 11 := by
  have := restW_len ok
  unfold rWords
  simp only [List.length_append, List.length_cons, List.length_nil]
  omega
theorem rWords_ne (R : Rl) : rWords R ≠ [] := by
  unfold rWords
  simp
theorem hLine_split {R : Rl} (ok : RlOk R) : Txt.split (hLine R) " " = rWords R := by
  unfold hLine
  rw [sp_eq]
  exact split_join 32 (by decide) _ (rWords_ne R) fun x hx hc => ((rWords_plain ok x hx).1 32 hc).1 rfl
theorem hLine_len {R : Rl} (ok : RlOk R) : (hLine R).length ≤ 66 := by
  unfold hLine
  rw [sp_eq]
  refine Nat.le_trans (join_len 32 _ 5 fun x hx => (rWords_plain ok x hx).2) ?_
  have := rWords_len ok
  omega
theorem cut3 (a b c d e : V) (l : List V) : cutV (a :: b :: c :: (l ++ [d, e])) (some 3) (some (-2)) = l := by
  have hl : (a :: b :: c :: (l ++ [d, e])).length = l.length + 5 := by simp
  have e1 : HT.sIx (a :: b :: c :: (l ++ [d, e])).length 0 (some 3) = 3 := by
    have := HT.sIx_nat (a :: b :: c :: (l ++ [d, e])).length 0 3
    rw [show ((3 : Nat) : Int) = 3 from rfl] at this
    rw [this, hl]
    omega
  have e2 : HT.sIx (a :: b :: c :: (l ++ [d, e])).length (a :: b :: c :: (l ++ [d, e])).length (some (-2)) = l.length + 3 := by
    have h := HT.clip_eq (-2) (a :: b :: c :: (l ++ [d, e])).length (a :: b :: c :: (l ++ [d, e])).length
    rw [if_pos (by decide)] at h
    rw [hl] at h ⊢
    have h2 : max ((-2 : Int) + ((l.length + 5 : Nat) : Int)) 0 = ((l.length + 3 : Nat) : Int) := by omega
    rw [h2] at h
    exact (Int.ofNat.inj h).symm
  unfold cutV
  rw [e1, e2]
  simp
theorem atI_last2 {α : Type} (xs : List α) (v u : α) : atI (xs ++ [v, u]) (-2) = some v := by
  have hl : (xs ++ [v, u]).length = xs.length + 2 := by simp
  have e : ixN (xs ++ [v, u]).length (-2) = some xs.length := by
    unfold ixN
    rw [if_neg (by decide), hl, if_pos (by omega)]
    congr 1
    omega
  unfold atI
  rw [e]
  simp
theorem dpS (K : PySem.W.Frag) (H : Hp) : ∀ l : List Str, DpAll K H (l.map V.str) (l.map PyData.str)
  | [] => .nil
  | x :: l => .cons (.str x) (dpS K H l)
theorem shS {l : List Str} (h : ∀ x ∈ l, PySem.PyData.strOk x = true) : SeqAt.shaped (.list (l.map PyData.str)) = true := by
  have h1 : ∀ l : List Str, (∀ x ∈ l, PySem.PyData.strOk x = true) → PyData.canLayAll0 (l.map PyData.str) = true := by
    intro l
    induction l with
    | nil => intro _; rfl
    | cons x l ih =>
      intro h
      show (PySem.PyData.strOk x && PyData.canLayAll0 (l.map PyData.str)) = true
      rw [h x List.mem_cons_self, ih fun y hy => h y (List.mem_cons_of_mem _ hy)]
      rfl
  have h2 : ∀ l : List Str, PyData.depthAll (l.map PyData.str) = 0 := by
    intro l
    induction l with
    | nil => rfl
    | cons x l ih =>
      show max 0 (PyData.depthAll (l.map PyData.str)) = 0
      rw [ih]
      rfl
  show (PyData.canLayAll0 (l.map PyData.str) && decide (PyData.depthAll (l.map PyData.str) + 1 ≤ 64)) = true
  rw [h1 l h, h2 l]
  rfl
theorem plain_strOk {x : Str} (h : ∀ c ∈ x.cps.toList, c < 200) : PySem.PyData.strOk x = true := by
  unfold PySem.PyData.strOk
  rw [← Array.all_toList, List.all_eq_true]
  intro c hc
  have := h c hc
  exact decide_eq_true (by omega)
theorem none_eq {l : List Int} (h : ∀ r ∈ l, 0 ≤ r ∧ r < 7) : PyData.eqv (.list ((restW l).map PyData.str)) (.list ([("none" : Str)].map PyData.str)) = decide (l = []) := by
  cases l with
  | nil =>
    show (("none" : Str) == "none" && true) = decide (([] : List Int) = [])
    decide +kernel
  | cons a r =>
    obtain ⟨c, _, _, _, hn⟩ := dig_ok (h a List.mem_cons_self)
    show (nt a == ("none" : Str) && _) = decide (a :: r = [])
    rw [beq_eq_false_iff_ne.mpr hn]
    simp
theorem neF {a b : Str} (h : a = b) : V.bl (!decide (V.str a = V.str b)) = V.bl false := by
  subst h
  simp
def spHeadIn : Sp := fun vs H Q _ => ∃ R : Rl, vs = [.str (hLine R)] ∧ RlOk R ∧ ∀ H' p l, Same H H' → H' p = some (.tup [.int R.len, .ref l, oV R.cap]) → H' l = some (.lst (R.rests.map V.int)) → Q (.ref p) H'
section
variable {P : Program} {w : World} {K : PySem.W.Frag} {mg : Str → Option Value} {base : Heap}
theorem G_head_in (T : Txt P w K mg) : Cal P w K mg base 2 "head_in" spHeadIn [] := by
  have G_number_in := G_number_in (P := P) (w := w) (base := base) T
  refine calN T.d_head_in T.g_head_in sc_head_in (fun _ _ _ _ _ _ us hl => match us, hl with | [_], _ => rfl) (fun vs H Q E h => ?_) (fun cdv A outer s H vs Q E hr h => ?_)
  · obtain ⟨R, rfl, _⟩ := h
    rfl
  · obtain ⟨R, rfl, ok, kk⟩ := h
    refine ⟨_, (pss_cons (ps_set (i := 1) sc_head_in.nd rfl (Or.inl rfl) (pe_split (pv 0) pe_str))
      (pss_cons (ps_if (PW.pt (pw_or (pt_cmpR op_lt (pe_callB call_len_seq (by rfl) T.b_len boot_len (pa_cons (pv 1) pa_nil)) pe_int (nomark _)) (pw_or (pt_cmpR op_ne (pe_ix ix_list (pv 1) pe_int (fun _ _ => rfl)) pe_str (nomark _)) (pw_or (pt_cmpR op_ne (pe_ix ix_list (pv 1) pe_int (fun _ _ => rfl)) pe_str (nomark _)) (pw_or1 (pt_cmpR op_ne (pe_ix ix_list (pv 1) (pe_un un_neg pe_int) (fun _ _ => rfl)) pe_str (nomark _))))))) (pss_one (ps_ret pe_non)) pss_nil)
      (pss_cons (ps_par (i := 2) (j := 3) (by rfl) sc_head_in.nd rfl rfl (by decide) rfl rfl (pa_cons (pe_c G_number_in hr (by decide) (by rfl) (pa_cons (pe_ix ix_list (pv 1) pe_int (fun _ _ => rfl)) pa_nil)) (pa_cons (pe_slice sl_list (pv 1) (po_some pe_int) (po_some (pe_un un_neg pe_int))) pa_nil)) (by rfl))
      (pss_cut (ps_set (i := 4) sc_head_in.nd rfl (Or.inl rfl) (pe_ifExp (pt_cmpR op_eq (pe_ix ix_list (pv 1) (pe_un un_neg pe_int) (fun _ _ => rfl)) pe_str (nomark _)) pe_non (pe_c G_number_in hr (by decide) (by rfl) (pa_cons (pe_ix ix_list (pv 1) (pe_un un_neg pe_int) (fun _ _ => rfl)) pa_nil))))
      (pss_cut (ps_if (PW.pt (pw_or (pt_cmpR op_isN (pv 2) pe_non (nomark _)) (pw_or1 (PW.pt (pw_and (pt_cmpR op_isN (pv 4) pe_non (nomark _)) (pw_and1 (pt_cmpR op_ne (pe_ix ix_list (pv 1) (pe_un un_neg pe_int) (fun _ _ => rfl)) pe_str (nomark _)))))))) (pss_one (ps_ret pe_non)) pss_nil)
      (pss_cons (ps_if (pt_cmpR (op_eqD hr.units) (pv 3) (pe_lst (pa_cons pe_str pa_nil)) (nomark _)) (pss_one (ps_ret (pe_tup (pa_cons (pv 2) (pa_cons (pe_lst pa_nil) (pa_cons (pv 4) pa_nil)))))) pss_nil)
      (pss_cons (ps_if (pt_not (pt_val (pe_callB (cr_all rfl) (by rfl) T.b_all boot_all (pa_cons (pe_lc (own := [("word", 5)]) (by rfl) sc_head_in.nd (pi_list (pv 3)) (blkOk_by (N := n_head_in) (sc := defScope s_head_in) (by decide +kernel)) (fun _ _ _ _ _ => (pg_name (i := 5) sc_head_in.nd rfl (Or.inl rfl))) (fun _ _ _ _ _ => pts_nil) (fun _ _ _ _ _ => (pe_and (pe_cmpR op_eq (pe_callB call_len_str (by rfl) T.b_len boot_len (pa_cons (pv 5) pa_nil)) pe_int (nomark _)) (pe_one (pe_cmpR op_in_sign (pv 5) (pe_gc (by rfl) (gcS T.t_SIGNS)) (by rfl)))))) pa_nil)))) (pss_one (ps_ret pe_non)) pss_nil)
      (pss_one (ps_ret (pe_tup (pa_cons (pv 2) (pa_cons (pe_lc (own := [("word", 5)]) (by rfl) sc_head_in.nd (pi_list (pv 3)) (blkOk_by (N := n_head_in) (sc := defScope s_head_in) (by decide +kernel)) (fun _ _ _ _ _ => (pg_name (i := 5) sc_head_in.nd rfl (Or.inl rfl))) (fun _ _ _ _ _ => pts_nil) (fun _ _ _ _ _ => (pe_callTy call_int_str (by rfl) T.b_int boot_int (pa_cons (pv 5) pa_nil)))) (pa_cons (pv 4) pa_nil))))))))))))), ?_⟩
    refine ⟨_, rfl, ⟨_, rfl⟩, _, _, rfl, rfl, rfl, ?_, fun q hq => ?_⟩
    · have := hLine_len ok
      exact Nat.le_trans (Nat.add_le_add_right this 2) (by decide)
    rw [hLine_split ok]
    have hw : (rWords R).map V.str = .str "term" :: .str (nt R.len) :: .str "rests" :: ((restW R.rests).map V.str ++ [.str "cap", .str (capT R.cap)]) := by unfold rWords; simp
    have hwl : ((rWords R).map V.str).length = (rWords R).length := List.length_map ..
    have h6 := (rWords_len ok).1
    have at0 : atI ((rWords R).map V.str) 0 = some (.str "term") := by rw [hw]; exact atI_nat (j := 0) rfl
    have at1 : atI ((rWords R).map V.str) 1 = some (.str (nt R.len)) := by rw [hw]; exact atI_nat (j := 1) rfl
    have at2 : atI ((rWords R).map V.str) 2 = some (.str "rests") := by rw [hw]; exact atI_nat (j := 2) rfl
    have atL : atI ((rWords R).map V.str) (-1) = some (.str (capT R.cap)) := by
      rw [hw, show (V.str "term" :: .str (nt R.len) :: .str "rests" :: ((restW R.rests).map V.str ++ [.str "cap", .str (capT R.cap)])) = (V.str "term" :: .str (nt R.len) :: .str "rests" :: ((restW R.rests).map V.str ++ [.str "cap"])) ++ [.str (capT R.cap)] by simp]
      exact atI_last _ _
    have atM : atI ((rWords R).map V.str) (-2) = some (.str "cap") := by
      rw [hw]
      exact atI_last2 (.str "term" :: .str (nt R.len) :: .str "rests" :: (restW R.rests).map V.str) _ _
    generalize hWs : (rWords R).map V.str = Ws at *
    have w0 : ∀ H', Same (upd H q (.lst Ws)) H' → SqL K H' q Ws := fun H' z => SqL.of (z _ _ upd_same)
    have hS : Same H (upd H q (.lst Ws)) := sm_new hq
    have w00 := w0 _ (Same.refl _)
    refine ⟨_, rfl, q, _, rfl, .inl w00, _, _, rfl, rfl, _, rfl, ?_⟩
    refine itF (decide_eq_false (by show ¬ ((Ws.length : Int) < 6); rw [hwl]; omega)) ?_
    refine ⟨_, rfl, _, _, _, _, rfl, rfl, w00, at0, rfl, false, neF rfl, iteF ?_⟩
    refine ⟨_, rfl, _, _, _, _, rfl, rfl, w00, at2, rfl, false, neF rfl, iteF ?_⟩
    refine ⟨_, rfl, _, rfl, _, _, _, _, rfl, rfl, w00, atM, rfl, false, neF rfl, iteF ?_⟩
    -- length, rests
    refine ⟨_, rfl, _, _, _, _, rfl, rfl, w00, at1, _, R.len, rfl, num_ok1 ok.len, fun H1 s1 => ?_⟩
    refine ⟨_, rfl, 3, rfl, ?_⟩
    refine ⟨_, rfl, _, rfl, q, Ws, rfl, w0 _ s1, fun z hz => ?_⟩
    have ecut : cutV Ws (some 3) (some (-2)) = (restW R.rests).map V.str := by rw [hw]; exact cut3 _ _ _ _ _ _
    have s2 : Same H1 (upd H1 z (.lst (cutV Ws (some 3) (some (-2))))) := sm_new hz
    refine ⟨_, _, rfl, ?_⟩
    have sA := s1.trans s2
    have zA : (upd H1 z (.lst (cutV Ws (some 3) (some (-2))))) z = some (.lst ((restW R.rests).map V.str)) := by rw [upd_same, ecut]
    -- cap
    have hcap : capT R.cap = "none" → R.cap = none := fun e => by
      cases hc : R.cap with
      | none => rfl
      | some i =>
        rw [hc] at e
        exact absurd e (nt_ne (ok.cap i hc) (by decide +kernel))
    refine ⟨fun σ' H' => σ' = [some (.str (hLine R)), some (.ref q), some (.int R.len), some (.ref z), some (oV R.cap), none] ∧ Same (upd H1 z (.lst (cutV Ws (some 3) (some (-2))))) H', ?_, ?_⟩
    · refine ⟨_, rfl, _, rfl, _, _, _, _, rfl, rfl, w0 _ sA, atL, rfl, _, rfl, ?_⟩
      cases hc : R.cap with
      | none => exact itT (decide_eq_true rfl) ⟨rfl, Same.refl _⟩
      | some i =>
        have ne : V.str (capT (some i)) ≠ V.str "none" := fun e => by
          injection e with e
          exact nt_ne (ok.cap i hc) (by decide +kernel) e
        rw [hc] at atL
        exact itF (decide_eq_false ne) ⟨_, rfl, _, rfl, _, _, _, _, rfl, rfl, w0 _ sA, atL, _, i, rfl, num_ok1 (ok.cap i hc), fun H3 s4 => ⟨rfl, s4⟩⟩
    rintro σ' H3 ⟨rfl, s3⟩
    have sB := sA.trans s3
    refine ⟨fun σ' H' => σ' = [some (.str (hLine R)), some (.ref q), some (.int R.len), some (.ref z), some (oV R.cap), none] ∧ H' = H3, ?_, ?_⟩
    · refine ⟨_, rfl, rfl, false, rfl, iteF ?_⟩
      cases hc : R.cap with
      | none =>
        rw [hc] at atL
        exact ⟨_, rfl, rfl, true, rfl, iteT ⟨_, rfl, _, rfl, _, _, _, _, rfl, rfl, w0 _ sB, atL, rfl, false, neF rfl, iteF ⟨rfl, rfl⟩⟩⟩
      | some i => exact ⟨_, rfl, rfl, false, rfl, iteF (iteF ⟨rfl, rfl⟩)⟩
    rintro σ' H' ⟨rfl, rfl⟩
    have zB : H' z = some (.lst ((restW R.rests).map V.str)) := s3 _ _ zA
    have sQ : Same H H' := hS.trans sB
    -- rests == ['none']
    refine ⟨_, rfl, Nat.le_of_ble_eq_true (by decide +kernel), fun p hp => ?_⟩
    have sp := sm_new (o := HO.lst [.str "none"]) hp
    have e1 : SqL K (upd H' p (.lst [.str "none"])) z ((restW R.rests).map V.str) := SqL.of (sp _ _ zB)
    have okS : ∀ x ∈ restW R.rests, PySem.PyData.strOk x = true := by
      intro x hx
      cases hR : R.rests with
      | nil =>
        rw [hR] at hx
        simp only [restW, List.mem_singleton] at hx
        subst hx
        decide +kernel
      | cons a r =>
        rw [hR] at hx
        obtain ⟨i, hi, rfl⟩ := List.mem_map.mp hx
        obtain ⟨c, ec, _, h100, _⟩ := dig_ok (ok.rest i (by rw [hR]; exact hi))
        rw [ec]
        refine plain_strOk fun d hd => ?_
        have : d = c := by simpa using hd
        omega
    refine ⟨_, _, .lst e1 (dpS K _ _), .lst (SqL.of upd_same) (dpS K _ [("none" : Str)]), shS okS, shS (by intro x hx; rw [List.mem_singleton] at hx; subst hx; decide +kernel), _, rfl, ?_⟩
    rw [none_eq ok.rest]
    by_cases hR : R.rests = []
    · refine itT (decide_eq_true hR) ?_
      refine ⟨_, rfl, Nat.zero_le _, fun l hl => ⟨_, rfl, Nat.le_of_ble_eq_true rfl, fun t ht => ?_⟩⟩
      refine kk _ t l (((sQ.trans sp).trans (sm_new hl)).trans (sm_new ht)) upd_same ?_
      rw [upd_ne (ne_of_none upd_same ht), upd_same, hR]
      rfl
    · refine itF (decide_eq_false hR) ?_
      have eR : restW R.rests = R.rests.map nt := by
        cases hr2 : R.rests with
        | nil => exact absurd hr2 hR
        | cons a r => rfl
      rw [eR] at e1
      have nl : ((R.rests.map nt).map V.str).length = R.rests.length := by simp
      have rl := ok.rl
      refine ⟨_, rfl, z, rfl, ⟨_, e1⟩, fun D hD => ?_⟩
      refine lc_fn (walk_list (K := K) (a := z) (xs := (R.rests.map nt).map V.str)) hD (fun H2 s => Same.seq s e1) (by rw [nl]; omega) (fun _ => .bl true) ?_ ?_
      · rintro i v H2 H3 hi s3 ⟨rfl, hv⟩ k2 hk
        rw [List.getElem?_map, List.getElem?_map] at hv
        obtain ⟨y, hy, rfl⟩ := Option.map_eq_some_iff.mp hv
        obtain ⟨r, hr2, rfl⟩ := Option.map_eq_some_iff.mp hy
        obtain ⟨c, ec, hc, _, _⟩ := dig_ok (ok.rest r (List.mem_of_getElem? hr2))
        have el : (nt r).length = 1 := by rw [ec]; rfl
        refine ⟨rfl, _, rfl, _, rfl, by rw [el]; decide, rfl, ?_⟩
        refine ⟨true, ?_, iteT ?_⟩
        · rw [el]
          rfl
        refine ⟨_, rfl, c, _, congrArg V.str ec, rfl, ?_⟩
        have e2 : decide (c ∈ ("0123456789" : Str).cps.toList) = true := decide_eq_true hc
        rw [e2]
        exact hk _ (Same.refl _)
      · intro H2 s2 hy
        refine ⟨D, List.replicate R.rests.length true, rfl, SqL.of (by rw [hy, map_true, nl]), ?_⟩
        rw [all_true]
        refine ⟨_, rfl, iteF ?_⟩
        have e12 := Same.seq s2 e1
        refine ⟨_, rfl, _, rfl, z, rfl, ⟨_, e12⟩, fun D2 hD2 => ?_⟩
        refine lc_fn (walk_list (K := K) (a := z) (xs := (R.rests.map nt).map V.str)) hD2 (fun H2 s => Same.seq s e12) (by rw [nl]; omega) (fun i => .int (R.rests.getD i 0)) ?_ ?_
        · rintro i v H3 H4 hi s3 ⟨rfl, hv⟩ k2 hk
          rw [List.getElem?_map, List.getElem?_map] at hv
          obtain ⟨y, hy, rfl⟩ := Option.map_eq_some_iff.mp hv
          obtain ⟨r, hr2, rfl⟩ := Option.map_eq_some_iff.mp hy
          have h7 := ok.rest r (List.mem_of_getElem? hr2)
          have nk := num_ok h7.1 (by omega)
          have eg : R.rests.getD i 0 = r := by simp [List.getD, hr2]
          rw [eg] at hk
          exact ⟨rfl, _, rfl, _, r, rfl, nk.val, Nat.le_trans nk.hi (by decide), hk _ (Same.refl _)⟩
        · intro H3 s3 hy3
          have ey : (List.range ((R.rests.map nt).map V.str).length).map (fun i => V.int (R.rests.getD i 0)) = R.rests.map V.int := by
            rw [nl]
            refine List.ext_getElem? fun i => ?_
            by_cases hi : i < R.rests.length
            · rw [List.getElem?_map, List.getElem?_range hi, List.getElem?_map, List.getElem?_eq_getElem hi]
              simp [List.getD, List.getElem?_eq_getElem hi]
            · rw [List.getElem?_eq_none (by simp; omega), List.getElem?_eq_none (by simp; omega)]
          rw [ey] at hy3
          refine ⟨_, rfl, Nat.le_of_ble_eq_true rfl, fun t ht => ?_⟩
          exact kk _ t D2 ((((sQ.trans sp).trans s2).trans s3).trans (sm_new ht)) upd_same (by rw [upd_ne (ne_of_none hy3 ht)]; exact hy3)
end
end Ts
set_option maxHeartbeats 4000000
namespace Ts
open PySem PySem.Spec PyProof.Rows L2 C8 He
theorem sorted_eq {l m : List Int} (p : l.Perm m) (hl : l.Pairwise (· ≤ ·)) (hm : m.Pairwise (· ≤ ·)) : l = m :=
  p.eq_of_pairwise (fun a b _ _ h1 h2 => Int.le_antisymm h1 h2) hl hm
theorem range_getD (l : List Int) : (List.range l.length).map (fun i => V.int (l.getD i 0)) = l.map V.int := by
  refine List.ext_getElem? fun i => ?_
  by_cases hi : i < l.length
  · rw [List.getElem?_map, List.getElem?_range hi, List.getElem?_map, List.getElem?_eq_getElem hi]
    simp [List.getD, List.getElem?_eq_getElem hi]
  · rw [List.getElem?_eq_none (by simp; omega), List.getElem?_eq_none (by simp; omega)]
def RuleAt (K : PySem.W.Frag) (H : Hp) (a : Addr) (R : Rl) : Prop := ∃ (dx : Addr) (fs : List (Str × V)) (t u : Addr) (xs : List V), H a = some (.ins (ga K "Rule") dx fs) ∧ fld fs "length" = some (.int R.len) ∧ fld fs "rests" = some (.ref t) ∧
  H t = some (.tup (R.rests.map V.int)) ∧ fld fs "cap" = some (oV R.cap) ∧ fld fs "kinds" = some (.ref u) ∧ H u = some (.tup xs) ∧ KdsAt K H xs R.kinds ∧ fld fs "work" = none
theorem RuleAt.mono {K : PySem.W.Frag} {H H' : Hp} {a : Addr} {R : Rl} (s : SameI H H') (h : RuleAt K H a R) : RuleAt K H' a R := by
  obtain ⟨dx, fs, t, u, xs, h1, h2, h3, h4, h5, h6, h7, h8, h9⟩ := h
  exact ⟨dx, fs, t, u, xs, s _ _ h1 rfl, h2, h3, s _ _ h4 rfl, h5, h6, s _ _ h7 rfl, h8.mono s, h9⟩
def spRule (K : PySem.W.Frag) : Sp := fun vs H Q _ => ∃ (H0 : Hp) (p dx rl kl : Addr) (R : Rl) (xs : List V), vs = [.ref p, .int R.len, .ref rl, oV R.cap, .ref kl] ∧ RlOk R ∧ H0 p = none ∧ Same H0 H ∧
  H p = some (.ins (ga K "Rule") dx []) ∧ SqL K H0 rl (R.rests.map V.int) ∧ SqL K H0 kl xs ∧ KdsAt K H0 xs R.kinds ∧ ∀ H', Same H0 H' → RuleAt K H' p R → Q .non H'
section
variable {P : Program} {w : World} {K : PySem.W.Frag} {mg : Str → Option Value} {base : Heap}
theorem M_Rule (T : Txt P w K mg) : Mak P w K mg base 3 "Rule" (ga K "Rule") (spRule K) [] := by
  have G_is_length := G_is_length (P := P) (w := w) (base := base) T
  have G_are_rests := G_are_rests (P := P) (w := w) (base := base) T
  have G_are_kinds := G_are_kinds (P := P) (w := w) (base := base) T
  have z : Mak P w K mg base 3 "Rule" (ga K "Rule") (spRule K) ([V.ref (dflAt ("Rule", some "__init__") 0 K), V.non, V.ref (dflAt ("Rule", some "__init__") 2 K)].drop 3) := makD 5 3 T.d_Rule_init (by simp) T.k_Rule T.g_Rule sc_Rule_init rfl
    (fun T kV doc pm an cdv ct us its h1 h2 => match us, its, h1, h2 with | [_, _, _, _, _], [_, _, _], _, _ => ⟨_, rfl, rfl⟩) (fun vs H Q E h => ?_) (fun cdv A outer s H vs Q E hr h => ?_)
  · exact z
  · obtain ⟨H0, p, dx, rl, kl, R, xs, rfl, _⟩ := h
    rfl
  · obtain ⟨H0, p, dx, rl, kl, R, xs, rfl, ok, n0, s0, hp, hrl, hkl, hks, k⟩ := h
    refine ⟨_, (pss_cons (ps_if (pt_not (pt_val (pe_c G_is_length hr (by decide) (by rfl) (pa_cons (pv 1) pa_nil)))) pss_never pss_nil)
      (pss_cons (ps_if (pt_not (pt_val (pe_c G_are_rests hr (by decide) (by rfl) (pa_cons (pv 2) pa_nil)))) pss_never pss_nil)
      (pss_cut (ps_if (PW.pt (pw_and (pt_cmpR op_notN (pv 3) pe_non (nomark _)) (pw_and1 (pt_not (pt_val (pe_c G_is_length hr (by decide) (by rfl) (pa_cons (pv 3) pa_nil))))))) pss_never pss_nil)
      (pss_cons (ps_if (pt_not (pt_val (pe_c G_are_kinds hr (by decide) (by rfl) (pa_cons (pv 4) pa_nil)))) pss_never pss_nil)
      (pss_cons (ps_fld (pv 0) (pv 1) rfl)
      (pss_cons (ps_fld (pv 0) (pe_callTy call_tuple_of (by rfl) T.b_tuple boot_tuple (pa_cons (pe_callB cr_sortedI (by rfl) T.b_sorted boot_sorted (pa_cons (pe_lc (own := [("one", 6)]) (by rfl) sc_Rule_init.nd (pi_list (pv 2)) (blkOk_by (N := n_Rule_init) (sc := defScope s_Rule_init) (by decide +kernel)) (fun _ _ _ _ _ => (pg_name (i := 6) sc_Rule_init.nd rfl (Or.inl rfl))) (fun _ _ _ _ _ => pts_nil) (fun _ _ _ _ _ => (pe_callTy call_int1 (by rfl) T.b_int boot_int (pa_cons (pv 6) pa_nil)))) pa_nil)) pa_nil)) rfl)
      (pss_cons (ps_fld (pv 0) (pv 3) rfl)
      (pss_cons (ps_fld (pv 0) (pe_callTy call_tuple_of (by rfl) T.b_tuple boot_tuple (pa_cons (pv 4) pa_nil)) rfl)
      (pss_one (ps_fld (pv 0) (pe_callTy call_tuple_of (by rfl) T.b_tuple boot_tuple (pa_cons (pe_lc (own := [("kind", 5)]) (by rfl) sc_Rule_init.nd (pi_list (pv 4)) (blkOk_by (N := n_Rule_init) (sc := defScope s_Rule_init) (by decide +kernel)) (fun _ _ _ _ _ => (pg_name (i := 5) sc_Rule_init.nd rfl (Or.inl rfl))) (fun _ _ _ _ _ => pts_nil) (fun _ _ _ _ _ => (pe_fldK (K := K) (by rfl) (pv 5) (by rfl)))) pa_nil)) rfl)))))))))), ?_⟩
    refine ⟨_, rfl, R.len, rfl, ⟨true, congrArg V.bl (decide_eq_true ok.len.1), iteF ?_⟩⟩
    refine ⟨_, rfl, rl, R.rests, rfl, Same.seq s0 hrl, ok.rl, ok.nd, ok.rest, fun H1 s1 => ⟨_, rfl, iteF ?_⟩⟩
    refine ⟨fun σ' H' => σ' = [some (.ref p), some (.int R.len), some (.ref rl), some (oV R.cap), some (.ref kl), none, none] ∧ H' = H1, ?_, ?_⟩
    · cases hc : R.cap with
      | none => exact ⟨_, rfl, rfl, false, rfl, iteF (iteF ⟨rfl, rfl⟩)⟩
      | some i => exact ⟨_, rfl, rfl, true, rfl, iteT ⟨_, rfl, i, rfl, ⟨true, congrArg V.bl (decide_eq_true (ok.cap i hc).1), iteF ⟨rfl, rfl⟩⟩⟩⟩
    rintro σ' H' ⟨rfl, rfl⟩
    have sA := s0.trans s1
    refine ⟨_, rfl, kl, xs, R.kinds, rfl, Same.seq sA hkl, hks.mono (SameI.of sA), ok.kl, ok.knd, fun H2 s2 => ⟨_, rfl, iteF ?_⟩⟩
    have sB := sA.trans s2
    have pB := s2 _ _ (s1 _ _ hp)
    have S1 := sm_to (o := .ins (ga K "Rule") dx (putF "length" (V.int R.len) [])) sB n0
    refine ⟨_, rfl, _, rfl, p, _, dx, [], rfl, pB, T.c_Rule, T.no_Rule_length, Nat.le_of_ble_eq_true rfl, ?_⟩
    -- rests
    have ll : (R.rests.map V.int).length = R.rests.length := List.length_map ..
    have rl6 := ok.rl
    refine ⟨_, rfl, rl, rfl, ⟨_, Same.seq S1 hrl⟩, fun D hD => ?_⟩
    refine lc_fn (walk_list (K := K) (a := rl) (xs := R.rests.map V.int)) hD (fun H3 s => Same.seq (S1.trans s) hrl) (by rw [ll]; omega) (fun i => .int (R.rests.getD i 0)) ?_ ?_
    · rintro i v H3 H4 hi s3 ⟨rfl, hv⟩ k2 hk
      rw [List.getElem?_map] at hv
      obtain ⟨r, hr2, rfl⟩ := Option.map_eq_some_iff.mp hv
      have eg : R.rests.getD i 0 = r := by simp [List.getD, hr2]
      rw [eg] at hk
      exact ⟨rfl, _, rfl, .inl ⟨r, rfl, hk _ (Same.refl _)⟩⟩
    intro H3 s3 hy3
    rw [ll, range_getD] at hy3
    refine ⟨D, R.rests, rfl, SqL.of hy3, fun ns' pS hperm hsort hpS => ?_⟩
    have ens := sorted_eq hperm hsort ok.srt
    subst ens
    refine ⟨pS, _, rfl, .inl ⟨SqL.of upd_same, fun t ht => ?_⟩⟩
    have p3 := s3 _ _ (upd_same (H := H2) (a := p) (o := HO.ins (ga K "Rule") dx (putF "length" (V.int R.len) [])))
    have s3t := (sm_new (o := HO.lst (R.rests.map V.int)) hpS).trans (sm_new (o := HO.tup (R.rests.map V.int)) ht)
    have p4 := s3t _ _ p3
    have S4 := (S1.trans s3).trans s3t
    generalize hH4 : upd (upd H3 pS (.lst (R.rests.map V.int))) t (.tup (R.rests.map V.int)) = H4 at *
    have t4 : H4 t = some (.tup (R.rests.map V.int)) := by rw [← hH4, upd_same]
    have tp : t ≠ p := fun e => by
      rw [e, p4] at t4
      cases t4
    refine ⟨_, rfl, p, _, dx, _, rfl, p4, T.c_Rule, T.no_Rule_rests, Nat.le_trans (Nat.succ_le_succ (putF_len (n := 0) (Nat.le_refl _))) (by decide), ?_⟩
    refine ⟨_, rfl, _, rfl, p, _, dx, _, rfl, upd_same, T.c_Rule, T.no_Rule_cap, Nat.le_trans (Nat.succ_le_succ (putF_len (putF_len (n := 0) (Nat.le_refl _)))) (by decide), ?_⟩
    -- kinds
    have S5 := sm_to (o := .ins (ga K "Rule") dx (putF "cap" (oV R.cap) (putF "rests" (V.ref t) (putF "length" (V.int R.len) [])))) (sm_to (o := .ins (ga K "Rule") dx (putF "rests" (V.ref t) (putF "length" (V.int R.len) []))) S4 n0) n0
    refine ⟨_, rfl, kl, xs, rfl, .inl ⟨Same.seq S5 hkl, fun u hu => ?_⟩⟩
    have pu := upd_same (H := upd H4 p (.ins (ga K "Rule") dx (putF "rests" (V.ref t) (putF "length" (V.int R.len) [])))) (a := p) (o := HO.ins (ga K "Rule") dx (putF "cap" (oV R.cap) (putF "rests" (V.ref t) (putF "length" (V.int R.len) []))))
    have up : u ≠ p := fun e => by
      rw [e, pu] at hu
      cases hu
    refine ⟨_, rfl, p, _, dx, _, rfl, (upd_ne up.symm).trans pu, T.c_Rule, T.no_Rule_kinds, Nat.le_trans (Nat.succ_le_succ (putF_len (putF_len (putF_len (n := 0) (Nat.le_refl _))))) (by decide), ?_⟩
    have S6 := sm_to (o := .ins (ga K "Rule") dx (putF "kinds" (V.ref u) (putF "cap" (oV R.cap) (putF "rests" (V.ref t) (putF "length" (V.int R.len) []))))) (S5.trans (sm_new (o := HO.tup xs) hu)) n0
    -- names
    refine ⟨_, rfl, kl, rfl, ⟨_, Same.seq S6 hkl⟩, fun D2 hD2 => ?_⟩
    have p6 := upd_same (H := upd (upd (upd H4 p (.ins (ga K "Rule") dx (putF "rests" (V.ref t) (putF "length" (V.int R.len) [])))) p (.ins (ga K "Rule") dx (putF "cap" (oV R.cap) (putF "rests" (V.ref t) (putF "length" (V.int R.len) []))))) u (.tup xs)) (a := p)
      (o := HO.ins (ga K "Rule") dx (putF "kinds" (V.ref u) (putF "cap" (oV R.cap) (putF "rests" (V.ref t) (putF "length" (V.int R.len) [])))))
    have u6 : (upd (upd (upd (upd H4 p (.ins (ga K "Rule") dx (putF "rests" (V.ref t) (putF "length" (V.int R.len) [])))) p (.ins (ga K "Rule") dx (putF "cap" (oV R.cap) (putF "rests" (V.ref t) (putF "length" (V.int R.len) []))))) u (.tup xs)) p
      (.ins (ga K "Rule") dx (putF "kinds" (V.ref u) (putF "cap" (oV R.cap) (putF "rests" (V.ref t) (putF "length" (V.int R.len) [])))))) u = some (.tup xs) := by rw [upd_ne up, upd_same]
    have tu : t ≠ u := fun e => by
      rw [← e, upd_ne tp, upd_ne tp, t4] at hu
      cases hu
    have t6 : (upd (upd (upd (upd H4 p (.ins (ga K "Rule") dx (putF "rests" (V.ref t) (putF "length" (V.int R.len) [])))) p (.ins (ga K "Rule") dx (putF "cap" (oV R.cap) (putF "rests" (V.ref t) (putF "length" (V.int R.len) []))))) u (.tup xs)) p
      (.ins (ga K "Rule") dx (putF "kinds" (V.ref u) (putF "cap" (oV R.cap) (putF "rests" (V.ref t) (putF "length" (V.int R.len) [])))))) t = some (.tup (R.rests.map V.int)) := by rw [upd_ne tp, upd_ne tu, upd_ne tp, upd_ne tp, t4]
    generalize upd (upd (upd (upd H4 p (.ins (ga K "Rule") dx (putF "rests" (V.ref t) (putF "length" (V.int R.len) [])))) p (.ins (ga K "Rule") dx (putF "cap" (oV R.cap) (putF "rests" (V.ref t) (putF "length" (V.int R.len) []))))) u (.tup xs)) p
      (.ins (ga K "Rule") dx (putF "kinds" (V.ref u) (putF "cap" (oV R.cap) (putF "rests" (V.ref t) (putF "length" (V.int R.len) []))))) = H6 at *
    have xl : xs.length ≤ 3 := by rw [hks.1]; exact ok.kl
    refine lc_map (walk_list (K := K) (a := kl) (xs := xs)) hD2 (fun H7 s => Same.seq (S6.trans s) hkl) (by omega) (fun _ _ _ => True) (fun _ _ _ _ _ h => h) ?_ ?_
    · rintro i v H7 H8 hi s7 ⟨rfl, hv⟩ k2 hk
      obtain ⟨b, kd, rfl, hkd, hb⟩ := hks.at_ hv
      obtain ⟨C, dy, fs, h1, h2, h4, h5⟩ := (hb.mono (SameI.of (S6.trans s7))).nameF T
      exact ⟨rfl, _, rfl, b, C, dy, fs, _, rfl, h1, h2, h4, h5, hk _ _ (Same.refl _) trivial⟩
    intro H7 ys s7 hy7 hyl _
    refine ⟨D2, ys, rfl, .inl ⟨SqL.of hy7, fun v hv => ?_⟩⟩
    have p7 := s7 _ _ p6
    refine ⟨_, rfl, p, _, dx, _, rfl, (upd_ne (ne_of_none p7 hv)).trans p7, T.c_Rule, T.no_Rule_names, Nat.le_trans (Nat.succ_le_succ (putF_len (putF_len (putF_len (putF_len (n := 0) (Nat.le_refl _)))))) (by decide), ?_⟩
    have S7 := (S6.trans s7).trans (sm_new (o := HO.tup ys) hv)
    have S8 := sm_to (o := .ins (ga K "Rule") dx (putF "names" (V.ref v) (putF "kinds" (V.ref u) (putF "cap" (oV R.cap) (putF "rests" (V.ref t) (putF "length" (V.int R.len) [])))))) S7 n0
    refine k _ S8 ⟨dx, _, t, u, xs, upd_same, ?_, ?_, ?_, ?_, ?_, ?_, hks.mono (SameI.of S8), ?_⟩
    · exact lkN (by decide +kernel) (lkN (by decide +kernel) (lkN (by decide +kernel) (lkN (by decide +kernel) lkE)))
    · exact lkN (by decide +kernel) (lkN (by decide +kernel) (lkN (by decide +kernel) lkE))
    · rw [upd_ne tp]
      exact sm_new hv _ _ (s7 _ _ t6)
    · exact lkN (by decide +kernel) (lkN (by decide +kernel) lkE)
    · exact lkN (by decide +kernel) lkE
    · rw [upd_ne up]
      exact sm_new hv _ _ (s7 _ _ u6)
    · exact lkN (by decide +kernel) (lkN (by decide +kernel) (lkN (by decide +kernel) (lkN (by decide +kernel) (lkN (by decide +kernel) rfl))))
end
end Ts
set_option maxHeartbeats 4000000
namespace Ts
open PySem PySem.Spec PyProof.Rows L2 C8 He
/-! ### a local that holds a class, called -/
def tMkL (i : Nat) (C : Addr) (sp : Sp) (dvs : List V) (E : XK) (t : TA) : TE := fun σ H Q => σ[i]? = some (some (.ref C)) ∧ tMake C sp dvs E t σ H Q
theorem pe_mkL {X : Cx} {k j i : Nat} {nm x : Str} {C : Addr} {sp : Sp} {dvs : List V} {p pos : Pos} {e : Expr} {es : List Expr} {t : TA} (c : Mak X.prog X.w X.K X.mg X.base k nm C sp dvs) (hr : Room j X.A) (hk : k + 1 ≤ j) (hN : X.N[i]? = some x) (hv : Loc X.env.scope x)
    (ha : PA X (e :: es) t) (hd : (x == ("__debug__" : Str)) = false := by decide) (hcd : (x == ("__classdict__" : Str)) = false := by decide)
    (he : starEach (e :: es) X.env = (false, eval e X.env) :: starEach es X.env := by rfl) (hpl : (backTo pos (starEach es X.env)).any (·.1) = false := by rfl) :
    PE X (.Call (.Name x p) (e :: es) [] pos) (tMkL i C sp dvs C8.E0 t) := by
  refine ⟨fun pins s σ H Q I h => ?_⟩
  obtain ⟨hs, ht⟩ := h
  obtain ⟨f, fd, ps, ds, M, F, hm, b, d⟩ := c.ex
  refine wpAny_Call_Name_kw (thn ((pe_var (pos := p) hN (hv.elim .inl fun z => .inr (.inl z)) hd hcd).run pins s σ H (fun v H1 => v = .ref C ∧ H1 = H) I ⟨.ref C, hs, rfl, rfl⟩) fun u s1 ⟨v, H1, I1, r1, q1⟩ => ?_)
  obtain ⟨rfl, rfl⟩ := q1
  cases r1
  refine PySem.W.callWith_K (h₀ := X.base) I.ok.mod.kin M.kp (thn (ha.run pos pins s1 σ _ _ I1 ht) fun us s2 ⟨vs, H2, I2, r, q⟩ => ⟨I2.kIn, ?_⟩) he hpl
  exact run_make M F (hr.mono hk) b d C8.pass0 I2 r q
/-! ### the text's lines -/
theorem plain_join {ws : List Str} (c : Nat) (hc : c = 32 ∨ c = 10) (h : ∀ x ∈ ws, plainW x) (h10 : c ≠ 10) : ∀ d ∈ (Txt.join (SX.S [c]) ws).cps.toList, d ≠ 10 := by
  have e : ws = (ws.map fun x => x.cps.toList).map SX.S := by
    rw [List.map_map]
    exact (List.map_id ws).symm.trans (List.map_congr_left fun x _ => (SX.S_tl x).symm)
  have z : (Txt.join (SX.S [c]) ws).cps.toList = TL.joinL [c] (ws.map fun x => x.cps.toList) := by
    conv => lhs; rw [e, SX.join_S]
  rw [z]
  have key : ∀ l : List (List Nat), (∀ x ∈ l, ∀ d ∈ x, d ≠ 10) → ∀ d ∈ TL.joinL [c] l, d ≠ 10 := by
    intro l
    induction l with
    | nil => intro _ d hd; simp [TL.joinL] at hd
    | cons x r ih =>
      intro hl d hd
      cases r with
      | nil =>
        have : TL.joinL [c] [x] = x := by simp [TL.joinL]
        rw [this] at hd
        exact hl x List.mem_cons_self d hd
      | cons y r =>
        have : TL.joinL [c] (x :: y :: r) = x ++ ([c] ++ TL.joinL [c] (y :: r)) := by simp [TL.joinL]
        rw [this, List.mem_append, List.mem_append] at hd
        rcases hd with hd | hd | hd
        · exact hl x List.mem_cons_self d hd
        · rw [List.mem_singleton] at hd
          rw [hd]
          exact h10
        · exact ih (fun z hz => hl z (List.mem_cons_of_mem _ hz)) d hd
  refine key _ fun x hx d hd => ?_
  obtain ⟨y, hy, rfl⟩ := List.mem_map.mp hx
  exact ((h y hy).1 d hd).2
def rLines (R : Rl) : List Str := hLine R :: R.kinds.map kLine
theorem rLines_no10 {R : Rl} (ok : RlOk R) : ∀ x ∈ rLines R, (10 : Nat) ∉ x.cps.toList := by
  intro x hx h10
  unfold rLines at hx
  rcases List.mem_cons.mp hx with rfl | hx
  · unfold hLine at h10
    rw [sp_eq] at h10
    exact plain_join 32 (.inl rfl) (rWords_plain ok) (by decide) 10 h10 rfl
  · obtain ⟨k, hk, rfl⟩ := List.mem_map.mp hx
    unfold kLine at h10
    rw [sp_eq] at h10
    exact plain_join 32 (.inl rfl) (kWords_plain (ok.kinds k hk)) (by decide) 10 h10 rfl
theorem rText_split {R : Rl} (ok : RlOk R) : Txt.split (rText R) "\n" = rLines R := by
  unfold rText
  rw [nl_eq]
  exact split_join 10 (by decide) (rLines R) (by simp [rLines]) (rLines_no10 ok)
theorem rText_len {R : Rl} (ok : RlOk R) : (rText R).length ≤ 300 := by
  unfold rText
  rw [nl_eq]
  refine Nat.le_trans (join_len 10 (rLines R) 66 fun x hx => ?_) ?_
  · unfold rLines at hx
    rcases List.mem_cons.mp hx with rfl | hx
    · exact hLine_len ok
    · obtain ⟨k, hk, rfl⟩ := List.mem_map.mp hx
      exact Nat.le_trans (kLine_len (ok.kinds k hk)) (by decide)
  · have := ok.kl
    simp only [rLines, List.length_cons, List.length_map]
    omega
theorem cut1 (a : V) (l : List V) : cutV (a :: l) (some 1) none = l := by
  have e1 : HT.sIx (a :: l).length 0 (some 1) = 1 := by
    have := HT.sIx_nat (a :: l).length 0 1
    rw [show ((1 : Nat) : Int) = 1 from rfl] at this
    rw [this, List.length_cons]
    omega
  unfold cutV
  rw [e1]
  simp [HT.sIx]
/-! ### work -/
def workF : Nat → Rl → Int → Int
  | 0, _, d => d
  | n + 1, R, d => if d % 7 ∈ R.rests then workF n R (d + 1) else d
def work (R : Rl) (d : Int) : Int := workF 7 R d
theorem workF_at (R : Rl) : ∀ (n k : Nat) (d : Int), k < n → (∀ i : Nat, i < k → (d + i) % 7 ∈ R.rests) → ¬ (d + k) % 7 ∈ R.rests → workF n R d = d + k
  | 0, _, _, h, _, _ => absurd h (Nat.not_lt_zero _)
  | n + 1, 0, d, _, _, hn => by
    have : ¬ d % 7 ∈ R.rests := by simpa using hn
    rw [workF, if_neg this]
    simp
  | n + 1, k + 1, d, h, hi, hn => by
    have h0 : d % 7 ∈ R.rests := by simpa using hi 0 (Nat.succ_pos _)
    rw [workF, if_pos h0, workF_at R n k (d + 1) (by omega) (fun i hik => by
      have := hi (i + 1) (by omega)
      rw [show d + 1 + (i : Int) = d + ((i + 1 : Nat) : Int) by omega]
      exact this) (by
      rw [show d + 1 + (k : Int) = d + ((k + 1 : Nat) : Int) by omega]
      exact hn)]
    omega
theorem sub_len : ∀ (m l : List Int), m.Nodup → (∀ x ∈ m, x ∈ l) → m.length ≤ l.length
  | [], _, _, _ => Nat.zero_le _
  | a :: m, l, hn, hs => by
    have ha := hs a List.mem_cons_self
    have hn' := List.nodup_cons.mp hn
    have := sub_len m (l.erase a) hn'.2 fun x hx => (List.mem_erase_of_ne (fun e => hn'.1 (by rw [← e]; exact hx))).mpr (hs x (List.mem_cons_of_mem _ hx))
    rw [List.length_erase_of_mem ha] at this
    have hp : 0 < l.length := List.length_pos_of_mem ha
    rw [List.length_cons]
    omega
theorem not_all {R : Rl} (ok : RlOk R) (d : Int) : ¬ ∀ i : Nat, i < 7 → (d + i) % 7 ∈ R.rests := fun h => by
  have : ([0, 1, 2, 3, 4, 5, 6] : List Int).length ≤ R.rests.length := sub_len _ _ (by decide) fun x hx => by
    have hx7 : 0 ≤ x ∧ x < 7 := by
      simp only [List.mem_cons, List.not_mem_nil, or_false] at hx
      omega
    have := h ((x - d) % 7).toNat (by omega)
    have e : (d + (((x - d) % 7).toNat : Int)) % 7 = x := by omega
    rw [e] at this
    exact this
  have h7 : 7 ≤ R.rests.length := this
  have := ok.rl
  omega
theorem inV_int (i : Int) (l : List Int) : inV (.int i) (l.map V.int) = decide (i ∈ l) := by
  unfold inV
  rw [List.any_map, Bool.eq_iff_iff, List.any_eq_true]
  simp only [decide_eq_true_eq, Function.comp]
  constructor
  · rintro ⟨x, hx, e⟩
    have : x = i := by
      simp [eqV] at e
      omega
    rw [← this]
    exact hx
  · intro hi
    exact ⟨i, hi, by simp [eqV]⟩
def spWork (K : PySem.W.Frag) : Sp := fun vs H Q _ => ∃ (a : Addr) (d : Int) (R : Rl), vs = [.ref a, .int d] ∧ RuleAt K H a R ∧ RlOk R ∧ Q (.int (work R d)) H
def spRuleRead (K : PySem.W.Frag) : Sp := fun vs H Q _ => ∃ R : Rl, vs = [.ref (ga K "Rule"), .str (rText R)] ∧ RlOk R ∧ ∀ H' a, Same H H' → RuleAt K H' a R → Q (.ref a) H'
section
variable {P : Program} {w : World} {K : PySem.W.Frag} {mg : Str → Option Value} {base : Heap}
theorem Me_work (T : Txt P w K mg) : Met P w K mg base 1 (ga K "Rule") "work" (spWork K) [] := by
  refine metN T.d_Rule_work T.c_Rule T.m_Rule_work sc_Rule_work (fun _ _ _ _ _ _ us hl => match us, hl with | [_, _], _ => rfl) (fun vs H Q E h => ?_) (fun cdv A outer s H vs Q E hr h => ?_)
  · obtain ⟨a, d, R, rfl, _⟩ := h
    rfl
  · obtain ⟨a, d, R, rfl, hR, ok, k⟩ := h
    obtain ⟨dx, fs, t, u, xs, h1, h2, h3, h4, h5, h6, h7, h8⟩ := hR
    refine ⟨_, (pss_cons (ps_while PassesOwn.never (pt_cmpR op_in_seq (pe_op op_mod (pv 1) (pe_gc (by rfl) (gcI T.i_WEEK))) (pe_fld (pv 0) (by rfl)) (by rfl)) (pss_one (ps_aug (i := 1) sc_Rule_work.nd rfl (Or.inl rfl) pe_int ip_add)))
      (pss_one (ps_ret (pv 1)))), ?_⟩
    refine ⟨fun m σ H' => H' = H ∧ ∃ j : Nat, m = 7 - j ∧ j < 7 ∧ σ = [some (.ref a), some (.int (d + j))] ∧ ∀ i : Nat, i < j → (d + i) % 7 ∈ R.rests, ⟨7, rfl, 0, rfl, by decide, by rw [show d + ((0 : Nat) : Int) = d by omega]; rfl, fun i hi => absurd hi (Nat.not_lt_zero _)⟩, ?_⟩
    rintro m σ H' ⟨rfl, j, rfl, hj, rfl, hi⟩
    refine ⟨_, rfl, _, _, rfl, rfl, (by show (0 : Int) < 7; decide), _, rfl, a, _, dx, fs, _, rfl, h1, T.c_Rule, T.no_Rule_rests, h3, t, _, rfl, .inr (SqT.of h4), rfl, flat_ints _, decide ((d + j) % 7 ∈ R.rests), congrArg V.bl (inV_int _ _), ?_⟩
    by_cases hm : (d + j) % 7 ∈ R.rests
    · refine itT (decide_eq_true hm) ⟨fun σ' H'' => H'' = H' ∧ σ' = [some (.ref a), some (.int (d + (j + 1 : Nat)))], ?_, ?_⟩
      · rintro σ' H'' ⟨rfl, rfl⟩
        have all : ∀ i : Nat, i < j + 1 → (d + i) % 7 ∈ R.rests := fun i hi2 => by
          by_cases e : i = j
          · rw [e]
            exact hm
          · exact hi i (by omega)
        have h7 : j + 1 < 7 := Nat.lt_of_not_le fun h => not_all ok d fun i hi2 => all i (by omega)
        exact ⟨7 - (j + 1), by omega, rfl, j + 1, rfl, h7, rfl, all⟩
      · refine ⟨_, rfl, ?_⟩
        exact ⟨_, _, rfl, rfl, rfl, by rw [show d + ((j + 1 : Nat) : Int) = d + j + 1 by omega]; rfl⟩
    · refine itF (decide_eq_false hm) ⟨_, rfl, ?_⟩
      have e := workF_at R 7 j d hj hi hm
      show Q (.int (d + j)) H'
      rw [← e]
      exact k
end
end Ts
set_option maxHeartbeats 4000000
namespace Ts
open PySem PySem.Spec PyProof.Rows L2 C8 He
section
variable {P : Program} {w : World} {K : PySem.W.Frag} {mg : Str → Option Value} {base : Heap}
theorem R_Rule_read (T : Txt P w K mg) : FnR P w K mg base C8.CX0 8 (He5.wf K (ga K "Rule") "classmethod" "read") (spRuleRead K) := by
  have G_head_in := G_head_in (P := P) (w := w) (base := base) T
  have R_Kind_read := R_Kind_read (P := P) (w := w) (base := base) T
  have M_Rule := M_Rule (P := P) (w := w) (base := base) T
  refine cmN T.d_Rule_read sc_Rule_read (fun _ _ _ _ _ _ us hl => match us, hl with | [_, _], _ => rfl) (fun vs H Q E h => ?_) (fun cdv A outer s H vs Q E hr h => ?_)
  · obtain ⟨R, rfl, _⟩ := h
    rfl
  · obtain ⟨R, rfl, ok, kk⟩ := h
    refine ⟨_, (pss_cons (ps_set (i := 2) sc_Rule_read.nd rfl (Or.inl rfl) (pe_split (pv 1) pe_str))
      (pss_cons (ps_set (i := 3) sc_Rule_read.nd rfl (Or.inl rfl) (pe_c G_head_in hr (by decide) (by rfl) (pa_cons (pe_ix ix_list (pv 2) pe_int (fun _ _ => rfl)) pa_nil)))
      (pss_cons (ps_if (pt_cmpR op_isN (pv 3) pe_non (nomark _)) pss_never pss_nil)
      (pss_cons (ps_set (i := 4) sc_Rule_read.nd rfl (Or.inl rfl) (pe_lst pa_nil))
      (pss_cons (ps_for PassesOwn.never rfl (pi_enum (by rfl) T.b_enumerate (pa_cons (pe_slice sl_list (pv 2) (po_some pe_int) po_none) pa_nil)) (pg_tup rfl (pgs_cons (pg_name (i := 5) sc_Rule_read.nd rfl (Or.inl rfl)) (pgs_cons (pg_name (i := 6) sc_Rule_read.nd rfl (Or.inl rfl)) pgs_nil))) (pss_one (ps_try_thru0 (pss_one (ps_expr (pe_bm PySem.F.plainAttrs_list PySem.F.slot_list_append PySem.F.type_list_append mt_append (pv 4) (pa_cons (ClX.pe_cmeth (E := C8.E0) (pe_glob (v := .ref (ga K "Kind")) (by rfl) T.g_Kind rfl) T.cr_Kind T.cm_Kind R_Kind_read (hr.mono (by decide)) C8.pass0 (pa_cons (pv 6) pa_nil)) pa_nil)))))))
      (pss_one (ps_ret (pe_mkL (i := 0) M_Rule hr (by decide) rfl (Or.inl rfl) (pa_cons (pe_ix ix_tup (pv 3) pe_int (fun _ _ => rfl)) (pa_cons (pe_ix ix_tup (pv 3) pe_int (fun _ _ => rfl)) (pa_cons (pe_ix ix_tup (pv 3) pe_int (fun _ _ => rfl)) (pa_cons (pv 4) pa_nil)))))))))))), ?_⟩
    refine ⟨_, rfl, ⟨_, rfl⟩, _, _, rfl, rfl, rfl, ?_, fun q hq => ?_⟩
    · have := rText_len ok
      exact Nat.le_trans (Nat.add_le_add_right this 2) (by decide)
    rw [rText_split ok]
    have hw : (rLines R).map V.str = .str (hLine R) :: (R.kinds.map kLine).map V.str := rfl
    generalize hWs : (rLines R).map V.str = Ws at *
    have hS : Same H (upd H q (.lst Ws)) := sm_new hq
    have q0 : (upd H q (.lst Ws)) q = some (.lst Ws) := upd_same
    generalize upd H q (.lst Ws) = H1 at *
    have at0 : atI Ws 0 = some (.str (hLine R)) := by rw [hw]; exact atI_nat (j := 0) rfl
    refine ⟨_, rfl, _, _, _, _, rfl, rfl, SqL.of q0, at0, R, rfl, ok, fun H2 hd rl s2 hhd hrl => ?_⟩
    refine ⟨_, rfl, rfl, false, rfl, iteF ?_⟩
    refine ⟨Nat.zero_le _, fun kl hkl => ?_⟩
    -- for
    refine ⟨_, rfl, 1, rfl, q, Ws, rfl, SqL.of (sm_new hkl _ _ (s2 _ _ q0)), fun z hz => ?_⟩
    have ecut : cutV Ws (some 1) none = (R.kinds.map kLine).map V.str := by rw [hw]; exact cut1 _ _
    refine ⟨z, (R.kinds.map kLine).map V.str, rfl, SqL.of (by rw [upd_same, ecut]), ?_⟩
    have nl : ((R.kinds.map kLine).map V.str).length = R.kinds.length := by simp
    have k3 := ok.kl
    have zk : z ≠ kl := fun e => by
      rw [e, upd_same] at hz
      cases hz
    refine for_it (walk_enum (K := K) (a := z) (xs := (R.kinds.map kLine).map V.str)) (fun i σ H' => Same H2 H' ∧ H' z = some (.lst ((R.kinds.map kLine).map V.str)) ∧ ∃ u v xs, σ = [some (.ref (ga K "Rule")), some (.str (rText R)), some (.ref q), some (.ref hd), some (.ref kl), u, v, none] ∧
      H' kl = some (.lst xs) ∧ KdsAt K H' xs (R.kinds.take i)) ⟨(sm_new hkl).trans (sm_new hz), by rw [upd_same, ecut], none, none, [], rfl, by rw [upd_ne zk.symm, upd_same], rfl, fun i k e => by simp at e⟩ (fun i σ H' _ p => SqL.of p.2.1) ?_ ?_
    · rintro i x σ H3 H4 hi ⟨s3, z3, u, v, xs, rfl, l3, ks3⟩ ⟨T', x1, y1, rfl, hT, rfl, hx1, hy1⟩
      cases hx1
      replace hy1 : ((R.kinds.map kLine).map V.str)[i]? = some y1 := hy1
      rw [List.getElem?_map, List.getElem?_map] at hy1
      obtain ⟨y, hy, rfl⟩ := Option.map_eq_some_iff.mp hy1
      obtain ⟨kd, hkd, rfl⟩ := Option.map_eq_some_iff.mp hy
      have okd := ok.kinds kd (List.mem_of_getElem? hkd)
      have sT := sm_new (o := HO.tup [V.int (i : Nat), .str (kLine kd)]) hT
      refine ⟨T', _, rfl, SqT.of upd_same, rfl, _, _, rfl, _, _, rfl, rfl, ?_⟩
      refine ⟨_, rfl, .inl ⟨rfl, _, SqL.of (sT _ _ l3)⟩, rfl, _, rfl, kd, _, rfl, okd, fun H5 a s5 ka => ?_⟩
      have l5 := s5 _ _ (sT _ _ l3)
      have s35 := sT.trans s5
      have xl : xs.length ≤ 3 := by rw [ks3.1, List.length_take]; omega
      refine ⟨kl, xs, _, rfl, rfl, l5, Nat.lt_of_le_of_lt xl (by decide), ?_⟩
      have sI : SameI H5 (upd H5 kl (.lst (xs ++ [.ref a]))) := SameI.lst l5
      have n2 : H2 kl = none := hkl
      refine ⟨sm_to (s3.trans s35) n2, by rw [upd_ne zk]; exact s35 _ _ z3, _, _, _, rfl, upd_same, ?_⟩
      have et : R.kinds.take (i + 1) = R.kinds.take i ++ [kd] := by rw [List.take_succ, hkd]; rfl
      rw [et]
      have k5 := ks3.mono ((SameI.of s35).trans sI)
      refine ⟨by simp [ks3.1], fun j k e => ?_⟩
      by_cases hj : j < (R.kinds.take i).length
      · rw [List.getElem?_append_left hj] at e
        obtain ⟨b, hb1, hb2⟩ := k5.2 j k e
        exact ⟨b, by rw [List.getElem?_append_left (by rw [ks3.1]; exact hj)]; exact hb1, hb2⟩
      · rw [List.getElem?_append_right (by omega)] at e
        have ej : j = (R.kinds.take i).length := by
          have := (List.getElem?_eq_some_iff.mp e).1
          simp at this
          simp
          simp at hj
          omega
        subst ej
        rw [Nat.sub_self] at e
        cases e
        refine ⟨a, ?_, ka.mono sI⟩
        rw [← ks3.1, List.getElem?_append_right (Nat.le_refl _), Nat.sub_self]
        rfl
    · rintro σ H3 ⟨s3, z3, u, v, xs, rfl, l3, ks3⟩
      rw [nl, List.take_length] at ks3
      have hd3 : SqT K H3 hd _ := SqT.of (s3 _ _ hhd)
      refine ⟨rfl, ?_⟩
      refine ⟨_, rfl, _, _, _, _, rfl, rfl, hd3, atI_nat (j := 0) rfl, _, rfl, _, _, _, _, rfl, rfl, hd3, atI_nat (j := 1) rfl, _, rfl, _, _, _, _, rfl, rfl, hd3, atI_nat (j := 2) rfl, _, rfl, fun x dx nx ndx nex => ?_⟩
      exact ⟨H3, x, dx, rl, kl, R, xs, rfl, ok, nx, made_same nx ndx, upd_same, SqL.of (s3 _ _ hrl), SqL.of l3, ks3, fun H' s' ra => ⟨rfl, kk _ _ (((hS.trans s2).trans s3).trans s') ra⟩⟩
end
end Ts
set_option maxHeartbeats 4000000
namespace Ts
open PySem PySem.Spec PyProof.Rows L2 C8 He
/-! ### enumerate over a tuple -/
theorem meets_enumT (t : Addr) (items : Array Value) :
    Meets (Builtin.«enumerate.__new__» ⟨[.type "enumerate", .ref t], []⟩) (fun _ R s => s.heap.IsTuple t items ∧
      R (.ok (.ret (.ref (s.heap.push { cls := .type "tuple_iterator", data := .fields #[.ref t, .int 0 0] }).objs.size)))
        { s with heap := (s.heap.push { cls := .type "tuple_iterator", data := .fields #[.ref t, .int 0 0] }).push { cls := .type "enumerate", data := .fields #[.none, .bool false, .ref s.heap.objs.size, rawInt 0, .none, .none] } }) :=
  .of_wp fun prog w A R s h => by
    obtain ⟨hp, g, d, tk, os⟩ := s; obtain ⟨h1, h⟩ := h
    have hsub := sub_enumerate
    have q1 : ∀ {A' : Around} {E : Value → Shared → Prop} {Q : Value → Shared → Prop}, Q (.ref hp.objs.size) ⟨hp.push { cls := .type "tuple_iterator", data := .fields #[.ref t, .int 0 0] }, g, d, tk, os⟩ → wpAny (model prog w) A' (pyIter (.ref t)) Q E ⟨hp, g, d, tk, os⟩ :=
      fun q => (begins_tuple t items).iter prog w _ _ ⟨hp, g, d, tk, os⟩ _ h1 q
    wp_walk using q1
    refine wpAny_stack_any fun st => wpAny_pure ?_
    split
    · rename_i c _ _ _ _ _
      cases (c == Value.type "enumerate")
      · wp_walk using q1
        exact ⟨_, rfl, h⟩
      · wp_walk using q1
        exact ⟨_, rfl, h⟩
    · wp_walk using q1
      exact ⟨_, rfl, h⟩
theorem call_enumT {prog : Program} {w : World} {A : Around} {E : Value → Shared → Prop} {s : Shared} {t : Addr} {items : Array Value} {Q : Value → Shared → Prop} (hL : s.heap.IsTuple t items)
    (h : ∀ h', IsEnum h' (s.heap.objs.size + 1) s.heap.objs.size 0 .none → h'.IsTupleIter s.heap.objs.size t 0 →
      (∀ b o, s.heap.get? b = some o → h'.get? b = some o) → Q (.ref (s.heap.objs.size + 1)) { s with heap := h' }) :
    wpAny (model prog w) A (call (.type "enumerate") [.ref t]) Q E s := by
  refine callType_new F.called_enumerate (by decide) (F.typeCall_enumerate_1 _) (F.newCall_enumerate_1 _) (fun obj => F.args_object_init_2 obj _) F.entry_enumerate_new
    (meets_enumT t items) ⟨hL, ?_⟩
  have hz : (s.heap.push { cls := .type "tuple_iterator", data := .fields #[.ref t, .int 0 0] }).objs.size = s.heap.objs.size + 1 := Heap.size_push ..
  show _ ∧ _
  rw [hz]
  have he : IsEnum ((s.heap.push { cls := .type "tuple_iterator", data := .fields #[.ref t, .int 0 0] }).push
      { cls := .type "enumerate", data := .fields #[.none, .bool false, .ref s.heap.objs.size, rawInt 0, .none, .none] }) (s.heap.objs.size + 1) s.heap.objs.size 0 .none := by
    have := Heap.get?_push_size (s.heap.push { cls := .type "tuple_iterator", data := .fields #[.ref t, .int 0 0] })
      (o := { cls := .type "enumerate", data := .fields #[.none, .bool false, .ref s.heap.objs.size, rawInt 0, .none, .none] }) rfl
    rw [hz] at this; exact this
  refine ⟨⟨_, he, rfl⟩, h _ he ⟨_, Heap.get?_push_of_some _ (Heap.get?_push_size _ rfl), rfl, rfl⟩ fun b o x => Heap.get?_push_of_some _ (Heap.get?_push_of_some _ x)⟩
/-- the tuple at a, each item in a new pair -/
def IteT (K : PySem.W.Frag) (a : Addr) : It :=
  ⟨fun i H => ∃ (xs : List V) (x : V), SqT K H a xs ∧ xs[i]? = some x, fun i H v H' => ∃ T x, v = .ref T ∧ H T = none ∧ H' = upd H T (.tup [.int (i : Nat), x]) ∧ ∀ xs, SqT K H a xs → xs[i]? = some x, fun i H => ∃ xs : List V, SqT K H a xs ∧ xs.length = i⟩
theorem ap_iter {h : Heap} {a it : Addr} {i : Nat} {its : Array Value} (h1 : h.IsTuple a its) (h2 : h.IsTupleIter it a i) : a ≠ it := fun e => by
  subst e
  obtain ⟨o, e1, c1, _⟩ := h1
  obtain ⟨o2, e2, c2, _⟩ := h2
  rw [e1] at e2
  cases e2
  rw [c1] at c2
  exact absurd c2 (by decide)
theorem turn_enumT {P : Program} {w : World} {K : PySem.W.Frag} {elts : List Expr} {kk : Nat} {tpos : Pos} (a e it : Addr) :
    Turn P w K (.Tuple elts kk tpos) (IteT K a) [e, it] e (fun i h => (∃ old, IsEnum h e it ((i : Nat) : Int) old) ∧ h.IsTupleIter it a i ∧ e ≠ it) where
  mem := by simp
  obj := fun i h st b hb => by
    obtain ⟨⟨old, he⟩, ⟨o, ho, hc, hd⟩, _⟩ := st
    have e' : b = e ∨ b = it := by simpa using hb
    rcases e' with z | z
    · rw [z]; exact ⟨_, he, fun v q => nomatch q⟩
    · rw [z]; exact ⟨o, ho, fun v q => by rw [hd] at q; cases q⟩
  keep := fun i h h' st k => let ⟨⟨old, he⟩, hi, hne⟩ := st; ⟨⟨old, k e (by simp) _ he⟩, hi.at fun o q => k it (by simp) o q, hne⟩
  item := by
    intro X hP hw hK hc i pins s σ H E I hf st hg
    subst hP hw hK
    obtain ⟨⟨old, he⟩, hit, hne⟩ := st
    obtain ⟨xs, x, hq, hx⟩ := hg
    obtain ⟨its, rv, p, hz⟩ := I.tuple hq
    obtain ⟨u, hu, ru⟩ := rv.get hx
    have hel : e < s.heap.objs.size := Heap.lt_size he
    have hil : it < s.heap.objs.size := by obtain ⟨_, q, _⟩ := hit; exact Heap.lt_size q
    have pt : s.heap.IsTuple a its.toArray := p
    have hne2 := ap_iter pt hit
    have hlt : i < its.toArray.size := by
      rw [List.size_toArray, ← rv.length]
      exact (List.getElem?_eq_some_iff.mp hx).1
    by_cases hea : e = a
    · subst hea
      obtain ⟨o, e1, c1, _⟩ := pt
      have he1 : s.heap.get? e = _ := he
      rw [e1] at he1
      injection he1 with he2
      rw [he2] at c1
      exact absurd (Value.type.inj c1) (by decide)
    refine wpAny_pyNext_enum_itemD (Draws.tuple (show (X.A.in1).handled = none from I.ok.hd hc) it a hne2 its.toArray) he ⟨hit, pt⟩ hlt hne (by simp [hne, hea]) fun x2 h' tk hx2 ho hs2 hT hsz hk => ?_
    obtain ⟨hit', pt'⟩ := hs2
    have ex2 : x2 = u := by
      have h1 : its.toArray[i]? = some u := by simpa using hu
      exact Option.some.inj (hx2.symm.trans h1)
    subst ex2
    refine ⟨_, rfl, wpAny_letOwnedTupleGo_enum (s := { s with heap := h', toks := tk + 1 }) ho fun h'' he' sb => ?_⟩
    have hT2 : h''.get? s.heap.objs.size = some { cls := .type "tuple", data := .seq #[.int i tk, x2] } := (sb.2 _ (Nat.ne_of_gt hel)).trans hT
    have new : ObjOk X.prog X.w (upd H s.heap.objs.size (.tup [.int (i : Nat), x])) h'' s.heap.objs.size (.tup [.int (i : Nat), x]) :=
      ⟨by show 2 ≤ sizeLine; decide, [.int i tk, x2], .cons ⟨_, rfl⟩ (.cons ru .nil), ⟨_, hT2, rfl, _, rfl⟩⟩
    have I1 : Inv X pins σ (upd H s.heap.objs.size (.tup [.int (i : Nat), x])) { s with heap := h'', toks := tk + 1 } :=
      I.turnedNew (ch := [e, it]) (fun b ob hb q => (sb.2 b (fun z => hb (by simp [z]))).trans (hk b ob (fun z => hb (by simp [z])) (fun z => hb (by simp [z])) q)) hf (Nat.le_refl _) new
    refine ⟨.ref s.heap.objs.size, _, I1, rfl, ⟨_, x, rfl, I.hok.fresh (Nat.le_refl _), rfl, fun ys hy => by rw [I.tuple_inj hy hq]; exact hx⟩, ⟨⟨x2, ?_⟩, hit'.at fun o q => (sb.2 it (Ne.symm hne)).trans q, hne⟩, fun b hb => ?_⟩
    · have e1 : ((i + 1 : Nat) : Int) = (i : Int) + 1 := by omega
      rw [e1]; exact he'
    · have hb' : b < s.heap.objs.size := by
        have e' : b = e ∨ b = it := by simpa using hb
        rcases e' with z | z
        · rw [z]; exact hel
        · rw [z]; exact hil
      rw [upd_ne (Nat.ne_of_lt hb')]
      exact (hf b hb).1
  done := by
    intro X hP hw hK hc i pins s σ H E I hf st hg
    subst hP hw hK
    obtain ⟨⟨old, he⟩, hit, hne⟩ := st
    obtain ⟨xs, hq, hx⟩ := hg
    obtain ⟨its, rv, p, hz⟩ := I.tuple hq
    have pt : s.heap.IsTuple a its.toArray := p
    obtain ⟨f0, f1, f2, f3, f4, f5⟩ := hf it (by simp)
    have hl := rv.length
    have hsz : its.toArray.size = i := by rw [List.size_toArray, ← hl, hx]
    subst hsz
    exact wpAny_pyNext_enum_endD (Draws.tuple (show (X.A.in1).handled = none from I.ok.hd hc) it a (ap_iter pt hit) its.toArray) he ⟨hit, pt⟩ fun h' eb => ⟨rfl, I.turned (t' := s.toks) (fun b o hb q => eb b o hb q) f0 f1 f3 f4 f5⟩
  self := fun A i s Q E st h => let ⟨⟨_, he⟩, _⟩ := st; wpAny_pyIter_enum he h
def iEnumT (K : PySem.W.Frag) (ta : TA) : TI := fun σ H R => ta σ H fun vs H1 => ∃ a xs, vs = [.ref a] ∧ SqT K H1 a xs ∧ R (IteT K a) H1
theorem pi_enumT {X : Cx} {e : Expr} {ta : TA} {p pos tpos : Pos} {elts : List Expr} {kk : Nat} (hg : Gl X "enumerate") (hm : X.mg "enumerate" = none) (ha : PA X [e] ta) (hs : starEach [e] X.env = [(false, eval e X.env)] := by rfl) :
    PI X (.Tuple elts kk tpos) (.Call (.Name "enumerate" p) [e] [] pos) (iEnumT X.K ta) := by
  refine ⟨fun pins s σ H R I h => ?_⟩
  refine Call_ (ld_blt I hg hm boot_enumerate (PyProof.Rows.callWith_type1 (thn (ha.run pos pins s σ H _ I h) fun us s1 ⟨vs, H1, I1, r1, q1⟩ => ?_) hs rfl))
  obtain ⟨a, xs, ex, hq, q⟩ := q1
  subst ex
  cases r1 with
  | cons r rr =>
    cases rr
    cases r
    obtain ⟨its, rv, p', hz⟩ := I1.tuple hq
    refine call_enumT (show s1.heap.IsTuple a its.toArray from p') fun h' he hit hk => wpAny_pyIter_enum he ?_
    have I2 : Inv X pins σ H1 { s1 with heap := h' } := I1.kept (t' := s1.toks) hk
    refine ⟨s1.heap.objs.size + 1, [s1.heap.objs.size + 1, s1.heap.objs.size], _, _, H1, rfl, I2, turn_enumT a (s1.heap.objs.size + 1) s1.heap.objs.size, ⟨⟨.none, he⟩, hit, Nat.succ_ne_self _⟩, fun b hb => ?_, q⟩
    have e' : b = s1.heap.objs.size + 1 ∨ b = s1.heap.objs.size := by simpa using hb
    have hle : s1.heap.objs.size ≤ b := by
      rcases e' with z | z
      · rw [z]; exact Nat.le_add_right _ _
      · rw [z]; exact Nat.le_refl _
    exact I1.fpOk hle (I1.hok.fresh hle)
theorem walk_enumT {K : PySem.W.Frag} {a : Addr} {xs : List V} : Walk (IteT K a) xs.length (fun H => SqT K H a xs) (YPair (fun i => some (.int (i : Nat))) (fun i => xs[i]?)) := by
  refine ⟨fun i _ hi q => ⟨xs, xs[i], q, by simp [hi]⟩, fun _ q => ⟨xs, q, rfl⟩, fun i H v H' _ q y => ?_⟩
  obtain ⟨T, x, h1, h2, h3, h4⟩ := y
  exact ⟨T, .int (i : Nat), x, h1, h2, h3, rfl, h4 xs q⟩
end Ts
set_option maxHeartbeats 4000000
namespace Ts
open PySem PySem.Spec PyProof.Rows L2 C8 He
/-! ### a field as a target -/
def gFld (K : PySem.W.Frag) (ta : TE) (f : Str) : TG := fun v σ H Q => ta σ H fun x H1 => ∃ a C dx fs, x = .ref a ∧ H1 a = some (.ins C dx fs) ∧ Cls K C ∧ NoAttr K C f ∧ fs.length < 1000 ∧ Q σ (upd H1 a (.ins C dx (putF f v fs)))
theorem pg_fld {X : Cx} {o : Expr} {f : Str} {pos : Pos} {ta : TE} (ho : PE X o ta) : PG X (.Attribute o f pos) (gFld X.K ta f) := by
  refine ⟨fun pins s σ H v u Q I r h => ?_⟩
  rw [assign_Attribute]
  refine wpAny_bind (wpAny_holding (thn (ho.run pins s σ H _ I h) fun ov s1 ⟨x, H1, I1, r1, a, C, dx, fs, ex, ea, c, n, l, q⟩ => ?_))
  subst ex
  obtain rfl : ov = Value.ref a := r1
  refine wpAny_bind (wpAny_standAt (wpAny_bind (wpAny_holding (setattr_ok I1 ea c n l r fun s2 I2 => ?_))))
  exact wpAny_release ⟨σ, _, I2, q⟩
theorem putF_same {f : Str} {v x : V} : ∀ {fs : List (Str × V)}, fs.lookup f = some x → (putF f v fs).length = fs.length
  | [], h => by cases h
  | (g, y) :: r, h => by
    rw [putF]
    by_cases e : g = f
    · rw [if_pos e]
      rfl
    · rw [if_neg e, List.length_cons, List.length_cons, putF_same (fs := r) (x := x) ?_]
      rw [List.lookup_cons] at h
      have : (f == g) = false := by simpa using Ne.symm e
      rw [this] at h
      exact h
/-! ### the course, plainly -/
structure Oc where
  b : Int
  nm : Str
  m : Int
structure Cs where
  today : Int
  rest : Int
  going : Int
  used : Str → Int
  heard : List Int
  n : Nat
def imin (i j : Int) : Int := if j < i then j else i
def imax (i j : Int) : Int := if j > i then j else i
def afterM (k : Kd) (left going many : Int) : Int × Int := match k.fm with
  | .still d => (left, imax going (imin many d))
  | .anew l => (imax left l, going)
  | .lift b t => (imax left (imin (left + b) t), going)
def goneM (left going many : Int) : Int × Int := (imax 0 (left - (many - imin going many)), going - imin going many)
def endBy (R : Rl) (today left going : Int) : Int := match R.cap with
  | none => work R (today + going + imax 1 left - 1)
  | some c => imin (work R (today + going + imax 1 left - 1)) (c - 1)
def endC (R : Rl) (c : Cs) : Int := endBy R c.today c.rest c.going
def goC (c : Cs) (later : Int) : Cs := { c with rest := (goneM c.rest c.going (later - c.today)).1, going := (goneM c.rest c.going (later - c.today)).2, today := later }
def someK (R : Rl) (x : Str) : List Kd := R.kinds.filter fun k => decide (k.nm = x)
def hearK (k : Kd) (c : Cs) (x : Str) (m : Int) : Cs :=
  { c with rest := (afterM k c.rest c.going m).1, going := (afterM k c.rest c.going m).2, used := fun y => if y = x then c.used x + 1 else c.used y, n := c.n + 1 }
def outK (k : Kd) (c : Cs) (x : Str) : Bool := match k.tm with
  | none => false
  | some t => decide (t ≤ c.used x)
def hearC (R : Rl) (c : Cs) (x : Str) (m : Int) : Cs × Bool := match someK R x with
  | [] => (c, false)
  | k :: _ => if outK k c x = true then (c, false) else (hearK k c x m, true)
def noteC (c : Cs) (at_ : Int) : Cs := { c with heard := c.heard ++ [at_] }
def takeC (R : Rl) : Cs → Nat → List Oc → Cs
  | c, _, [] => c
  | c, i, o :: os => if endC R c < o.b then c else
    if (hearC R (goC c o.b) o.nm o.m).2 = true then takeC R (noteC (hearC R (goC c o.b) o.nm o.m).1 i) (i + 1) os else takeC R (hearC R (goC c o.b) o.nm o.m).1 (i + 1) os
def initC (R : Rl) : Cs := ⟨0, R.len, 0, fun _ => 0, [], 0⟩
def courseC (R : Rl) (os : List Oc) : Cs := takeC R (initC R) 0 os
def lapseM (R : Rl) (os : List Oc) : Int := endC R (courseC R os)
/-! ### as objects -/
def ocV (o : Oc) : List V := [.int o.b, .str o.nm, .int o.m]
def OcsAt (H : Hp) (xs : List V) (os : List Oc) : Prop := xs.length = os.length ∧ ∀ (i : Nat) (o : Oc), os[i]? = some o → ∃ p, xs[i]? = some (.ref p) ∧ H p = some (.tup (ocV o))
theorem OcsAt.mono {H H' : Hp} {xs : List V} {os : List Oc} (s : SameI H H') (h : OcsAt H xs os) : OcsAt H' xs os := ⟨h.1, fun i o e => by
  obtain ⟨p, h1, h2⟩ := h.2 i o e
  exact ⟨p, h1, s _ _ h2 rfl⟩⟩
theorem OcsAt.at_ {H : Hp} {xs : List V} {os : List Oc} (h : OcsAt H xs os) {i : Nat} {x : V} (e : xs[i]? = some x) : ∃ p o, x = .ref p ∧ os[i]? = some o ∧ H p = some (.tup (ocV o)) := by
  have hi : i < os.length := by
    have := (List.getElem?_eq_some_iff.mp e).1
    rw [← h.1]
    exact this
  obtain ⟨a, h1, h2⟩ := h.2 i _ (List.getElem?_eq_getElem hi)
  rw [e] at h1
  exact ⟨a, _, Option.some.inj h1, List.getElem?_eq_getElem hi, h2⟩
def StoryAt (K : PySem.W.Frag) (H : Hp) (a : Addr) (os : List Oc) : Prop := ∃ (dx : Addr) (fs : List (Str × V)) (t : Addr) (xs : List V), H a = some (.ins (ga K "Story") dx fs) ∧ fld fs "occasions" = some (.ref t) ∧ SqT K H t xs ∧ OcsAt H xs os ∧ fld fs "further" = none
theorem StoryAt.mono {K : PySem.W.Frag} {H H' : Hp} {a : Addr} {os : List Oc} (s : SameI H H') (h : StoryAt K H a os) : StoryAt K H' a os := by
  obtain ⟨dx, fs, t, xs, h1, h2, h3, h4, h5⟩ := h
  exact ⟨dx, fs, t, xs, s _ _ h1 rfl, h2, s.seqT h3, h4.mono s, h5⟩
theorem noF {m f : Str} {l : List Str} (h : m ∈ l) (hf : f ∉ l) : ¬ m = f := fun e => hf (by rw [← e]; exact h)
structure CAt (K : PySem.W.Frag) (H0 H : Hp) (p ra : Addr) (c : Cs) (dx d l : Addr) (fs : List (Str × V)) (kvs : List (Key × V)) : Prop where
  same : Same H0 H
  p0 : H0 p = none
  d0 : H0 d = none
  l0 : H0 l = none
  ins : H p = some (.ins (ga K "Course") dx fs)
  len : fs.length ≤ 6
  plan : fld fs "plan" = some (.ref ra)
  today : fld fs "today" = some (.int c.today)
  rest : fld fs "rest" = some (.int c.rest)
  going : fld fs "going" = some (.int c.going)
  used : fld fs "used" = some (.ref d)
  heard : fld fs "heard" = some (.ref l)
  dict : H d = some (.dK kvs)
  get : ∀ x, (valV kvs (Sum.inr x)).getD (.int 0) = .int (c.used x)
  dlen : kvs.length ≤ c.n
  list : H l = some (.lst (c.heard.map V.int))
  hlen : c.heard.length ≤ c.n
  no : ∀ m, m ∈ (["end", "go_to", "hear", "take"] : List Str) → fld fs m = none
def CourseAt (K : PySem.W.Frag) (H0 H : Hp) (p ra : Addr) (c : Cs) : Prop := ∃ dx d l fs kvs, CAt K H0 H p ra c dx d l fs kvs
section
variable {K : PySem.W.Frag} {H0 H H' : Hp} {p ra dx d l : Addr} {c : Cs} {fs : List (Str × V)} {kvs : List (Key × V)}
theorem CAt.mono (h : CAt K H0 H p ra c dx d l fs kvs) (s : Same H H') : CAt K H0 H' p ra c dx d l fs kvs :=
  { h with same := h.same.trans s, ins := s _ _ h.ins, dict := s _ _ h.dict, list := s _ _ h.list }
theorem CAt.pd (h : CAt K H0 H p ra c dx d l fs kvs) : d ≠ p := fun e => by
  have := h.dict
  rw [e, h.ins] at this
  cases this
theorem CAt.pl (h : CAt K H0 H p ra c dx d l fs kvs) : l ≠ p := fun e => by
  have := h.list
  rw [e, h.ins] at this
  cases this
theorem CAt.ld (h : CAt K H0 H p ra c dx d l fs kvs) : l ≠ d := fun e => by
  have := h.list
  rw [e, h.dict] at this
  cases this
theorem CAt.setRest (h : CAt K H0 H p ra c dx d l fs kvs) (i : Int) : CAt K H0 (upd H p (.ins (ga K "Course") dx (putF "rest" (.int i) fs))) p ra { c with rest := i } dx d l (putF "rest" (.int i) fs) kvs :=
  { h with same := sm_to h.same h.p0, ins := upd_same, len := by rw [putF_same h.rest]; exact h.len, plan := lkN (by decide +kernel) h.plan, today := lkN (by decide +kernel) h.today, rest := lkE, going := lkN (by decide +kernel) h.going,
           used := lkN (by decide +kernel) h.used, heard := lkN (by decide +kernel) h.heard, dict := by rw [upd_ne h.pd]; exact h.dict, list := by rw [upd_ne h.pl]; exact h.list,
           no := fun m hm => lkN (noF hm (by decide +kernel)) (h.no m hm) }  
theorem CAt.setGoing (h : CAt K H0 H p ra c dx d l fs kvs) (i : Int) : CAt K H0 (upd H p (.ins (ga K "Course") dx (putF "going" (.int i) fs))) p ra { c with going := i } dx d l (putF "going" (.int i) fs) kvs :=
  { h with same := sm_to h.same h.p0, ins := upd_same, len := by rw [putF_same h.going]; exact h.len, plan := lkN (by decide +kernel) h.plan, today := lkN (by decide +kernel) h.today, rest := lkN (by decide +kernel) h.rest, going := lkE,
           used := lkN (by decide +kernel) h.used, heard := lkN (by decide +kernel) h.heard, dict := by rw [upd_ne h.pd]; exact h.dict, list := by rw [upd_ne h.pl]; exact h.list,
           no := fun m hm => lkN (noF hm (by decide +kernel)) (h.no m hm) }  
theorem CAt.setToday (h : CAt K H0 H p ra c dx d l fs kvs) (i : Int) : CAt K H0 (upd H p (.ins (ga K "Course") dx (putF "today" (.int i) fs))) p ra { c with today := i } dx d l (putF "today" (.int i) fs) kvs :=
  { h with same := sm_to h.same h.p0, ins := upd_same, len := by rw [putF_same h.today]; exact h.len, plan := lkN (by decide +kernel) h.plan, today := lkE, rest := lkN (by decide +kernel) h.rest, going := lkN (by decide +kernel) h.going,
           used := lkN (by decide +kernel) h.used, heard := lkN (by decide +kernel) h.heard, dict := by rw [upd_ne h.pd]; exact h.dict, list := by rw [upd_ne h.pl]; exact h.list,
           no := fun m hm => lkN (noF hm (by decide +kernel)) (h.no m hm) }  
theorem CAt.putUsed (h : CAt K H0 H p ra c dx d l fs kvs) (x : Str) : CAt K H0 (upd H d (.dK (putK kvs (Sum.inr x) (.int (c.used x + 1))))) p ra { c with used := fun y => if y = x then c.used x + 1 else c.used y, n := c.n + 1 } dx d l fs (putK kvs (Sum.inr x) (.int (c.used x + 1))) :=
  { h with same := sm_to h.same h.d0, ins := by rw [upd_ne h.pd.symm]; exact h.ins, dict := upd_same, list := by rw [upd_ne h.ld]; exact h.list, hlen := Nat.le_succ_of_le h.hlen,
           dlen := Nat.le_trans (length_putK _ _ _) (Nat.succ_le_succ h.dlen), get := fun y => by
             rw [valV_put]
             by_cases e : y = x
             · rw [if_pos (by rw [e])]
               show V.int (c.used x + 1) = V.int (if y = x then c.used x + 1 else c.used y)
               rw [if_pos e]
             · rw [if_neg (fun z => e (Sum.inr.inj z)), h.get y]
               show V.int (c.used y) = V.int (if y = x then c.used x + 1 else c.used y)
               rw [if_neg e] }
end
/-! ### promises -/
def spAfter (K : PySem.W.Frag) : Sp := fun vs H Q _ => ∃ (a : Addr) (k : Kd) (left going many : Int), vs = [.ref a, .int left, .int going, .int many] ∧ KdAt K H a k ∧
  ∀ H' p, Same H H' → H' p = some (.tup [.int (afterM k left going many).1, .int (afterM k left going many).2]) → Q (.ref p) H'
def spGone : Sp := fun vs H Q _ => ∃ (left going many : Int), vs = [.int left, .int going, .int many] ∧
  ∀ H' p, Same H H' → H' p = some (.tup [.int (goneM left going many).1, .int (goneM left going many).2]) → Q (.ref p) H'
def spEndBy (K : PySem.W.Frag) : Sp := fun vs H Q _ => ∃ (ra : Addr) (R : Rl) (today left going : Int), vs = [.ref ra, .int today, .int left, .int going] ∧ RuleAt K H ra R ∧ RlOk R ∧ Q (.int (endBy R today left going)) H
def spCEnd (K : PySem.W.Frag) : Sp := fun vs H Q _ => ∃ (p ra : Addr) (H0 : Hp) (R : Rl) (c : Cs), vs = [.ref p] ∧ CourseAt K H0 H p ra c ∧ RuleAt K H0 ra R ∧ RlOk R ∧ Q (.int (endC R c)) H
def spCGo (K : PySem.W.Frag) : Sp := fun vs H Q _ => ∃ (p ra : Addr) (H0 : Hp) (c : Cs) (later : Int), vs = [.ref p, .int later] ∧ CourseAt K H0 H p ra c ∧ ∀ H', CourseAt K H0 H' p ra (goC c later) → Q .non H'
def spCHear (K : PySem.W.Frag) : Sp := fun vs H Q _ => ∃ (p ra : Addr) (H0 : Hp) (R : Rl) (c : Cs) (x : Str) (m : Int), vs = [.ref p, .str x, .int m] ∧ CourseAt K H0 H p ra c ∧ RuleAt K H0 ra R ∧ RlOk R ∧ c.n ≤ 1000 ∧
  ∀ H', CourseAt K H0 H' p ra (hearC R c x m).1 → Q (.bl (hearC R c x m).2) H'
def spCTake (K : PySem.W.Frag) : Sp := fun vs H Q _ => ∃ (p ra sa : Addr) (H0 : Hp) (R : Rl) (c : Cs) (os : List Oc), vs = [.ref p, .ref sa] ∧ CourseAt K H0 H p ra c ∧ RuleAt K H0 ra R ∧ RlOk R ∧ StoryAt K H0 sa os ∧ c.n + os.length ≤ 1000 ∧
  ∀ H', CourseAt K H0 H' p ra (takeC R c 0 os) → Q .non H'
def spCourse (K : PySem.W.Frag) : Sp := fun vs H Q _ => ∃ (p ra dx : Addr) (H0 : Hp) (R : Rl), vs = [.ref p, .ref ra] ∧ H0 p = none ∧ Same H0 H ∧ H p = some (.ins (ga K "Course") dx []) ∧ RuleAt K H0 ra R ∧ ∀ H', CourseAt K H0 H' p ra (initC R) → Q .non H'
def spCourseOf (K : PySem.W.Frag) : Sp := fun vs H Q _ => ∃ (ra sa : Addr) (R : Rl) (os : List Oc), vs = [.ref ra, .ref sa] ∧ RuleAt K H ra R ∧ RlOk R ∧ StoryAt K H sa os ∧ os.length ≤ 1000 ∧ ∀ H' p, CourseAt K H H' p ra (courseC R os) → Q (.ref p) H'
def spLapse (K : PySem.W.Frag) : Sp := fun vs H Q _ => ∃ (ra sa : Addr) (R : Rl) (os : List Oc), vs = [.ref ra, .ref sa] ∧ RuleAt K H ra R ∧ RlOk R ∧ StoryAt K H sa os ∧ os.length ≤ 1000 ∧ ∀ H', Same H H' → Q (.int (lapseM R os)) H'
def spCounted (K : PySem.W.Frag) : Sp := fun vs H Q _ => ∃ (ra sa : Addr) (R : Rl) (os : List Oc), vs = [.ref ra, .ref sa] ∧ RuleAt K H ra R ∧ RlOk R ∧ StoryAt K H sa os ∧ os.length ≤ 1000 ∧
  ∀ H' t (ns : List Int), Same H H' → H' t = some (.tup (ns.map V.int)) → Q (.ref t) H'
section
variable {P : Program} {w : World} {K : PySem.W.Frag} {mg : Str → Option Value} {base : Heap}
theorem KdAt.is (T : Txt P w K mg) {H : Hp} {a : Addr} {k : Kd} (h : KdAt K H a k) : ∃ C, TyX K H (.ref a) (.ref C) ∧ (PySem.W.kitOne K (.ref C) (.ref (ga K "Still")) = some (match k.fm with | .still _ => true | _ => false)) ∧
    (PySem.W.kitOne K (.ref C) (.ref (ga K "Anew")) = some (match k.fm with | .anew _ => true | _ => false)) := by
  obtain ⟨dx, fs, e, h1, h2, h3⟩ := h
  obtain ⟨nm, tm, fm⟩ := k
  cases fm with
  | still d => exact ⟨_, tyI T.ic_Still e, T.is_Still_Still, T.is_Still_Anew⟩
  | anew d => exact ⟨_, tyI T.ic_Anew e, T.is_Anew_Still, T.is_Anew_Anew⟩
  | lift b t => exact ⟨_, tyI T.ic_Lift e, T.is_Lift_Still, T.is_Lift_Anew⟩
theorem G_after (T : Txt P w K mg) : Cal P w K mg base 1 "after" (spAfter K) [] := by
  refine calN T.d_after T.g_after sc_after (fun _ _ _ _ _ _ us hl => match us, hl with | [_, _, _, _], _ => rfl) (fun vs H Q E h => ?_) (fun cdv A outer s H vs Q E hr h => ?_)
  · obtain ⟨a, k, l, g, m, rfl, _⟩ := h
    rfl
  · obtain ⟨a, k, l, g, m, rfl, hk, kk⟩ := h
    refine ⟨_, (pss_cons (ps_if (pt_val (pe_callB call_isi (by rfl) T.b_isinstance boot_isinstance (pa_cons (pv 0) (pa_cons (pe_glob (v := .ref (ga K "Still")) (by rfl) T.g_Still rfl) pa_nil)))) (pss_one (ps_ret (pe_tup (pa_cons (pv 1) (pa_cons (pe_callB (call_max2 rfl) (by rfl) T.b_max boot_max (pa_cons (pv 2) (pa_cons (pe_callB (call_min2 rfl) (by rfl) T.b_min boot_min (pa_cons (pe_callTy call_int1 (by rfl) T.b_int boot_int (pa_cons (pv 3) pa_nil)) (pa_cons (pe_callTy call_int1 (by rfl) T.b_int boot_int (pa_cons (pe_fld (pv 0) (by rfl)) pa_nil)) pa_nil))) pa_nil))) pa_nil))))) pss_nil)
      (pss_cons (ps_if (pt_val (pe_callB call_isi (by rfl) T.b_isinstance boot_isinstance (pa_cons (pv 0) (pa_cons (pe_glob (v := .ref (ga K "Anew")) (by rfl) T.g_Anew rfl) pa_nil)))) (pss_one (ps_ret (pe_tup (pa_cons (pe_callB (call_max2 rfl) (by rfl) T.b_max boot_max (pa_cons (pv 1) (pa_cons (pe_fld (pv 0) (by rfl)) pa_nil))) (pa_cons (pv 2) pa_nil))))) pss_nil)
      (pss_one (ps_ret (pe_tup (pa_cons (pe_callB (call_max2 rfl) (by rfl) T.b_max boot_max (pa_cons (pv 1) (pa_cons (pe_callB (call_min2 rfl) (by rfl) T.b_min boot_min (pa_cons (pe_callTy call_int1 (by rfl) T.b_int boot_int (pa_cons (pe_op op_add (pv 1) (pe_fld (pv 0) (by rfl))) pa_nil)) (pa_cons (pe_callTy call_int1 (by rfl) T.b_int boot_int (pa_cons (pe_fld (pv 0) (by rfl)) pa_nil)) pa_nil))) pa_nil))) (pa_cons (pv 2) pa_nil))))))), ?_⟩
    obtain ⟨C, ty, k1, k2⟩ := hk.is T
    obtain ⟨dx, fs, e, h1, h2, h3⟩ := hk
    obtain ⟨nm, tm, fm⟩ := k
    have two : ∀ u v : V, ([u, v] : List V).length ≤ sizeLine := fun u v => Nat.le_of_ble_eq_true rfl
    cases fm with
    | still d =>
      refine ⟨_, rfl, _, _, _, _, true, rfl, .own _, ty, k1, _, rfl, iteT ?_⟩
      exact ⟨_, rfl, _, rfl, _, rfl, .inl ⟨m, rfl, _, rfl, a, _, dx, fs, _, rfl, e, T.c_Still, T.no_Still_days, h3, .inl ⟨d, rfl, m, d, rfl, g, _, rfl, two _ _, fun p hp => kk _ p (sm_new hp) upd_same⟩⟩⟩
    | anew d =>
      refine ⟨_, rfl, _, _, _, _, false, rfl, .own _, ty, k1, _, rfl, iteF ?_⟩
      refine ⟨_, rfl, _, _, _, _, true, rfl, .own _, ty, k2, _, rfl, iteT ?_⟩
      exact ⟨_, rfl, _, rfl, a, _, dx, fs, _, rfl, e, T.c_Anew, T.no_Anew_left, h3, l, d, rfl, _, rfl, two _ _, fun p hp => kk _ p (sm_new hp) upd_same⟩
    | lift b t =>
      refine ⟨_, rfl, _, _, _, _, false, rfl, .own _, ty, k1, _, rfl, iteF ?_⟩
      refine ⟨_, rfl, _, _, _, _, false, rfl, .own _, ty, k2, _, rfl, iteF ?_⟩
      exact ⟨_, rfl, _, rfl, _, rfl, a, _, dx, fs, _, rfl, e, T.c_Lift, T.no_Lift_by, h3.1, l, b, rfl, rfl, .inl ⟨_, rfl, _, rfl, a, _, dx, fs, _, rfl, e, T.c_Lift, T.no_Lift_top, h3.2, .inl ⟨t, rfl, _, _, rfl, l, _, rfl, _, rfl, two _ _, fun p hp => kk _ p (sm_new hp) upd_same⟩⟩⟩
theorem G_gone (T : Txt P w K mg) : Cal P w K mg base 1 "gone" spGone [] := by
  refine calN T.d_gone T.g_gone sc_gone (fun _ _ _ _ _ _ us hl => match us, hl with | [_, _, _], _ => rfl) (fun vs H Q E h => ?_) (fun cdv A outer s H vs Q E hr h => ?_)
  · obtain ⟨l, g, m, rfl, _⟩ := h
    rfl
  · obtain ⟨l, g, m, rfl, kk⟩ := h
    refine ⟨_, (pss_cons (ps_set (i := 3) sc_gone.nd rfl (Or.inl rfl) (pe_callB (call_min2 rfl) (by rfl) T.b_min boot_min (pa_cons (pe_callTy call_int1 (by rfl) T.b_int boot_int (pa_cons (pv 1) pa_nil)) (pa_cons (pe_callTy call_int1 (by rfl) T.b_int boot_int (pa_cons (pv 2) pa_nil)) pa_nil))))
      (pss_one (ps_ret (pe_tup (pa_cons (pe_callB (call_max2 rfl) (by rfl) T.b_max boot_max (pa_cons pe_int (pa_cons (pe_op op_sub (pv 0) (pe_op op_sub (pv 2) (pv 3))) pa_nil))) (pa_cons (pe_op op_sub (pv 1) (pv 3)) pa_nil)))))), ?_⟩
    refine ⟨_, rfl, .inl ⟨g, rfl, _, rfl, .inl ⟨m, rfl, g, m, rfl, ?_⟩⟩⟩
    exact ⟨_, rfl, _, rfl, _, rfl, m, _, rfl, rfl, l, _, rfl, rfl, 0, _, rfl, _, rfl, _, rfl, g, _, rfl, rfl, Nat.le_of_ble_eq_true rfl, fun p hp => kk _ p (sm_new hp) upd_same⟩
theorem G_end_by (T : Txt P w K mg) : Cal P w K mg base 2 "end_by" (spEndBy K) [] := by
  have Me_work := Me_work (P := P) (w := w) (base := base) T
  refine calN T.d_end_by T.g_end_by sc_end_by (fun _ _ _ _ _ _ us hl => match us, hl with | [_, _, _, _], _ => rfl) (fun vs H Q E h => ?_) (fun cdv A outer s H vs Q E hr h => ?_)
  · obtain ⟨ra, R, t, l, g, rfl, _⟩ := h
    rfl
  · obtain ⟨ra, R, t, l, g, rfl, hR, ok, kk⟩ := h
    refine ⟨_, (pss_cons (ps_set (i := 4) sc_end_by.nd rfl (Or.inl rfl) (pe_mt Me_work hr (by decide) (pv 0) (pa_cons (pe_op op_sub (pe_op op_add (pe_op op_add (pv 1) (pv 3)) (pe_callB (call_max2 rfl) (by rfl) T.b_max boot_max (pa_cons pe_int (pa_cons (pv 2) pa_nil)))) pe_int) pa_nil)))
      (pss_one (ps_ret (pe_ifExp (pt_cmpR op_isN (pe_fld (pv 0) (by rfl)) pe_non (nomark _)) (pv 4) (pe_callB (call_min2 rfl) (by rfl) T.b_min boot_min (pa_cons (pe_callTy call_int1 (by rfl) T.b_int boot_int (pa_cons (pv 4) pa_nil)) (pa_cons (pe_callTy call_int1 (by rfl) T.b_int boot_int (pa_cons (pe_op op_sub (pe_fld (pv 0) (by rfl)) pe_int) pa_nil)) pa_nil))))))), ?_⟩
    obtain ⟨dx, fs, t1, u, xs, h1, h2, h3, h4, h5, h6, h7, h8, h9⟩ := id hR
    refine ⟨_, rfl, ra, dx, fs, rfl, h1, h9, ?_⟩
    refine ⟨_, rfl, _, rfl, t, g, rfl, rfl, _, rfl, 1, l, rfl, _, _, rfl, rfl, _, _, rfl, rfl, ra, _, R, rfl, hR, ok, ?_⟩
    refine ⟨_, rfl, ra, _, dx, fs, _, rfl, h1, T.c_Rule, T.no_Rule_cap, h5, rfl, ?_⟩
    unfold endBy at kk
    cases hc : R.cap with
    | none =>
      rw [hc] at kk
      exact ⟨true, rfl, iteT ⟨_, rfl, kk⟩⟩
    | some i =>
      rw [hc] at kk
      refine ⟨false, rfl, iteF ?_⟩
      exact ⟨_, rfl, .inl ⟨_, rfl, _, rfl, ra, _, dx, fs, _, rfl, h1, T.c_Rule, T.no_Rule_cap, h5.trans (by rw [hc]; rfl), i, 1, rfl, rfl, .inl ⟨_, rfl, _, _, rfl, kk⟩⟩⟩
end
end Ts
set_option maxHeartbeats 4000000
namespace Ts
open PySem PySem.Spec PyProof.Rows L2 C8 He
section
variable {P : Program} {w : World} {K : PySem.W.Frag} {mg : Str → Option Value} {base : Heap}
theorem lt1000 {fs : List (Str × V)} (h : fs.length ≤ 6) : fs.length < 1000 := Nat.lt_of_le_of_lt h (by decide)
theorem M_Course (T : Txt P w K mg) : Mak P w K mg base 1 "Course" (ga K "Course") (spCourse K) [] := by
  refine makN T.d_Course_init T.k_Course T.g_Course sc_Course_init (fun _ _ _ _ _ _ us hl => match us, hl with | [_, _], _ => rfl) (fun vs H Q E h => ?_) (fun cdv A outer s H vs Q E hr h => ?_)
  · obtain ⟨p, ra, dx, H0, R, rfl, _⟩ := h
    rfl
  · obtain ⟨p, ra, dx, H0, R, rfl, n0, s0, hp, hR, k⟩ := h
    refine ⟨_, (pss_cons (ps_fld (pv 0) (pv 1) rfl)
      (pss_cons (ps_fld (pv 0) pe_int rfl)
      (pss_cons (ps_fld (pv 0) (pe_fld (pv 1) (by rfl)) rfl)
      (pss_cons (ps_fld (pv 0) pe_int rfl)
      (pss_cons (ps_fld (pv 0) pe_dnewK rfl)
      (pss_one (ps_fld (pv 0) (pe_lst pa_nil) rfl))))))), ?_⟩
    obtain ⟨dr, fr, t1, u, xs, h1, h2, h3, h4, h5, h6, h7, h8, h9⟩ := id hR
    have pra : ra ≠ p := fun e => by
      rw [e, n0] at h1
      cases h1
    refine ⟨_, rfl, _, rfl, p, _, dx, [], rfl, hp, T.c_Course, T.no_Course_plan, Nat.le_of_ble_eq_true rfl, ?_⟩
    have S1 := sm_to (o := .ins (ga K "Course") dx (putF "plan" (V.ref ra) [])) s0 n0
    refine ⟨_, rfl, p, _, dx, _, rfl, upd_same, T.c_Course, T.no_Course_today, Nat.le_of_ble_eq_true rfl, ?_⟩
    have S2 := sm_to (o := .ins (ga K "Course") dx (putF "today" (V.int 0) (putF "plan" (V.ref ra) []))) S1 n0
    refine ⟨_, rfl, ra, _, dr, fr, _, rfl, S2 _ _ h1, T.c_Rule, T.no_Rule_length, h2, _, rfl, p, _, dx, _, rfl, upd_same, T.c_Course, T.no_Course_rest, Nat.le_of_ble_eq_true rfl, ?_⟩
    have S3 := sm_to (o := .ins (ga K "Course") dx (putF "rest" (V.int R.len) (putF "today" (V.int 0) (putF "plan" (V.ref ra) [])))) S2 n0
    refine ⟨_, rfl, p, _, dx, _, rfl, upd_same, T.c_Course, T.no_Course_going, Nat.le_of_ble_eq_true rfl, ?_⟩
    have S4 := sm_to (o := .ins (ga K "Course") dx (putF "going" (V.int 0) (putF "rest" (V.int R.len) (putF "today" (V.int 0) (putF "plan" (V.ref ra) []))))) S3 n0
    have p4 := upd_same (H := upd (upd (upd H p (.ins (ga K "Course") dx (putF "plan" (V.ref ra) []))) p (.ins (ga K "Course") dx (putF "today" (V.int 0) (putF "plan" (V.ref ra) [])))) p (.ins (ga K "Course") dx (putF "rest" (V.int R.len) (putF "today" (V.int 0) (putF "plan" (V.ref ra) []))))) (a := p) (o := HO.ins (ga K "Course") dx (putF "going" (V.int 0) (putF "rest" (V.int R.len) (putF "today" (V.int 0) (putF "plan" (V.ref ra) [])))))
    generalize upd (upd (upd (upd H p (.ins (ga K "Course") dx (putF "plan" (V.ref ra) []))) p (.ins (ga K "Course") dx (putF "today" (V.int 0) (putF "plan" (V.ref ra) [])))) p (.ins (ga K "Course") dx (putF "rest" (V.int R.len) (putF "today" (V.int 0) (putF "plan" (V.ref ra) []))))) p (HO.ins (ga K "Course") dx (putF "going" (V.int 0) (putF "rest" (V.int R.len) (putF "today" (V.int 0) (putF "plan" (V.ref ra) []))))) = H4 at *
    refine fun d hd => ?_
    have pd : p ≠ d := ne_of_none p4 hd
    have d0 : H0 d = none := by
      cases e : H0 d with
      | none => rfl
      | some o =>
        rw [S4 _ _ e] at hd
        cases hd
    refine ⟨_, rfl, p, _, dx, _, rfl, (upd_ne pd).trans p4, T.c_Course, T.no_Course_used, Nat.le_of_ble_eq_true rfl, ?_⟩
    have S5 := sm_to (o := .ins (ga K "Course") dx (putF "used" (V.ref d) (putF "going" (V.int 0) (putF "rest" (V.int R.len) (putF "today" (V.int 0) (putF "plan" (V.ref ra) [])))))) (S4.trans (sm_new (o := HO.dK []) hd)) n0
    refine ⟨Nat.zero_le _, fun l hl => ?_⟩
    have lp : p ≠ l := fun e => by
      rw [← e, upd_same] at hl
      cases hl
    have ld : l ≠ d := fun e => by
      rw [e, upd_ne pd.symm, upd_same] at hl
      cases hl
    have l0 : H0 l = none := by
      cases e : H0 l with
      | none => rfl
      | some o =>
        rw [S5 _ _ e] at hl
        cases hl
    refine ⟨_, rfl, p, _, dx, _, rfl, (upd_ne lp).trans upd_same, T.c_Course, T.no_Course_heard, Nat.le_of_ble_eq_true rfl, ?_⟩
    refine k _ ⟨dx, d, l, _, [], ⟨sm_to (S5.trans (sm_new hl)) n0, n0, d0, l0, upd_same, Nat.le_of_ble_eq_true rfl, ?_, ?_, ?_, ?_, ?_, ?_, ?_, fun x => rfl, Nat.le_refl _, ?_, Nat.le_refl _, ?_⟩⟩
    · exact lkN (by decide +kernel) (lkN (by decide +kernel) (lkN (by decide +kernel) (lkN (by decide +kernel) (lkN (by decide +kernel) lkE))))
    · exact lkN (by decide +kernel) (lkN (by decide +kernel) (lkN (by decide +kernel) (lkN (by decide +kernel) lkE)))
    · exact lkN (by decide +kernel) (lkN (by decide +kernel) (lkN (by decide +kernel) lkE))
    · exact lkN (by decide +kernel) (lkN (by decide +kernel) lkE)
    · exact lkN (by decide +kernel) lkE
    · exact lkE
    · rw [upd_ne pd.symm, upd_ne ld.symm, upd_ne pd.symm, upd_same]
    · rw [upd_ne lp.symm, upd_same]
      rfl
    · intro m hm
      exact lkN (noF hm (by decide +kernel)) (lkN (noF hm (by decide +kernel)) (lkN (noF hm (by decide +kernel)) (lkN (noF hm (by decide +kernel)) (lkN (noF hm (by decide +kernel)) (lkN (noF hm (by decide +kernel)) rfl)))))
theorem Me_end (T : Txt P w K mg) : Met P w K mg base 3 (ga K "Course") "end" (spCEnd K) [] := by
  have G_end_by := G_end_by (P := P) (w := w) (base := base) T
  refine metN T.d_Course_end T.c_Course T.m_Course_end sc_Course_end (fun _ _ _ _ _ _ us hl => match us, hl with | [_], _ => rfl) (fun vs H Q E h => ?_) (fun cdv A outer s H vs Q E hr h => ?_)
  · obtain ⟨p, ra, H0, R, c, rfl, _⟩ := h
    rfl
  · obtain ⟨p, ra, H0, R, c, rfl, ⟨dx, d, l, fs, kvs, hc⟩, hR, ok, k⟩ := h
    refine ⟨_, (pss_one (ps_ret (pe_c G_end_by hr (by decide) (by rfl) (pa_cons (pe_fld (pv 0) (by rfl)) (pa_cons (pe_fld (pv 0) (by rfl)) (pa_cons (pe_fld (pv 0) (by rfl)) (pa_cons (pe_fld (pv 0) (by rfl)) pa_nil))))))), ?_⟩
    exact ⟨_, rfl, p, _, dx, fs, _, rfl, hc.ins, T.c_Course, T.no_Course_plan, hc.plan, _, rfl, p, _, dx, fs, _, rfl, hc.ins, T.c_Course, T.no_Course_today, hc.today,
      _, rfl, p, _, dx, fs, _, rfl, hc.ins, T.c_Course, T.no_Course_rest, hc.rest, _, rfl, p, _, dx, fs, _, rfl, hc.ins, T.c_Course, T.no_Course_going, hc.going,
      ra, R, _, _, _, rfl, hR.mono (SameI.of hc.same), ok, k⟩
theorem Me_go_to (T : Txt P w K mg) : Met P w K mg base 2 (ga K "Course") "go_to" (spCGo K) [] := by
  have G_gone := G_gone (P := P) (w := w) (base := base) T
  refine metN T.d_Course_go_to T.c_Course T.m_Course_go_to sc_Course_go_to (fun _ _ _ _ _ _ us hl => match us, hl with | [_, _], _ => rfl) (fun vs H Q E h => ?_) (fun cdv A outer s H vs Q E hr h => ?_)
  · obtain ⟨p, ra, H0, c, later, rfl, _⟩ := h
    rfl
  · obtain ⟨p, ra, H0, c, later, rfl, ⟨dx, d, l, fs, kvs, hc⟩, k⟩ := h
    refine ⟨_, (pss_cons (ps_asg (pe_c G_gone hr (by decide) (by rfl) (pa_cons (pe_fld (pv 0) (by rfl)) (pa_cons (pe_fld (pv 0) (by rfl)) (pa_cons (pe_op op_sub (pv 1) (pe_fld (pv 0) (by rfl))) pa_nil)))) (pg_tup rfl (pgs_cons (pg_fld (pv 0)) (pgs_cons (pg_fld (pv 0)) pgs_nil))))
      (pss_one (ps_fld (pv 0) (pv 1) rfl))), ?_⟩
    refine ⟨_, rfl, p, _, dx, fs, _, rfl, hc.ins, T.c_Course, T.no_Course_rest, hc.rest, _, rfl, p, _, dx, fs, _, rfl, hc.ins, T.c_Course, T.no_Course_going, hc.going,
      _, rfl, _, rfl, p, _, dx, fs, _, rfl, hc.ins, T.c_Course, T.no_Course_today, hc.today, later, c.today, rfl, rfl, _, _, _, rfl, fun H1 t s1 ht => ?_⟩
    have h1 := hc.mono s1
    refine ⟨t, _, rfl, SqT.of ht, rfl, _, _, rfl, _, rfl, p, _, dx, fs, rfl, h1.ins, T.c_Course, T.no_Course_rest, lt1000 h1.len, ?_⟩
    have h2 := h1.setRest (goneM c.rest c.going (later - c.today)).1
    refine ⟨_, _, rfl, _, rfl, p, _, dx, _, rfl, h2.ins, T.c_Course, T.no_Course_going, lt1000 h2.len, rfl, ?_⟩
    have h3 := h2.setGoing (goneM c.rest c.going (later - c.today)).2
    refine ⟨_, rfl, _, rfl, p, _, dx, _, rfl, h3.ins, T.c_Course, T.no_Course_today, lt1000 h3.len, ?_⟩
    exact k _ ⟨dx, d, l, _, kvs, h3.setToday later⟩
end
end Ts
set_option maxHeartbeats 4000000
namespace Ts
open PySem PySem.Spec PyProof.Rows L2 C8 He
theorem CAt.note {K : PySem.W.Frag} {H0 H : Hp} {p ra dx d l : Addr} {c : Cs} {fs : List (Str × V)} {kvs : List (Key × V)} (h : CAt K H0 H p ra c dx d l fs kvs) (i : Int) (hn : c.heard.length + 1 ≤ c.n) :
    CAt K H0 (upd H l (.lst (c.heard.map V.int ++ [.int i]))) p ra (noteC c i) dx d l fs kvs :=
  { h with same := sm_to h.same h.l0, ins := by rw [upd_ne h.pl.symm]; exact h.ins, dict := by rw [upd_ne h.ld.symm]; exact h.dict, list := by rw [upd_same]; simp [noteC], hlen := by simp only [noteC, List.length_append, List.length_singleton]; exact hn }
theorem KdsAt.snoc {K : PySem.W.Frag} {H : Hp} {xs : List V} {ks : List Kd} {a : Addr} {k : Kd} (h : KdsAt K H xs ks) (ka : KdAt K H a k) : KdsAt K H (xs ++ [.ref a]) (ks ++ [k]) := by
  refine ⟨by simp [h.1], fun j k' e => ?_⟩
  by_cases hj : j < ks.length
  · rw [List.getElem?_append_left hj] at e
    obtain ⟨b, hb1, hb2⟩ := h.2 j k' e
    exact ⟨b, by rw [List.getElem?_append_left (by rw [h.1]; exact hj)]; exact hb1, hb2⟩
  · rw [List.getElem?_append_right (by omega)] at e
    have ej : j = ks.length := by
      have := (List.getElem?_eq_some_iff.mp e).1
      simp at this
      omega
    subst ej
    rw [Nat.sub_self] at e
    cases e
    refine ⟨a, ?_, ka⟩
    rw [← h.1, List.getElem?_append_right (Nat.le_refl _), Nat.sub_self]
    rfl
section
variable {P : Program} {w : World} {K : PySem.W.Frag} {mg : Str → Option Value} {base : Heap}
theorem Me_hear (T : Txt P w K mg) : Met P w K mg base 2 (ga K "Course") "hear" (spCHear K) [] := by
  have G_after := G_after (P := P) (w := w) (base := base) T
  refine metN T.d_Course_hear T.c_Course T.m_Course_hear sc_Course_hear (fun _ _ _ _ _ _ us hl => match us, hl with | [_, _, _], _ => rfl) (fun vs H Q E h => ?_) (fun cdv A outer s H vs Q E hr h => ?_)
  · obtain ⟨p, ra, H0, R, c, x, m, rfl, _⟩ := h
    rfl
  · obtain ⟨p, ra, H0, R, c, x, m, rfl, ⟨dx, d, l, fs, kvs, hc⟩, hR, ok, hn, k⟩ := h
    refine ⟨_, (pss_cons (ps_setLc (i := 3)  (own := [("kind", 5)]) (by rfl) sc_Course_hear.nd rfl rfl (sw_true rfl rfl rfl (by decide +kernel)) (pi_tup (pe_fld (pe_fld (pv 0) (by rfl)) (by rfl))) (blkOk_by (N := n_Course_hear) (sc := defScope s_Course_hear) (by decide +kernel)) (fun _ _ _ _ _ => (pg_name (i := 5) sc_Course_hear.nd rfl (Or.inl rfl))) (fun _ _ _ _ _ => (pts_one (pt_cmpR op_eq (pe_fldK (K := K) (by rfl) (pv 5) (by rfl)) (pv 1) (nomark _)))) (fun _ _ _ _ _ => (pv 5)))
      (pss_cut (ps_set (i := 4) sc_Course_hear.nd rfl (Or.inl rfl) (pe_dget2 (hu_of hr) (pe_fld (pv 0) (by rfl)) (pv 1) pe_int ⟨by rfl, by rfl, by rfl, by rfl⟩))
      (pss_cut (ps_if (PW.pt (pw_or (pt_cmpR op_eq (pe_callB call_len_seq (by rfl) T.b_len boot_len (pa_cons (pv 3) pa_nil)) pe_int (nomark _)) (pw_or1 (PW.pt (pw_and (pt_cmpR op_notN (pe_fld (pe_ix ix_list (pv 3) pe_int (fun _ _ => rfl)) (by rfl)) pe_non (nomark _)) (pw_and1 (pt_cmpR op_ge (pv 4) (pe_fld (pe_ix ix_list (pv 3) pe_int (fun _ _ => rfl)) (by rfl)) (nomark _)))))))) (pss_one (ps_ret pe_bl)) pss_nil)
      (pss_cons (ps_dput (hu_of hr) (pe_fld (pv 0) (by rfl)) (pv 1) (pe_op op_add (pv 4) pe_int) rfl)
      (pss_cons (ps_asg (pe_c G_after hr (by decide) (by rfl) (pa_cons (pe_ix ix_list (pv 3) pe_int (fun _ _ => rfl)) (pa_cons (pe_fld (pv 0) (by rfl)) (pa_cons (pe_fld (pv 0) (by rfl)) (pa_cons (pv 2) pa_nil))))) (pg_tup rfl (pgs_cons (pg_fld (pv 0)) (pgs_cons (pg_fld (pv 0)) pgs_nil))))
      (pss_one (ps_ret pe_bl))))))), ?_⟩
    obtain ⟨dr, fr, t1, u, xs, r1, r2, r3, r4, r5, r6, r7, r8, r9⟩ := hR.mono (SameI.of hc.same)
    refine ⟨_, rfl, p, _, dx, fs, _, rfl, hc.ins, T.c_Course, T.no_Course_plan, hc.plan, ra, _, dr, fr, _, rfl, r1, T.c_Rule, T.no_Rule_kinds, r6, u, rfl, ⟨_, SqT.of r7⟩, fun D hD => ?_⟩
    have xl : xs.length ≤ 3 := by rw [r8.1]; exact ok.kl
    refine lc_it (walk_tup (K := K) (a := u) (xs := xs)) (fun i H' => Same H H' ∧ ∃ ys, H' D = some (.lst ys) ∧ ys.length ≤ i ∧ KdsAt K H' ys ((R.kinds.take i).filter fun k => decide (k.nm = x))) ⟨sm_new hD, [], upd_same, Nat.le_refl _, rfl, fun i k e => by simp at e⟩ (fun i H' _ q => SqT.of (q.1 _ _ r7)) ?_ ?_
    · rintro i v H3 H4 hi ⟨s3, ys, hy, yl, hk⟩ ⟨rfl, hv⟩
      obtain ⟨b, kd, rfl, hkd, hb⟩ := r8.at_ hv
      have hb3 := hb.mono (SameI.of s3)
      obtain ⟨C, dy, fy, n1, n2, n3, n4⟩ := hb3.nameF T
      have et : R.kinds.take (i + 1) = R.kinds.take i ++ [kd] := by rw [List.take_succ, hkd]; rfl
      refine ⟨rfl, _, rfl, b, C, dy, fy, _, rfl, n1, n2, n3, n4, _, rfl, rfl, _, rfl, ?_⟩
      by_cases e : kd.nm = x
      · refine itT (decide_eq_true (congrArg V.str e)) ⟨_, rfl, ys, hy, Nat.lt_of_le_of_lt yl (Nat.lt_of_lt_of_le hi (Nat.le_trans xl (by decide))), sm_to s3 hD, _, upd_same, by simp; omega, ?_⟩
        rw [et, List.filter_append, show ([kd].filter fun k => decide (k.nm = x)) = [kd] by simp [e]]
        have sI : SameI H4 (upd H4 D (.lst (ys ++ [.ref b]))) := SameI.lst hy
        exact (hk.mono sI).snoc (hb3.mono sI)
      · refine itF (decide_eq_false fun z => e (V.str.inj z)) ⟨s3, ys, hy, Nat.le_succ_of_le yl, ?_⟩
        rw [et, List.filter_append, show ([kd].filter fun k => decide (k.nm = x)) = [] by simp [e], List.append_nil]
        exact hk
    rintro H2 ⟨s2, ys, hy, yl, hk⟩
    rw [r8.1, List.take_length] at hk
    change KdsAt K H2 ys (someK R x) at hk
    have h2 := hc.mono s2
    refine ⟨fun σ' H' => σ' = [some (.ref p), some (.str x), some (.int m), some (.ref D), some (.int (c.used x)), none] ∧ H' = H2, ?_, ?_⟩
    · refine ⟨_, rfl, p, _, dx, fs, _, rfl, h2.ins, T.c_Course, T.no_Course_used, h2.used, d, rfl, .inl ⟨kvs, .inl h2.dict⟩, _, rfl, _, DGet.k (k := Sum.inr x) h2.dict, ?_, rfl⟩
      show [some (V.ref p), some (.str x), some (.int m), some (.ref D), some ((valV kvs (Sum.inr x)).getD (.int 0)), none] = _
      rw [hc.get x]
    rintro σ' H' ⟨rfl, rfl⟩
    cases hsk : someK R x with
    | nil =>
      rw [hsk] at hk
      have y0 : ys.length = 0 := hk.1
      refine ⟨fun _ _ => False, ?_, fun _ _ f => f.elim⟩
      refine ⟨_, rfl, D, ys, rfl, .inl (SqL.of hy), rfl, true, ?_, iteT (iteT ?_)⟩
      · rw [y0]
        rfl
      · have := k H'
        unfold hearC at this
        rw [hsk] at this
        exact this ⟨dx, d, l, fs, kvs, h2⟩
    | cons kd rest =>
      rw [hsk] at hk
      obtain ⟨a, ha1, ha2⟩ := hk.2 0 kd rfl
      have at0 : atI ys 0 = some (.ref a) := atI_nat (j := 0) ha1
      have yne : ys.length ≠ 0 := by rw [hk.1]; simp
      obtain ⟨C, dy, fy, n1, n2, n3, n4⟩ := ha2.timesF T
      have out : outK kd c x = true → Q (.bl false) H' := fun ho => by
        have := k H'
        unfold hearC at this
        rw [hsk] at this
        simp only [ho, if_true] at this
        exact this ⟨dx, d, l, fs, kvs, h2⟩
      refine ⟨fun σ' H'' => outK kd c x = false ∧ σ' = [some (.ref p), some (.str x), some (.int m), some (.ref D), some (.int (c.used x)), none] ∧ H'' = H', ?_, ?_⟩
      · refine ⟨_, rfl, D, ys, rfl, .inl (SqL.of hy), rfl, false, congrArg V.bl (decide_eq_false fun z => ?_), iteF ?_⟩
        · injection z with z
          omega
        refine ⟨_, rfl, _, _, _, _, rfl, rfl, SqL.of hy, at0, a, C, dy, fy, _, rfl, n1, n2, n3, n4, rfl, ?_⟩
        unfold outK at out
        cases htm : kd.tm with
        | none => exact ⟨false, rfl, iteF (iteF ⟨by unfold outK; rw [htm], rfl, rfl⟩)⟩
        | some tt =>
          rw [htm] at out n4
          refine ⟨true, rfl, iteT ⟨_, rfl, _, rfl, _, _, _, _, rfl, rfl, SqL.of hy, at0, a, C, dy, fy, _, rfl, n1, n2, n3, n4, _, _, rfl, rfl, _, rfl, ?_⟩⟩
          by_cases hle : tt ≤ c.used x
          · exact itT (decide_eq_true hle) (out (decide_eq_true hle))
          · exact itF (decide_eq_false hle) ⟨by unfold outK; rw [htm]; exact decide_eq_false hle, rfl, rfl⟩
      rintro σ' H'' ⟨ho, rfl, rfl⟩
      refine ⟨_, rfl, _, _, rfl, rfl, _, rfl, p, _, dx, fs, _, rfl, h2.ins, T.c_Course, T.no_Course_used, h2.used, _, rfl, d, _, rfl, DPut.k (k := Sum.inr x) h2.dict (Nat.lt_of_le_of_lt (Nat.le_trans h2.dlen hn) (by decide)), ?_⟩
      have h3 := h2.putUsed x
      have nd : d ≠ D := fun e => by
        rw [← e] at hy
        rw [h2.dict] at hy
        cases hy
      have hy3 : (upd H'' d (.dK (putK kvs (Sum.inr x) (.int (c.used x + 1))))) D = some (.lst ys) := by rw [upd_ne nd.symm]; exact hy
      have ka3 : KdAt K (upd H'' d (.dK (putK kvs (Sum.inr x) (.int (c.used x + 1))))) a kd := by
        obtain ⟨dz, fz, z1, z2⟩ := ha2
        have : a ≠ d := fun e => by
          rw [e, h2.dict] at z1
          cases z1
        exact ⟨dz, fz, by rw [upd_ne this]; exact z1, z2⟩
      refine ⟨_, rfl, _, _, _, _, rfl, rfl, SqL.of hy3, at0, _, rfl, p, _, dx, fs, _, rfl, h3.ins, T.c_Course, T.no_Course_rest, h3.rest, _, rfl, p, _, dx, fs, _, rfl, h3.ins, T.c_Course, T.no_Course_going, h3.going, _, rfl,
        a, kd, _, _, _, rfl, ka3, fun H4 t s4 ht => ?_⟩
      have h4 := h3.mono s4
      refine ⟨t, _, rfl, SqT.of ht, rfl, _, _, rfl, _, rfl, p, _, dx, fs, rfl, h4.ins, T.c_Course, T.no_Course_rest, lt1000 h4.len, ?_⟩
      have h5 := h4.setRest (afterM kd c.rest c.going m).1
      refine ⟨_, _, rfl, _, rfl, p, _, dx, _, rfl, h5.ins, T.c_Course, T.no_Course_going, lt1000 h5.len, rfl, ?_⟩
      have h6 := h5.setGoing (afterM kd c.rest c.going m).2
      have := k (upd (upd H4 p (.ins (ga K "Course") dx (putF "rest" (.int (afterM kd c.rest c.going m).1) fs))) p (.ins (ga K "Course") dx (putF "going" (.int (afterM kd c.rest c.going m).2) (putF "rest" (.int (afterM kd c.rest c.going m).1) fs))))
      unfold hearC at this
      rw [hsk] at this
      simp only [ho, Bool.false_eq_true, if_false] at this
      exact this ⟨dx, d, l, _, _, h6⟩
end
end Ts
set_option maxHeartbeats 4000000
namespace Ts
open PySem PySem.Spec PyProof.Rows L2 C8 He
theorem goC_n (c : Cs) (b : Int) : (goC c b).n = c.n := rfl
theorem hearC_n (R : Rl) (c : Cs) (x : Str) (m : Int) : (hearC R c x m).1.n ≤ c.n + 1 ∧ (hearC R c x m).1.heard = c.heard ∧ ((hearC R c x m).2 = true → (hearC R c x m).1.n = c.n + 1) := by
  unfold hearC
  cases someK R x with
  | nil => exact ⟨Nat.le_succ _, rfl, fun z => by cases z⟩
  | cons k r =>
    simp only
    by_cases h : outK k c x = true
    · rw [if_pos h]
      exact ⟨Nat.le_succ _, rfl, fun z => by cases z⟩
    · rw [if_neg h]
      exact ⟨Nat.le_refl _, rfl, fun _ => rfl⟩
theorem sm_le {H0 H : Hp} {a : Addr} (s : Same H0 H) (h : H a = none) : H0 a = none := by
  cases e : H0 a with
  | none => rfl
  | some o =>
    rw [s _ _ e] at h
    cases h
section
variable {P : Program} {w : World} {K : PySem.W.Frag} {mg : Str → Option Value} {base : Heap}
theorem Me_take (T : Txt P w K mg) : Met P w K mg base 4 (ga K "Course") "take" (spCTake K) [] := by
  have Me_end := Me_end (P := P) (w := w) (base := base) T
  have Me_go_to := Me_go_to (P := P) (w := w) (base := base) T
  have Me_hear := Me_hear (P := P) (w := w) (base := base) T
  refine metN T.d_Course_take T.c_Course T.m_Course_take sc_Course_take (fun _ _ _ _ _ _ us hl => match us, hl with | [_, _], _ => rfl) (fun vs H Q E h => ?_) (fun cdv A outer s H vs Q E hr h => ?_)
  · obtain ⟨p, ra, sa, H0, R, c, os, rfl, _⟩ := h
    rfl
  · obtain ⟨p, ra, sa, H0, R, c, os, rfl, hc, hR, ok, hS, hn, k⟩ := h
    refine ⟨_, (pss_one (ps_for PassesOwn.never rfl (pi_enumT (by rfl) T.b_enumerate (pa_cons (pe_fld (pv 1) (by rfl)) pa_nil)) (pg_tup rfl (pgs_cons (pg_name (i := 2) sc_Course_take.nd rfl (Or.inl rfl)) (pgs_cons (pg_tup rfl (pgs_cons (pg_name (i := 3) sc_Course_take.nd rfl (Or.inl rfl)) (pgs_cons (pg_name (i := 4) sc_Course_take.nd rfl (Or.inl rfl)) (pgs_cons (pg_name (i := 5) sc_Course_take.nd rfl (Or.inl rfl)) pgs_nil)))) pgs_nil))) (pss_cons (ps_if (pt_cmpR op_gt (pv 3) (pe_mt0 Me_end hr (by decide) (pv 0)) (nomark _)) (pss_one ps_retN) pss_nil)
      (pss_cons (ps_expr (pe_mt Me_go_to hr (by decide) (pv 0) (pa_cons (pv 3) pa_nil)))
      (pss_one (ps_if (pt_val (pe_mt Me_hear hr (by decide) (pv 0) (pa_cons (pv 4) (pa_cons (pv 5) pa_nil)))) (pss_one (ps_expr (pe_bm PySem.F.plainAttrs_list PySem.F.slot_list_append PySem.F.type_list_append mt_append (pe_fld (pv 0) (by rfl)) (pa_cons (pv 2) pa_nil)))) pss_nil)))))), ?_⟩
    have s0 : Same H0 H := by
      obtain ⟨_, _, _, _, _, h⟩ := hc
      exact h.same
    obtain ⟨ds, fs, t, xs, t1, t2, t3, t4, _⟩ := id hS
    refine ⟨_, rfl, sa, _, ds, fs, _, rfl, s0 _ _ t1, T.c_Story, T.no_Story_occasions, t2, t, xs, rfl, sm_seqT s0 t3, ?_⟩
    refine for_it (walk_enumT (K := K) (a := t) (xs := xs)) (fun i σ H' => ∃ ci u2 u3 u4 u5, CourseAt K H0 H' p ra ci ∧ takeC R ci i (os.drop i) = takeC R c 0 os ∧ ci.n ≤ c.n + i ∧ σ = [some (.ref p), some (.ref sa), u2, u3, u4, u5])
      ⟨c, none, none, none, none, hc, rfl, Nat.le_refl _, rfl⟩ (fun i σ H' _ q => by
        obtain ⟨ci, _, _, _, _, ⟨_, _, _, _, _, h⟩, _⟩ := q
        exact sm_seqT h.same t3) ?_ ?_
    · rintro i v σ H3 H4 hi ⟨ci, u2, u3, u4, u5, hci, eq, hni, rfl⟩ ⟨T', x1, y1, rfl, hT, rfl, hx1, hy1⟩
      cases hx1
      replace hy1 : xs[i]? = some y1 := hy1
      obtain ⟨q, o, rfl, ho, hq⟩ := t4.at_ hy1
      have hil : i < os.length := (List.getElem?_eq_some_iff.mp ho).1
      have ed : os.drop i = o :: os.drop (i + 1) := by
        rw [List.drop_eq_getElem_cons hil, (List.getElem?_eq_some_iff.mp ho).2]
      rw [ed] at eq
      have s03 : Same H0 H3 := by
        obtain ⟨_, _, _, _, _, h⟩ := hci
        exact h.same
      have sT := sm_new (o := HO.tup [V.int (i : Nat), .ref q]) hT
      have hci' : CourseAt K H0 (upd H3 T' (.tup [V.int (i : Nat), .ref q])) p ra ci := by
        obtain ⟨a1, a2, a3, a4, a5, h⟩ := hci
        exact ⟨a1, a2, a3, a4, a5, h.mono sT⟩
      have hq4 := sT _ _ (s03 _ _ hq)
      refine ⟨T', _, rfl, SqT.of upd_same, rfl, _, _, rfl, _, _, rfl, q, _, rfl, SqT.of hq4, rfl, _, _, rfl, _, _, rfl, _, _, rfl, rfl, rfl, ?_⟩
      obtain ⟨dx, d, l, fc, kvs, h4⟩ := id hci'
      refine ⟨_, rfl, _, rfl, p, dx, fc, rfl, h4.ins, h4.no _ (by decide +kernel), p, ra, H0, R, ci, rfl, hci', hR, ok, _, _, rfl, rfl, _, rfl, ?_⟩
      by_cases hb : endC R ci < o.b
      · refine itT (decide_eq_true hb) ?_
        rw [takeC, if_pos hb] at eq
        refine k _ ?_
        rw [← eq]
        exact hci'
      · refine itF (decide_eq_false hb) ?_
        rw [takeC, if_neg hb] at eq
        refine ⟨_, rfl, p, dx, fc, rfl, h4.ins, h4.no _ (by decide +kernel), _, rfl, p, ra, H0, ci, o.b, rfl, hci', fun H5 hg => ?_⟩
        obtain ⟨dx5, d5, l5, f5, k5, h5⟩ := id hg
        refine ⟨_, rfl, p, dx5, f5, rfl, h5.ins, h5.no _ (by decide +kernel), _, rfl, _, rfl, p, ra, H0, R, goC ci o.b, o.nm, o.m, rfl, hg, hR, ok, by rw [goC_n]; omega, fun H6 hh => ?_⟩
        obtain ⟨e1, e2, e3⟩ := hearC_n R (goC ci o.b) o.nm o.m
        rw [goC_n] at e1 e3
        refine ⟨_, rfl, ?_⟩
        by_cases hb2 : (hearC R (goC ci o.b) o.nm o.m).2 = true
        · rw [if_pos hb2] at eq
          refine itT hb2 ?_
          obtain ⟨dx6, d6, l6, f6, k6, h6⟩ := id hh
          have hn1 : (hearC R (goC ci o.b) o.nm o.m).1.heard.length + 1 ≤ (hearC R (goC ci o.b) o.nm o.m).1.n := by
            rw [e2, e3 hb2]
            exact Nat.succ_le_succ h5.hlen
          refine ⟨_, rfl, p, _, dx6, f6, _, rfl, h6.ins, T.c_Course, T.no_Course_heard, h6.heard, .inl ⟨rfl, _, SqL.of h6.list⟩, _, rfl, l6, _, _, rfl, rfl, h6.list, ?_, ?_⟩
          · rw [List.length_map]
            have := h6.hlen
            exact Nat.lt_of_le_of_lt (Nat.le_trans this (show _ ≤ 2000 by omega)) (by decide)
          · exact ⟨noteC (hearC R (goC ci o.b) o.nm o.m).1 i, _, _, _, _, ⟨dx6, d6, l6, f6, k6, h6.note i hn1⟩, eq, by show (hearC R (goC ci o.b) o.nm o.m).1.n ≤ _; omega, rfl⟩
        · rw [if_neg hb2] at eq
          exact itF (Bool.eq_false_iff.mpr hb2) ⟨_, _, _, _, _, hh, eq, by omega, rfl⟩
    · rintro σ H3 ⟨ci, u2, u3, u4, u5, hci, eq, hni, rfl⟩
      rw [t4.1, List.drop_length] at eq
      refine k _ ?_
      rw [← eq]
      exact hci
theorem G_course_of (T : Txt P w K mg) : Cal P w K mg base 5 "course_of" (spCourseOf K) [] := by
  have M_Course := M_Course (P := P) (w := w) (base := base) T
  have Me_take := Me_take (P := P) (w := w) (base := base) T
  refine calN T.d_course_of T.g_course_of sc_course_of (fun _ _ _ _ _ _ us hl => match us, hl with | [_, _], _ => rfl) (fun vs H Q E h => ?_) (fun cdv A outer s H vs Q E hr h => ?_)
  · obtain ⟨ra, sa, R, os, rfl, _⟩ := h
    rfl
  · obtain ⟨ra, sa, R, os, rfl, hR, ok, hS, hn, k⟩ := h
    refine ⟨_, (pss_cons (ps_set (i := 2) sc_course_of.nd rfl (Or.inl rfl) (pe_mk M_Course hr (by decide) (by rfl) (pa_cons (pv 0) pa_nil)))
      (pss_cons (ps_expr (pe_mt Me_take hr (by decide) (pv 2) (pa_cons (pv 1) pa_nil)))
      (pss_one (ps_ret (pv 2))))), ?_⟩
    refine ⟨_, rfl, fun x dx nx ndx nex => ?_⟩
    refine ⟨x, ra, dx, H, R, rfl, nx, made_same nx ndx, upd_same, hR, fun H1 h1 => ⟨rfl, ?_⟩⟩
    obtain ⟨dx1, d1, l1, f1, k1, c1⟩ := id h1
    refine ⟨_, rfl, x, dx1, f1, rfl, c1.ins, c1.no _ (by decide +kernel), _, rfl, x, ra, sa, H, R, initC R, os, rfl, h1, hR, ok, hS, by show 0 + _ ≤ _; omega, fun H2 h2 => ?_⟩
    exact ⟨_, rfl, k _ _ h2⟩
theorem G_lapse (T : Txt P w K mg) : Cal P w K mg base 6 "lapse" (spLapse K) [] := by
  have G_course_of := G_course_of (P := P) (w := w) (base := base) T
  have Me_end := Me_end (P := P) (w := w) (base := base) T
  refine calN T.d_lapse T.g_lapse sc_lapse (fun _ _ _ _ _ _ us hl => match us, hl with | [_, _], _ => rfl) (fun vs H Q E h => ?_) (fun cdv A outer s H vs Q E hr h => ?_)
  · obtain ⟨ra, sa, R, os, rfl, _⟩ := h
    rfl
  · obtain ⟨ra, sa, R, os, rfl, hR, ok, hS, hn, k⟩ := h
    refine ⟨_, (pss_one (ps_ret (pe_mt0 Me_end hr (by decide) (pe_c G_course_of hr (by decide) (by rfl) (pa_cons (pv 0) (pa_cons (pv 1) pa_nil)))))), ?_⟩
    refine ⟨_, rfl, _, rfl, ra, sa, R, os, rfl, hR, ok, hS, hn, fun H1 p h1 => ?_⟩
    obtain ⟨dx1, d1, l1, f1, k1, c1⟩ := id h1
    exact ⟨p, dx1, f1, rfl, c1.ins, c1.no _ (by decide +kernel), p, ra, H, R, _, rfl, h1, hR, ok, k _ c1.same⟩
theorem G_counted (T : Txt P w K mg) : Cal P w K mg base 6 "counted" (spCounted K) [] := by
  have G_course_of := G_course_of (P := P) (w := w) (base := base) T
  refine calN T.d_counted T.g_counted sc_counted (fun _ _ _ _ _ _ us hl => match us, hl with | [_, _], _ => rfl) (fun vs H Q E h => ?_) (fun cdv A outer s H vs Q E hr h => ?_)
  · obtain ⟨ra, sa, R, os, rfl, _⟩ := h
    rfl
  · obtain ⟨ra, sa, R, os, rfl, hR, ok, hS, hn, k⟩ := h
    refine ⟨_, (pss_one (ps_ret (pe_callTy call_tuple_of (by rfl) T.b_tuple boot_tuple (pa_cons (pe_fld (pe_c G_course_of hr (by decide) (by rfl) (pa_cons (pv 0) (pa_cons (pv 1) pa_nil))) (by rfl)) pa_nil)))), ?_⟩
    refine ⟨_, rfl, _, rfl, ra, sa, R, os, rfl, hR, ok, hS, hn, fun H1 p h1 => ?_⟩
    obtain ⟨dx1, d1, l1, f1, k1, c1⟩ := id h1
    exact ⟨p, _, dx1, f1, _, rfl, c1.ins, T.c_Course, T.no_Course_heard, c1.heard, l1, _, rfl, .inl ⟨SqL.of c1.list, fun t ht => k _ t _ (c1.same.trans (sm_new ht)) upd_same⟩⟩
end
end Ts
set_option maxHeartbeats 4000000
namespace Ts
open PySem PySem.Spec PyProof.Rows L2 C8 He
/-! ### len of an instance by its own __len__; a class made without arguments; either of two walks -/
theorem call_lenOwn {X : Cx} {k : Nat} {C : Addr} {sp : Sp} (c : Met X.prog X.w X.K X.mg X.base k C "__len__" sp []) (hr : Room (k + 1) X.A) :
    CallR X (.builtin "len") (fun xs H Q => ∃ (a dx : Addr) (fs : List (Str × V)) (n : Nat), xs = [.ref a] ∧ H a = some (.ins C dx fs) ∧ n ≤ 1000 ∧ sp [.ref a] H (fun v H' => v = .int (n : Nat) ∧ Q (.int (n : Nat)) H') C8.E0) := by
  intro pins s σ H xs us Q I r h
  obtain ⟨a, dx, fs, n, rfl, ha, hn, hsp⟩ := h
  obtain ⟨f, fd, ps, ds, hc, me, F, b, d⟩ := c.ex
  cases d
  obtain ⟨u, rfl, ru⟩ := vals1 r
  obtain rfl : u = Value.ref a := ru
  obtain ⟨mA, J, _⟩ := ins_get I.hok ha
  obtain ⟨od, J, _⟩ := J.look
  refine Calls.call_function_entry kind_len plain_len entry_len (args_len1 _) ?_
  unfold Builtin.«len»
  refine wpAny_bind (m := oneArg "len" _) (wpAny_pure ?_)
  have e0 : Env0 X.prog X.w X.K X.mg X.base X.A.in1 X.stack s H := by
    have e := I.env0
    exact ⟨e.frames, e.mod, e.bs, e.bsz, e.funs, e.frf, e.hok, e.bare⟩
  have hl := F.len _ _ _ _ hsp
  have r2 : Vals [V.ref a] [Value.ref a] := .cons rfl .nil
  refine wpAny_bind (m := callSpecial? (.ref a) (PySem.Str.ofString "__len__")) (PySem.W.special_fn I.kIn J me.at_ (beq_iff_eq.mp me.fn) (wpAny_call (codeAny_mono (F.run X.A.in1 X.stack s H ⟨[.ref a], []⟩ [.ref a] [.ref a] _ C8.E0 hr.in1 e0 (by
    have := b s [.ref a] I.kIn (by simpa using hl)
    simpa using this) r2 hsp) fun r s' hq => ?_)))
  cases r with
  | error e => exact C8.pass0 (E := C8.E0) pins σ H s e s' I hq
  | ok fl =>
    cases fl with
    | ret w =>
      obtain ⟨z, H', I', rz, ez, q⟩ := I.after hq
      subst ez
      obtain ⟨t, rfl⟩ := rz
      refine wpAny_bind (wpAny_holding (wpAny_pure ?_))
      refine wpAny_bind (wpAny_letGo ?_)
      show wpAny _ _ (if ((n : Nat) : Int) < 0 then _ else _) _ _ _
      rw [if_neg (by omega)]
      show wpAny _ _ (if ((n : Nat) : Int) ≥ 2 ^ 63 then _ else _) _ _ _
      rw [if_neg (by omega)]
      exact wpAny_bind (wpAny_mkInt (wpAny_pure ⟨_, rfl, ⟨.int n, H', I'.tok _, ⟨_, rfl⟩, q⟩⟩))
    | next => exact False.elim hq
    | brk => exact False.elim hq
    | cont => exact False.elim hq
theorem pe_mk0 {X : Cx} {k j : Nat} {x : Str} {C : Addr} {sp : Sp} {dvs : List V} {p pos : Pos} (c : Mak X.prog X.w X.K X.mg X.base k x C sp dvs) (hr : Room j X.A) (hk : k + 1 ≤ j) (hg : Gl X x)
    (hdb : (x == ("__debug__" : Str)) = false := by decide) : PE X (.Call (.Name x p) [] [] pos) (tMake C sp dvs C8.E0 tNil) := by
  obtain ⟨f, fd, ps, ds, M, F, hm, b, d⟩ := c.ex
  exact pe_make0 M F (hr.mono hk) hg hm b d C8.pass0 hdb
theorem pi_or {X : Cx} {tg e : Expr} {w1 w2 : TI} (h1 : PI X tg e w1) (h2 : PI X tg e w2) : PI X tg e (fun σ H R => w1 σ H R ∨ w2 σ H R) :=
  ⟨fun pins s σ H R I h => h.elim (fun h => h1.run pins s σ H R I h) fun h => h2.run pins s σ H R I h⟩
end Ts
set_option maxHeartbeats 4000000
namespace Ts
open PySem PySem.Spec PyProof.Rows L2 C8 He
/-! ### stories -/
structure OcOk (o : Oc) : Prop where
  b : 0 ≤ o.b
  nm : NameOk o.nm
  m : 1 ≤ o.m
structure OsOk (os : List Oc) : Prop where
  ok : ∀ o ∈ os, OcOk o
  srt : os.Pairwise fun x y => x.b ≤ y.b
  len : os.length ≤ 900
def SeqA (K : PySem.W.Frag) (H : Hp) (a : Addr) (xs : List V) : Prop := SqL K H a xs ∨ SqT K H a xs
theorem SeqA.same {K : PySem.W.Frag} {H H' : Hp} {a : Addr} {xs : List V} (s : Same H H') (h : SeqA K H a xs) : SeqA K H' a xs := h.elim (fun h => .inl (Same.seq s h)) fun h => .inr (sm_seqT s h)
def spIsOcc : Sp := fun vs H Q _ => ∃ (p : Addr) (o : Oc), vs = [.ref p] ∧ H p = some (.tup (ocV o)) ∧ OcOk o ∧ ∀ H', Same H H' → Q (.bl true) H'
def spNeedOcc (K : PySem.W.Frag) : Sp := fun vs H Q _ => ∃ (a : Addr) (xs : List V) (os : List Oc), vs = [.ref a] ∧ SeqA K H a xs ∧ OcsAt H xs os ∧ OsOk os ∧ ∀ H' t, Same H H' → SqT K H' t xs → Q (.ref t) H'
def spStory (K : PySem.W.Frag) : Sp := fun vs H Q _ => ∃ (H0 : Hp) (p a dx : Addr) (xs : List V) (os : List Oc), vs = [.ref p, .ref a] ∧ H0 p = none ∧ Same H0 H ∧ H p = some (.ins (ga K "Story") dx []) ∧ SeqA K H0 a xs ∧ OcsAt H0 xs os ∧ OsOk os ∧
  ∀ H', Same H0 H' → StoryAt K H' p os → Q .non H'
def spLen (K : PySem.W.Frag) : Sp := fun vs H Q _ => ∃ (a : Addr) (os : List Oc), vs = [.ref a] ∧ StoryAt K H a os ∧ Q (.int (os.length : Nat)) H
def spFurther (K : PySem.W.Frag) : Sp := fun vs H Q _ => ∃ (a l : Addr) (xs : List V) (os os2 : List Oc), vs = [.ref a, .ref l] ∧ StoryAt K H a os ∧ SqL K H l xs ∧ OcsAt H xs os2 ∧ OsOk (os ++ os2) ∧ ∀ H' b, Same H H' → StoryAt K H' b (os ++ os2) → Q (.ref b) H'
theorem OcsAt.app {H : Hp} {xs ys : List V} {os qs : List Oc} (h : OcsAt H xs os) (g : OcsAt H ys qs) : OcsAt H (xs ++ ys) (os ++ qs) := by
  refine ⟨by rw [List.length_append, List.length_append, h.1, g.1], fun i o e => ?_⟩
  by_cases hi : i < os.length
  · rw [List.getElem?_append_left hi] at e
    obtain ⟨p, h1, h2⟩ := h.2 i o e
    exact ⟨p, by rw [List.getElem?_append_left (by rw [h.1]; exact hi)]; exact h1, h2⟩
  · rw [List.getElem?_append_right (by omega)] at e
    obtain ⟨p, h1, h2⟩ := g.2 _ o e
    exact ⟨p, by rw [List.getElem?_append_right (by rw [h.1]; omega), h.1]; exact h1, h2⟩
theorem neI {a b : Int} (h : a = b) : V.bl (!decide (V.int a = V.int b)) = V.bl false := by
  subst h
  simp
section
variable {P : Program} {w : World} {K : PySem.W.Frag} {mg : Str → Option Value} {base : Heap}
theorem G_is_occasion_stories (T : Txt P w K mg) : Cal P w K mg base 3 "is_occasion_stories" spIsOcc [] := by
  have G_is_number := G_is_number (P := P) (w := w) (base := base) T
  have G_is_name := G_is_name (P := P) (w := w) (base := base) T
  have G_is_length := G_is_length (P := P) (w := w) (base := base) T
  refine calN T.d_is_occasion_stories T.g_is_occasion_stories sc_is_occasion_stories (fun _ _ _ _ _ _ us hl => match us, hl with | [_], _ => rfl) (fun vs H Q E h => ?_) (fun cdv A outer s H vs Q E hr h => ?_)
  · obtain ⟨p, o, rfl, _⟩ := h
    rfl
  · obtain ⟨p, o, rfl, hp, ok, k⟩ := h
    refine ⟨_, (pss_cons (ps_if (PW.pt (pw_or (pt_not (pt_val (pe_callB call_isi (by rfl) T.b_isinstance boot_isinstance (pa_cons (pv 0) (pa_cons (pe_bltn (v := .ty "tuple") (by rfl) T.b_tuple boot_tuple rfl) pa_nil))))) (pw_or1 (pt_cmpR op_ne (pe_callB call_len_seq (by rfl) T.b_len boot_len (pa_cons (pv 0) pa_nil)) pe_int (nomark _))))) (pss_one (ps_ret pe_bl)) pss_nil)
      (pss_one (ps_ret (pe_and (pe_c G_is_number hr (by decide) (by rfl) (pa_cons (pe_ix ix_tup (pv 0) pe_int (fun _ _ => rfl)) pa_nil)) (pe_and (pe_c G_is_name hr (by decide) (by rfl) (pa_cons (pe_ix ix_tup (pv 0) pe_int (fun _ _ => rfl)) pa_nil)) (pe_one (pe_c G_is_length hr (by decide) (by rfl) (pa_cons (pe_ix ix_tup (pv 0) pe_int (fun _ _ => rfl)) pa_nil)))))))), ?_⟩
    have t : SqT K H p (ocV o) := SqT.of hp
    refine ⟨_, rfl, _, _, _, _, true, rfl, .ty _, ty_tup t, kitI K (by decide +kernel), _, rfl, iteF ?_⟩
    refine ⟨_, rfl, p, _, rfl, .inr t, rfl, false, neI rfl, iteF ?_⟩
    refine ⟨_, rfl, _, _, _, _, rfl, rfl, t, atI_nat (j := 0) rfl, o.b, rfl, true, congrArg V.bl (decide_eq_true ok.b), iteT ?_⟩
    refine ⟨_, rfl, _, _, _, _, rfl, rfl, t, atI_nat (j := 1) rfl, o.nm, rfl, ok.nm, fun H1 s1 => ⟨true, rfl, iteT ?_⟩⟩
    refine ⟨_, rfl, _, _, _, _, rfl, rfl, sm_seqT s1 t, atI_nat (j := 2) rfl, o.m, rfl, ?_⟩
    rw [decide_eq_true ok.m]
    exact k _ s1
theorem G_is_occasion_live (T : Txt P w K mg) : Cal P w K mg base 3 "is_occasion_live" spIsOcc [] := by
  have G_is_number := G_is_number (P := P) (w := w) (base := base) T
  have G_is_name := G_is_name (P := P) (w := w) (base := base) T
  have G_is_length := G_is_length (P := P) (w := w) (base := base) T
  refine calN T.d_is_occasion_live T.g_is_occasion_live sc_is_occasion_live (fun _ _ _ _ _ _ us hl => match us, hl with | [_], _ => rfl) (fun vs H Q E h => ?_) (fun cdv A outer s H vs Q E hr h => ?_)
  · obtain ⟨p, o, rfl, _⟩ := h
    rfl
  · obtain ⟨p, o, rfl, hp, ok, k⟩ := h
    refine ⟨_, (pss_cons (ps_if (PW.pt (pw_or (pt_not (pt_val (pe_callB call_isi (by rfl) T.b_isinstance boot_isinstance (pa_cons (pv 0) (pa_cons (pe_bltn (v := .ty "tuple") (by rfl) T.b_tuple boot_tuple rfl) pa_nil))))) (pw_or1 (pt_cmpR op_ne (pe_callB call_len_seq (by rfl) T.b_len boot_len (pa_cons (pv 0) pa_nil)) pe_int (nomark _))))) (pss_one (ps_ret pe_bl)) pss_nil)
      (pss_one (ps_ret (pe_and (pe_c G_is_number hr (by decide) (by rfl) (pa_cons (pe_ix ix_tup (pv 0) pe_int (fun _ _ => rfl)) pa_nil)) (pe_and (pe_c G_is_name hr (by decide) (by rfl) (pa_cons (pe_ix ix_tup (pv 0) pe_int (fun _ _ => rfl)) pa_nil)) (pe_one (pe_c G_is_length hr (by decide) (by rfl) (pa_cons (pe_ix ix_tup (pv 0) pe_int (fun _ _ => rfl)) pa_nil)))))))), ?_⟩
    have t : SqT K H p (ocV o) := SqT.of hp
    refine ⟨_, rfl, _, _, _, _, true, rfl, .ty _, ty_tup t, kitI K (by decide +kernel), _, rfl, iteF ?_⟩
    refine ⟨_, rfl, p, _, rfl, .inr t, rfl, false, neI rfl, iteF ?_⟩
    refine ⟨_, rfl, _, _, _, _, rfl, rfl, t, atI_nat (j := 0) rfl, o.b, rfl, true, congrArg V.bl (decide_eq_true ok.b), iteT ?_⟩
    refine ⟨_, rfl, _, _, _, _, rfl, rfl, t, atI_nat (j := 1) rfl, o.nm, rfl, ok.nm, fun H1 s1 => ⟨true, rfl, iteT ?_⟩⟩
    refine ⟨_, rfl, _, _, _, _, rfl, rfl, sm_seqT s1 t, atI_nat (j := 2) rfl, o.m, rfl, ?_⟩
    rw [decide_eq_true ok.m]
    exact k _ s1
theorem G_need_occasions (T : Txt P w K mg) : Cal P w K mg base 4 "need_occasions" (spNeedOcc K) [] := by
  have G_is_sequence := G_is_sequence (P := P) (w := w) (base := base) T
  have G_is_occasion_stories := G_is_occasion_stories (P := P) (w := w) (base := base) T
  refine calN T.d_need_occasions T.g_need_occasions sc_need_occasions (fun _ _ _ _ _ _ us hl => match us, hl with | [_], _ => rfl) (fun vs H Q E h => ?_) (fun cdv A outer s H vs Q E hr h => ?_)
  · obtain ⟨a, xs, os, rfl, _⟩ := h
    rfl
  · obtain ⟨a, xs, os, rfl, hx, ho, ok, k⟩ := h
    refine ⟨_, (pss_cons (ps_if (pt_not (pt_val (pe_c G_is_sequence hr (by decide) (by rfl) (pa_cons (pv 0) pa_nil)))) pss_never pss_nil)
      (pss_cons (ps_set (i := 1) sc_need_occasions.nd rfl (Or.inl rfl) pe_int)
      (pss_cons (ps_for PassesOwn.never rfl (pi_or (pi_enum (by rfl) T.b_enumerate (pa_cons (pv 0) pa_nil)) (pi_enumT (by rfl) T.b_enumerate (pa_cons (pv 0) pa_nil))) (pg_tup rfl (pgs_cons (pg_name (i := 2) sc_need_occasions.nd rfl (Or.inl rfl)) (pgs_cons (pg_name (i := 3) sc_need_occasions.nd rfl (Or.inl rfl)) pgs_nil))) (pss_cons (ps_if (PW.pt (pw_or (pt_not (pt_val (pe_c G_is_occasion_stories hr (by decide) (by rfl) (pa_cons (pv 3) pa_nil)))) (pw_or1 (pt_cmpR op_lt (pe_ix ix_tup (pv 3) pe_int (fun _ _ => rfl)) (pv 1) (nomark _))))) pss_never pss_nil)
      (pss_one (ps_set (i := 1) sc_need_occasions.nd rfl (Or.inl rfl) (pe_ix ix_tup (pv 3) pe_int (fun _ _ => rfl))))))
      (pss_one (ps_ret (pe_callTy call_tuple_of (by rfl) T.b_tuple boot_tuple (pa_cons (pv 0) pa_nil))))))), ?_⟩
    refine ⟨_, rfl, a, xs, rfl, hx, fun H1 s1 => ⟨_, rfl, iteF ?_⟩⟩
    rcases hx with hx | hx
    · refine .inl ⟨_, rfl, a, xs, rfl, Same.seq s1 hx, ?_⟩
      refine for_it (walk_enum (K := K) (a := a) (xs := xs)) (fun i σ H' => Same H1 H' ∧ ∃ d u v, σ = [some (.ref a), some (.int d), u, v] ∧ ∀ o, os[i]? = some o → d ≤ o.b) ⟨Same.refl _, 0, none, none, rfl, fun o e => (ok.ok o (List.mem_of_getElem? e)).b⟩ (fun i σ H' _ q => Same.seq (s1.trans q.1) hx) ?_ ?_
      · rintro i v σ H3 H4 hi ⟨s3, d, u, v', rfl, hd⟩ ⟨T', x1, y1, rfl, hT, rfl, hx1, hy1⟩
        cases hx1
        replace hy1 : xs[i]? = some y1 := hy1
        obtain ⟨q, o, rfl, hoi, hq⟩ := ho.at_ hy1
        have sT := sm_new (o := HO.tup [V.int (i : Nat), .ref q]) hT
        have s4 := (s1.trans s3).trans sT
        have hq4 := s4 _ _ hq
        have ook := ok.ok o (List.mem_of_getElem? hoi)
        refine ⟨T', _, rfl, SqT.of upd_same, rfl, _, _, rfl, _, _, rfl, rfl, ?_⟩
        refine ⟨_, rfl, q, o, rfl, hq4, ook, fun H5 s5 => ⟨_, rfl, iteF ?_⟩⟩
        have hq5 := s5 _ _ hq4
        refine ⟨_, rfl, _, _, _, _, rfl, rfl, SqT.of hq5, atI_nat (j := 0) rfl, _, rfl, _, _, rfl, rfl, _, rfl, itF (decide_eq_false ?_) ?_⟩
        · have := hd o hoi
          omega
        refine ⟨_, rfl, _, _, _, _, rfl, rfl, SqT.of hq5, atI_nat (j := 0) rfl, (s3.trans sT).trans s5, o.b, _, _, rfl, fun o2 e2 => ?_⟩
        obtain ⟨h1, e1⟩ := List.getElem?_eq_some_iff.mp hoi
        obtain ⟨h2, e3⟩ := List.getElem?_eq_some_iff.mp e2
        rw [← e1, ← e3]
        exact List.pairwise_iff_getElem.mp ok.srt i (i + 1) h1 h2 (Nat.lt_succ_self i)
      · rintro σ H3 ⟨s3, d, u, v, rfl, _⟩
        have hx3 := Same.seq (s1.trans s3) hx
        first
          | exact ⟨_, rfl, a, xs, rfl, .inl ⟨hx3, fun l hl => k _ l ((s1.trans s3).trans (sm_new hl)) (SqT.of upd_same)⟩⟩
          | exact ⟨_, rfl, a, xs, rfl, .inr ⟨hx3, k _ a (s1.trans s3) hx3⟩⟩
    · refine .inr ⟨_, rfl, a, xs, rfl, sm_seqT s1 hx, ?_⟩
      refine for_it (walk_enumT (K := K) (a := a) (xs := xs)) (fun i σ H' => Same H1 H' ∧ ∃ d u v, σ = [some (.ref a), some (.int d), u, v] ∧ ∀ o, os[i]? = some o → d ≤ o.b) ⟨Same.refl _, 0, none, none, rfl, fun o e => (ok.ok o (List.mem_of_getElem? e)).b⟩ (fun i σ H' _ q => sm_seqT (s1.trans q.1) hx) ?_ ?_
      · rintro i v σ H3 H4 hi ⟨s3, d, u, v', rfl, hd⟩ ⟨T', x1, y1, rfl, hT, rfl, hx1, hy1⟩
        cases hx1
        replace hy1 : xs[i]? = some y1 := hy1
        obtain ⟨q, o, rfl, hoi, hq⟩ := ho.at_ hy1
        have sT := sm_new (o := HO.tup [V.int (i : Nat), .ref q]) hT
        have s4 := (s1.trans s3).trans sT
        have hq4 := s4 _ _ hq
        have ook := ok.ok o (List.mem_of_getElem? hoi)
        refine ⟨T', _, rfl, SqT.of upd_same, rfl, _, _, rfl, _, _, rfl, rfl, ?_⟩
        refine ⟨_, rfl, q, o, rfl, hq4, ook, fun H5 s5 => ⟨_, rfl, iteF ?_⟩⟩
        have hq5 := s5 _ _ hq4
        refine ⟨_, rfl, _, _, _, _, rfl, rfl, SqT.of hq5, atI_nat (j := 0) rfl, _, rfl, _, _, rfl, rfl, _, rfl, itF (decide_eq_false ?_) ?_⟩
        · have := hd o hoi
          omega
        refine ⟨_, rfl, _, _, _, _, rfl, rfl, SqT.of hq5, atI_nat (j := 0) rfl, (s3.trans sT).trans s5, o.b, _, _, rfl, fun o2 e2 => ?_⟩
        obtain ⟨h1, e1⟩ := List.getElem?_eq_some_iff.mp hoi
        obtain ⟨h2, e3⟩ := List.getElem?_eq_some_iff.mp e2
        rw [← e1, ← e3]
        exact List.pairwise_iff_getElem.mp ok.srt i (i + 1) h1 h2 (Nat.lt_succ_self i)
      · rintro σ H3 ⟨s3, d, u, v, rfl, _⟩
        have hx3 := sm_seqT (s1.trans s3) hx
        first
          | exact ⟨_, rfl, a, xs, rfl, .inl ⟨hx3, fun l hl => k _ l ((s1.trans s3).trans (sm_new hl)) (SqT.of upd_same)⟩⟩
          | exact ⟨_, rfl, a, xs, rfl, .inr ⟨hx3, k _ a (s1.trans s3) hx3⟩⟩
theorem story_body (T : Txt P w K mg) : ∀ vs H Q E, spStory K vs H Q E → vs.length = 2 := fun vs H Q E h => by
  obtain ⟨H0, p, a, dx, xs, os, rfl, _⟩ := h
  rfl
theorem story_walk (T : Txt P w K mg) : Body P w K mg base 4 "Story.__init__" s_Story_init n_Story_init (ma K (ga K "Story") "__init__") (spStory K) := fun cdv A outer s H vs Q E hr h => by
  have G_need_occasions := G_need_occasions (P := P) (w := w) (base := base) T
  obtain ⟨H0, p, a, dx, xs, os, rfl, n0, s0, hp, hx, ho, ok, k⟩ := h
  refine ⟨_, (pss_one (ps_fld (pv 0) (pe_c G_need_occasions hr (by decide) (by rfl) (pa_cons (pv 1) pa_nil)) rfl)), ?_⟩
  refine ⟨_, rfl, a, xs, os, rfl, SeqA.same s0 hx, ho.mono (SameI.of s0), ok, fun H1 t s1 ht => ?_⟩
  have p1 := s1 _ _ hp
  refine ⟨_, rfl, p, _, dx, [], rfl, p1, T.c_Story, T.no_Story_occasions, Nat.le_of_ble_eq_true rfl, ?_⟩
  have S := sm_to (o := .ins (ga K "Story") dx (putF "occasions" (V.ref t) [])) (s0.trans s1) n0
  refine k _ S ⟨dx, _, t, xs, upd_same, lkE, ?_, ho.mono (SameI.of S), rfl⟩
  rcases ht with (ht | ⟨o, ht⟩) | ht
  · exact .inl (.inl (by rw [upd_ne (fun e => by rw [e, p1] at ht; cases ht)]; exact ht))
  · exact .inl (.inr ⟨o, by rw [upd_ne (fun e => by rw [e, p1] at ht; cases ht)]; exact ht⟩)
  · exact .inr ht
theorem M_Story (T : Txt P w K mg) : Mak P w K mg base 5 "Story" (ga K "Story") (spStory K) [] := by
  have z : Mak P w K mg base 5 "Story" (ga K "Story") (spStory K) ([V.ref (dflAt ("Story", some "__init__") 0 K)].drop 1) := makD 2 1 T.d_Story_init (by simp) T.k_Story T.g_Story sc_Story_init rfl
    (fun T kV doc pm an cdv ct us its h1 h2 => match us, its, h1, h2 with | [_, _], [_], _, _ => ⟨_, rfl, rfl⟩) (story_body T) (story_walk T)
  exact z
theorem M_Story0 (T : Txt P w K mg) : Mak P w K mg base 5 "Story" (ga K "Story") (spStory K) [V.ref (dflAt ("Story", some "__init__") 0 K)] := by
  have z : Mak P w K mg base 5 "Story" (ga K "Story") (spStory K) ([V.ref (dflAt ("Story", some "__init__") 0 K)].drop 0) := makD 1 0 T.d_Story_init (by simp) T.k_Story T.g_Story sc_Story_init rfl
    (fun T kV doc pm an cdv ct us its h1 h2 => match us, its, h1, h2 with | [_], [_], _, _ => ⟨_, rfl, rfl⟩) (story_body T) (story_walk T)
  exact z
theorem Me_len (T : Txt P w K mg) : Met P w K mg base 1 (ga K "Story") "__len__" (spLen K) [] := by
  refine metN T.d_Story_len T.c_Story T.m_Story_len sc_Story_len (fun _ _ _ _ _ _ us hl => match us, hl with | [_], _ => rfl) (fun vs H Q E h => ?_) (fun cdv A outer s H vs Q E hr h => ?_)
  · obtain ⟨a, os, rfl, _⟩ := h
    rfl
  · obtain ⟨a, os, rfl, ⟨dx, fs, t, xs, h1, h2, h3, h4, h5⟩, k⟩ := h
    refine ⟨_, (pss_one (ps_ret (pe_callB call_len_seq (by rfl) T.b_len boot_len (pa_cons (pe_fld (pv 0) (by rfl)) pa_nil)))), ?_⟩
    refine ⟨_, rfl, a, _, dx, fs, _, rfl, h1, T.c_Story, T.no_Story_occasions, h2, t, xs, rfl, .inr h3, ?_⟩
    rw [h4.1]
    exact k
theorem Me_further (T : Txt P w K mg) : Met P w K mg base 7 (ga K "Story") "further" (spFurther K) [] := by
  have G_is_sequence := G_is_sequence (P := P) (w := w) (base := base) T
  have M_Story := M_Story (P := P) (w := w) (base := base) T
  refine metN T.d_Story_further T.c_Story T.m_Story_further sc_Story_further (fun _ _ _ _ _ _ us hl => match us, hl with | [_, _], _ => rfl) (fun vs H Q E h => ?_) (fun cdv A outer s H vs Q E hr h => ?_)
  · obtain ⟨a, l, xs, os, os2, rfl, _⟩ := h
    rfl
  · obtain ⟨a, l, ys, os, os2, rfl, hS, hl, ho, ok, k⟩ := h
    refine ⟨_, (pss_cons (ps_if (pt_not (pt_val (pe_c G_is_sequence hr (by decide) (by rfl) (pa_cons (pv 1) pa_nil)))) pss_never pss_nil)
      (pss_one (ps_ret (pe_mk M_Story hr (by decide) (by rfl) (pa_cons (pe_tup (StX.pa_star (pe_fld (pv 0) (by rfl)) (StX.pa_star (pv 1) pa_nil))) pa_nil))))), ?_⟩
    refine ⟨_, rfl, l, ys, rfl, .inl hl, fun H1 s1 => ⟨_, rfl, iteF ?_⟩⟩
    obtain ⟨dx, fs, t, xs, h1, h2, h3, h4, h5⟩ := hS.mono (SameI.of s1)
    refine ⟨_, rfl, a, _, dx, fs, _, rfl, h1, T.c_Story, T.no_Story_occasions, h2, t, xs, rfl, .inl h3, _, rfl, l, ys, rfl, .inr (Same.seq s1 hl), ?_⟩
    have hoc := h4.app (ho.mono (SameI.of s1))
    have ll : (xs ++ (ys ++ [])).length ≤ sizeLine := by
      have := hoc.1
      have := ok.len
      rw [List.append_nil]
      exact Nat.le_trans (show _ ≤ 900 by omega) (by decide)
    refine ⟨ll, fun p hp => ?_⟩
    rw [List.append_nil]
    have sp := sm_new (o := HO.tup (xs ++ ys)) hp
    refine fun x dy nx ndx nex => ?_
    exact ⟨_, x, p, dy, xs ++ ys, os ++ os2, rfl, nx, made_same nx ndx, upd_same, .inr (SqT.of upd_same), hoc.mono (SameI.of sp), ok, fun H' s' hs => ⟨rfl, k _ _ ((s1.trans sp).trans s') hs⟩⟩
end
end Ts
set_option maxHeartbeats 4000000
namespace Ts
open PySem PySem.Spec PyProof.Rows L2 C8 He
theorem ref_init {P : Program} {w : World} {K : PySem.W.Frag} {mg : Str → Option Value} {base : Heap} {A : Around} {s : Shared} {R : Result → Shared → Prop} {C f cc cda x t0 : Addr} {u : Value} (F : RefF P K C f cc cda) (M : Mod K mg base)
    (hb : ∀ b o, base.get? b = some o → s.heap.get? b = some o) (hbx : base.get? x = none) (hm : mg "super" = none) (hroom : A.depth < recursionLimit) (hx : s.heap.get? x = some (PySem.HandSPX.excO C t0))
    (hq : ∀ h' dx t1 tk', (∀ b o, b ≠ x → s.heap.get? b = some o → h'.get? b = some o) → h'.get? x = some { cls := .ref C, dict := some dx, data := .fields #[.ref t1, .none, .none, .none, .bool false, .none] } →
      R (.ok (.ret .none)) { s with heap := h', toks := tk' }) : codeAny (model P w) A (.call (.ref f) ⟨[.ref x, u], []⟩) R s := by
  obtain ⟨oc, od, kV, doc, pm, an, ct, osl, ho⟩ := F.fn
  obtain ⟨ccl, cdd, vs, ccs, tf, hcda, hvs⟩ := F.file
  obtain ⟨cl, cld, csl, hcell⟩ := F.cell
  have X : K.In s.heap := M.kin.keeps hb
  refine ks_codeAny_call_defAt (fd := PySem.W.ksFn "__init__" "Refused.__init__" (defArgs s_Refused) (defBody s_Refused) (defScope s_Refused) .none kV doc pm an (.ref cda) ct cc) (body := defBody s_Refused) (binds := [("self", .ref x), ("at", u)])
    hroom (X _ _ ho) rfl (M.nolimit.keeps hb) (PySem.W.codeRec_of X F.code) rfl (BindsTo.of_eq rfl) (show ∀ y ∈ (defScope s_Refused).names, y.2 ≠ .cell from by decide +kernel) (by intro y hy; rcases List.mem_cons.mp hy with rfl | hy; exact rfl; rcases List.mem_cons.mp hy with rfl | hy; exact rfl; cases hy) (fun h1 hns hk1 => ?_) rfl rfl rfl
  have X1 : K.In h1 := X.keeps hk1
  have hx1 := hk1 _ _ hx
  refine ks_wpAt_execs_cons (ks_wpAt_Expr_any (ks_wpAt_MethodCall ?_))
  refine ks_wpAt_super_base (by rfl) (by rfl) (by decide) rfl (X1 _ _ ho) rfl rfl rfl (X1 _ _ hcda) rfl hvs (by simp) F.top ?_
  obtain ⟨nm, q, N, bs, bm, sn, sub, ab, col, dd, k0, k1, k2, k3, k5, hC, hbm⟩ := F.cls.cls
  have hcl : PySem.W.clsIn K C = some { name := nm, bases := bs, mro := .ref C :: bm, ns := N, qualname := q, hasDict := true, slotNames := sn, subclasses := sub, abstract := ab, collection := col, hasDel := false } := by unfold PySem.W.clsIn; rw [hC] <;> rfl
  obtain ⟨mb, hb1, hb2⟩ := M.blt
  have kb : ∀ b o, base.get? b = some o → h1.get? b = some o := fun b o e => hk1 _ _ (hb _ _ e)
  refine PySem.W.ks_loadName_global rfl (by rfl) (Calls.loadGlobal_builtin (M.glob.keeps kb) hm (hb1.keeps kb) ((hb2 "super" (by decide)).trans (by decide +kernel)) ⟨rfl, ?_⟩)
  refine wpAny_loadName_free rfl (by rfl) rfl ⟨_, X1 _ _ hcell, rfl⟩ ?_
  refine wpAny_loadName_local rfl (by rfl) hns rfl ?_
  refine ks_wpAny_isType_cls (X1 _ _ hC) rfl ⟨rfl, ?_⟩
  refine ks_wpAny_call_super (X1 _ _ hC) rfl hx1 rfl (fun c e => by cases e) (PySem.W.looks_mroIn X1 F.msub) fun h2 e2 kk2 => ?_
  have X2 := X1.keeps kk2
  have hx2 := kk2 _ _ hx1
  have J2 : PySem.W.InstAt h2 x (PySem.HandSPX.excO C t0) C none := ⟨hx2, rfl, rfl, trivial⟩
  have hsup := F.sup
  unfold PySem.W.ks_superIn at hsup
  rw [hcl] at hsup
  refine PySem.W.kxs_getMethod PySem.W.kxs_ValueError e2 (PySem.W.looks_opaque X2 F.opq) (l₀ := .ref C :: bm) (fun A Q E s k q => wpAny_bind ((PySem.W.looks_clsIn X2 hcl) A _ E s k (wpAny_pure q))) rfl X2 hsup (J2.type.andThen (PySem.W.looks_subIn X2 F.veC)) (PySem.W.ks_ne X2 J2 hcl) (by decide) ?_
  have k23 : ∀ b o, h2.get? b = some o → (h2.push (PySem.W.kxs_mw "ValueError.__init__" x)).get? b = some o := fun b o e => Heap.get?_push_of_some _ e
  have hu : (h2.push (PySem.W.kxs_mw "ValueError.__init__" x)).get? h2.objs.size = some (PySem.W.kxs_mw "ValueError.__init__" x) := Heap.get?_push_size _ rfl
  have X3 := X2.keeps k23
  have hx3 := k23 _ _ hx2
  generalize h2.push (PySem.W.kxs_mw "ValueError.__init__" x) = h3 at *
  generalize h2.objs.size = u2 at *
  refine PySem.W.kxs_callWith (i := "ValueError.__init__") (u := u2) (x := x) rfl (evalArgs_empty ⟨hu, ?_⟩)
  refine wpAny_call (codeAny_of_tree ?_)
  show wpAny _ _ (callAny (.ref u2) ⟨[], []⟩) _ _ _
  simp only [callAny]
  refine wpAny_bind (wpAny_load hu ?_)
  simp only [PySem.W.kxs_mw, show (Value.type "method-wrapper" == Value.type "method" || Value.type "method-wrapper" == Value.type "builtin_function_or_method" || Value.type "method-wrapper" == Value.type "method-wrapper") = true by decide, if_true]
  refine PySem.W.KFB.if_so (by decide) ?_
  refine wpAny_bind (PySem.W.check_bound_init PySem.F.excBase_ValueError.toExcCallFacts (X3 _ _ hC) hx3 rfl ?_)
  refine wpAny_bind (wpAny_pure (wpAny_pure ?_))
  refine ⟨plainId_quiet PySem.F.excBase_ValueError.init.plain _, codeAny_builtin PySem.F.excBase_ValueError.initEntry ?_⟩
  refine PySem.W.exc_init_tree (cls := .ref C) (t0 := t0) (dv := none) (c2 := .none) (c3 := .none) (b4 := .bool false) (rest := []) hx3 (Nat.zero_le _) fun h4 k4 hx4 ht4 => ?_
  have hL : s.heap.objs.size ≠ x := Nat.ne_of_gt (Heap.lt_size hx)
  have n4 : h4.Ns s.heap.objs.size fun y => List.lookup y [(Str.ofString "self", Value.ref x), (Str.ofString "at", u)].reverse := by
    obtain ⟨o, es, ep, e, r⟩ := hns
    exact ⟨o, es, ep, k4 _ _ hL (k23 _ _ (kk2 _ _ e)), r⟩
  have X4 : K.In h4 := fun b o e => k4 b o (fun z => by
    have := M.kin _ _ e
    rw [z, hbx] at this
    cases this) (X3 _ _ e)
  refine ks_wpAt_execs_cons (wpAt_of_wpAny (plainObj_wpAny_Assign_Attribute (wpAny_Name (wpAny_loadName_local rfl (by rfl) n4 rfl (wpAny_Name (wpAny_loadName_local rfl (by rfl) n4 rfl ?_) (by decide))) (by decide)) (by rfl)))
  refine PySem.W.set_plain X4 (ox := PySem.HandSPX.excO C h3.objs.size) (od := none) ⟨hx4, rfl, rfl, trivial⟩ F.cls.sa (PySem.HandSPX.exc_osa X4 hx4 hcl (show PySem.HandSPX.refsVE (.ref C :: bm) = true from hbm) rfl F.noat (fun h5 tk5 dx k5 dn dne hx5 hn5 => ?_))
  refine wpAt_of_wpAny (wpAny_pure ?_)
  exact hq h5 dx h3.objs.size tk5 (fun b o hbx2 e => k5 b o hbx2 (k4 b o hbx2 (k23 _ _ (kk2 _ _ (hk1 _ _ e))))) hx5
/-- the making of the exception, ready to be raised -/
theorem pmk_ref {X : Cx} {C f cc cda : Addr} {t : TA} {p pos : Pos} {e : Expr} {es : List Expr} (F : RefF X.prog X.K C f cc cda) (hr : Room 3 X.A) (hg : Gl X "Refused") (hm : X.mg "Refused" = some (.ref C)) (hs : X.mg "super" = none) (ha : PA X (e :: es) t)
    (hst : starEach (e :: es) X.env = (false, eval e X.env) :: starEach es X.env := by rfl) (hpl : (backTo pos (starEach es X.env)).any (·.1) = false := by rfl) :
    L2N.PMk X (.Call (.Name "Refused" p) (e :: es) [] pos) (fun σ H Q => t σ H fun vs H1 => (∃ v, vs = [v]) ∧ ∀ d, Q (.ref C) d H1) := by
  intro pins s σ H Q I h
  obtain ⟨nm, q, N, bs, bm, sn, sub, ab, col, dd, k0, k1, k2, k3, k5, hC, hbm⟩ := F.cls.cls
  refine wpAny_Call_Name_kw (ld_glob I hg hm ?_ (by decide))
  refine PySem.W.callWith_K (h₀ := X.base) I.ok.mod.kin F.cls.kC (thn (ha.run pos pins s σ H _ I h) fun us s1 ⟨vs, H1, I1, r1, ⟨v, ev⟩, q1⟩ => ⟨I1.kIn, ?_⟩) hst hpl
  subst ev
  obtain ⟨u, rfl, ru⟩ := vals1 r1
  show wpAny _ _ (call (.ref C) [u]) _ _ _
  obtain ⟨hp, g, dr, tk, os⟩ := s1
  have hget : ((hp.push (PySem.W.kdv_tup [u])).push (PySem.HandSPX.excO C hp.objs.size)).get? (hp.objs.size + 1) = some (PySem.HandSPX.excO C hp.objs.size) := by heap_get
  have kk : ∀ b o, hp.get? b = some o → ((hp.push (PySem.W.kdv_tup [u])).push (PySem.HandSPX.excO C hp.objs.size)).get? b = some o := fun b o e => Heap.get?_push_of_some _ (Heap.get?_push_of_some _ e)
  have hbs : ∀ b o, X.base.get? b = some o → hp.get? b = some o := fun b o e => (I1.bs b o e).1
  have hbx : X.base.get? (hp.objs.size + 1) = none := by
    cases z : X.base.get? (hp.objs.size + 1) with
    | none => rfl
    | some o =>
      exact absurd (Heap.lt_size (hbs _ _ z)) (Nat.not_lt.mpr (Nat.le_succ _))
  have hdp : (X.A.under (.builtin "type.__call__" ⟨.ref C :: [u], []⟩)).depth < recursionLimit := by
    have h1 := (hr.make C [u] []).dp
    exact Nat.lt_of_le_of_lt (Nat.le_trans (Nat.le_add_right _ _) (Nat.le_add_right _ _)) h1
  have nx : hp.get? (hp.objs.size + 1) = none := Heap.get?_none_of_le (Nat.le_succ _)
  refine wpAny_call (PySem.HandSPX.call_own PySem.F.excBase_ValueError (fun Y => PySem.HandSPX.refsVE_contains Y bm hbm) (I1.kIn _ _ hC) (PySem.W.looks_findIn I1.kIn F.init) (fun self => PySem.W.bind_fn I1.kIn self F.tf) (by show 1 ≤ sizeLine; decide)
    (ref_init F I1.mod (fun b o e => kk _ _ (hbs b o e)) hbx hs hdp hget fun h' dx t1 tk' k hx => ⟨rfl, ?_⟩))
  have nb : ∀ {b : Addr} {o : Obj}, hp.get? b = some o → b ≠ hp.objs.size + 1 := fun {b o} e z => by
    rw [z, nx] at e
    cases e
  exact ⟨_, _, _, ⟨hp, g, dr, tk, os⟩, H1, .ref C, some dx, rfl, I1, fun b o e => k b o (nb e) (kk _ _ e), nx, hx, ⟨rfl, rfl, fun vs e => by cases e; rfl⟩, rfl, rfl, I1.hok.fresh (Nat.le_succ _), rfl, I1.bare, raises_own F.cls.exC F.cls.tyC, q1 (some dx)⟩
end Ts
set_option maxHeartbeats 4000000
namespace Ts
open PySem PySem.Spec PyProof.Rows L2 C8 He
/-! ### points -/
def PtAt (K : PySem.W.Frag) (H : Hp) (a ra : Addr) (R : Rl) (os : List Oc) (t : Int) : Prop := ∃ (dx : Addr) (fs : List (Str × V)) (sa : Addr), H a = some (.ins (ga K "Point") dx fs) ∧ fld fs "plan" = some (.ref ra) ∧ fld fs "told" = some (.ref sa) ∧
  fld fs "over_by" = some (.int (lapseM R os)) ∧ fld fs "today" = some (.int t) ∧ StoryAt K H sa os ∧ fld fs "is_on" = none ∧ fld fs "beginning" = none
theorem PtAt.mono {K : PySem.W.Frag} {H H' : Hp} {a ra : Addr} {R : Rl} {os : List Oc} {t : Int} (s : SameI H H') (h : PtAt K H a ra R os t) : PtAt K H' a ra R os t := by
  obtain ⟨dx, fs, sa, h1, h2, h3, h4, h5, h6, h7, h8⟩ := h
  exact ⟨dx, fs, sa, s _ _ h1 rfl, h2, h3, h4, h5, h6.mono s, h7, h8⟩
def tdy (R : Rl) (os : List Oc) (d : Int) : Int := imin d (lapseM R os + 1)
def spPoint (K : PySem.W.Frag) : Sp := fun vs H Q _ => ∃ (H0 : Hp) (p ra sa dx : Addr) (R : Rl) (os : List Oc) (d : Int), vs = [.ref p, .ref ra, .ref sa, .int d] ∧ H0 p = none ∧ Same H0 H ∧ H p = some (.ins (ga K "Point") dx []) ∧ RuleAt K H0 ra R ∧ RlOk R ∧
  StoryAt K H0 sa os ∧ os.length ≤ 1000 ∧ ∀ H', Same H0 H' → PtAt K H' p ra R os (tdy R os d) → Q .non H'
def spIsOn (K : PySem.W.Frag) : Sp := fun vs H Q _ => ∃ (a ra : Addr) (R : Rl) (os : List Oc) (t : Int), vs = [.ref a] ∧ PtAt K H a ra R os t ∧ Q (.bl (decide (t ≤ lapseM R os))) H
def spBegin (K : PySem.W.Frag) : Sp := fun vs H Q _ => ∃ (a ra : Addr) (R : Rl) (os : List Oc) (o : Oc), vs = [.ref a, .str o.nm, .int o.m] ∧ PtAt K H a ra R os o.b ∧ RuleAt K H ra R ∧ RlOk R ∧ OsOk (os ++ [o]) ∧
  ∀ H' p q (c : Bool), Same H H' → PtAt K H' q ra R (os ++ [o]) (tdy R (os ++ [o]) o.b) → H' p = some (.tup [.ref q, .bl c]) → Q (.ref p) H'
/-- the live claim at p: its last point -/
def LiveAt (K : PySem.W.Frag) (H0 H : Hp) (p ra : Addr) (R : Rl) (os : List Oc) (t : Int) (n : Nat) : Prop := ∃ (dx : Addr) (tp : Addr) (xs : List V) (a : Addr), Same H0 H ∧ H0 p = none ∧ H p = some (.ins (ga K "Live") dx [("past", .ref tp)]) ∧
  H tp = some (.tup (xs ++ [.ref a])) ∧ xs.length ≤ n ∧ PtAt K H a ra R os t
theorem LiveAt.mono {K : PySem.W.Frag} {H0 H H' : Hp} {p ra : Addr} {R : Rl} {os : List Oc} {t : Int} {n : Nat} (s : Same H H') (h : LiveAt K H0 H p ra R os t n) : LiveAt K H0 H' p ra R os t n := by
  obtain ⟨dx, tp, xs, a, s0, n0, hp, ht, hx, ha⟩ := h
  exact ⟨dx, tp, xs, a, s0.trans s, n0, s _ _ hp, s _ _ ht, hx, ha.mono (SameI.of s)⟩
theorem pastN {f : Str} {v : V} (h : ¬ f = "past") : List.lookup f [(("past" : Str), v)] = none := lkN (f := "past") (v := v) (fs := []) h rfl
theorem seqT_updI {K : PySem.W.Frag} {H : Hp} {p C dx a : Addr} {fs gs : List (Str × V)} {xs : List V} (h : SqT K H a xs) (hp : H p = some (.ins C dx fs)) : SqT K (upd H p (.ins C dx gs)) a xs := by
  rcases h with (h | ⟨o, h⟩) | h
  · exact .inl (.inl (by rw [upd_ne (fun e => by rw [e, hp] at h; cases h)]; exact h))
  · exact .inl (.inr ⟨o, by rw [upd_ne (fun e => by rw [e, hp] at h; cases h)]; exact h⟩)
  · exact .inr h
theorem insN {H : Hp} {p a C D dx dy : Addr} {v u : V} {fs : List (Str × V)} {f : Str} (hp : H p = some (.ins C dx [("past", v)])) (ha : H a = some (.ins D dy fs)) (hf : fs.lookup f = some u) (h : ¬ f = "past") : a ≠ p := fun e => by
  rw [e, hp] at ha
  have z := Option.some.inj ha
  injection z with z1 z2 z3
  rw [← z3, pastN h] at hf
  cases hf
theorem PtAt.updL {K : PySem.W.Frag} {H : Hp} {p C dx a ra : Addr} {v u : V} {R : Rl} {os : List Oc} {t : Int} (h : PtAt K H a ra R os t) (hp : H p = some (.ins C dx [("past", v)])) : PtAt K (upd H p (.ins C dx [("past", u)])) a ra R os t := by
  obtain ⟨dq, fq, sa, g1, g2, g3, g4, g5, ⟨q1, q2, q3, q4, e1, e2, e3, e4, e5⟩, g7, g8⟩ := h
  refine ⟨dq, fq, sa, by rw [upd_ne (insN hp g1 g2 (by decide +kernel))]; exact g1, g2, g3, g4, g5, ⟨q1, q2, q3, q4, by rw [upd_ne (insN hp e1 e2 (by decide +kernel))]; exact e1, e2, seqT_updI e3 hp, ⟨e4.1, fun i o e => ?_⟩, e5⟩, g7, g8⟩
  obtain ⟨b, b1, b2⟩ := e4.2 i o e
  exact ⟨b, b1, by rw [upd_ne (fun e => by rw [e, hp] at b2; cases b2)]; exact b2⟩
def spLive (K : PySem.W.Frag) : Sp := fun vs H Q _ => ∃ (H0 : Hp) (p ra dx : Addr) (R : Rl), vs = [.ref p, .ref ra] ∧ H0 p = none ∧ Same H0 H ∧ H p = some (.ins (ga K "Live") dx []) ∧ RuleAt K H0 ra R ∧ RlOk R ∧
  ∀ H', LiveAt K H0 H' p ra R [] (tdy R [] 0) 0 → Q .non H'
def spLast (K : PySem.W.Frag) : Sp := fun vs H Q _ => ∃ (H0 : Hp) (p ra : Addr) (R : Rl) (os : List Oc) (t : Int) (n : Nat), vs = [.ref p] ∧ LiveAt K H0 H p ra R os t n ∧ Q (.int (lapseM R os)) H
/-- several([o]): goes on, or is refused -/
def spSeveral (K : PySem.W.Frag) : Sp := fun vs H Q E => ∃ (H0 : Hp) (p ra l q : Addr) (R : Rl) (os : List Oc) (t : Int) (n : Nat) (o : Oc), vs = [.ref p, .ref l] ∧ LiveAt K H0 H p ra R os t n ∧ RuleAt K H0 ra R ∧ RlOk R ∧ SqL K H0 l [.ref q] ∧ H0 q = some (.tup (ocV o)) ∧
  OsOk (os ++ [o]) ∧ n ≤ 1000 ∧ t ≤ o.b ∧ (o.b ≤ lapseM R os → ∀ H' v, LiveAt K H0 H' p ra R (os ++ [o]) (tdy R (os ++ [o]) o.b) (n + 1) → Q v H') ∧
  (lapseM R os < o.b → ∀ H' d, LiveAt K H0 H' p ra R os t n → E (.ref (ga K "Refused")) d H')
section
variable {P : Program} {w : World} {K : PySem.W.Frag} {mg : Str → Option Value} {base : Heap}
theorem M_Point (T : Txt P w K mg) : Mak P w K mg base 7 "Point" (ga K "Point") (spPoint K) [] := by
  have G_lapse := G_lapse (P := P) (w := w) (base := base) T
  refine makN T.d_Point_init T.k_Point T.g_Point sc_Point_init (fun _ _ _ _ _ _ us hl => match us, hl with | [_, _, _, _], _ => rfl) (fun vs H Q E h => ?_) (fun cdv A outer s H vs Q E hr h => ?_)
  · obtain ⟨H0, p, ra, sa, dx, R, os, d, rfl, _⟩ := h
    rfl
  · obtain ⟨H0, p, ra, sa, dx, R, os, d, rfl, n0, s0, hp, hR, ok, hS, hn, k⟩ := h
    refine ⟨_, (pss_cons (ps_fld (pv 0) (pv 1) rfl)
      (pss_cons (ps_fld (pv 0) (pv 2) rfl)
      (pss_cons (ps_fld (pv 0) (pe_c G_lapse hr (by decide) (by rfl) (pa_cons (pv 1) (pa_cons (pv 2) pa_nil))) rfl)
      (pss_one (ps_fld (pv 0) (pe_callB (call_min2 rfl) (by rfl) T.b_min boot_min (pa_cons (pe_callTy call_int1 (by rfl) T.b_int boot_int (pa_cons (pv 3) pa_nil)) (pa_cons (pe_op op_add (pe_callTy call_int1 (by rfl) T.b_int boot_int (pa_cons (pe_fld (pv 0) (by rfl)) pa_nil)) pe_int) pa_nil))) rfl))))), ?_⟩
    refine ⟨_, rfl, _, rfl, p, _, dx, [], rfl, hp, T.c_Point, T.no_Point_plan, Nat.le_of_ble_eq_true rfl, ?_⟩
    have S1 := sm_to (o := .ins (ga K "Point") dx (putF "plan" (V.ref ra) [])) s0 n0
    refine ⟨_, rfl, _, rfl, p, _, dx, _, rfl, upd_same, T.c_Point, T.no_Point_told, Nat.le_of_ble_eq_true rfl, ?_⟩
    have S2 := sm_to (o := .ins (ga K "Point") dx (putF "told" (V.ref sa) (putF "plan" (V.ref ra) []))) S1 n0
    refine ⟨_, rfl, _, rfl, ra, sa, R, os, rfl, hR.mono (SameI.of S2), ok, hS.mono (SameI.of S2), hn, fun H3 s3 => ?_⟩
    have p3 := s3 _ _ (upd_same (H := upd H p (.ins (ga K "Point") dx (putF "plan" (V.ref ra) []))) (a := p) (o := HO.ins (ga K "Point") dx (putF "told" (V.ref sa) (putF "plan" (V.ref ra) []))))
    refine ⟨_, rfl, p, _, dx, _, rfl, p3, T.c_Point, T.no_Point_over_by, Nat.le_of_ble_eq_true rfl, ?_⟩
    have S4 := sm_to (o := .ins (ga K "Point") dx (putF "over_by" (V.int (lapseM R os)) (putF "told" (V.ref sa) (putF "plan" (V.ref ra) [])))) (S2.trans s3) n0
    refine ⟨_, rfl, .inl ⟨d, rfl, ?_⟩⟩
    refine ⟨_, rfl, p, _, dx, _, _, rfl, upd_same, T.c_Point, T.no_Point_over_by, lkE, .inl ⟨_, rfl, _, _, rfl, rfl, _, _, rfl, ?_⟩⟩
    refine ⟨_, rfl, p, _, dx, _, rfl, upd_same, T.c_Point, T.no_Point_today, Nat.le_of_ble_eq_true rfl, ?_⟩
    have S5 := sm_to (o := .ins (ga K "Point") dx (putF "today" (V.int (tdy R os d)) (putF "over_by" (V.int (lapseM R os)) (putF "told" (V.ref sa) (putF "plan" (V.ref ra) []))))) S4 n0
    refine k _ S5 ⟨dx, _, sa, upd_same, ?_, ?_, ?_, lkE, hS.mono (SameI.of S5), ?_, ?_⟩
    · exact lkN (by decide +kernel) (lkN (by decide +kernel) (lkN (by decide +kernel) lkE))
    · exact lkN (by decide +kernel) (lkN (by decide +kernel) lkE)
    · exact lkN (by decide +kernel) lkE
    · exact lkN (by decide +kernel) (lkN (by decide +kernel) (lkN (by decide +kernel) (lkN (by decide +kernel) rfl)))
    · exact lkN (by decide +kernel) (lkN (by decide +kernel) (lkN (by decide +kernel) (lkN (by decide +kernel) rfl)))
theorem Me_is_on (T : Txt P w K mg) : Met P w K mg base 1 (ga K "Point") "is_on" (spIsOn K) [] := by
  refine metN T.d_Point_is_on T.c_Point T.m_Point_is_on sc_Point_is_on (fun _ _ _ _ _ _ us hl => match us, hl with | [_], _ => rfl) (fun vs H Q E h => ?_) (fun cdv A outer s H vs Q E hr h => ?_)
  · obtain ⟨a, ra, R, os, t, rfl, _⟩ := h
    rfl
  · obtain ⟨a, ra, R, os, t, rfl, ⟨dx, fs, sa, h1, h2, h3, h4, h5, h6, h7, h8⟩, k⟩ := h
    refine ⟨_, (pss_one (ps_ret (pe_cmpR op_le (pe_fld (pv 0) (by rfl)) (pe_fld (pv 0) (by rfl)) (nomark _)))), ?_⟩
    exact ⟨_, rfl, a, _, dx, fs, _, rfl, h1, T.c_Point, T.no_Point_today, h5, _, rfl, a, _, dx, fs, _, rfl, h1, T.c_Point, T.no_Point_over_by, h4, _, _, rfl, rfl, k⟩
theorem Me_beginning (T : Txt P w K mg) : Met P w K mg base 9 (ga K "Point") "beginning" (spBegin K) [] := by
  have Me_further := Me_further (P := P) (w := w) (base := base) T
  have Me_len := Me_len (P := P) (w := w) (base := base) T
  have G_counted := G_counted (P := P) (w := w) (base := base) T
  have M_Point := M_Point (P := P) (w := w) (base := base) T
  refine metN T.d_Point_beginning T.c_Point T.m_Point_beginning sc_Point_beginning (fun _ _ _ _ _ _ us hl => match us, hl with | [_, _, _], _ => rfl) (fun vs H Q E h => ?_) (fun cdv A outer s H vs Q E hr h => ?_)
  · obtain ⟨a, ra, R, os, o, rfl, _⟩ := h
    rfl
  · obtain ⟨a, ra, R, os, o, rfl, ⟨dx, fs, sa, h1, h2, h3, h4, h5, h6, h7, h8⟩, hR, ok, hos, k⟩ := h
    refine ⟨_, (pss_cons (ps_set (i := 3) sc_Point_beginning.nd rfl (Or.inl rfl) (pe_mt Me_further hr (by decide) (pe_fld (pv 0) (by rfl)) (pa_cons (pe_lst (pa_cons (pe_tup (pa_cons (pe_fld (pv 0) (by rfl)) (pa_cons (pv 1) (pa_cons (pv 2) pa_nil)))) pa_nil)) pa_nil)))
      (pss_cons (ps_set (i := 4) sc_Point_beginning.nd rfl (Or.inl rfl) (pe_cmpR op_in_seq (pe_op op_sub (pe_callB (call_lenOwn Me_len (hr.mono (by decide))) (by rfl) T.b_len boot_len (pa_cons (pv 3) pa_nil)) pe_int) (pe_c G_counted hr (by decide) (by rfl) (pa_cons (pe_fld (pv 0) (by rfl)) (pa_cons (pv 3) pa_nil))) (by rfl)))
      (pss_one (ps_ret (pe_tup (pa_cons (pe_mk M_Point hr (by decide) (by rfl) (pa_cons (pe_fld (pv 0) (by rfl)) (pa_cons (pv 3) (pa_cons (pe_fld (pv 0) (by rfl)) pa_nil)))) (pa_cons (pv 4) pa_nil))))))), ?_⟩
    obtain ⟨ds, fs2, t, xs, t1, t2, t3, t4, t5⟩ := id h6
    have hn : (os ++ [o]).length ≤ 1000 := Nat.le_trans hos.len (by decide)
    -- later
    refine ⟨_, rfl, a, _, dx, fs, _, rfl, h1, T.c_Point, T.no_Point_told, h3, sa, ds, fs2, rfl, t1, t5, ?_⟩
    refine ⟨_, rfl, a, _, dx, fs, _, rfl, h1, T.c_Point, T.no_Point_today, h5, _, rfl, _, rfl, Nat.le_of_ble_eq_true rfl, fun q hq => ⟨Nat.le_of_ble_eq_true rfl, fun l hl => ?_⟩⟩
    have sq := sm_new (o := HO.tup (ocV o)) hq
    have sl := sm_new (o := HO.lst [V.ref q]) hl
    have s2 := sq.trans sl
    have hoc : OcsAt (upd (upd H q (.tup (ocV o))) l (.lst [V.ref q])) [V.ref q] [o] := ⟨rfl, fun i o' e => by
      cases i with
      | zero =>
        cases e
        exact ⟨q, rfl, sl _ _ upd_same⟩
      | succ i => simp at e⟩
    refine ⟨sa, l, [.ref q], os, [o], rfl, h6.mono (SameI.of s2), SqL.of upd_same, hoc, hos, fun H3 b s3 hS => ?_⟩
    obtain ⟨db, fb, tb, xb, b1, b2, b3, b4, b5⟩ := id hS
    have s03 := s2.trans s3
    -- does it count
    refine ⟨_, rfl, b, db, fb, (os ++ [o]).length, rfl, b1, hn, ⟨b, os ++ [o], rfl, hS, rfl, ?_⟩⟩
    refine ⟨_, _, rfl, rfl, ?_⟩
    refine ⟨_, rfl, a, _, dx, fs, _, rfl, s03 _ _ h1, T.c_Point, T.no_Point_plan, h2, _, rfl, ra, b, R, os ++ [o], rfl, hR.mono (SameI.of s03), ok, hS, hn, fun H4 tc ns s4 htc => ?_⟩
    refine ⟨tc, _, rfl, .inr (SqT.of htc), rfl, flat_ints _, ?_⟩
    have s04 := s03.trans s4
    -- the new point
    refine ⟨_, rfl, a, _, dx, fs, _, rfl, s04 _ _ h1, T.c_Point, T.no_Point_plan, h2, _, rfl, _, rfl, a, _, dx, fs, _, rfl, s04 _ _ h1, T.c_Point, T.no_Point_today, h5, fun x dy nx ndx nex => ?_⟩
    refine ⟨H4, x, ra, b, dy, R, os ++ [o], o.b, rfl, nx, made_same nx ndx, upd_same, hR.mono (SameI.of s04), ok, hS.mono (SameI.of s4), hn, fun H5 s5 hp => ⟨rfl, ?_⟩⟩
    refine ⟨_, rfl, Nat.le_of_ble_eq_true rfl, fun tp htp => ?_⟩
    exact k _ tp x _ ((s04.trans s5).trans (sm_new htp)) (hp.mono (SameI.new htp)) upd_same
theorem M_Live (T : Txt P w K mg) : Mak P w K mg base 9 "Live" (ga K "Live") (spLive K) [] := by
  have M_Point := M_Point (P := P) (w := w) (base := base) T
  have M_Story0 := M_Story0 (P := P) (w := w) (base := base) T
  refine makN T.d_Live_init T.k_Live T.g_Live sc_Live_init (fun _ _ _ _ _ _ us hl => match us, hl with | [_, _], _ => rfl) (fun vs H Q E h => ?_) (fun cdv A outer s H vs Q E hr h => ?_)
  · obtain ⟨H0, p, ra, dx, R, rfl, _⟩ := h
    rfl
  · obtain ⟨H0, p, ra, dx, R, rfl, n0, s0, hp, hR, ok, k⟩ := h
    refine ⟨_, (pss_one (ps_fld (pv 0) (pe_tup (pa_cons (pe_mk M_Point hr (by decide) (by rfl) (pa_cons (pv 1) (pa_cons (pe_mk0 M_Story0 hr (by decide) (by rfl)) (pa_cons pe_int pa_nil)))) pa_nil)) rfl)), ?_⟩
    refine ⟨_, rfl, fun x dy nx ndx nex => ?_⟩
    refine ⟨H, x, _, dy, [], [], rfl, nx, made_same nx ndx, upd_same, .inr (T.v_story0 _), ⟨rfl, fun i o e => by simp at e⟩, ⟨fun o ho => by simp at ho, .nil, Nat.zero_le _⟩, fun H1 s1 hS => ⟨rfl, ?_⟩⟩
    refine fun x2 dz nx2 ndx2 nex2 => ?_
    refine ⟨H1, x2, ra, x, dz, R, [], 0, rfl, nx2, made_same nx2 ndx2, upd_same, hR.mono (SameI.of (s0.trans s1)), ok, hS, Nat.zero_le _, fun H2 s2 hp2 => ⟨rfl, Nat.le_of_ble_eq_true rfl, fun tp htp => ?_⟩⟩
    have s12 := s1.trans s2
    have p2 := s12 _ _ hp
    have st := sm_new (o := HO.tup [V.ref x2]) htp
    have ptp : p ≠ tp := ne_of_none p2 htp
    refine ⟨_, rfl, p, _, dx, [], rfl, st _ _ p2, T.c_Live, T.no_Live_past, Nat.le_of_ble_eq_true rfl, ?_⟩
    have S := sm_to (o := .ins (ga K "Live") dx (putF "past" (V.ref tp) [])) ((s0.trans s12).trans st) n0
    refine k _ ⟨dx, tp, [], x2, S, n0, upd_same, by rw [upd_ne ptp.symm, upd_same]; rfl, Nat.le_refl _, ?_⟩
    obtain ⟨dq, fq, sa, g1, g2, g3, g4, g5, ⟨q1, q2, q3, q4, e1, e2, e3, e4, e5⟩, g7, g8⟩ := hp2.mono (SameI.of st)
    have pst := st _ _ p2
    have ne : ∀ {b D dy : Addr} {fs : List (Str × V)} {f : Str} {u : V}, (upd H2 tp (.tup [V.ref x2])) b = some (.ins D dy fs) → fs.lookup f = some u → b ≠ p := fun {b D dy fs f u} hb hf e => by
      rw [e, pst] at hb
      have z := Option.some.inj hb
      injection z with z1 z2 z3
      rw [← z3] at hf
      cases hf
    exact ⟨dq, fq, sa, by rw [upd_ne (ne g1 g2)]; exact g1, g2, g3, g4, g5, ⟨q1, q2, q3, q4, by rw [upd_ne (ne e1 e2)]; exact e1, e2, seqT_updI e3 pst, ⟨e4.1, fun i o e => by simp at e⟩, e5⟩, g7, g8⟩
theorem F_last (T : Txt P w K mg) : ∃ fd, FnOk P w K mg base C8.CX0 1 (propAt K (ga K "Live") "last") fd ["self"] (spLast K) ∧ L2.Binds K fd ["self"] [] := by
  obtain ⟨fd, F⟩ := T.d_Live_last
  refine ⟨fd, fnok F sc_Live_last (fun vs H Q E h => ?_) (fun cdv A outer s H vs Q E hr h => ?_), F.bindsN (fun _ _ _ _ _ _ us hl => match us, hl with | [_], _ => rfl)⟩
  · obtain ⟨H0, p, ra, R, os, t, n, rfl, _⟩ := h
    rfl
  · obtain ⟨H0, p, ra, R, os, t, n, rfl, ⟨dx, tp, xs, a, s0, n0, hp, ht, hx, ⟨dq, fq, sa, g1, g2, g3, g4, g5, g6, g7, g8⟩⟩, k⟩ := h
    refine ⟨_, (pss_one (ps_ret (pe_fld (pe_ix ix_tup (pe_fld (pv 0) (by rfl)) (pe_un un_neg pe_int) (fun _ _ => rfl)) (by rfl)))), ?_⟩
    exact ⟨_, rfl, p, _, dx, _, _, rfl, hp, T.c_Live, T.no_Live_past, lkE (f := "past") (fs := []), _, rfl, _, _, _, _, rfl, rfl, SqT.of ht, atI_last _ _, a, _, dq, fq, _, rfl, g1, T.c_Point, T.no_Point_over_by, g4, k⟩
theorem FH_last (T : Txt P w K mg) : ∃ fd, L2H.FnH P w K mg base C8.CX0 1 (propAt K (ga K "Live") "last") fd ["self"] (spLast K) ∧ L2.Binds K fd ["self"] [] := by
  obtain ⟨fd, F⟩ := T.d_Live_last
  have FB : L2.Binds K fd ["self"] [] := F.bindsN (fun _ _ _ _ _ _ us hl => match us, hl with | [_], _ => rfl)
  obtain ⟨oc, od, dV, kV, doc, pm, an, cdv, ct, osl, rfl, lk, hcd, _, _⟩ := F.ex
  refine ⟨_, L2H.fn_ofH lk hcd sc_Live_last (fun vs H Q E h => ?_) (fun A outer s H vs Q E p0 hot hr h => ?_), FB⟩
  · obtain ⟨H0, p, ra, R, os, t, n, rfl, _⟩ := h
    rfl
  · obtain ⟨H0, p, ra, R, os, t, n, rfl, ⟨dx, tp, xs, a, s0, n0, hp, ht, hx, ⟨dq, fq, sa, g1, g2, g3, g4, g5, g6, g7, g8⟩⟩, k⟩ := h
    refine ⟨_, (pss_one (ps_ret (pe_fld (pe_ix ix_tup (pe_fld (pv 0) (by rfl)) (pe_un un_neg pe_int) (fun _ _ => rfl)) (by rfl)))), ?_⟩
    exact ⟨_, rfl, p, _, dx, _, _, rfl, hp, T.c_Live, T.no_Live_past, lkE (f := "past") (fs := []), _, rfl, _, _, _, _, rfl, rfl, SqT.of ht, atI_last _ _, a, _, dq, fq, _, rfl, g1, T.c_Point, T.no_Point_over_by, g4, k⟩
theorem F_several (T : Txt P w K mg) : ∃ fd, FnOk P w K mg base (L2N.CX P w) 10 (ma K (ga K "Live") "several") fd ["self", "occasions"] (spSeveral K) ∧ L2.Binds K fd ["self", "occasions"] [] := by
  have G_is_sequence := G_is_sequence (P := P) (w := w) (base := base) T
  have G_is_occasion_live := G_is_occasion_live (P := P) (w := w) (base := base) T
  have M_Point := M_Point (P := P) (w := w) (base := base) T
  have Me_is_on := Me_is_on (P := P) (w := w) (base := base) T
  have Me_beginning := Me_beginning (P := P) (w := w) (base := base) T
  obtain ⟨fR, ccR, cdaR, RF⟩ := T.ref
  obtain ⟨fd, F⟩ := T.d_Live_several
  refine ⟨fd, FunD.ok F sc_Live_several (fun vs H Q E h => ?_) (fun cdv A outer s H vs Q E hr h => ?_), F.bindsN (fun _ _ _ _ _ _ us hl => match us, hl with | [_, _], _ => rfl)⟩
  · obtain ⟨H0, p, ra, l, q, R, os, t, n, o, rfl, _⟩ := h
    rfl
  · obtain ⟨H0, p, ra, l, q, R, os, t, n, o, rfl, hL, hR, ok, hl, hq, hos, hn, hto, kon, koff⟩ := h
    refine ⟨_, (pss_cons (ps_if (pt_not (pt_val (pe_c G_is_sequence hr (by decide) (by rfl) (pa_cons (pv 1) pa_nil)))) pss_never pss_nil)
      (pss_cons (ps_par (i := 2) (j := 3) (by rfl) sc_Live_several.nd rfl rfl (by decide) rfl rfl (pa_cons (pe_ix ix_tup (pe_fld (pv 0) (by rfl)) (pe_un un_neg pe_int) (fun _ _ => rfl)) (pa_cons (pe_lst pa_nil) pa_nil)) (by rfl))
      (pss_cons (ps_for (passes_of rfl) rfl (pi_enum (by rfl) T.b_enumerate (pa_cons (pv 1) pa_nil)) (pg_tup rfl (pgs_cons (pg_name (i := 4) sc_Live_several.nd rfl (Or.inl rfl)) (pgs_cons (pg_name (i := 5) sc_Live_several.nd rfl (Or.inl rfl)) pgs_nil))) (pss_cons (ps_if (PW.pt (pw_or (pt_not (pt_val (pe_c G_is_occasion_live hr (by decide) (by rfl) (pa_cons (pv 5) pa_nil)))) (pw_or1 (pt_cmpR op_lt (pe_ix ix_tup (pv 5) pe_int (fun _ _ => rfl)) (pe_fld (pv 2) (by rfl)) (nomark _))))) pss_never pss_nil)
      (pss_cons (ps_set (i := 2) sc_Live_several.nd rfl (Or.inl rfl) (pe_mk M_Point hr (by decide) (by rfl) (pa_cons (pe_fld (pv 2) (by rfl)) (pa_cons (pe_fld (pv 2) (by rfl)) (pa_cons (pe_ix ix_tup (pv 5) pe_int (fun _ _ => rfl)) pa_nil)))))
      (pss_cons (ps_if (pt_not (pt_val (pe_mt0 Me_is_on hr (by decide) (pv 2)))) (pss_one (L2N.ps_raise rfl (L2N.takes_of rfl rfl rfl rfl) (pmk_ref RF (hr.mono (by decide)) (by rfl) T.g_Refused T.b_super (pa_cons (pv 4) pa_nil)))) pss_nil)
      (pss_cons (ps_asg (pe_mt Me_beginning hr (by decide) (pv 2) (pa_cons (pe_ix ix_tup (pv 5) pe_int (fun _ _ => rfl)) (pa_cons (pe_ix ix_tup (pv 5) pe_int (fun _ _ => rfl)) pa_nil))) (pg_tup rfl (pgs_cons (pg_name (i := 2) sc_Live_several.nd rfl (Or.inl rfl)) (pgs_cons (pg_name (i := 6) sc_Live_several.nd rfl (Or.inl rfl)) pgs_nil))))
      (pss_one (ps_expr (pe_bm PySem.F.plainAttrs_list PySem.F.slot_list_append PySem.F.type_list_append mt_append (pv 3) (pa_cons (pv 6) pa_nil)))))))))
      (pss_cons (ps_fld (pv 0) (pe_tup (StX.pa_star (pe_fld (pv 0) (by rfl)) (pa_cons (pv 2) pa_nil))) rfl)
      (pss_one (ps_ret (pe_callTy call_tuple_of (by rfl) T.b_tuple boot_tuple (pa_cons (pv 3) pa_nil)))))))), ?_⟩
    obtain ⟨dx, tp, xs, a, s0, n0, hp, htp, hxs, ha⟩ := id hL
    have ook : OcOk o := hos.ok o (by simp)
    refine ⟨_, rfl, l, _, rfl, .inl (Same.seq s0 hl), fun H1 s1 => ⟨_, rfl, iteF ?_⟩⟩
    refine ⟨_, rfl, p, _, dx, _, _, rfl, s1 _ _ hp, T.c_Live, T.no_Live_past, lkE (f := "past") (fs := []), _, rfl, _, _, _, _, rfl, rfl, SqT.of (s1 _ _ htp), atI_last _ _, Nat.zero_le _, fun fl hfl => ⟨_, _, rfl, ?_⟩⟩
    have sf := sm_new (o := HO.lst []) hfl
    have sA := s1.trans sf
    refine ⟨_, rfl, l, [.ref q], rfl, Same.seq (s0.trans sA) hl, ?_⟩
    refine for_it (walk_enum (K := K) (a := l) (xs := [.ref q])) (fun i σ H' => Same H1 H' ∧ ∃ ys, H' fl = some (.lst ys) ∧ ys.length ≤ i ∧ ((i = 0 ∧ σ = [some (.ref p), some (.ref l), some (.ref a), some (.ref fl), none, none, none]) ∨
      (i = 1 ∧ o.b ≤ lapseM R os ∧ ∃ b u v w', σ = [some (.ref p), some (.ref l), some (.ref b), some (.ref fl), u, v, w'] ∧ PtAt K H' b ra R (os ++ [o]) (tdy R (os ++ [o]) o.b)))) ⟨sf, [], upd_same, Nat.zero_le _, .inl ⟨rfl, rfl⟩⟩
      (fun i σ H' _ q => Same.seq (s0.trans (s1.trans q.1)) hl) ?_ ?_
    · rintro i v σ H3 H4 hi ⟨s3, ys, hy, yl, hst⟩ ⟨T', x1, y1, rfl, hT, rfl, hx1, hy1⟩
      cases hx1
      have i0 : i = 0 := by
        have : i < 1 := hi
        omega
      subst i0
      rcases hst with ⟨_, rfl⟩ | ⟨e, _⟩
      · cases hy1
        have sT := sm_new (o := HO.tup [V.int (0 : Nat), .ref q]) hT
        have s4 := (s1.trans s3).trans sT
        have hq4 := (s0.trans s4) _ _ hq
        refine ⟨T', _, rfl, SqT.of upd_same, rfl, _, _, rfl, _, _, rfl, rfl, ?_⟩
        refine ⟨_, rfl, q, o, rfl, hq4, ook, fun H5 s5 => ⟨_, rfl, iteF ?_⟩⟩
        have s05 := s4.trans s5
        have hq5 := s5 _ _ hq4
        obtain ⟨dq, fq, sa, g1, g2, g3, g4, g5, g6, g7, g8⟩ := ha.mono (SameI.of s05)
        refine ⟨_, rfl, _, _, _, _, rfl, rfl, SqT.of hq5, atI_nat (j := 0) rfl, _, rfl, a, _, dq, fq, _, rfl, g1, T.c_Point, T.no_Point_today, g5, _, _, rfl, rfl, _, rfl, itF (decide_eq_false (by omega)) ?_⟩
        refine ⟨_, rfl, a, _, dq, fq, _, rfl, g1, T.c_Point, T.no_Point_plan, g2, _, rfl, a, _, dq, fq, _, rfl, g1, T.c_Point, T.no_Point_told, g3, _, rfl, _, _, _, _, rfl, rfl, SqT.of hq5, atI_nat (j := 0) rfl, fun x dy nx ndx nex => ?_⟩
        have hlen : os.length ≤ 1000 := by
          have := hos.len
          rw [List.length_append] at this
          omega
        refine ⟨H5, x, ra, sa, dy, R, os, o.b, rfl, nx, made_same nx ndx, upd_same, hR.mono (SameI.of (s0.trans s05)), ok, g6, hlen, fun H6 s6 hp6 => ⟨rfl, ?_⟩⟩
        have s06 := s05.trans s6
        obtain ⟨dz, fz, sz, z1, z2, z3, z4, z5, z6, z7, z8⟩ := id hp6
        refine ⟨_, rfl, x, dz, fz, rfl, z1, z7, x, ra, R, os, _, rfl, hp6, _, rfl, ?_⟩
        by_cases hle : o.b ≤ lapseM R os
        · have et : tdy R os o.b = o.b := by
            unfold tdy imin
            rw [if_neg (by omega)]
          rw [et] at hp6
          refine itF (by rw [et, decide_eq_true hle]; rfl) ?_
          have hq6 := s6 _ _ hq5
          refine ⟨_, rfl, x, dz, fz, rfl, z1, z8, _, rfl, _, _, _, _, rfl, rfl, SqT.of hq6, atI_nat (j := 1) rfl, _, rfl, _, _, _, _, rfl, rfl, SqT.of hq6, atI_nat (j := 2) rfl, ?_⟩
          refine ⟨x, ra, R, os, o, rfl, hp6, hR.mono (SameI.of (s0.trans s06)), ok, hos, fun H7 tp2 q2 c s7 hp7 htp2 => ?_⟩
          refine ⟨tp2, _, rfl, SqT.of htp2, rfl, _, _, rfl, _, _, rfl, rfl, ?_⟩
          have s37 := ((sT.trans s5).trans s6).trans s7
          have hy7 := s37 _ _ hy
          refine ⟨_, rfl, .inl ⟨rfl, _, SqL.of hy7⟩, _, rfl, fl, ys, _, rfl, rfl, hy7, Nat.lt_of_le_of_lt yl (by decide), ?_⟩
          have sI : SameI H7 (upd H7 fl (.lst (ys ++ [.bl c]))) := SameI.lst hy7
          have n1 : H1 fl = none := hfl
          refine ⟨sm_to (s3.trans s37) n1, _, upd_same, ?_, .inr ⟨rfl, hle, q2, _, _, _, rfl, hp7.mono sI⟩⟩
          rw [List.length_append]
          have : ys.length = 0 := Nat.le_zero.mp yl
          simp [this]
        · have et : tdy R os o.b = lapseM R os + 1 ∨ tdy R os o.b = o.b := by
            unfold tdy imin
            split
            · exact .inl rfl
            · exact .inr rfl
          refine itT (by rw [decide_eq_false (by rcases et with e | e <;> omega)]; rfl) ?_
          exact ⟨_, rfl, ⟨_, rfl⟩, fun d => koff (by omega) _ _ (hL.mono s06)⟩
      · cases e
    · rintro σ H3 ⟨s3, ys, hy, yl, hst⟩
      rcases hst with ⟨e, _⟩ | ⟨_, hle, b, u, v, w', rfl, hb⟩
      · cases e
      · have s13 := s1.trans s3
        have hp3 := s13 _ _ hp
        have htp3 := s13 _ _ htp
        have ll : (xs ++ [V.ref a] ++ [V.ref b]).length ≤ sizeLine := by
          rw [List.length_append, List.length_append]
          exact Nat.le_trans (show _ ≤ 2000 by simp; omega) (by decide)
        refine ⟨_, rfl, p, _, dx, _, _, rfl, hp3, T.c_Live, T.no_Live_past, lkE (f := "past") (fs := []), tp, _, rfl, .inl (SqT.of htp3), _, rfl, ll, fun np hnp => ?_⟩
        have st := sm_new (o := HO.tup (xs ++ [V.ref a] ++ [V.ref b])) hnp
        have hp4 := st _ _ hp3
        refine ⟨_, rfl, p, _, dx, _, rfl, hp4, T.c_Live, T.no_Live_past, Nat.le_of_ble_eq_true rfl, ?_⟩
        have npp : np ≠ p := fun e => by
          rw [e, hp3] at hnp
          cases hnp
        have flp : fl ≠ p := fun e => by
          rw [e, hp3] at hy
          cases hy
        have hy4 : (upd (upd H3 np (.tup (xs ++ [V.ref a] ++ [V.ref b]))) p (.ins (ga K "Live") dx (putF "past" (V.ref np) [("past", V.ref tp)]))) fl = some (.lst ys) := by rw [upd_ne flp]; exact st _ _ hy
        refine ⟨_, rfl, fl, ys, rfl, .inl ⟨SqL.of hy4, fun r hr2 => ?_⟩⟩
        have hL4 : LiveAt K H0 (upd (upd H3 np (.tup (xs ++ [V.ref a] ++ [V.ref b]))) p (.ins (ga K "Live") dx [("past", V.ref np)])) p ra R (os ++ [o]) (tdy R (os ++ [o]) o.b) (n + 1) :=
          ⟨dx, np, xs ++ [.ref a], b, sm_to ((s0.trans s13).trans st) n0, n0, upd_same, by rw [upd_ne npp, upd_same], by rw [List.length_append]; simp; omega, (hb.mono (SameI.of st)).updL hp4⟩
        exact kon hle _ _ (hL4.mono (sm_new hr2))
end
end Ts
set_option maxHeartbeats 4000000
namespace Ts
open PySem PySem.Spec PyProof.Rows L2 C8 He
/-! ### a method that may raise; a property within an except suite -/
def tTryN (K : PySem.W.Frag) (Wout : WX) (l : List (Value × (Addr → Value → Option Addr → TS))) (tb : WX → TS) : TS := fun D σ H => tb (wMany K Wout D l) D σ H
theorem ps_tryN {X : Cx} {body : List Stmt} {h₀ : ExceptHandler} {hds : List ExceptHandler} {l : List (Value × (Addr → Value → Option Addr → TS))} {pos : Pos} {tb : WX → TS} {Wout : WX} (hs : X.stack = X.env :: X.outer) (hf : X.env.frame = some X.env.locals) (tk : L2N.Takes X Wout)
    (hb : ∀ (W : WX) (pn : List (Addr × Obj)) (xe : Value → Shared → Prop), L2N.Takes (X.tr pn xe) W → PassesOwn (model X.prog X.w) X.A X.env xe → PSs (X.tr pn xe) body (tb W))
    (hh : L2N.HdsOk X (h₀ :: hds) l) : PS X (.Try body (h₀ :: hds) [] [] pos) (tTryN X.K Wout l tb) := L2N.ps_try_many hs hf tk hb hh
theorem takesN0 {X : Cx} : L2N.Takes X (fun _ _ _ _ => False) := fun _ _ x => by
  obtain ⟨_, _, _, _, _, _, _, _, _, _, _, _, _, _, _, _, z⟩ := x
  exact z.elim
def tMethS (C : Addr) (m : Str) (sp : Sp) (E : L2.St → XK) (ta : TE) (t : TA) : TE := fun σ H Q => ta σ H fun x H1 => ∃ a dx fs, x = .ref a ∧ H1 a = some (.ins C dx fs) ∧ fs.lookup m = none ∧ t σ H1 fun vs H2 => sp (x :: vs) H2 Q (E σ)
section
variable {X : Cx} {CX : CXT} {k : Nat} {f C p g : Addr} {fd : FuncData} {ps : List Str} {sp : Sp} {E : L2.St → XK} {x m fn : Str} {pos apos : Pos} {e o : Expr} {es : List Expr} {ta : TE} {t : TA}
theorem pe_methS {pl : Sem Bool} (he : PE X o ta) (c : Cls X.K C) (hm : Meth X.K C m f) (F : FnOk X.prog X.w X.K X.mg X.base CX k f fd ps sp) (hr : Room k X.A) (hb : Binds X.K fd ps []) (hx : ∀ σ, PassesAt CX X σ (E σ)) (ha : PA X (e :: es) t)
    (hst : starEach (e :: es) X.env = (false, eval e X.env) :: starEach es X.env := by rfl) (hpl : (backTo pos (starEach es X.env)).any (·.1) = false := by rfl)
    (ht : eval (.Call (.Attribute o m apos) (e :: es) [] pos) X.env = (do
      let ov ← eval o X.env
      standAt apos.atName
      let (f, first) ← holding [ov] (getMethod ov m pl)
      callWith pos f first (backTo pos (starEach (e :: es) X.env)) (backToKw pos (keywordEach [] X.env))) := by rfl) :
    PE X (.Call (.Attribute o m apos) (e :: es) [] pos) (tMethS C m sp E ta t) := by
  refine ⟨fun pins s σ H Q I h => ?_⟩
  refine PySem.W.methodCall_KW (pl := pl) (thn (he.run pins s σ H _ I h) fun u s1 ⟨x, H1, I1, rx, a, dx, fs, ex, ea, l, q⟩ => ?_) ht
  subst ex
  obtain rfl : u = Value.ref a := rx
  refine getmeth_ok I1 ea c hm l ?_
  refine PySem.W.callWith_K (first := [.ref a]) (h₀ := X.base) I.ok.mod.kin hm.kp (thn (ha.run pos pins s1 σ H1 _ I1 q) fun us s2 ⟨vs, H2, I2, r, q2⟩ => ⟨I2.kIn, ?_⟩) hst hpl
  exact run_fnS (us := .ref a :: us) (vs := .ref a :: vs) F hr hb (hx σ) I2 (.cons rfl r) q2
theorem roomH_in1 {A : Around} (r : L2H.RoomH (k + 1) A) : L2H.RoomH k A.in1 :=
  ⟨by have := r.dp; show A.depth + 3 * k + 5 < _; omega, by have := r.un; show A.units + 1 + 16 * k + 200 < _; omega⟩
theorem roomS {A : Around} {v : Option Value} (r : Room k A) : L2H.RoomH k (A.mark v) := ⟨r.dp, r.un⟩
theorem hotS {a : Addr} {oe : Obj} {cls : Value} {d : Option Addr} {pn : List (Addr × Obj)} (hz : L2N.Zn cls d oe) (hd : ∃ vs, oe.data = .fields vs) : L2H.HotC (X.suite a ((a, oe) :: pn)) := by
  obtain ⟨vs, e⟩ := hd
  exact ⟨(a, oe), ⟨rfl, vs, e, hz.2.2 vs e⟩, List.mem_cons_self⟩
theorem pe_propH (he : PE X e ta) (c : Cls X.K C) (hp : PropOf X.K C fn p g) (F : L2H.FnH X.prog X.w X.K X.mg X.base C8.CX0 k g fd ps sp) (hr : L2H.RoomH (k + 1) X.A) (hc : L2H.HotC X) (hb : Binds X.K fd ps [])
    (hab : attributeBase e fn X.env (eval e X.env) = eval e X.env) : PE X (.Attribute e fn pos) (tProp C sp [] C8.E0 ta) := by
  refine ⟨fun pins s σ H Q I h => ?_⟩
  refine attr_of hab (thn (he.run pins s σ H _ I h) fun u s1 ⟨x, H1, I1, rx, a, dx, fs, ex, ea, q⟩ => ?_)
  subst ex
  obtain rfl : u = Value.ref a := rx
  obtain ⟨pp, hot, hpm⟩ := hc
  obtain ⟨mA, O, _, _, _, _⟩ := ins_get I1.hok ea
  obtain ⟨od, J, _⟩ := O.look
  obtain ⟨rest, hrec⟩ := hp.rec_
  have I2 := I1.tok (s1.toks + 1)
  have hl : [Value.ref a].length = ps.length := (F.len _ _ _ _ q).trans rfl |>.symm ▸ rfl
  have hcl : (PySem.W.clsIn X.K C).isSome = true := by
    obtain ⟨cd, hc, _⟩ := PySem.W.any_some c.hd
    rw [hc]
    rfl
  have b := hb { s1 with toks := s1.toks + 1 } [.ref a] I2.kIn (by rw [List.append_nil]; exact hl)
  rw [List.append_nil] at b
  have P1 := I2.pin pp (List.mem_append_left _ hpm)
  have hpin : L2H.PinOk X.stack H1 { s1 with toks := s1.toks + 1 } pp := ⟨P1.1, P1.2.1, fun hm => (List.mem_cons.mp (I2.stkSub pp.1 hm)).elim P1.2.2.1 P1.2.2.2.1, P1.2.2.2.2⟩
  refine PySem.W.get_bind I1.kIn J (PySem.W.plainGet_of (c.get fn)).1 (PySem.W.findObj_data hcl hp.at_ hp.get hp.tak) (PySem.W.plainGet_of (c.get fn)).2 (wpAny_call (PySem.W.prop_get (s := { s1 with toks := s1.toks + 1 }) I1.kIn hrec ?_))
  refine codeAny_mono (F.run X.A.in1 X.stack { s1 with toks := s1.toks + 1 } H1 ⟨[.ref a], []⟩ [.ref a] [.ref a] Q C8.E0 pp (roomH_in1 hr) hot hpin I2.env0.in1 b (.cons rfl .nil) q) fun r s' hq => ?_
  cases r with
  | error er => exact False.elim ((C8.pass0 (X := X.nox) (E := C8.E0)) pins σ H1 { s1 with toks := s1.toks + 1 } er s' (I2.wish _) hq)
  | ok fl =>
    cases fl with
    | ret u =>
      obtain ⟨v, H', I3, rv, q3⟩ := I2.after hq
      show wpAny _ _ (handedOut u) _ _ _
      rw [PySem.W.handedOut_of (handed_of rv)]
      exact wpAny_pure ⟨v, H', I3, rv, q3⟩
    | next => exact False.elim hq
    | brk => exact False.elim hq
    | cont => exact False.elim hq
end
/-! ### the live-led last day is the lapse -/
def Ran (R : Rl) (os : List Oc) (i : Nat) : Prop := ∀ rest, takeC R (initC R) 0 (os.take i ++ rest) = takeC R (courseC R (os.take i)) i rest
theorem ran0 (R : Rl) (os : List Oc) : Ran R os 0 := fun rest => rfl
theorem ran_stop {R : Rl} {os : List Oc} {i : Nat} {o : Oc} (h : Ran R os i) (ho : os[i]? = some o) (hb : lapseM R (os.take i) < o.b) : lapseM R os = lapseM R (os.take i) := by
  have hil : i < os.length := (List.getElem?_eq_some_iff.mp ho).1
  have ed : os = os.take i ++ o :: os.drop (i + 1) := by
    conv => lhs; rw [← List.take_append_drop i os]
    rw [List.drop_eq_getElem_cons hil, (List.getElem?_eq_some_iff.mp ho).2]
  have e := h (o :: os.drop (i + 1))
  rw [← ed, takeC, if_pos (show endC R (courseC R (os.take i)) < o.b from hb)] at e
  exact congrArg (endC R) e
theorem ran_go {R : Rl} {os : List Oc} {i : Nat} {o : Oc} (h : Ran R os i) (ho : os[i]? = some o) (hb : ¬ lapseM R (os.take i) < o.b) : Ran R os (i + 1) := fun rest => by
  have et : os.take (i + 1) = os.take i ++ [o] := by rw [List.take_succ, ho]; rfl
  have e1 := h (o :: rest)
  have e2 := h [o]
  have c2 : courseC R (os.take (i + 1)) = takeC R (courseC R (os.take i)) i [o] := by rw [et]; exact e2
  rw [c2, et, List.append_assoc]
  refine e1.trans ?_
  have hb' : ¬ endC R (courseC R (os.take i)) < o.b := hb
  rw [takeC, takeC, if_neg hb', if_neg hb']
  split
  · rw [takeC]
  · rw [takeC]
def spLawLast (K : PySem.W.Frag) : Sp := fun vs H Q _ => ∃ (ra sa : Addr) (R : Rl) (os : List Oc), vs = [.ref ra, .ref sa] ∧ RuleAt K H ra R ∧ RlOk R ∧ StoryAt K H sa os ∧ OsOk os ∧ ∀ H', Same H H' → Q (.int (lapseM R os)) H'
theorem OsOk.take {os : List Oc} (h : OsOk os) (i : Nat) : OsOk (os.take i) :=
  ⟨fun o ho => h.ok o (List.mem_of_mem_take ho), h.srt.sublist (List.take_sublist _ _), by rw [List.length_take]; have := h.len; omega⟩
theorem tdy_le (R : Rl) (os : List Oc) (d : Int) : tdy R os d ≤ d := by
  unfold tdy imin
  split
  · omega
  · exact Int.le_refl _
section
variable {P : Program} {w : World} {K : PySem.W.Frag} {mg : Str → Option Value} {base : Heap}
theorem G_u_law_last (T : Txt P w K mg) : Cal P w K mg base 11 "_law_last" (spLawLast K) [] := by
  have M_Live := M_Live (P := P) (w := w) (base := base) T
  obtain ⟨fd, FS, bS⟩ := F_several (P := P) (w := w) (base := base) T
  obtain ⟨fd2, FL, bL⟩ := F_last (P := P) (w := w) (base := base) T
  obtain ⟨fd3, FHL, bH⟩ := FH_last (P := P) (w := w) (base := base) T
  refine calN T.d_u_law_last T.g_u_law_last sc_u_law_last (fun _ _ _ _ _ _ us hl => match us, hl with | [_, _], _ => rfl) (fun vs H Q E h => ?_) (fun cdv A outer s H vs Q E hr h => ?_)
  · obtain ⟨ra, sa, R, os, rfl, _⟩ := h
    rfl
  · obtain ⟨ra, sa, R, os, rfl, hR, ok, hS, hos, k⟩ := h
    refine ⟨_, (pss_cons (ps_set (i := 2) sc_u_law_last.nd rfl (Or.inl rfl) (pe_mk M_Live hr (by decide) (by rfl) (pa_cons (pv 0) pa_nil)))
      (pss_cons (ps_for PassesOwn.never rfl (pi_tup (pe_fld (pv 1) (by rfl))) (pg_name (i := 3) sc_u_law_last.nd rfl (Or.inl rfl)) (pss_one (ps_tryN rfl rfl takesN0 (fun W pn xe tk po => pss_one (ps_expr (pe_methS (pv 2) T.c_Live T.m_Live_several FS (hr.mono (by decide)) bS (fun σ => L2N.passAt tk σ) (pa_cons (pe_lst (pa_cons (pv 3) pa_nil)) pa_nil))))
      (L2N.HdsOk.cons (x := "Refused") ⟨by rfl, by decide, .inl T.g_Refused⟩ (fun a oe cls d pn hz hd => pss_one (ps_ret (pe_propH (pv 2) T.c_Live T.p_last FHL (roomS (hr.mono (by decide))) (hotS hz hd) bH (by rfl)))) .nil))))
      (pss_one (ps_ret (pe_prop (E := C8.E0) (pv 2) T.c_Live T.p_last FL (hr.mono (by decide)) bL .nil C8.pass0 (by rfl)))))), ?_⟩
    refine ⟨_, rfl, fun p dx nx ndx nex => ?_⟩
    refine ⟨H, p, ra, dx, R, rfl, nx, made_same nx ndx, upd_same, hR, ok, fun H1 hL => ⟨rfl, ?_⟩⟩
    obtain ⟨ds, fs, t, xs, t1, t2, t3, t4, t5⟩ := id hS
    have s01 : Same H H1 := by
      obtain ⟨_, _, _, _, s, _⟩ := hL
      exact s
    refine ⟨_, rfl, sa, _, ds, fs, _, rfl, s01 _ _ t1, T.c_Story, T.no_Story_occasions, t2, t, rfl, ⟨_, sm_seqT s01 t3⟩, ?_⟩
    refine for_it (walk_tup (K := K) (a := t) (xs := xs)) (fun i σ H' => ∃ u td, σ = [some (.ref ra), some (.ref sa), some (.ref p), u] ∧ LiveAt K H H' p ra R (os.take i) td i ∧ Ran R os i ∧ ∀ o, os[i]? = some o → td ≤ o.b)
      ⟨none, tdy R [] 0, rfl, hL, ran0 R os, fun o e => Int.le_trans (tdy_le R [] 0) (hos.ok o (List.mem_of_getElem? e)).b⟩ (fun i σ H' _ q => by
        obtain ⟨_, _, _, ⟨_, _, _, _, s, _⟩, _⟩ := q
        exact sm_seqT s t3) ?_ ?_
    · rintro i v σ H3 H4 hi ⟨u, td, rfl, hLi, hran, htd⟩ ⟨rfl, hv⟩
      obtain ⟨q, o, rfl, ho, hq⟩ := t4.at_ hv
      have hil : i < os.length := (List.getElem?_eq_some_iff.mp ho).1
      obtain ⟨dy, tp, ys, a, sL, n0, hp, htp, hys, ha⟩ := id hLi
      refine ⟨_, rfl, p, dy, _, rfl, hp, pastN (by decide +kernel), _, rfl, Nat.le_of_ble_eq_true rfl, fun l hl => ?_⟩
      have sl := sm_new (o := HO.lst [V.ref q]) hl
      have et : os.take i ++ [o] = os.take (i + 1) := by rw [List.take_succ, ho]; rfl
      have l0 : H l = none := sm_le sL hl
      have lp : p ≠ l := ne_of_none hp hl
      have pn : (upd H l (.lst [V.ref q])) p = none := by rw [upd_ne lp]; exact n0
      have sHl : Same H (upd H l (.lst [V.ref q])) := sm_new l0
      have sbl : Same (upd H l (.lst [V.ref q])) (upd H4 l (.lst [V.ref q])) := fun b o' e => by
        by_cases hb : b = l
        · rw [hb, upd_same] at e ⊢
          exact e
        · rw [upd_ne hb] at e ⊢
          exact sL _ _ e
      refine ⟨upd H l (.lst [V.ref q]), p, ra, l, q, R, os.take i, td, i, o, rfl, ⟨dy, tp, ys, a, sbl, pn, sl _ _ hp, sl _ _ htp, hys, ha.mono (SameI.of sl)⟩, hR.mono (SameI.of sHl), ok, SqL.of upd_same, sHl _ _ hq, by rw [et]; exact hos.take _, by have := hos.len; omega, htd o ho, fun hle H5 v h5 => ?_, fun hlt H5 d h5 => ?_⟩
      · obtain ⟨dz, tz, yz, az, sz, nz, c1, c2, c3, c4⟩ := h5
        rw [et] at c4
        refine ⟨_, _, rfl, ⟨dz, tz, yz, az, sHl.trans sz, n0, c1, c2, c3, c4⟩, ran_go hran ho (by omega), fun o2 e2 => ?_⟩
        obtain ⟨h1, e1⟩ := List.getElem?_eq_some_iff.mp ho
        obtain ⟨h2, e3⟩ := List.getElem?_eq_some_iff.mp e2
        refine Int.le_trans (tdy_le R _ o.b) ?_
        rw [← e1, ← e3]
        exact List.pairwise_iff_getElem.mp hos.srt i (i + 1) h1 h2 (Nat.lt_succ_self i)
      · refine ⟨true, T.exm_Refused, fun _ a' ha' => ?_, fun z => nomatch z⟩
        obtain ⟨dz, tz, yz, az, sz, nz, c1, c2, c3, c4⟩ := id h5
        refine ⟨_, rfl, p, dz, _, rfl, c1, _, p, ra, R, os.take i, td, i, rfl, h5, ?_⟩
        rw [← ran_stop hran ho hlt]
        exact k _ (sHl.trans sz)
    · rintro σ H3 ⟨u, td, rfl, hLn, hran, _⟩
      rw [t4.1, List.take_length] at hLn
      obtain ⟨dy, tp, ys, a, sL, n0, hp, htp, hys, ha⟩ := id hLn
      exact ⟨_, rfl, p, dy, _, rfl, hp, H, p, ra, R, os, td, _, rfl, hLn, k _ sL⟩
end
end Ts
set_option maxHeartbeats 4000000
namespace Ts
open PySem PySem.Spec PyProof.Rows L2 C8 He
/-! ### unsure occasions -/
structure Us where
  f : Int
  l : Int
  nm : Str
  d : Int
structure UsOk (u : Us) : Prop where
  f : 0 ≤ u.f
  l : u.f ≤ u.l
  w : u.l ≤ u.f + 3
  hi : u.f ≤ 1000
  nm : NameOk u.nm
  d : 1 ≤ u.d
structure UssOk (us : List Us) : Prop where
  ok : ∀ u ∈ us, UsOk u
  len : us.length ≤ 3
def unV (u : Us) : List V := [.int u.f, .int u.l, .str u.nm, .int u.d]
def UssAt (H : Hp) (xs : List V) (us : List Us) : Prop := xs.length = us.length ∧ ∀ (i : Nat) (u : Us), us[i]? = some u → ∃ p, xs[i]? = some (.ref p) ∧ H p = some (.tup (unV u))
theorem UssAt.mono {H H' : Hp} {xs : List V} {us : List Us} (s : SameI H H') (h : UssAt H xs us) : UssAt H' xs us := ⟨h.1, fun i o e => by
  obtain ⟨p, h1, h2⟩ := h.2 i o e
  exact ⟨p, h1, s _ _ h2 rfl⟩⟩
theorem UssAt.at_ {H : Hp} {xs : List V} {us : List Us} (h : UssAt H xs us) {i : Nat} {x : V} (e : xs[i]? = some x) : ∃ p u, x = .ref p ∧ us[i]? = some u ∧ H p = some (.tup (unV u)) := by
  have hi : i < us.length := by
    have := (List.getElem?_eq_some_iff.mp e).1
    rw [← h.1]
    exact this
  obtain ⟨a, h1, h2⟩ := h.2 i _ (List.getElem?_eq_getElem hi)
  rw [e] at h1
  exact ⟨a, _, Option.some.inj h1, List.getElem?_eq_getElem hi, h2⟩
def UnsureAt (K : PySem.W.Frag) (H : Hp) (a : Addr) (us : List Us) : Prop := ∃ (dx : Addr) (fs : List (Str × V)) (t : Addr) (xs : List V), H a = some (.ins (ga K "Unsure") dx fs) ∧ fld fs "occasions" = some (.ref t) ∧ H t = some (.tup xs) ∧ UssAt H xs us
theorem UnsureAt.mono {K : PySem.W.Frag} {H H' : Hp} {a : Addr} {us : List Us} (s : SameI H H') (h : UnsureAt K H a us) : UnsureAt K H' a us := by
  obtain ⟨dx, fs, t, xs, h1, h2, h3, h4⟩ := h
  exact ⟨dx, fs, t, xs, s _ _ h1 rfl, h2, s _ _ h3 rfl, h4.mono s⟩
def spIsUnsure : Sp := fun vs H Q _ => ∃ (p : Addr) (u : Us), vs = [.ref p] ∧ H p = some (.tup (unV u)) ∧ UsOk u ∧ ∀ H', Same H H' → Q (.bl true) H'
def spUnsure (K : PySem.W.Frag) : Sp := fun vs H Q _ => ∃ (H0 : Hp) (p a dx : Addr) (xs : List V) (us : List Us), vs = [.ref p, .ref a] ∧ H0 p = none ∧ Same H0 H ∧ H p = some (.ins (ga K "Unsure") dx []) ∧ SqL K H0 a xs ∧ UssAt H0 xs us ∧ UssOk us ∧
  ∀ H', Same H0 H' → UnsureAt K H' p us → Q .non H'
/-! choices -/
def daysU (u : Us) : List Int := (List.range (u.l + 1 - u.f).toNat).map fun (j : Nat) => u.f + (j : Int)
def stepC (acc : List (List Int)) (u : Us) : List (List Int) := acc.flatMap fun s => (daysU u).map fun d => s ++ [d]
def choicesM (us : List Us) : List (List Int) := us.foldl stepC [[]]
/-- tuples of ints -/
def TisAt (H : Hp) (xs : List V) (cs : List (List Int)) : Prop := xs.length = cs.length ∧ ∀ (i : Nat) (c : List Int), cs[i]? = some c → ∃ p, xs[i]? = some (.ref p) ∧ H p = some (.tup (c.map V.int))
theorem TisAt.mono {H H' : Hp} {xs : List V} {us : List (List Int)} (s : SameI H H') (h : TisAt H xs us) : TisAt H' xs us := ⟨h.1, fun i o e => by
  obtain ⟨p, h1, h2⟩ := h.2 i o e
  exact ⟨p, h1, s _ _ h2 rfl⟩⟩
theorem TisAt.at_ {H : Hp} {xs : List V} {us : List (List Int)} (h : TisAt H xs us) {i : Nat} {x : V} (e : xs[i]? = some x) : ∃ p u, x = .ref p ∧ us[i]? = some u ∧ H p = some (.tup (u.map V.int)) := by
  have hi : i < us.length := by
    have := (List.getElem?_eq_some_iff.mp e).1
    rw [← h.1]
    exact this
  obtain ⟨a, h1, h2⟩ := h.2 i _ (List.getElem?_eq_getElem hi)
  rw [e] at h1
  exact ⟨a, _, Option.some.inj h1, List.getElem?_eq_getElem hi, h2⟩
theorem TisAt.snoc {H : Hp} {xs : List V} {cs : List (List Int)} {p : Addr} {c : List Int} (h : TisAt H xs cs) (hp : H p = some (.tup (c.map V.int))) : TisAt H (xs ++ [.ref p]) (cs ++ [c]) := by
  refine ⟨by simp [h.1], fun j c' e => ?_⟩
  by_cases hj : j < cs.length
  · rw [List.getElem?_append_left hj] at e
    obtain ⟨b, hb1, hb2⟩ := h.2 j c' e
    exact ⟨b, by rw [List.getElem?_append_left (by rw [h.1]; exact hj)]; exact hb1, hb2⟩
  · rw [List.getElem?_append_right (by omega)] at e
    have ej : j = cs.length := by
      have := (List.getElem?_eq_some_iff.mp e).1
      simp at this
      omega
    subst ej
    rw [Nat.sub_self] at e
    cases e
    refine ⟨p, ?_, hp⟩
    rw [← h.1, List.getElem?_append_right (Nat.le_refl _), Nat.sub_self]
    rfl
def spChoices (K : PySem.W.Frag) : Sp := fun vs H Q _ => ∃ (a : Addr) (us : List Us), vs = [.ref a] ∧ UnsureAt K H a us ∧ UssOk us ∧ ∀ H' l ys, Same H H' → H' l = some (.lst ys) → TisAt H' ys (choicesM us) → Q (.ref l) H'
theorem daysU_len {u : Us} (ok : UsOk u) : (daysU u).length ≤ 4 := by
  unfold daysU
  rw [List.length_map, List.length_range]
  have := ok.w
  omega
theorem stepC_len (acc : List (List Int)) (u : Us) : (stepC acc u).length = acc.length * (daysU u).length := by
  unfold stepC
  rw [List.length_flatMap]
  simp only [List.length_map]
  induction acc with
  | nil => simp
  | cons x r ih => rw [List.map_cons, List.sum_cons, ih, List.length_cons, Nat.add_mul]; omega
theorem foldC_len : ∀ (us : List Us) (acc : List (List Int)) (n : Nat), (∀ c ∈ acc, c.length = n) → ∀ c ∈ us.foldl stepC acc, c.length = n + us.length
  | [], _, _, h, c, hc => h c hc
  | u :: us, acc, n, h, c, hc => by
    have := foldC_len us (stepC acc u) (n + 1) (fun c' hc' => by
      obtain ⟨s, hs, h2⟩ := List.mem_flatMap.mp hc'
      obtain ⟨d, hd, rfl⟩ := List.mem_map.mp h2
      rw [List.length_append, h s hs]
      rfl) c hc
    rw [this, List.length_cons]
    omega
theorem choices_len {us : List Us} {c : List Int} (h : c ∈ choicesM us) : c.length = us.length := by
  have := foldC_len us [[]] 0 (fun c hc => by
    rw [List.mem_singleton] at hc
    subst hc
    rfl) c h
  omega
theorem daysU_get {u : Us} {j : Nat} (h : j < (u.l + 1 - u.f).toNat) : (daysU u).take (j + 1) = (daysU u).take j ++ [u.f + j] := by
  rw [List.take_succ]
  congr 1
  unfold daysU
  rw [List.getElem?_map, List.getElem?_range h]
  rfl
/-! the walk of two for clauses -/
section
variable {J : It} {n : Nat} {G : Hp → Prop} {Y : Nat → Hp → V → Hp → Prop}
theorem lc_in (w : Walk J n G Y) {g1 : TG} {tt1 : TT} {te : TE} {vs1 : List Nat} {σ2 : L2.St} {H4 : Hp} {D : Addr} {Nx : Hp → Prop} (Pv : Nat → Hp → Prop) (h0 : Pv 0 H4) (hG : ∀ j H, j ≤ n → Pv j H → G H)
    (hs : ∀ j x H H', j < n → Pv j H → Y j H x H' → g1 x (wipe σ2 vs1) H' fun σ3 H5 => wipe σ3 vs1 = wipe σ2 vs1 ∧ tt1 σ3 H5 fun b H6 =>
      if b = true then te σ3 H6 fun y H7 => ∃ acc, H7 D = some (.lst acc) ∧ acc.length < sizeLine ∧ Pv (j + 1) (upd H7 D (.lst (acc ++ [y]))) else Pv (j + 1) H6) (hd : ∀ H, Pv n H → Nx H) :
    ∃ W1 : Nat → Nat → Hp → Prop, (∃ m, W1 0 m H4) ∧ ∀ j k H, W1 j k H →
      (J.stop j H ∧ Nx H) ∨ (J.go j H ∧ ∃ Nx1 : Hp → Prop, (∀ H', Nx1 H' → ∃ k', k' < k ∧ W1 (j + 1) k' H') ∧ ∀ x H', J.yld j H x H' → g1 x (wipe σ2 vs1) H' fun σ3 H5 => wipe σ3 vs1 = wipe σ2 vs1 ∧ tt1 σ3 H5 fun b H6 =>
        if b = true then te σ3 H6 fun y H7 => ∃ acc, H7 D = some (.lst acc) ∧ acc.length < sizeLine ∧ Nx1 (upd H7 D (.lst (acc ++ [y]))) else Nx1 H6) := by
  refine ⟨fun i m H => m = n - i ∧ i ≤ n ∧ Pv i H, ⟨n, by simp, Nat.zero_le _, h0⟩, ?_⟩
  rintro i m H ⟨rfl, hi, p⟩
  have q := hG i H hi p
  by_cases hlt : i < n
  · exact .inr ⟨w.goes i H hlt q, Pv (i + 1), fun H' p' => ⟨n - (i + 1), by omega, rfl, hlt, p'⟩, fun x H' y => hs i x H H' hlt p (w.yields i H x H' hlt q y)⟩
  · have e : i = n := by omega
    subst e
    exact .inl ⟨w.stops H q, hd H p⟩
theorem lc_out (w : Walk J n G Y) {g : TG} {tt : TT} {B : (Hp → Prop) → L2.St → Hp → Prop} {vs : List Nat} {σ : L2.St} {H1 : Hp} {D : Addr} {Qd : Hp → Prop} (Pv : Nat → Hp → Prop) (h0 : Pv 0 (upd H1 D (.lst []))) (hG : ∀ i H, i ≤ n → Pv i H → G H)
    (hs : ∀ i x H H', i < n → Pv i H → Y i H x H' → g x (wipe σ vs) H' fun σ2 H2 => wipe σ2 vs = wipe σ vs ∧ tt σ2 H2 fun b H3 => if b = true then B (Pv (i + 1)) σ2 H3 else Pv (i + 1) H3) (hd : ∀ H, Pv n H → Qd H) :
    ∃ W : Nat → Nat → Hp → Prop, (∃ m, W 0 m (upd H1 D (.lst []))) ∧ ∀ i m H, W i m H →
      (J.stop i H ∧ Qd H) ∨ (J.go i H ∧ ∃ Nx : Hp → Prop, (∀ H', Nx H' → ∃ m', m' < m ∧ W (i + 1) m' H') ∧ ∀ x H', J.yld i H x H' → g x (wipe σ vs) H' fun σ2 H2 => wipe σ2 vs = wipe σ vs ∧ tt σ2 H2 fun b H3 => if b = true then B Nx σ2 H3 else Nx H3) := by
  refine ⟨fun i m H => m = n - i ∧ i ≤ n ∧ Pv i H, ⟨n, by simp, Nat.zero_le _, h0⟩, ?_⟩
  rintro i m H ⟨rfl, hi, p⟩
  have q := hG i H hi p
  by_cases hlt : i < n
  · exact .inr ⟨w.goes i H hlt q, Pv (i + 1), fun H' p' => ⟨n - (i + 1), by omega, rfl, hlt, p'⟩, fun x H' y => hs i x H H' hlt p (w.yields i H x H' hlt q y)⟩
  · have e : i = n := by omega
    subst e
    exact .inl ⟨w.stops H q, hd H p⟩
end
section
variable {P : Program} {w : World} {K : PySem.W.Frag} {mg : Str → Option Value} {base : Heap}
theorem G_is_unsure (T : Txt P w K mg) : Cal P w K mg base 3 "is_unsure" spIsUnsure [] := by
  have G_is_number := G_is_number (P := P) (w := w) (base := base) T
  have G_is_name := G_is_name (P := P) (w := w) (base := base) T
  have G_is_length := G_is_length (P := P) (w := w) (base := base) T
  refine calN T.d_is_unsure T.g_is_unsure sc_is_unsure (fun _ _ _ _ _ _ us hl => match us, hl with | [_], _ => rfl) (fun vs H Q E h => ?_) (fun cdv A outer s H vs Q E hr h => ?_)
  · obtain ⟨p, u, rfl, _⟩ := h
    rfl
  · obtain ⟨p, u, rfl, hp, ok, k⟩ := h
    refine ⟨_, (pss_cons (ps_if (PW.pt (pw_or (pt_not (pt_val (pe_callB call_isi (by rfl) T.b_isinstance boot_isinstance (pa_cons (pv 0) (pa_cons (pe_bltn (v := .ty "tuple") (by rfl) T.b_tuple boot_tuple rfl) pa_nil))))) (pw_or1 (pt_cmpR op_ne (pe_callB call_len_seq (by rfl) T.b_len boot_len (pa_cons (pv 0) pa_nil)) pe_int (nomark _))))) (pss_one (ps_ret pe_bl)) pss_nil)
      (pss_cons (ps_asg (pv 0) (pg_tup rfl (pgs_cons (pg_name (i := 1) sc_is_unsure.nd rfl (Or.inl rfl)) (pgs_cons (pg_name (i := 2) sc_is_unsure.nd rfl (Or.inl rfl)) (pgs_cons (pg_name (i := 3) sc_is_unsure.nd rfl (Or.inl rfl)) (pgs_cons (pg_name (i := 4) sc_is_unsure.nd rfl (Or.inl rfl)) pgs_nil))))))
      (pss_cons (ps_if (PW.pt (pw_or (pt_not (pt_val (pe_c G_is_number hr (by decide) (by rfl) (pa_cons (pv 1) pa_nil)))) (pw_or (pt_not (pt_val (pe_c G_is_number hr (by decide) (by rfl) (pa_cons (pv 2) pa_nil)))) (pw_or1 (pt_cmpR op_gt (pv 1) (pv 2) (nomark _)))))) (pss_one (ps_ret pe_bl)) pss_nil)
      (pss_one (ps_ret (pe_and (pe_c G_is_name hr (by decide) (by rfl) (pa_cons (pv 3) pa_nil)) (pe_one (pe_c G_is_length hr (by decide) (by rfl) (pa_cons (pv 4) pa_nil))))))))), ?_⟩
    have t : SqT K H p (unV u) := SqT.of hp
    refine ⟨_, rfl, _, _, _, _, true, rfl, .ty _, ty_tup t, kitI K (by decide +kernel), _, rfl, iteF ?_⟩
    refine ⟨_, rfl, p, _, rfl, .inr t, rfl, false, neI rfl, iteF ?_⟩
    refine ⟨_, rfl, p, _, rfl, t, rfl, _, _, rfl, _, _, rfl, _, _, rfl, _, _, rfl, rfl, ?_⟩
    refine ⟨_, rfl, u.f, rfl, true, congrArg V.bl (decide_eq_true ok.f), iteF ?_⟩
    refine ⟨_, rfl, u.l, rfl, true, congrArg V.bl (decide_eq_true (by have := ok.f; have := ok.l; omega)), iteF ?_⟩
    refine ⟨_, rfl, _, rfl, _, _, rfl, rfl, _, rfl, itF (decide_eq_false (by have := ok.l; omega)) ?_⟩
    refine ⟨_, rfl, u.nm, rfl, ok.nm, fun H1 s1 => ⟨true, rfl, iteT ?_⟩⟩
    refine ⟨_, rfl, u.d, rfl, ?_⟩
    rw [decide_eq_true ok.d]
    exact k _ s1
theorem M_Unsure (T : Txt P w K mg) : Mak P w K mg base 4 "Unsure" (ga K "Unsure") (spUnsure K) [] := by
  have G_is_sequence := G_is_sequence (P := P) (w := w) (base := base) T
  have G_is_unsure := G_is_unsure (P := P) (w := w) (base := base) T
  refine makN T.d_Unsure_init T.k_Unsure T.g_Unsure sc_Unsure_init (fun _ _ _ _ _ _ us hl => match us, hl with | [_, _], _ => rfl) (fun vs H Q E h => ?_) (fun cdv A outer s H vs Q E hr h => ?_)
  · obtain ⟨H0, p, a, dx, xs, us, rfl, _⟩ := h
    rfl
  · obtain ⟨H0, p, a, dx, xs, us, rfl, n0, s0, hp, ha, hu, ok, k⟩ := h
    refine ⟨_, (pss_cons (ps_if (pt_not (pt_val (pe_c G_is_sequence hr (by decide) (by rfl) (pa_cons (pv 1) pa_nil)))) pss_never pss_nil)
      (pss_cons (ps_for PassesOwn.never rfl (pi_enum (by rfl) T.b_enumerate (pa_cons (pv 1) pa_nil)) (pg_tup rfl (pgs_cons (pg_name (i := 2) sc_Unsure_init.nd rfl (Or.inl rfl)) (pgs_cons (pg_name (i := 3) sc_Unsure_init.nd rfl (Or.inl rfl)) pgs_nil))) (pss_one (ps_if (pt_not (pt_val (pe_c G_is_unsure hr (by decide) (by rfl) (pa_cons (pv 3) pa_nil)))) pss_never pss_nil)))
      (pss_one (ps_fld (pv 0) (pe_callTy call_tuple_of (by rfl) T.b_tuple boot_tuple (pa_cons (pv 1) pa_nil)) rfl)))), ?_⟩
    refine ⟨_, rfl, a, xs, rfl, .inl (Same.seq s0 ha), fun H1 s1 => ⟨_, rfl, iteF ?_⟩⟩
    have s01 := s0.trans s1
    refine ⟨_, rfl, a, xs, rfl, Same.seq s01 ha, ?_⟩
    refine for_it (walk_enum (K := K) (a := a) (xs := xs)) (fun i σ H' => Same H1 H' ∧ ∃ u v, σ = [some (.ref p), some (.ref a), u, v]) ⟨Same.refl _, none, none, rfl⟩ (fun i σ H' _ q => Same.seq (s01.trans q.1) ha) ?_ ?_
    · rintro i v σ H3 H4 hi ⟨s3, u, v', rfl⟩ ⟨T', x1, y1, rfl, hT, rfl, hx1, hy1⟩
      cases hx1
      replace hy1 : xs[i]? = some y1 := hy1
      obtain ⟨q, o, rfl, hoi, hq⟩ := hu.at_ hy1
      have sT := sm_new (o := HO.tup [V.int (i : Nat), .ref q]) hT
      refine ⟨T', _, rfl, SqT.of upd_same, rfl, _, _, rfl, _, _, rfl, rfl, ?_⟩
      refine ⟨_, rfl, q, o, rfl, ((s01.trans s3).trans sT) _ _ hq, ok.ok o (List.mem_of_getElem? hoi), fun H5 s5 => ⟨_, rfl, iteF ?_⟩⟩
      exact ⟨(s3.trans sT).trans s5, _, _, rfl⟩
    · rintro σ H3 ⟨s3, u, v, rfl⟩
      have s03 := s01.trans s3
      refine ⟨_, rfl, a, xs, rfl, .inl ⟨Same.seq s03 ha, fun t ht => ?_⟩⟩
      have p3 := s3 _ _ (s1 _ _ hp)
      have st := sm_new (o := HO.tup xs) ht
      have tp : t ≠ p := fun e => by
        rw [e, p3] at ht
        cases ht
      refine ⟨_, rfl, p, _, dx, [], rfl, st _ _ p3, T.c_Unsure, T.no_Unsure_occasions, Nat.le_of_ble_eq_true rfl, ?_⟩
      have S := sm_to (o := .ins (ga K "Unsure") dx (putF "occasions" (V.ref t) [])) (s03.trans st) n0
      exact k _ S ⟨dx, _, t, xs, upd_same, lkE, by rw [upd_ne tp, upd_same], hu.mono (SameI.of S)⟩
theorem G_choices (T : Txt P w K mg) : Cal P w K mg base 1 "choices" (spChoices K) [] := by
  refine calN T.d_choices T.g_choices sc_choices (fun _ _ _ _ _ _ us hl => match us, hl with | [_], _ => rfl) (fun vs H Q E h => ?_) (fun cdv A outer s H vs Q E hr h => ?_)
  · obtain ⟨a, us, rfl, _⟩ := h
    rfl
  · obtain ⟨a, us, rfl, hU, ok, k⟩ := h
    refine ⟨_, (pss_cons (ps_set (i := 1) sc_choices.nd rfl (Or.inl rfl) (pe_lst (pa_cons (pe_tup pa_nil) pa_nil)))
      (pss_cons (ps_for PassesOwn.never rfl (pi_tup (pe_fld (pv 0) (by rfl))) (pg_tup rfl (pgs_cons (pg_name (i := 2) sc_choices.nd rfl (Or.inr rfl)) (pgs_cons (pg_name (i := 3) sc_choices.nd rfl (Or.inr rfl)) (pgs_cons (pg_name (i := 4) sc_choices.nd rfl (Or.inl rfl)) (pgs_cons (pg_name (i := 5) sc_choices.nd rfl (Or.inl rfl)) pgs_nil))))) (pss_one (ps_setLc2 (i := 1)  (own := [("some", 6), ("day", 7)]) (vs1 := [7]) (by rfl) sc_choices.nd rfl rfl (sw_true rfl rfl rfl (by decide +kernel)) (pi_list (pv 1)) (blkOk_by (N := n_choices) (sc := defScope s_choices) (by decide +kernel)) (by decide) (fun _ _ _ _ _ => (pg_name (i := 6) sc_choices.nd rfl (Or.inl rfl))) (fun _ _ _ _ _ => pts_nil) (fun _ _ _ _ _ => (pi_range2 rfl T.b_range (pa_cons (pv 2) (pa_cons (pe_op op_add (pv 3) pe_int) pa_nil)))) (fun _ _ _ _ _ => (pg_name (i := 7) sc_choices.nd rfl (Or.inl rfl))) (fun _ _ _ _ _ => pts_nil) (fun _ _ _ _ _ => (pe_tup (pa_starK (K := K) rfl (pv 6) (pa_cons (pv 7) pa_nil)))))))
      (pss_one (ps_ret (pv 1))))), ?_⟩
    obtain ⟨dx, fs, t, xs, h1, h2, h3, h4⟩ := id hU
    refine ⟨Nat.zero_le _, fun e he => ⟨Nat.le_of_ble_eq_true rfl, fun l hl => ?_⟩⟩
    have se := sm_new (o := HO.tup []) he
    have sl := sm_new (o := HO.lst [V.ref e]) hl
    have s2 := se.trans sl
    refine ⟨_, rfl, a, _, dx, fs, _, rfl, s2 _ _ h1, T.c_Unsure, T.no_Unsure_occasions, h2, t, rfl, ⟨_, SqT.of (s2 _ _ h3)⟩, ?_⟩
    refine for_it (walk_tup (K := K) (a := t) (xs := xs)) (fun i σ H' => Same H H' ∧ ∃ l ys u2 u3 u4 u5, σ = [some (.ref a), some (.ref l), u2, u3, u4, u5, none, none] ∧ H' l = some (.lst ys) ∧ TisAt H' ys ((us.take i).foldl stepC [[]]) ∧ ys.length ≤ 4 ^ i)
      ⟨s2, l, [.ref e], none, none, none, none, rfl, upd_same, ⟨rfl, fun i c h => by
        cases i with
        | zero =>
          cases h
          exact ⟨e, rfl, sl _ _ upd_same⟩
        | succ i => simp at h⟩, Nat.le_refl _⟩ (fun i σ H' _ q => SqT.of (q.1 _ _ h3)) ?_ ?_
    · rintro i v σ H3 H4 hi ⟨s3, l, ys, u2, u3, u4, u5, rfl, hy, hT, hyl⟩ ⟨rfl, hv⟩
      obtain ⟨q, u, rfl, hu, hq⟩ := h4.at_ hv
      have uok := ok.ok u (List.mem_of_getElem? hu)
      have hq3 := s3 _ _ hq
      refine ⟨q, _, rfl, SqT.of hq3, rfl, _, _, rfl, _, _, rfl, _, _, rfl, _, _, rfl, rfl, ?_⟩
      refine ⟨_, rfl, l, rfl, ⟨_, SqL.of hy⟩, fun D hD => ?_⟩
      have hcl : ∀ c ∈ (us.take i).foldl stepC [[]], c.length ≤ 3 := fun c hc => by
        have h1 : c.length = (us.take i).length := choices_len (us := us.take i) hc
        have h2 := ok.len
        rw [h1, List.length_take]
        omega
      have hil : i < us.length := (List.getElem?_eq_some_iff.mp hu).1
      have hy64 : ys.length ≤ 64 := by
        have h2 := ok.len
        refine Nat.le_trans hyl (Nat.le_trans (Nat.pow_le_pow_right (by decide) (show i ≤ 3 by omega)) (by decide))
      generalize hcs : (us.take i).foldl stepC [[]] = cs at *
      refine lc_out (walk_list (K := K) (a := l) (xs := ys)) (fun i2 H' => Same H4 H' ∧ ∃ zs, H' D = some (.lst zs) ∧ TisAt H' zs ((cs.take i2).flatMap fun s => (daysU u).map fun d => s ++ [d]) ∧ zs.length ≤ 4 * i2) ⟨sm_new hD, [], upd_same, ⟨rfl, fun i c h => by simp at h⟩, Nat.le_refl _⟩
        (fun i2 H' _ q => SqL.of (q.1 _ _ hy)) ?_ ?_
      · rintro i2 v2 H5 H6 hi2 ⟨s5, zs, hz, hTz, hzl⟩ ⟨rfl, hv2⟩
        obtain ⟨p, c, rfl, hc, hp⟩ := hT.at_ hv2
        have hp5 := s5 _ _ hp
        have hcl' := hcl c (List.mem_of_getElem? hc)
        refine ⟨rfl, ?_⟩
        refine ⟨_, rfl, _, rfl, _, _, rfl, rfl, u.f, u.l + 1, rfl, by have := uok.f; have := uok.l; have := uok.w; have := uok.hi; omega, ?_⟩
        refine lc_in (walk_range (lo := u.f) (n := (u.l + 1 - u.f).toNat)) (fun j H' => Same H4 H' ∧ ∃ zs, H' D = some (.lst zs) ∧ TisAt H' zs (((cs.take i2).flatMap fun s => (daysU u).map fun d => s ++ [d]) ++ ((daysU u).take j).map fun d => c ++ [d]) ∧ zs.length ≤ 4 * i2 + j)
          ⟨s5, zs, hz, by simpa using hTz, hzl⟩ (fun _ _ _ _ => trivial) ?_ ?_
        · rintro j v3 H7 H8 hj ⟨s7, zs, hz, hTz, hzl⟩ ⟨rfl, rfl⟩
          have hj4 : j < 4 := by have := uok.w; omega
          refine ⟨rfl, ?_⟩
          have ll : (c.map V.int ++ [V.int (u.f + j)]).length ≤ sizeLine := by
            rw [List.length_append, List.length_map]
            exact Nat.le_trans (show _ ≤ 4 by simp; omega) (by decide)
          refine ⟨_, rfl, p, _, rfl, .inl (SqT.of (s7 _ _ hp)), _, rfl, ll, fun q hq => ?_⟩
          have sq := sm_new (o := HO.tup (c.map V.int ++ [V.int (u.f + j)])) hq
          have hz8 := sq _ _ hz
          refine ⟨zs, hz8, Nat.lt_of_le_of_lt (show zs.length ≤ 300 by omega) (by decide), sm_to (s7.trans sq) hD, _, upd_same, ?_, by rw [List.length_append]; simp; omega⟩
          have sI : SameI (upd H8 q (.tup (c.map V.int ++ [V.int (u.f + j)]))) (upd (upd H8 q (.tup (c.map V.int ++ [V.int (u.f + j)]))) D (.lst (zs ++ [.ref q]))) := SameI.lst hz8
          have tq : (upd (upd H8 q (.tup (c.map V.int ++ [V.int (u.f + j)]))) D (.lst (zs ++ [.ref q]))) q = some (.tup ((c ++ [u.f + j]).map V.int)) := by
            rw [upd_ne (ne_of_none hz hq).symm, upd_same]
            simp
          rw [daysU_get hj, List.map_append, ← List.append_assoc]
          exact (hTz.mono ((SameI.of sq).trans sI)).snoc tq
        · rintro H7 ⟨s7, zs, hz, hTz, hzl⟩
          refine ⟨s7, zs, hz, ?_, by have := uok.w; omega⟩
          have et : cs.take (i2 + 1) = cs.take i2 ++ [c] := by rw [List.take_succ, hc]; rfl
          rw [et, List.flatMap_append]
          have ed : (daysU u).take (u.l + 1 - u.f).toNat = daysU u := List.take_of_length_le (by unfold daysU; simp)
          rw [ed] at hTz
          simpa using hTz
      · rintro H5 ⟨s5, zs, hz, hTz, hzl⟩
        rw [hT.1, List.take_length] at hTz
        refine ⟨s3.trans s5, D, zs, _, _, _, _, rfl, hz, ?_, ?_⟩
        · have et : us.take (i + 1) = us.take i ++ [u] := by rw [List.take_succ, hu]; rfl
          rw [et, List.foldl_append, hcs]
          exact hTz
        · have e4 : 4 ^ (i + 1) = 4 ^ i * 4 := Nat.pow_succ ..
          omega
    · rintro σ H3 ⟨s3, l, ys, u2, u3, u4, u5, rfl, hy, hT, hyl⟩
      rw [h4.1, List.take_length] at hT
      exact ⟨_, rfl, k _ l ys s3 hy hT⟩
end
end Ts
set_option maxHeartbeats 4000000
namespace Ts
open PySem PySem.Spec PyProof.Rows L2 C8 He
/-! ### pairs, sorted -/
def leP (p q : Int × Int) : Bool := !SrtO.lexB q p
theorem leP_iff {p q : Int × Int} : leP p q = true ↔ (p.1 < q.1 ∨ (p.1 = q.1 ∧ p.2 ≤ q.2)) := by
  unfold leP
  rw [Bool.not_eq_true', Bool.eq_false_iff, ne_eq, SrtO.lexB_iff]
  omega
def sortP (l : List (Int × Int)) : List (Int × Int) := l.mergeSort leP
theorem sortP_pw (l : List (Int × Int)) : (sortP l).Pairwise fun p q => leP p q = true :=
  List.pairwise_mergeSort (fun a b c h1 h2 => by rw [leP_iff] at *; omega) (fun a b => by
    rw [Bool.or_eq_true, leP_iff, leP_iff]
    omega) l
theorem sortP_eq {l ps : List (Int × Int)} (p : l.Perm ps) (h : l.Pairwise fun x y => leP x y = true) : l = sortP ps := by
  refine List.Perm.eq_of_pairwise (le := fun x y => leP x y = true) (fun a b _ _ h1 h2 => ?_) h (sortP_pw ps) (p.trans (List.mergeSort_perm ps leP).symm)
  rw [leP_iff] at h1 h2
  exact Prod.ext (by omega) (by omega)
def pairsOf (ds : List Int) : List (Int × Int) := (List.range ds.length).map fun (i : Nat) => (ds.getD i 0, (i : Int))
def usD : Us := ⟨0, 0, "", 0⟩
def ocOf (us : List Us) (p : Int × Int) : Oc := ⟨p.1, (us.getD p.2.toNat usD).nm, (us.getD p.2.toNat usD).d⟩
def filledM (us : List Us) (ds : List Int) : List Oc := (sortP (pairsOf ds)).map (ocOf us)
theorem mem_sortP {us : List Us} {ds : List Int} {p : Int × Int} (h : p ∈ sortP (pairsOf ds)) : ∃ i : Nat, i < ds.length ∧ p = (ds.getD i 0, (i : Int)) := by
  have h2 := ((List.mergeSort_perm (pairsOf ds) leP).mem_iff).mp h
  obtain ⟨i, hi, rfl⟩ := List.mem_map.mp h2
  exact ⟨i, List.mem_range.mp hi, rfl⟩
theorem filledM_len (us : List Us) (ds : List Int) : (filledM us ds).length = ds.length := by
  unfold filledM sortP pairsOf
  rw [List.length_map, List.length_mergeSort, List.length_map, List.length_range]
theorem filledM_ok {us : List Us} {ds : List Int} (ok : UssOk us) (hl : ds.length = us.length) (h0 : ∀ d ∈ ds, 0 ≤ d) : OsOk (filledM us ds) := by
  refine ⟨fun o ho => ?_, ?_, ?_⟩
  · obtain ⟨p, hp, rfl⟩ := List.mem_map.mp ho
    obtain ⟨i, hi, rfl⟩ := mem_sortP (us := us) hp
    have hu : us.getD i usD ∈ us := by
      have hi' : i < us.length := by omega
      rw [List.getD_eq_getElem?_getD, List.getElem?_eq_getElem hi']
      exact List.getElem_mem hi'
    have uok := ok.ok _ hu
    refine ⟨?_, uok.nm, uok.d⟩
    show 0 ≤ ds.getD i 0
    rw [List.getD_eq_getElem?_getD, List.getElem?_eq_getElem hi]
    exact h0 _ (List.getElem_mem hi)
  · unfold filledM
    rw [List.pairwise_map]
    refine (sortP_pw (pairsOf ds)).imp fun {a b} h => ?_
    rw [leP_iff] at h
    show a.1 ≤ b.1
    omega
  · rw [filledM_len, hl]
    have := ok.len
    omega
def spFilled (K : PySem.W.Frag) : Sp := fun vs H Q _ => ∃ (a t : Addr) (us : List Us) (ds : List Int), vs = [.ref a, .ref t] ∧ UnsureAt K H a us ∧ UssOk us ∧ SqT K H t (ds.map V.int) ∧ ds.length = us.length ∧ (∀ d ∈ ds, 0 ≤ d) ∧
  ∀ H' b, Same H H' → StoryAt K H' b (filledM us ds) → Q (.ref b) H'
/-- the ints of a pair -/
def pairAt (H : Hp) (x : V) : Int × Int := match x with
  | .ref t => (match H t with
    | some (.tup [.int i, .int j]) => (i, j)
    | _ => (0, 0))
  | _ => (0, 0)
section
variable {P : Program} {w : World} {K : PySem.W.Frag} {mg : Str → Option Value} {base : Heap}
theorem G_filled (T : Txt P w K mg) : Cal P w K mg base 7 "filled" (spFilled K) [] := by
  have M_Story := M_Story (P := P) (w := w) (base := base) T
  refine calN T.d_filled T.g_filled sc_filled (fun _ _ _ _ _ _ us hl => match us, hl with | [_, _], _ => rfl) (fun vs H Q E h => ?_) (fun cdv A outer s H vs Q E hr h => ?_)
  · obtain ⟨a, t, us, ds, rfl, _⟩ := h
    rfl
  · obtain ⟨a, t, us, ds, rfl, hU, ok, ht, hl, h0, k⟩ := h
    refine ⟨_, (pss_cons (ps_set (i := 2) sc_filled.nd rfl (Or.inl rfl) (pe_callB (cr_sortedPO) (by rfl) T.b_sorted boot_sorted (pa_cons (pe_lc (own := [("at", 3), ("day", 4)]) (by rfl) sc_filled.nd (pi_enumT (by rfl) T.b_enumerate (pa_cons (pv 1) pa_nil)) (blkOk_by (N := n_filled) (sc := defScope s_filled) (by decide +kernel)) (fun _ _ _ _ _ => (pg_tupK (K := K) (n := 2) rfl rfl (pgs_cons (pg_name (i := 3) sc_filled.nd rfl (Or.inl rfl)) (pgs_cons (pg_name (i := 4) sc_filled.nd rfl (Or.inl rfl)) pgs_nil)))) (fun _ _ _ _ _ => pts_nil) (fun _ _ _ _ _ => (pe_tup (pa_cons (pv 4) (pa_cons (pv 3) pa_nil))))) pa_nil)))
      (pss_one (ps_ret (pe_mk M_Story hr (by decide) (by rfl) (pa_cons (pe_lc (own := [("day", 4), ("at", 3)]) (by rfl) sc_filled.nd (pi_list (pv 2)) (blkOk_by (N := n_filled) (sc := defScope s_filled) (by decide +kernel)) (fun _ _ _ _ _ => (pg_tupK (K := K) (n := 2) rfl rfl (pgs_cons (pg_name (i := 4) sc_filled.nd rfl (Or.inl rfl)) (pgs_cons (pg_name (i := 3) sc_filled.nd rfl (Or.inl rfl)) pgs_nil)))) (fun _ _ _ _ _ => pts_nil) (fun _ _ _ _ _ => (pe_tup (pa_cons (pv 4) (pa_cons (pe_ix (ix_tupK (K := K) rfl) (pe_ix (ix_tupK (K := K) rfl) (pe_fldK (K := K) (by rfl) (pv 0) (by rfl)) (pv 3) (fun _ _ => rfl)) pe_int (fun _ _ => rfl)) (pa_cons (pe_ix (ix_tupK (K := K) rfl) (pe_ix (ix_tupK (K := K) rfl) (pe_fldK (K := K) (by rfl) (pv 0) (by rfl)) (pv 3) (fun _ _ => rfl)) pe_int (fun _ _ => rfl)) pa_nil)))))) pa_nil))))), ?_⟩
    obtain ⟨dx, fs, tu, xu, u1, u2, u3, u4⟩ := id hU
    have dl : (ds.map V.int).length = ds.length := List.length_map ..
    have d3 : ds.length ≤ 3 := by rw [hl]; exact ok.len
    refine ⟨_, rfl, t, _, rfl, ht, fun D hD => ?_⟩
    refine lc_map (walk_enumT (K := K) (a := t) (xs := ds.map V.int)) hD (fun H' s => sm_seqT s ht) (by rw [dl]; omega) (fun i y H' => ∃ p, y = .ref p ∧ H' p = some (.tup [.int (ds.getD i 0), .int (i : Nat)])) (fun i y H3 H4 s ⟨p, e, h⟩ => ⟨p, e, s _ _ h rfl⟩) ?_ ?_
    · rintro i v H3 H4 hi s3 ⟨T', x1, y1, rfl, hT, rfl, hx1, hy1⟩ k2 hk
      cases hx1
      replace hy1 : (ds.map V.int)[i]? = some y1 := hy1
      rw [List.getElem?_map] at hy1
      obtain ⟨d, hd, rfl⟩ := Option.map_eq_some_iff.mp hy1
      have sT := sm_new (o := HO.tup [V.int (i : Nat), .int d]) hT
      refine ⟨T', _, rfl, SqT.of upd_same, rfl, _, _, rfl, _, _, rfl, rfl, rfl, ?_⟩
      refine ⟨_, rfl, _, rfl, Nat.le_of_ble_eq_true rfl, fun p hp => ?_⟩
      have eg : ds.getD i 0 = d := by rw [List.getD_eq_getElem?_getD, hd]; rfl
      exact hk _ _ (sT.trans (sm_new hp)) ⟨p, rfl, by rw [upd_same, eg]⟩
    intro H1 ys s1 hy hyl hpt
    rw [dl] at hyl
    -- sorted
    have hk : ∀ (i : Nat) (y : V), ys[i]? = some y → pairAt H1 y = (ds.getD i 0, (i : Int)) ∧ ∃ p, y = .ref p ∧ H1 p = some (.tup [.int (pairAt H1 y).1, .int (pairAt H1 y).2]) := fun i y e => by
      obtain ⟨p, rfl, hp⟩ := hpt i y e
      have ep : pairAt H1 (.ref p) = (ds.getD i 0, (i : Int)) := by
        unfold pairAt
        simp only [hp]
      exact ⟨ep, p, rfl, by rw [ep]; exact hp⟩
    have emap : ys.map (pairAt H1) = pairsOf ds := by
      refine List.ext_getElem? fun i => ?_
      unfold pairsOf
      by_cases hi : i < ds.length
      · have hi' : i < ys.length := by omega
        rw [List.getElem?_map, List.getElem?_eq_getElem hi', List.getElem?_map, List.getElem?_range hi]
        exact congrArg some (hk i _ (List.getElem?_eq_getElem hi')).1
      · rw [List.getElem?_eq_none (by rw [List.length_map]; omega), List.getElem?_eq_none (by simp; omega)]
    refine ⟨D, ys, pairAt H1, rfl, SqL.of hy, fun x hx => ?_, fun zs p hsrt hstb hp => ?_⟩
    · obtain ⟨i, hi⟩ := List.getElem?_of_mem hx
      exact (hk i x hi).2
    have ezs : zs.map (pairAt H1) = sortP (pairsOf ds) := by
      rw [← emap]
      refine sortP_eq (hstb.perm.map _) ?_
      rw [List.pairwise_map]
      exact hsrt.imp fun {x y} h => by
        have h' : SrtO.lexB (pairAt H1 y) (pairAt H1 x) = false := h
        unfold leP
        rw [h']
        rfl
    have zl : zs.length = ds.length := by rw [hstb.perm.length_eq, hyl]
    have sp := sm_new (o := HO.lst zs) hp
    have s2 := s1.trans sp
    have sU := SameI.of s2
    -- the story's list
    refine ⟨_, rfl, p, rfl, ⟨_, SqL.of upd_same⟩, fun D2 hD2 => ?_⟩
    refine lc_map (walk_list (K := K) (a := p) (xs := zs)) hD2 (fun H' s => SqL.of (s _ _ upd_same)) (by omega) (fun i y H' => ∃ q o, y = .ref q ∧ (filledM us ds)[i]? = some o ∧ H' q = some (.tup (ocV o))) (fun i y H3 H4 s ⟨q, o, e, h1, h⟩ => ⟨q, o, e, h1, s _ _ h rfl⟩) ?_ ?_
    · rintro i v H3 H4 hi s3 ⟨rfl, hv⟩ k2 hk2
      have hmem : v ∈ ys := hstb.perm.mem_iff.mp (List.mem_of_getElem? hv)
      obtain ⟨j, hj⟩ := List.getElem?_of_mem hmem
      obtain ⟨e1, q, rfl, hq⟩ := hk j v hj
      have hjl : j < us.length := by
        have := (List.getElem?_eq_some_iff.mp hj).1
        omega
      have hi2 : (sortP (pairsOf ds))[i]? = some (ds.getD j 0, (j : Int)) := by
        rw [← ezs, List.getElem?_map, hv, ← e1]
        rfl
      have hfi : (filledM us ds)[i]? = some (ocOf us (ds.getD j 0, (j : Int))) := by
        unfold filledM
        rw [List.getElem?_map, hi2]
        rfl
      rw [e1] at hq
      have sH := s2.trans s3
      have hq4 := (sp.trans s3) _ _ hq
      refine ⟨q, _, rfl, SqT.of hq4, rfl, _, _, rfl, _, _, rfl, rfl, rfl, ?_⟩
      obtain ⟨b, hb1, hb2⟩ := u4.2 j _ (List.getElem?_eq_getElem hjl)
      have tu4 := SqT.of (K := K) (sH _ _ u3)
      have hb4 := sH _ _ hb2
      have atj : atI xu (j : Int) = some (.ref b) := atI_nat hb1
      have eu : us.getD (j : Int).toNat usD = us[j] := by
        rw [List.getD_eq_getElem?_getD]
        show (us[j]?).getD usD = _
        rw [List.getElem?_eq_getElem hjl]
        rfl
      refine ⟨_, rfl, ?_⟩
      refine ⟨_, rfl, a, _, dx, fs, _, rfl, sH _ _ u1, T.c_Unsure, T.no_Unsure_occasions, u2, _, rfl, _, _, _, _, rfl, rfl, tu4, atj, _, _, _, _, rfl, rfl, SqT.of hb4, atI_nat (j := 2) rfl, ?_⟩
      refine ⟨_, rfl, a, _, dx, fs, _, rfl, sH _ _ u1, T.c_Unsure, T.no_Unsure_occasions, u2, _, rfl, _, _, _, _, rfl, rfl, tu4, atj, _, _, _, _, rfl, rfl, SqT.of hb4, atI_nat (j := 3) rfl, ?_⟩
      refine ⟨Nat.le_of_ble_eq_true rfl, fun z hz => ?_⟩
      exact hk2 _ _ (sm_new hz) ⟨z, _, rfl, hfi, by rw [upd_same]; unfold ocV ocOf; rw [eu]⟩
    intro H3 ws s3 hw hwl hwt
    refine fun x dy nx ndx nex => ?_
    have hoc : OcsAt H3 ws (filledM us ds) := ⟨by rw [hwl, filledM_len, zl], fun i o e => by
      have hi : i < ws.length := by
        have := (List.getElem?_eq_some_iff.mp e).1
        rw [filledM_len] at this
        omega
      obtain ⟨q, o2, h1, h2, h3⟩ := hwt i _ (List.getElem?_eq_getElem hi)
      rw [e] at h2
      cases h2
      exact ⟨q, by rw [List.getElem?_eq_getElem hi, h1], h3⟩⟩
    exact ⟨H3, x, D2, dy, ws, _, rfl, nx, made_same nx ndx, upd_same, .inl (SqL.of hw), hoc, filledM_ok ok hl h0, fun H' s' hs => ⟨rfl, k _ _ ((s2.trans s3).trans s') hs⟩⟩
end
end Ts
set_option maxHeartbeats 4000000
namespace Ts
open PySem PySem.Spec PyProof.Rows L2 C8 He
/-! ### dicts whose keys are nested tuples: the table apart from the keys' objects -/
abbrev NE := NestedKey × Addr × V
abbrev NEv := NestedKey × Addr × Value
def EntR (p : NE) (q : NEv) : Prop := p.1 = q.1 ∧ p.2.1 = q.2.1 ∧ RelV p.2.2 q.2.2
def NdIs (P : Program) (w : World) (d : Addr) (xs : List NE) (h : Heap) : Prop := xs.length ≤ sizeLine ∧ (d == sysModules) = false ∧ ∃ ys : List NEv, Paired EntR xs ys ∧
  ∃ o es ep, h.get? d = some o ∧ o.ExactDict ∧ o.data = .dict es ep ∧ es.toList = ys.map (entryOfKey (nestedKind P w)) ∧ (ys.map (·.1)).Nodup
def ndO (P : Program) (w : World) (d : Addr) (xs : List NE) : HO := .ext (NdIs P w d xs)
theorem ndO_ok {P : Program} {w : World} {H : Hp} {h : Heap} {d : Addr} {xs : List NE} (x : NdIs P w d xs h) : ObjOk P w H h d (ndO P w d xs) := by
  refine ⟨x, ?_, fun h1 h2 y k => ?_⟩
  · obtain ⟨_, _, ys, _, o, es, ep, e, _⟩ := x
    exact ⟨o, e⟩
  · obtain ⟨z, lo, ys, r, o, es, ep, e, t⟩ := y
    exact ⟨z, lo, ys, r, o, es, ep, k _ e, t⟩
mutual
/-- the value is this key -/
inductive NkAt (K : PySem.W.Frag) (H : Hp) : NestedKey → V → Prop
  | int (i : Int) : NkAt K H (.num i) (.int i)
  | text (x : Str) : NkAt K H (.text x) (.str x)
  | tup {a : Addr} {ks : List NestedKey} {xs : List V} : SqT K H a xs → NkAll K H ks xs → NkAt K H (.tup ks) (.ref a)
inductive NkAll (K : PySem.W.Frag) (H : Hp) : List NestedKey → List V → Prop
  | nil : NkAll K H [] []
  | cons {k : NestedKey} {x : V} {ks : List NestedKey} {xs : List V} : NkAt K H k x → NkAll K H ks xs → NkAll K H (k :: ks) (x :: xs)
end
mutual
def encK : NestedKey → PyData
  | .none => .none
  | .num i => .int i
  | .text x => .str x
  | .tup ks => .tuple (encKs ks)
def encKs : List NestedKey → List PyData
  | [] => []
  | k :: ks => encK k :: encKs ks
end
mutual
theorem NkAt.mono {K : PySem.W.Frag} {H H' : Hp} (s : Same H H') : ∀ (k : NestedKey) (x : V), NkAt K H k x → NkAt K H' k x
  | .none, _, h => by cases h
  | .num i, _, h => by cases h; exact .int i
  | .text y, _, h => by cases h; exact .text y
  | .tup ks, _, h => by
    cases h with
    | tup h1 h2 => exact .tup (sm_seqT s h1) (NkAll.mono s ks _ h2)
theorem NkAll.mono {K : PySem.W.Frag} {H H' : Hp} (s : Same H H') : ∀ (ks : List NestedKey) (xs : List V), NkAll K H ks xs → NkAll K H' ks xs
  | [], _, h => by cases h; exact .nil
  | k :: ks, _, h => by
    cases h with
    | cons h1 h2 => exact .cons (NkAt.mono s k _ h1) (NkAll.mono s ks _ h2)
end
section
variable {X : Cx} {pins : List (Addr × Obj)} {σ : L2.St} {H : Hp} {s : Shared}
mutual
theorem NkAt.is (I : Inv X pins σ H s) : ∀ (k : NestedKey) (y : V) (u : Value), NkAt X.K H k y → RelV y u → NestedIs s.heap k u ∧ Reads s.heap u (encK k) []
  | .none, _, _, h, _ => by cases h
  | .num i, _, u, h, r => by
    cases h
    obtain ⟨t, rfl⟩ := (show ∃ t, u = Value.int i t from r)
    exact ⟨.int i t, .int i t⟩
  | .text y, _, u, h, r => by
    cases h
    obtain ⟨t, rfl⟩ := (show ∃ t, u = Value.str y t from r)
    exact ⟨.text y t, .str y t⟩
  | .tup ks, _, u, h, r => by
    cases h with
    | tup h1 h2 =>
      cases r
      obtain ⟨its, rv, ⟨o, e1, e2, n, e3⟩, _⟩ := I.tuple h1
      obtain ⟨g1, g2⟩ := NkAll.is I ks _ its h2 rv
      exact ⟨.tup e1 e2 e3 (by simpa using g1), .tuple e1 e2 e3 (by simpa using g2)⟩
theorem NkAll.is (I : Inv X pins σ H s) : ∀ (ks : List NestedKey) (ys : List V) (us : List Value), NkAll X.K H ks ys → Vals ys us → NestedAll s.heap ks us ∧ ReadsAll s.heap us (encKs ks) []
  | [], _, us, h, r => by
    cases h
    cases r
    exact ⟨.nil, .nil⟩
  | k :: ks, _, us, h, r => by
    cases h with
    | cons h1 h2 =>
      cases r with
      | cons r1 r2 =>
        obtain ⟨a1, a2⟩ := NkAt.is I k _ _ h1 r1
        obtain ⟨b1, b2⟩ := NkAll.is I ks _ _ h2 r2
        exact ⟨.cons a1 b1, ReadsAll.cons (as := []) (bs := []) a2 b2⟩
end
end
/-- the keys stand where they stood -/
def NdKeys (K : PySem.W.Frag) (H : Hp) (xs : List NE) : Prop := ∀ x ∈ xs, NkAt K H x.1 (.ref x.2.1) ∧ x.1.depth ≤ 8
theorem NdKeys.mono {K : PySem.W.Frag} {H H' : Hp} {xs : List NE} (s : Same H H') (h : NdKeys K H xs) : NdKeys K H' xs := fun x hx => ⟨NkAt.mono s _ _ (h x hx).1, (h x hx).2⟩
theorem nkTup {K : PySem.W.Frag} {H : Hp} {k : NestedKey} {a : Addr} (h : NkAt K H k (.ref a)) : ∃ ks xs, k = .tup ks ∧ SqT K H a xs := by
  cases h with
  | tup h1 h2 => exact ⟨_, _, rfl, h1⟩
theorem ent_all {G : NE → Prop} {F : NEv → Prop} : ∀ {xs : List NE} {ys : List NEv}, Paired EntR xs ys → (∀ x ∈ xs, G x) → (∀ x y, G x → EntR x y → F y) → ∀ y ∈ ys, F y
  | _, _, .nil, _, _ => fun _ h => nomatch h
  | _, _, .cons h t, a, b => fun y hy => by
    rcases List.mem_cons.mp hy with rfl | hy
    · exact b _ _ (a _ (List.mem_cons_self ..)) h
    · exact ent_all t (fun x hx => a x (List.mem_cons_of_mem _ hx)) b y hy
theorem ent_at : ∀ {xs : List NE} {ys : List NEv}, Paired EntR xs ys → ∀ (j : Nat) (y : NEv), ys[j]? = some y → ∃ x, xs[j]? = some x ∧ EntR x y
  | _, _, .nil, _, _, h => by simp at h
  | _, _, .cons h t, 0, y, e => ⟨_, rfl, by cases e; exact h⟩
  | _, _, .cons h t, j + 1, y, e => ent_at t j y (by simpa using e)
/-- the address and the value at a key -/
def ndAt (xs : List NE) (k : NestedKey) : Option V := (xs.find? fun x => decide (x.1 = k)).map (·.2.2)
def ndPut (xs : List NE) (k : NestedKey) (a : Addr) (v : V) : List NE := if (ndAt xs k).isSome = true then xs.map (fun x => if x.1 = k then (x.1, x.2.1, v) else x) else xs ++ [(k, a, v)]
theorem ndAt_rel {xs : List NE} {ys : List NEv} (r : Paired EntR xs ys) (k : NestedKey) : RelO (ndAt xs k) ((atKey ys k).map (·.2)) := by
  induction r with
  | nil => exact True.intro
  | @cons p q ps qs h t ih =>
    obtain ⟨h1, h2, h3⟩ := h
    by_cases e : p.1 = k
    · have e' : q.1 = k := h1.symm.trans e
      have a : ndAt (p :: ps) k = some p.2.2 := by simp [ndAt, List.find?_cons, e]
      have b : atKey (q :: qs) k = some q.2 := by simp [atKey, List.find?_cons, e']
      rw [a, b]; exact h3
    · have e' : ¬ q.1 = k := fun z => e (h1.trans z)
      have a : ndAt (p :: ps) k = ndAt ps k := by simp [ndAt, List.find?_cons, e]
      have b : atKey (q :: qs) k = atKey qs k := by simp [atKey, List.find?_cons, e']
      rw [a, b]; exact ih
theorem ent_put {xs : List NE} {ys : List NEv} (r : Paired EntR xs ys) {k : NestedKey} {a : Addr} {v : V} {u : Value} (rv : RelV v u) : Paired EntR (ndPut xs k a v) (storedH ys k a u) := by
  have e : (ndAt xs k).isSome = (atKey ys k).isSome := by rw [(ndAt_rel r k).isSome_eq, Option.isSome_map]
  unfold ndPut storedH
  rw [e]
  by_cases q : (atKey ys k).isSome = true
  · rw [if_pos q, if_pos q]
    clear e q
    induction r with
    | nil => exact .nil
    | @cons p q ps qs h t ih =>
      rw [List.map_cons, List.map_cons]
      refine .cons ?_ ih
      obtain ⟨h1, h2, h3⟩ := h
      unfold putAt
      by_cases e : p.1 = k
      · rw [if_pos e, if_pos (h1.symm.trans e)]; exact ⟨h1, h2, rv⟩
      · rw [if_neg e, if_neg (fun z => e (h1.trans z))]; exact ⟨h1, h2, h3⟩
  · rw [if_neg q, if_neg q]; exact Paired.snoc r ⟨rfl, rfl, rv⟩
theorem ndPut_len (xs : List NE) (k : NestedKey) (a : Addr) (v : V) : (ndPut xs k a v).length ≤ xs.length + 1 := by
  unfold ndPut
  split
  · rw [List.length_map]; omega
  · rw [List.length_append, List.length_cons, List.length_nil]; omega
section
variable {X : Cx} {pins : List (Addr × Obj)} {σ : L2.St} {H : Hp} {s : Shared} {d : Addr} {xs : List NE}
theorem nd_of (I : Inv X pins σ H s) (e : H d = some (ndO X.prog X.w d xs)) (hk : NdKeys X.K H xs) : xs.length ≤ sizeLine ∧ (d == sysModules) = false ∧ ∃ ys, Paired EntR xs ys ∧ s.heap.DictOfH (nestedKind X.prog X.w) d ys := by
  obtain ⟨⟨z, lo, ys, r, o, es, ep, h1, h2, h3, h4, h5⟩, _, _⟩ := (show ObjOk X.prog X.w H s.heap d (ndO X.prog X.w d xs) from I.hok d _ e)
  refine ⟨z, lo, ys, r, o, es, ep, h1, h2, h3, h4, ent_all r hk fun x y g e => ?_, h5⟩
  obtain ⟨e1, e2, e3⟩ := e
  rw [← e1, ← e2]
  exact ⟨(NkAt.is I _ _ _ g.1 rfl).1, g.2⟩
theorem nd_new {P : Program} {w : World} {H' : Hp} {h' : Heap} {xs : List NE} {ys : List NEv} (z : xs.length ≤ sizeLine) (lo : (d == sysModules) = false) (r : Paired EntR xs ys) (dd : h'.DictOfH (nestedKind P w) d ys) : ObjOk P w H' h' d (ndO P w d xs) := by
  obtain ⟨o, es, ep, h1, h2, h3, h4, _, h5⟩ := dd
  exact ndO_ok ⟨z, lo, ys, r, o, es, ep, h1, h2, h3, h4, h5⟩
/-- d[k] = v -/
theorem nd_setItem {A : Around} {E : Value → Shared → Prop} {k : NestedKey} {b : Addr} {v : V} {r : Value} {Q : Unit → Shared → Prop} (hu : A.units + 9 < cLine) (I : Inv X pins σ H s) (e : H d = some (ndO X.prog X.w d xs)) (hk : NdKeys X.K H xs) (hb : NkAt X.K H k (.ref b)) (h8 : k.depth ≤ 8) (hz : xs.length < sizeLine) (rv : RelV v r)
    (h : ∀ s', Inv X pins σ (upd H d (ndO X.prog X.w d (ndPut xs k b v))) s' → Q () s') : wpAny (model X.prog X.w) A (setItem (.ref d) (.ref b) r) Q E s := by
  obtain ⟨z, lo, ys, rel, dd⟩ := nd_of I e hk
  have hl : ys.length ≤ sizeLine := by rw [← Paired.length rel]; exact z
  have hl2 : (ndPut xs k b v).length ≤ sizeLine := by have := ndPut_len xs k b v; omega
  refine wpAny_setItem_heap (knd := nestedKind X.prog X.w) (k := k) (hsz := hl) (show A.in1.units + 8 < cLine by rw [Around.in1_units]; omega) ⟨(NkAt.is I _ _ _ hb rfl).1, h8⟩ dd fun h' dd' hs => h _ ?_
  have he : ∃ q, h'.get? d = some q := let ⟨q, _, _, hq, _⟩ := dd'; ⟨q, hq⟩
  exact d_write I (by rw [e]; exact True.intro) hs he (nd_new hl2 lo (ent_put rel rv) dd')
theorem nd_dictSet {A : Around} {E : Value → Shared → Prop} {k : NestedKey} {b : Addr} {v : V} {r : Value} {Q : Unit → Shared → Prop} (hu : A.units + 9 < cLine) (I : Inv X pins σ H s) (e : H d = some (ndO X.prog X.w d xs)) (hk : NdKeys X.K H xs) (hb : NkAt X.K H k (.ref b)) (h8 : k.depth ≤ 8) (hz : xs.length < sizeLine) (rv : RelV v r)
    (h : ∀ s', Inv X pins σ (upd H d (ndO X.prog X.w d (ndPut xs k b v))) s' → Q () s') : wpAny (model X.prog X.w) A (dictSet d (.ref b) r) Q E s := by
  obtain ⟨z, lo, ys, rel, dd⟩ := nd_of I e hk
  have hl : ys.length ≤ sizeLine := by rw [← Paired.length rel]; exact z
  have hl2 : (ndPut xs k b v).length ≤ sizeLine := by have := ndPut_len xs k b v; omega
  refine wpAny_dictSet_heap (knd := nestedKind X.prog X.w) (k := k) (hsz := hl) (show A.units + 8 < cLine by omega) ⟨(NkAt.is I _ _ _ hb rfl).1, h8⟩ dd fun h' dd' hs => h _ ?_
  have he : ∃ q, h'.get? d = some q := let ⟨q, _, _, hq, _⟩ := dd'; ⟨q, hq⟩
  exact d_write I (by rw [e]; exact True.intro) hs he (nd_new hl2 lo (ent_put rel rv) dd')
theorem nd_getItem {A : Around} {E : Value → Shared → Prop} {k : NestedKey} {b : Addr} {v : V} {Q : Value → Shared → Prop} (hu : A.units + 9 < cLine) (I : Inv X pins σ H s) (e : H d = some (ndO X.prog X.w d xs)) (hk : NdKeys X.K H xs) (hb : NkAt X.K H k (.ref b)) (h8 : k.depth ≤ 8) (hv : ndAt xs k = some v)
    (h : ∀ u s', Inv X pins σ H s' → RelV v u → Q u s') : wpAny (model X.prog X.w) A (getItem (.ref d) (.ref b)) Q E s := by
  obtain ⟨z, lo, ys, rel, dd⟩ := nd_of I e hk
  have r := ndAt_rel rel k
  rw [hv] at r
  cases q : atKey ys k with
  | none => rw [q] at r; exact (show False from r).elim
  | some p =>
    rw [q] at r
    exact wpAny_getItem_heap (knd := nestedKind X.prog X.w) (k := k) (show A.in1.units + 8 < cLine by rw [Around.in1_units]; omega) ⟨(NkAt.is I _ _ _ hb rfl).1, h8⟩ dd q (h _ _ (I.tok _) r)
theorem nd_empty (h : Heap) (hs : sysModules < h.objs.size) (P : Program) (w : World) (H' : Hp) : ObjOk P w H' (h.push { cls := .type "dict", data := .dict #[] }) h.objs.size (ndO P w h.objs.size []) :=
  nd_new (Nat.zero_le _) (beq_eq_false_iff_ne.mpr (Nat.ne_of_gt hs)) .nil (Heap.DictOfH.new h)
end
/-! readings and rules -/
/-- {} -/
def tNd0 (P : Program) (w : World) : TE := fun σ H Q => ∀ a, H a = none → Q (.ref a) (upd H a (ndO P w a []))
section
variable {X : Cx}
theorem pe_nd0 {pos : Pos} : PE X (.Dict [] [] pos) (tNd0 X.prog X.w) := ⟨fun pins s σ H Q I h =>
  wpAny_Dict_empty ⟨.ref s.heap.objs.size, _, I.laid (a := s.heap.objs.size) (o := ndO X.prog X.w s.heap.objs.size []) (t' := s.toks) (fun _ _ q => Heap.get?_push_of_some _ q) (Nat.le_refl _) (nd_empty s.heap I.big _ _ _), rfl, h _ (I.hok.fresh (Nat.le_refl _))⟩⟩
/-- d[k] = v -/
def sNdPut (P : Program) (w : World) (K : PySem.W.Frag) (td ty tv : TE) : TS := fun D σ H => tv σ H fun v H1 => td σ H1 fun x H2 => ty σ H2 fun y H3 => ∃ (a b : Addr) (xs : List NE) (k : NestedKey), x = .ref a ∧ y = .ref b ∧ H3 a = some (ndO P w a xs) ∧ NdKeys K H3 xs ∧ NkAt K H3 k (.ref b) ∧ k.depth ≤ 8 ∧ xs.length < sizeLine ∧
  D.nx σ (upd H3 a (ndO P w a (ndPut xs k b v)))
theorem ps_ndput {o i value : Expr} {pos pos' : Pos} {td ty tv : TE} (hu : X.A.units + 9 < cLine) (ho : PE X o td) (hi : PE X i ty) (hv : PE X value tv) (hs : swapsWith value (some (.Subscript o i pos')) pos.line X.env = pure false) :
    PS X (.Assign [.Subscript o i pos'] value pos) (sNdPut X.prog X.w X.K td ty tv) := by
  refine ⟨fun pins s σ H D I h => ?_⟩
  refine wpAny_Assign_Subscript (thn (hv.run pins s σ H _ I h) fun r s1 ⟨v, H1, I1, rv, q1⟩ => thn (ho.run pins s1 σ H1 _ I1 q1) fun u s2 ⟨x, H2, I2, rx, q2⟩ => thn (hi.run pins s2 σ H2 _ I2 q2) fun iv s3 ⟨y, H3, I3, ry, a, b, xs, k, ex, ey, g1, g2, g3, g4, g5, q3⟩ => ?_) hs
  subst ex
  subst ey
  obtain rfl : u = Value.ref a := rx
  obtain rfl : iv = Value.ref b := ry
  exact nd_setItem hu I3 g1 g2 g3 g4 g5 rv fun s4 I4 => ⟨σ, _, I4, q3⟩
/-- d[k] -/
def tNdGet (P : Program) (w : World) (K : PySem.W.Frag) (td ty : TE) : TE := fun σ H Q => td σ H fun x H1 => ty σ H1 fun y H2 => ∃ (a b : Addr) (xs : List NE) (k : NestedKey) (v : V), x = .ref a ∧ y = .ref b ∧ H2 a = some (ndO P w a xs) ∧ NdKeys K H2 xs ∧ NkAt K H2 k (.ref b) ∧ k.depth ≤ 8 ∧ ndAt xs k = some v ∧ Q v H2
theorem pe_ndget {P : Program} {w : World} {K : PySem.W.Frag} (eP : X.prog = P) (ew : X.w = w) (eK : X.K = K) {o i : Expr} {pos : Pos} {td ty : TE} (hu : X.A.units + 9 < cLine) (ho : PE X o td) (hi : PE X i ty) (hs : NoSl i) : PE X (.Subscript o i pos) (tNdGet P w K td ty) := by
  subst eP ew eK
  refine ⟨fun pins s σ H Q I h => ?_⟩
  refine subD_of PySem.F.slot_dict_getitem.lookup hs (thn (ho.run pins s σ H _ I h) fun u s1 ⟨x, H1, I1, rx, q1⟩ => thn (hi.run pins s1 σ H1 _ I1 q1) fun iv s2 ⟨y, H2, I2, ry, a, b, xs, k, v, ex, ey, g1, g2, g3, g4, g5, q2⟩ => ?_)
  subst ex
  subst ey
  obtain rfl : u = Value.ref a := rx
  obtain rfl : iv = Value.ref b := ry
  refine ⟨?_, nd_getItem hu I2 g1 g2 g3 g4 g5 fun w' s3 I3 rw' => ⟨v, H2, I3, rw', q2⟩⟩
  obtain ⟨_, _, ys, _, o, _, _, h1, h2, _⟩ := nd_of I2 g1 g2
  exact ⟨o, h1, h2.1⟩
/-- sorted(d) -/
def rSortNd (P : Program) (w : World) (K : PySem.W.Frag) : List V → Hp → VK → Prop := fun vs H Q => ∃ (a : Addr) (xs : List NE), vs = [.ref a] ∧ H a = some (ndO P w a xs) ∧ NdKeys K H xs ∧ xs.length ≤ 1000 ∧
  (xs.length ≤ 1 ∨ (PySem.W.AllAlike (xs.map fun x => encK x.1) ∧ ∀ x ∈ xs, (∃ k r, x.1 = .tup (k :: r)) ∧ (encK x.1).depth ≤ 8)) ∧ ∀ (ys : List NE) p, ys.Perm xs → H p = none → Q (.ref p) (upd H p (.lst (ys.map fun x => V.ref x.2.1)))
theorem vals_ne : ∀ ys : List NE, Vals (ys.map fun x => V.ref x.2.1) (ys.map fun x => Value.ref x.2.1)
  | [] => .nil
  | _ :: r => .cons rfl (vals_ne r)
theorem each_ne {R : Value → NE → Prop} : ∀ (xs : List NE), (∀ x ∈ xs, R (.ref x.2.1) x) → PySem.W.EachIs R (xs.map fun x => Value.ref x.2.1) xs
  | [], _ => .nil
  | x :: xs, h => .cons (h x (List.mem_cons_self ..)) (each_ne xs fun y hy => h y (List.mem_cons_of_mem _ hy))
theorem each_eq : ∀ {vs : List Value} {xs : List NE}, PySem.W.EachIs (fun v (x : NE) => v = .ref x.2.1) vs xs → vs = xs.map fun x => Value.ref x.2.1
  | _, _, .nil => rfl
  | _, _, .cons h t => by rw [List.map_cons, h, each_eq t]
theorem cr_sortedNd (hcalm : X.calm = true) (hu : X.A.units + 64 < cLine) : CallR X (.builtin "sorted") (rSortNd X.prog X.w X.K) := by
  intro pins s σ H vs us Q I r q
  obtain ⟨a, xs, rfl, hd, hk, h1000, hsb, q⟩ := q
  obtain ⟨u, rfl, rx⟩ := vals1 r
  cases rx
  obtain ⟨z, lo, ys, rel, dd⟩ := nd_of I hd hk
  obtain ⟨o, es, ep, ho, hx, hdat, hes, his, hn⟩ := id dd
  have l1 : es.size = ys.length := size_of_entries hes
  have l2 : xs.length = ys.length := Paired.length rel
  refine Calls.call_function_entry PyProof.Rows.kind_sorted PyProof.Rows.plain_sorted PyProof.Rows.entry_sorted (PyProof.Rows.args_sorted1 _) ?_
  unfold Builtin.«sorted»
  refine wpAny_bind (m := checkCount "sorted" 1 1 _) (wpAny_pure ?_)
  refine wpAny_bind (PySem.W.kdu_collect (A := X.A.in1) (kdl_raw lo hx hdat) (I.ok.hd hcalm) ho (by omega) fun h' tk acc hkp it => ?_)
  have ea : acc.toList = xs.map fun x => Value.ref x.2.1 := by
    have hl : acc.toList.length = xs.length := by rw [Array.length_toList, it.1, l1, l2]
    apply List.ext_getElem?
    intro j
    rw [List.getElem?_map]
    cases hj : acc.toList[j]? with
    | none =>
      have h1 := List.getElem?_eq_none_iff.mp hj
      rw [List.getElem?_eq_none (by omega)]
      rfl
    | some v =>
      obtain ⟨en, hen, hv⟩ := it.2 j v (by rw [← Array.getElem?_toList]; exact hj)
      have qe := entry_at hes j
      rw [hen] at qe
      cases hb : ys[j]? with
      | none =>
        rw [hb] at qe
        exact nomatch (show some en = none from qe)
      | some b =>
        rw [hb] at qe
        have e2 : en = entryOfKey (nestedKind X.prog X.w) b := Option.some.inj qe
        obtain ⟨x, hxj, e3, e4, e5⟩ := ent_at rel j b hb
        rw [hxj, hv, e2]
        show some (Value.ref b.2.1) = some (Value.ref x.2.1)
        rw [e4]
  have I1 : Inv X pins σ H { s with heap := h', toks := tk } := I.kept hkp
  rw [ea]
  refine wpAny_bind (wpAny_newList ?_ (by rw [List.length_map, sizeLine_eq]; omega))
  have hoL : (h'.push (seqObj "list" (xs.map fun x => Value.ref x.2.1).toArray 0)).get? h'.objs.size = some (seqObj "list" (xs.map fun x => Value.ref x.2.1).toArray 0) := Heap.get?_push_size _ rfl
  have I2 : Inv X pins σ H { s with heap := h'.push (seqObj "list" (xs.map fun x => Value.ref x.2.1).toArray 0), toks := tk } := I1.kept (t' := tk) fun b o e => Heap.get?_push_of_some _ e
  show wpAny _ _ _ _ _ { s with heap := h'.push (seqObj "list" (xs.map fun x => Value.ref x.2.1).toArray 0), toks := tk }
  have hn0 : H h'.objs.size = none := I1.hok.fresh (Nat.le_refl _)
  have fin : ∀ out : List NE, out.Perm xs → EP X pins σ Q (.ref h'.objs.size) { s with heap := sortedHeap (h'.push (seqObj "list" (xs.map fun x => Value.ref x.2.1).toArray 0)) h'.objs.size (xs.map fun x => Value.ref x.2.1) (out.map fun x => Value.ref x.2.1).toArray, toks := tk } := fun out hp => by
    obtain ⟨e', he'⟩ := PyProof.Rows.sortedHeap_at (vs := xs.map fun x => Value.ref x.2.1) (out := (out.map fun x => Value.ref x.2.1).toArray) hoL
    have hlen : (out.map fun x => V.ref x.2.1).length ≤ sizeLine := by rw [List.length_map, hp.length_eq, sizeLine_eq]; omega
    refine ⟨.ref h'.objs.size, upd H h'.objs.size (.lst (out.map fun x => V.ref x.2.1)), I1.laid (t' := tk) (fun b u e => ?_) (Nat.le_refl _) ⟨hlen, _, e', vals_ne out, he'⟩, rfl, q out _ hp hn0⟩
    have hb : b < h'.objs.size := Heap.lt_size e
    rw [PyProof.Rows.sortedHeap_old (Nat.ne_of_lt hb) (by rw [size_push']; exact Nat.lt_succ_of_lt hb)]
    exact Heap.get?_push_of_some _ e
  rcases hsb with h1 | ⟨ha, hb⟩
  · refine wpAny_bind (wpAny_holding (wpAny_call_entry PyProof.Rows.slot_list_sort ⟨_, hoL, rfl⟩ PyProof.Rows.entry_list_sort (Srt.list_sort_any (s := { s with heap := h'.push (seqObj "list" (xs.map fun x => Value.ref x.2.1).toArray 0), toks := tk }) hoL (by rw [List.length_map, sizeLine_eq]; omega) (fun h2 => absurd h2 (by rw [List.length_map]; omega)) fun out hp => ⟨_, rfl, ?_⟩) (PyProof.Rows.args_list_sort _)))
    refine wpAny_pure ⟨_, rfl, ?_⟩
    have eo : out = xs.map fun x => Value.ref x.2.1 := by
      have hl := hp.length_eq
      match xs, h1, hp, hl with
      | [], _, hp, _ => simpa using hp
      | [x], _, hp, _ => simpa using hp
      | _ :: _ :: _, h1, _, _ => simp at h1
    rw [eo]
    exact fin xs (List.Perm.refl _)
  · refine wpAny_bind (wpAny_holding (PySem.W.list_sort_data (s := { s with heap := h'.push (seqObj "list" (xs.map fun x => Value.ref x.2.1).toArray 0), toks := tk }) (bs := xs) (enc := fun x => encK x.1) (R := fun v x => v = .ref x.2.1) hoL (each_ne xs fun x hx => rfl)
      (each_ne xs fun x hx => ⟨[], (NkAt.is I2 _ _ _ (hk x hx).1 rfl).2, List.not_mem_nil⟩) ha (.inl fun d hd => ?_) (by rw [sizeLine_eq]; omega) (fun b hbx => ?_) fun out hl he => ?_))
    · obtain ⟨x, hx, rfl⟩ := List.mem_map.mp hd
      obtain ⟨⟨k, r, e⟩, _⟩ := hb x hx
      refine ⟨encK k, encKs r, ?_⟩
      show encK x.1 = _
      rw [e]
      rfl
    · have := (hb b hbx).2
      rw [Around.in1_units]
      omega
    · refine wpAny_pure ⟨_, rfl, ?_⟩
      rw [each_eq he]
      exact fin _ (List.mergeSort_perm _ _)
end
end Ts
set_option maxHeartbeats 4000000
namespace Ts
open PySem PySem.Spec PyProof.Rows L2 C8 He
section
variable {P : Program} {w : World} {A : Around} {E : Value → Shared → Prop} {s : Shared}
/-! ### set(xs) of a list of ints, sorted(set) of any size -/
set_option maxRecDepth 100000 in
set_option maxHeartbeats 3200000 in
theorem set_listI {l : Addr} {items : Array Value} (ns : List Int) {Q : Value → Shared → Prop} (hh : A.handled = none) (hl : s.heap.IsList l items) (hit : IntsAre items.toList ns) (hb : ns.length + 1 < scanBound)
    (h : ∀ (h' : Heap) (tk c : Nat), SetR w h' s.heap.objs.size (fun j => decide (j ∈ ns)) c → c ≤ ns.length → (∀ b o, s.heap.get? b = some o → h'.get? b = some o) → Q (.ref s.heap.objs.size) { s with heap := h', toks := tk }) :
    wpAny (model P w) A (call (.type "set") [.ref l]) Q E s := by
  have hisz : items.size = ns.length := by
    have q := IntsAre.length hit
    rw [Array.length_toList] at q
    exact q
  obtain ⟨c, tl, hmro⟩ := F.called_set.mro
  have hmade := F.called_set.made
  have hsub := F.called_set.sub
  refine wpAny_call (codeAny_of_tree ?_)
  show wpAny _ _ (callAny (.type "set") _) _ _ _
  refine wpAny_pure ⟨Code.quiet_builtin _ (by decide +kernel), codeAny_builtin F.entry_type_call ?_⟩
  rw [Around.under_plain (weight_type_call_type "set" [.ref l] []) rfl]
  have h1 := F.called_set.notType
  have h2 := F.called_set.canCreate
  have hct := F.typeCall_set_1 (.ref l)
  repeat (any_goals (first | assumption | wp_step))

  refine codeAny_mono (code_set_led1 (.ref l) (E := E) (Q₁ := fun obj s₁ => obj = .ref s.heap.objs.size ∧ s₁ = { s with heap := s.heap.push { cls := .type "set", dict := none, data := .set #[] 0 (.fresh 0 0 (!w.params.followText "set-order")) } }) ⟨rfl, rfl⟩) fun r s₁ hr => ?_
  cases r with
  | error e => exact hr
  | ok fl =>
    cases fl with
    | ret obj =>
      obtain ⟨rfl, rfl⟩ := hr
      have hS : (s.heap.push { cls := .type "set", dict := none, data := .set #[] 0 (.fresh 0 0 (!w.params.followText "set-order")) }).get? s.heap.objs.size = some { cls := .type "set", dict := none, data := .set #[] 0 (.fresh 0 0 (!w.params.followText "set-order")) } := Heap.get?_push_size _ rfl
      have hT : Shared.TypeIs { s with heap := s.heap.push { cls := .type "set", dict := none, data := .set #[] 0 (.fresh 0 0 (!w.params.followText "set-order")) } } (.ref s.heap.objs.size) "set" := ⟨_, hS, rfl⟩
      have hli := F.called_set.init.lookup
      have hbi := F.called_set.init.bind (.ref s.heap.objs.size)
      repeat (any_goals (first | assumption | wp_step))

      refine codeAny_mono (codeAny_call_builtin (R := wants (fun r s₂ => r = .none ∧ ∃ h' tk c, s₂ = { s with heap := h', toks := tk } ∧ SetR w h' s.heap.objs.size (fun j => decide (j ∈ ns)) c ∧ c ≤ ns.length ∧
          (∀ b o, s.heap.get? b = some o → h'.get? b = some o)) E) F.called_set.init.plain F.entry_set_init (check_set_init_1 hT ?_)) fun r₂ s₂ hr₂ => ?_
      · obtain ⟨ol, hol, hcl, nl, hdl⟩ := hl
        obtain ⟨ocls, odict, odata, oslots⟩ := ol
        simp only at hcl hdl
        subst hcl; subst hdl
        have hol' : (s.heap.push { cls := .type "set", dict := none, data := .set #[] 0 (.fresh 0 0 (!w.params.followText "set-order")) }).get? l = some { cls := .type "list", dict := odict, data := .seq items nl, slots := oslots } := Heap.get?_push_of_some _ hol
        have hsls := F.sub_list_set
        have hslf := F.sub_list_frozenset
        have hne : (Value.type "list" == Value.type "dict") = false := by decide
        have hl1 : (s.heap.push { cls := .type "set", dict := none, data := .set #[] 0 (.fresh 0 0 (!w.params.followText "set-order")) }).IsList l items := ⟨_, hol', rfl, nl, rfl⟩
        unfold Builtin.«set.__init__» noKeywords Builtin.Frozenset.updateFrom
        generalize hPI : pyIter = PI
        wp_walk
        subst hPI

        refine wpAny_pyIter_list hl1 ?_
        refine wpAny_bind (wpAny_runValue ?_)
        have hlS : l < s.heap.objs.size := Heap.lt_size hol
        have hh3 : A.in1.in1.in1.handled = none := by simp [hh]
        have hz1 : (s.heap.push { cls := .type "set", dict := none, data := .set #[] 0 (.fresh 0 0 (!w.params.followText "set-order")) }).objs.size = s.heap.objs.size + 1 := Heap.size_push ..
        have hneI : l ≠ (s.heap.push { cls := .type "set", dict := none, data := .set #[] 0 (.fresh 0 0 (!w.params.followText "set-order")) }).objs.size := by
          rw [Heap.size_push]; exact Nat.ne_of_lt (Nat.lt_succ_of_lt hlS)
        have hSf : s.heap.objs.size ∉ [(s.heap.push { cls := .type "set", dict := none, data := .set #[] 0 (.fresh 0 0 (!w.params.followText "set-order")) }).objs.size, l] := by
          rw [Heap.size_push]; simp only [List.mem_cons, List.mem_singleton, List.not_mem_nil, or_false, not_or]
          exact ⟨Nat.ne_of_lt (Nat.lt_succ_self _), Nat.ne_of_gt hlS⟩
        have hval : ∀ (i : Nat) (v : Value), items[i]? = some v → ∃ k t, ns[i]? = some k ∧ v = .int k t := fun i v hv => by
          have hi : i < ns.length := by rw [← hisz]; exact (Array.getElem?_eq_some_iff.mp hv).1
          obtain ⟨t, e⟩ := PyProof.Rows.IntsAre.int_at hit i v (by rw [Array.getElem?_toList]; exact hv)
          refine ⟨ns[i], t, List.getElem?_eq_getElem hi, ?_⟩
          rw [e, List.getD_eq_getElem?_getD, List.getElem?_eq_getElem hi] <;> rfl
        refine set_update_ints ((Walks.list hh3 _ l hneI items).toS) s.heap.objs.size
          hSf ns hisz hb hval (items.size - 0) 0 _ (by omega) (Nat.zero_le _)
          ⟨⟨_, Heap.get?_push_size _ rfl, rfl, rfl⟩, (hl1.push _)⟩ ?hS0 ?hR
        case hS0 =>
          have hget : ((s.heap.push { cls := .type "set", dict := none, data := .set #[] 0 (.fresh 0 0 (!w.params.followText "set-order")) }).push { cls := .type "list_iterator", data := .fields #[.ref l, .int 0 0] }).get? s.heap.objs.size
              = some { cls := .type "set", dict := none, data := .set #[] 0 (.fresh 0 0 (!w.params.followText "set-order")) } := Heap.get?_push_of_some _ hS
          exact ⟨0, Nat.le_refl 0, setR_new_at hget⟩
        case hR =>
          intro s' c' hm hc' hS'
          obtain ⟨h', g2, d', tk', os'⟩ := s'
          have eg : g2 = s.gens := hm.gens
          have ed : d' = s.drawn := hm.drawn
          have eo : os' = s.os := hm.os
          subst eg; subst ed; subst eo
          show wpAny _ _ _ _ _ _
          refine wpAny_pure ?_
          show wpAny _ _ (ret Value.none) _ _ _
          rw [hisz] at hc'
          refine wpAny_pure ⟨rfl, h', tk', c', rfl, hS', hc', fun b o e => ?_⟩
          have hb0 : b < s.heap.objs.size := Heap.lt_size e
          have hb1 : b ≠ s.heap.objs.size := Nat.ne_of_lt hb0
          have hb2 : b ≠ (s.heap.push { cls := .type "set", dict := none, data := .set #[] 0 (.fresh 0 0 (!w.params.followText "set-order")) }).objs.size := by
            rw [Heap.size_push]; exact Nat.ne_of_lt (Nat.lt_succ_of_lt hb0)
          exact hm.heap b o (by simp only [List.mem_cons, List.mem_singleton, List.not_mem_nil, or_false, not_or]; exact ⟨hb1, hb2⟩) (Heap.get?_push_of_some _ (Heap.get?_push_of_some _ e))

      · cases r₂ with
        | error e => exact hr₂
        | ok fl₂ =>
          cases fl₂ with
          | ret r =>
            obtain ⟨rfl, h', tk, c', rfl, hS', hc', hk'⟩ := hr₂
            repeat (any_goals (first | assumption | wp_step))
            exact h _ _ _ hS' hc' hk'
          | _ => exact hr₂.elim
    | _ => exact hr.elim

end
section
variable {X : Cx}
def rSetLI (w : World) (K : PySem.W.Frag) : List V → Hp → VK → Prop := fun vs H Q => ∃ (l : Addr) (ns : List Int), vs = [.ref l] ∧ SqL K H l (ns.map V.int) ∧ ns.length ≤ 1000 ∧ ∀ p n, H p = none → n ≤ ns.length → Q (.ref p) (upd H p (SetO w p (fun j => decide (j ∈ ns)) n))
theorem cr_setLI (hc : X.calm = true) : CallR X (.type "set") (rSetLI X.w X.K) := by
  intro pins s σ H vs us Q I r h
  obtain ⟨l, ns, rfl, hq, hl, q⟩ := h
  obtain ⟨u, rfl, ru⟩ := vals1 r
  cases ru
  obtain ⟨its, rv, pl, hz⟩ := I.list hq
  refine set_listI ns (I.ok.hd hc) pl.isList (by simpa using ints_of_vals rv) (by unfold scanBound; omega) fun h' tk c hS hn hk => ?_
  exact ⟨.ref s.heap.objs.size, _, I.laid (t' := tk) hk (Nat.le_refl _) (setO_new hS), rfl, q _ c (I.hok.fresh (Nat.le_refl _)) hn⟩
def rSortSI (w : World) : List V → Hp → VK → Prop := fun vs H Q => ∃ (a : Addr) (S : Int → Bool) (n : Nat), vs = [V.ref a] ∧ H a = some (SetO w a S n) ∧ n ≤ 1000 ∧
  ∀ (ns : List Int) (p : Addr), ns.Pairwise (· < ·) → (∀ k : Int, k ∈ ns ↔ S k = true) → ns.length = n → H p = none → Q (.ref p) (upd H p (.lst (ns.map V.int)))
theorem each_ints {h : Heap} : ∀ (vs : List Value), (∀ v ∈ vs, ∃ k t, v = Value.int k t) → PySem.W.EachIs (fun v (k : Int) => ∃ t, v = Value.int k t) vs (vs.map Builtin.Re.reRawOf)
  | [], _ => .nil
  | v :: vs, h => by
    obtain ⟨k, t, e⟩ := h v (List.mem_cons_self ..)
    refine .cons ⟨t, ?_⟩ (each_ints (h := ‹_›) vs fun u hu => h u (List.mem_cons_of_mem _ hu))
    rw [e] <;> rfl
theorem each_vals : ∀ {vs : List Value} {ns : List Int}, PySem.W.EachIs (fun v (k : Int) => ∃ t, v = Value.int k t) vs ns → Vals (ns.map V.int) vs
  | _, _, .nil => .nil
  | _, _, .cons h t => .cons h (each_vals t)
theorem cr_sortedSI (hc : X.calm = true) (hu : X.A.units + 64 < cLine) : CallR X (.builtin "sorted") (rSortSI X.w) := by
  intro pins s σ H vs us Q I r h
  obtain ⟨a, S, n, rfl, ha, h1000, q⟩ := h
  obtain ⟨o, es, ep, t, ho, hex, hd, g, nd, hm, hb, hf, hn, hr, hl⟩ := setO_get I ha
  rw [Vals.ref1 r]
  refine Calls.call_function_entry PyProof.Rows.kind_sorted PyProof.Rows.plain_sorted PyProof.Rows.entry_sorted (PyProof.Rows.args_sorted1 _) ?_
  unfold Builtin.«sorted»
  refine wpAny_bind (m := checkCount "sorted" 1 1 _) (wpAny_pure ?_)
  refine wpAny_bind (collect_set (A := X.A.in1) (I.ok.hd hc) ⟨o, ho, hex.1, hd⟩ hf hb hr hl fun s1 vs k1 hz g1 o1 pm => ?_)
  have hvl : vs.length = n := by rw [pm.length_eq, List.length_map, Array.length_toList]; exact hn
  have hI : ∀ v ∈ vs, ∃ k t, v = Value.int k t := fun v hv => by
    obtain ⟨e, he, q⟩ := List.mem_map.mp (pm.mem_iff.mp hv)
    obtain ⟨k, tk, h1, _⟩ := g e he
    exact ⟨k, tk, by rw [← q]; exact h1⟩
  have pk : (vs.map Builtin.Re.reRawOf).Perm (es.toList.map keyOf) := by
    have q := pm.map Builtin.Re.reRawOf
    rw [List.map_map] at q
    exact q
  refine wpAny_bind (wpAny_newList ?_ (by rw [hvl, sizeLine_eq]; omega))
  have hoL : (s1.heap.push (seqObj "list" vs.toArray 0)).get? s1.heap.objs.size = some (seqObj "list" vs.toArray 0) := Heap.get?_push_size _ rfl
  have he := each_ints (h := s1.heap) vs hI
  refine wpAny_bind (wpAny_holding (PySem.W.list_sort_data (s := { s1 with heap := s1.heap.push (seqObj "list" vs.toArray 0) }) (bs := vs.map Builtin.Re.reRawOf) (enc := fun k : Int => .int k) (R := fun v k => ∃ t, v = Value.int k t) hoL he
    (he.mono fun v k ⟨t, e⟩ => ⟨[], by rw [e]; exact .int k t, List.not_mem_nil⟩) (PySem.W.AllAlike.of fun b b' => rfl) (PySem.W.Sortable.others fun b => ⟨(fun z => nomatch z), fun xs z => nomatch z⟩) (by rw [List.length_map, hvl, sizeLine_eq]; omega) (fun b _ => ?_) fun out hlo heo => ?_))
  · show X.A.in1.units + 1 + 0 < cLine
    rw [Around.in1_units]
    omega
  obtain ⟨c, hc'⟩ := sortedHeap_at (vs := vs) (out := out.toArray) hoL
  generalize hns : (vs.map Builtin.Re.reRawOf).mergeSort (PySem.W.dataLe false fun k : Int => .int k) = ns at heo
  have pn : ns.Perm (es.toList.map keyOf) := by
    rw [← hns]
    exact (List.mergeSort_perm _ _).trans pk
  have pw : ns.Pairwise (· ≤ ·) := by
    rw [← hns, PySem.W.dataLe_int (fun k : Int => k)]
    refine (List.pairwise_mergeSort (fun a b c h1 h2 => ?_) (fun a b => ?_) _).imp fun h => ?_
    · rw [decide_eq_true_eq] at *; omega
    · rw [Bool.or_eq_true, decide_eq_true_eq, decide_eq_true_eq]; omega
    · rw [decide_eq_true_eq] at h; exact h
  have hlen : ns.length = n := by rw [pn.length_eq, List.length_map, Array.length_toList]; exact hn
  have hp : s.heap.objs.size ≤ s1.heap.objs.size := hz
  have hn0 : H s1.heap.objs.size = none := I.hok.fresh hp
  have k2 : ∀ b u, s.heap.get? b = some u → (sortedHeap (s1.heap.push (seqObj "list" vs.toArray 0)) s1.heap.objs.size vs out.toArray).get? b = some u := fun b u e => by
    have q := k1 b u e
    have hlt := Heap.lt_size q
    rw [sortedHeap_old (Nat.ne_of_lt hlt) (by rw [size_push']; exact Nat.lt_succ_of_lt hlt)]
    exact Heap.get?_push_of_some _ q
  have J : Inv X pins σ (upd H s1.heap.objs.size (.lst (ns.map V.int))) { s1 with heap := sortedHeap (s1.heap.push (seqObj "list" vs.toArray 0)) s1.heap.objs.size vs out.toArray } := by
    have J0 : Inv X pins σ (upd H s1.heap.objs.size (.lst (ns.map V.int))) { s with heap := sortedHeap (s1.heap.push (seqObj "list" vs.toArray 0)) s1.heap.objs.size vs out.toArray, gens := s1.gens, drawn := s1.drawn, toks := s1.toks } :=
      I.call (ch := []) (Un.laid k2 hp hn0) (I.hok.laid k2 hp ⟨by rw [List.length_map, hlen, sizeLine_eq]; omega, out, c, each_vals heo, hc'⟩) (by rw [g1]; exact I.bare) (fun _ z => nomatch z)
    cases s1
    cases s
    cases o1
    exact J0
  exact wpAny_pure ⟨_, rfl, .ref s1.heap.objs.size, _, J, rfl, q ns _ (lt_of_le_nodup ns pw (pn.nodup_iff.mpr nd)) (fun k => by rw [pn.mem_iff, ← hm k]) hlen hn0⟩
/-! list(d.values()) -/
def valsO (p d : Addr) : HO := .ext fun h => h.IsValuesView p d
theorem valsO_ok {P : Program} {w : World} {H : Hp} {h : Heap} {p d : Addr} (e : h.get? p = some { cls := .type "dict_values", data := .fields #[.ref d] }) : ObjOk P w H h p (valsO p d) :=
  ⟨⟨_, e, rfl, rfl⟩, ⟨_, e⟩, fun h1 h2 ⟨o, a, b⟩ k => ⟨o, k _ a, b⟩⟩
def rNdVals (P : Program) (w : World) : V → List V → Hp → VK → Prop := fun x xs H Q => ∃ (a : Addr) (es : List NE), x = .ref a ∧ xs = [] ∧ H a = some (ndO P w a es) ∧ ∀ p, H p = none → Q (.ref p) (upd H p (valsO p a))
theorem nd_raw {P : Program} {w : World} {H : Hp} {h : Heap} {d : Addr} {xs : List NE} (x : ObjOk P w H h d (ndO P w d xs)) : xs.length ≤ sizeLine ∧ (d == sysModules) = false ∧ ∃ ys es ep, Paired EntR xs ys ∧ h.DictRaw d es ep ∧ es.toList = ys.map (entryOfKey (nestedKind P w)) := by
  obtain ⟨⟨z, lo, ys, r, o, es, ep, h1, h2, h3, h4, h5⟩, _, _⟩ := x
  exact ⟨z, lo, ys, es, ep, r, ⟨o, h1, h2, h3⟩, h4⟩
theorem mt_ndvals : MtR X "dict.values" (rNdVals X.prog X.w) := by
  intro pins s σ H x xs v us Q I rx rxs h
  obtain ⟨a, es0, rfl, rfl, ha, q⟩ := h
  cases rx
  cases rxs
  obtain ⟨z, hd, ys, es, ep, rel, raw, _⟩ := nd_raw (I.hok a _ ha)
  refine call_meetsIn PySem.F.slot_dict_values raw.typeIs PySem.F.entry_dict_values (PySem.F.args_dict_values_1 _) (meets_dict_values_raw a hd) ⟨⟨es, ep, raw⟩, ?_⟩
  exact ⟨.ref s.heap.objs.size, _, I.laid (t' := s.toks) (fun b u e => Heap.get?_push_of_some _ e) (Nat.le_refl _) (valsO_ok (Heap.get?_push_size _ rfl)), rfl, q _ (I.hok.fresh (Nat.le_refl _))⟩
def rLstVals (P : Program) (w : World) : List V → Hp → VK → Prop := fun vs H Q => ∃ (v a : Addr) (xs : List NE), vs = [.ref v] ∧ H v = some (valsO v a) ∧ H a = some (ndO P w a xs) ∧ ∀ p, H p = none → Q (.ref p) (upd H p (.lst (xs.map fun x => x.2.2)))
theorem cr_lstVals (hc : X.calm = true) : CallR X (.type "list") (rLstVals X.prog X.w) := by
  intro pins s σ H vs us Q I r h
  obtain ⟨v, a, xs, rfl, hv, ha, q⟩ := h
  obtain ⟨u, rfl, ru⟩ := vals1 r
  cases ru
  obtain ⟨z, lo, ys, es, ep, rel, raw, hes⟩ := nd_raw (I.hok a _ ha)
  have view : s.heap.IsValuesView v a := (show ObjOk X.prog X.w H s.heap v (valsO v a) from I.hok v _ hv).1
  have l1 : es.size = ys.length := size_of_entries hes
  have l2 : xs.length = ys.length := Paired.length rel
  refine PySem.W.kdl_call (KdlSrc.rawValues (r := v) (d := a) (es := es) (ep := ep)) (I.ok.hd hc) ⟨view, raw⟩ (by omega) fun h' tk acc' c' hk hS it => ?_
  have rv : ∀ (xs : List NE) (ys : List NEv), Paired EntR xs ys → Vals (xs.map fun x => x.2.2) (ys.map fun y => y.2.2) := by
    intro xs ys r
    induction r with
    | nil => exact .nil
    | cons h t ih => exact .cons h.2.2 ih
  have ea : acc'.toList = ys.map fun y => y.2.2 := by
    have hl : acc'.toList.length = ys.length := by rw [Array.length_toList, it.1, l1]
    apply List.ext_getElem?
    intro j
    rw [List.getElem?_map]
    cases hj : acc'.toList[j]? with
    | none =>
      have h1 := List.getElem?_eq_none_iff.mp hj
      rw [List.getElem?_eq_none (by omega)]
      rfl
    | some v =>
      obtain ⟨hi, hv⟩ := it.2 j v (by rw [← Array.getElem?_toList]; exact hj)
      have qe := entry_at hes j
      rw [Array.getElem?_eq_getElem hi] at qe
      cases hb : ys[j]? with
      | none =>
        rw [hb] at qe
        exact nomatch (show some es[j] = none from qe)
      | some b =>
        rw [hb] at qe
        have e2 : es[j] = entryOfKey (nestedKind X.prog X.w) b := Option.some.inj qe
        rw [hv, e2]
        rfl
  refine ⟨.ref s.heap.objs.size, upd H s.heap.objs.size (.lst (xs.map fun x => x.2.2)), I.laid (t' := tk) hk (Nat.le_refl _) ⟨by rw [List.length_map]; exact z, acc'.toList, c', by rw [ea]; exact rv xs ys rel, by rw [Array.toArray_toList]; exact hS⟩, rfl, q _ (I.hok.fresh (Nat.le_refl _))⟩
end
end Ts
set_option maxHeartbeats 4000000
namespace Ts
open PySem PySem.Spec PyProof.Rows L2 C8 He
/-! ### dict comprehensions with nested tuple keys -/
section
variable {X : Cx}
def tDcN (P : Program) (w : World) (K : PySem.W.Frag) (wi : TI) (g : TG) (tt : TT) (tk tv : TE) (vs : List Nat) : TE := fun σ H Q => wi σ H fun J H1 => ∀ D, H1 D = none → ∃ W : Nat → Nat → Hp → Prop, (∃ m, W 0 m (upd H1 D (ndO P w D []))) ∧ ∀ i m H, W i m H →
  (J.stop i H ∧ Q (.ref D) H) ∨ (J.go i H ∧ ∃ Nx : Hp → Prop, (∀ H', Nx H' → ∃ m', m' < m ∧ W (i + 1) m' H') ∧ ∀ x H', J.yld i H x H' → g x (wipe σ vs) H' fun σ2 H2 => wipe σ2 vs = wipe σ vs ∧ tt σ2 H2 fun b H3 =>
    if b = true then tk σ2 H3 fun y H4 => tv σ2 H4 fun z H5 => ∃ (es : List NE) (k : NestedKey) (a : Addr), y = .ref a ∧ H5 D = some (ndO P w D es) ∧ NdKeys K H5 es ∧ NkAt K H5 k (.ref a) ∧ k.depth ≤ 8 ∧ es.length < sizeLine ∧ Nx (upd H5 D (ndO P w D (ndPut es k a z))) else Nx H3)
theorem ndc_core {pins : List (Addr × Obj)} {s : Shared} {σ : L2.St} {H : Hp} {Q : VK} {kx vx tg iter : Expr} {ifs : List Expr} {scope : Scope} {own : List (Str × Nat)} {pos pos' : Pos} {wi : TI} {g : TG} {tt : TT} {tk tv : TE} {use : Option (Value → Sem Unit)} {Qf : Value → Shared → Prop}
    (hu : X.A.units + 9 < cLine) (hc : X.calm = true) (hN : X.N.Nodup) (I : Inv X pins σ H s) (hi : PI X tg iter wi) (ok : BlkOk X.N X.env.scope scope own)
    (hg : ∀ (s : Shared) (H : Hp) (C : Addr) (cl : List (Str × Addr)) (fp : List Addr), PG (X.blk s H scope (compEnvC scope cl C X.env) fp) tg g) (ht : ∀ (s : Shared) (H : Hp) (C : Addr) (cl : List (Str × Addr)) (fp : List Addr), PTs (X.blk s H scope (compEnvC scope cl C X.env) fp) ifs tt)
    (hk : ∀ (s : Shared) (H : Hp) (C : Addr) (cl : List (Str × Addr)) (fp : List Addr), PE (X.blk s H scope (compEnvC scope cl C X.env) fp) kx tk)
    (he : ∀ (s : Shared) (H : Hp) (C : Addr) (cl : List (Str × Addr)) (fp : List Addr), PE (X.blk s H scope (compEnvC scope cl C X.env) fp) vx tv) (hs : ∀ x, foldedSetIterable iter X.env x = pure x)
    (h : tDcN X.prog X.w X.K wi g tt tk tv (own.map (·.2)) σ H Q)
    (hRR : ∀ D C s' m H', Inv X pins σ H' s' → Q (.ref D) H' → s'.heap.Ns C m → FpOk X pins H' C → compPost (model X.prog X.w) X.A X.xe use Qf (.ref D) C (.ok .next) s') :
    wpAny (model X.prog X.w) X.A (comprehension (.DictComp kx vx [⟨tg, iter, ifs, 0⟩] scope pos) scope X.env pos' newDict false (eval iter X.env) use) Qf X.xe s := by
  have hfree : ∀ y ∈ scope.names, y.2 = .free → ∃ c, X.env.cells.lookup y.1 = some c := fun y hy e => by
    rcases ok.free y hy e with k | k
    · exact I.ok.has _ (.inl k)
    · exact I.ok.has _ (.inr k)
  refine wpAny_comprehension_free (use := use) rfl hs (closure_ok hfree) ok.kind (fun y hy e => by rw [ok.uniq y hy, e])
    (thn (hi.run pins s σ H _ I h) fun xv s1 hx => thn hx fun itv s2 h2 => ?_)
  obtain ⟨it, fp, tn, J, H2, e, I2, T, st2, f2, q⟩ := h2
  subst e
  refine wpAny_newObj_type (newEnv_comp ?_)
  generalize hD : s2.heap.objs.size = D
  have hDn : H2 D = none := I2.hok.fresh (Nat.le_of_eq hD)
  obtain ⟨W, ⟨m0, w0⟩, turn⟩ := q D hDn
  -- the new list
  generalize hs3 : ({ s2 with heap := s2.heap.push { cls := .type "dict", data := .dict #[] } } : Shared) = s3
  have I3 : Inv X pins σ (upd H2 D (ndO X.prog X.w D [])) s3 := by
    rw [← hs3]
    refine I2.laid (t' := s2.toks) (fun b o e => Heap.get?_push_of_some _ e) (Nat.le_of_eq hD) ?_
    rw [← hD]
    exact nd_empty s2.heap I2.big _ _ _
  have h3 : s3.heap = s2.heap.push { cls := .type "dict", data := .dict #[] } := by rw [← hs3]
  have sz : ∀ b ∈ fp, b < s2.heap.objs.size := fun b hb => by
    obtain ⟨o, e, _⟩ := T.obj _ _ st2 b hb
    exact Heap.lt_size e
  have f3 : ∀ b ∈ fp, FpOk X pins (upd H2 D (ndO X.prog X.w D [])) b ∧ b < s3.heap.objs.size := fun b hb => by
    have hlt := sz b hb
    refine ⟨⟨?_, (f2 b hb).2⟩, by rw [h3, Heap.size_push]; exact Nat.lt_succ_of_lt hlt⟩
    rw [upd_ne (by rw [← hD]; exact Nat.ne_of_lt hlt)]
    exact (f2 b hb).1
  have st3 : tn 0 s3.heap := T.keep _ _ _ st2 fun b _ o e => by rw [h3]; exact Heap.get?_push_of_some _ e
  have I4 := block_start I3 ok hN f3
  have pg := hg s3 (upd H2 D (ndO X.prog X.w D [])) s3.heap.objs.size (cellsFrom (s3.heap.objs.size + 1) scope.names (cloFrom X.env.cells scope.names [])) fp
  have pt := ht s3 (upd H2 D (ndO X.prog X.w D [])) s3.heap.objs.size (cellsFrom (s3.heap.objs.size + 1) scope.names (cloFrom X.env.cells scope.names [])) fp
  have pk := hk s3 (upd H2 D (ndO X.prog X.w D [])) s3.heap.objs.size (cellsFrom (s3.heap.objs.size + 1) scope.names (cloFrom X.env.cells scope.names [])) fp
  have pe := he s3 (upd H2 D (ndO X.prog X.w D [])) s3.heap.objs.size (cellsFrom (s3.heap.objs.size + 1) scope.names (cloFrom X.env.cells scope.names [])) fp
  show codeAny _ _ (.compStart (.DictComp kx vx [⟨tg, iter, ifs, 0⟩] scope pos) 0 (.ref it) (.ref D) (compEnvC scope (cellsFrom (s3.heap.objs.size + 1) scope.names (cloFrom X.env.cells scope.names [])) s3.heap.objs.size X.env)) (compPost (model X.prog X.w) X.A X.xe use Qf (.ref D) s3.heap.objs.size) { s3 with heap := pushCells (s3.heap.push { cls := .type "dict", data := .dict #[] }) scope.names }
  have nfp : ∀ b ∈ fp, (upd H2 D (ndO X.prog X.w D [])) b = none := fun b hb => (f3 b hb).1.1
  generalize hce : compEnvC scope (cellsFrom (s3.heap.objs.size + 1) scope.names (cloFrom X.env.cells scope.names [])) s3.heap.objs.size X.env = ce at I4 pg pt pk pe ⊢
  have cL : ce.locals = s3.heap.objs.size := by subst hce; rfl
  generalize hH3 : upd H2 D (ndO X.prog X.w D []) = H3 at I3 I4 pg pt pk pe w0 nfp f3
  generalize hs4 : ({ s3 with heap := pushCells (s3.heap.push { cls := .type "dict", data := .dict #[] }) scope.names } : Shared) = s4 at I4 ⊢
  have st4 : tn 0 s4.heap := T.keep _ _ _ st3 fun b _ o e => by rw [← hs4]; exact pushCells_keeps _ _ _ _ (Heap.get?_push_of_some _ e)
  have stat : ∀ {σ' : L2.St} {H' : Hp} {s' : Shared}, Inv (X.blk s3 H3 scope ce fp) [] σ' H' s' → (∀ b ∈ fp, H' b = none) → ∀ b ∈ fp, FpOk (X.blk s3 H3 scope ce fp) [] H' b := fun {σ' H' s'} I' hn b hb =>
    ⟨hn b hb, (I'.ok.exf b hb).1, I'.ok.exfs b hb, .inl hb, fun x c e => (I'.ok.exf b hb).2 x c e, fun p hp => absurd (show p ∈ ([] : List (Addr × Obj)) ++ [] from hp) (by simp)⟩
  have loop : codeAny (model X.prog X.w) X.A (.compLoop (.DictComp kx vx [⟨tg, iter, ifs, 0⟩] scope pos) 0 (.ref it) (.ref D) ce) (compPost (model X.prog X.w) X.A X.xe use Qf (.ref D) s3.heap.objs.size) s4 := by
    refine compLoop_anyD (fun n s' => ∃ i H', Inv (X.blk s3 H3 scope ce fp) [] (wipe σ (own.map (·.2))) H' s' ∧ tn i s'.heap ∧ (∀ b ∈ fp, H' b = none) ∧ W i n H') ?_ m0 ⟨0, H3, I4, st4, nfp, w0⟩
    rintro n s5 ⟨i, H5, I5, st5, n5, w5⟩
    rcases turn i n H5 w5 with ⟨stop, qq⟩ | ⟨go, Nx, hNx, step⟩
    · have td := T.done (X.blk s3 H3 scope ce fp) rfl rfl rfl hc i [] s5 _ H5 (fun _ _ => False) I5 (stat I5 n5) st5 stop
      refine thnF td fun r s6 ⟨hr, I6⟩ => ?_
      subst hr
      -- back in the def's context
      have I7 : Inv X pins σ H5 s6 := I3.call' (ch := fp) I6.os I6.base I6.hok I6.bare fun b hb => ⟨(f3 b hb).1.2.2.2.1, (f3 b hb).1.2.1, (f3 b hb).1.2.2.2.2.1, (f3 b hb).1.2.2.2.2.2⟩
      have nC : H5 s3.heap.objs.size = none := by
        have z : H5 ce.locals = none := I6.free
        rw [cL] at z
        exact z
      obtain ⟨m, hn, _⟩ := I6.loc
      have hn : s6.heap.Ns ce.locals m := hn
      rw [cL] at hn
      exact hRR D s3.heap.objs.size s6 m H5 I7 qq hn (I3.fpOk (Nat.le_refl _) nC)
    · have ti := T.item (X.blk s3 H3 scope ce fp) rfl rfl rfl hc i [] s5 _ H5 (fun _ _ => False) I5 (stat I5 n5) st5 go
      refine thnF ti fun r s6 ⟨u, hr, h6⟩ => ?_
      subst hr
      refine thnF h6 fun _ s7 ⟨x, H7, I7, r7, y7, st7, n7⟩ => ?_
      have I7' := I7.pinned (stat I7 n7) (T.obj _ _ st7)
      refine thnF (pg.run _ s7 _ H7 x u _ I7' r7 (step x H7 y7)) fun _ s8 ⟨σ8, H8, I8, hw8, q8⟩ => ?_
      refine thnF (pt.run _ s8 σ8 H8 _ I8 q8) fun b s9 ⟨H9, I9, q9⟩ => ?_
      -- the turn's end
      have fin : ∀ {s' : Shared} {H' : Hp}, Inv (X.blk s3 H3 scope ce fp) ([] ++ pinsAt fp s7.heap) σ8 H' s' → Nx H' → ∃ m, m < n ∧ ∃ i H', Inv (X.blk s3 H3 scope ce fp) [] (wipe σ (own.map (·.2))) H' s' ∧ tn i s'.heap ∧ (∀ b ∈ fp, H' b = none) ∧ W i m H' := fun {s' H'} I' nx => by
        obtain ⟨m', hm, w'⟩ := hNx H' nx
        have pin' : ∀ b ∈ fp, ∀ o, s7.heap.get? b = some o → s'.heap.get? b = some o ∧ H' b = none := fun b hb o e =>
          let z := I'.pin (b, o) (List.mem_append_right _ (List.mem_append_right _ (mem_pinsAt hb e)))
          ⟨z.1, z.2.1⟩
        have hl : (wipe σ (own.map (·.2))).length = σ8.length := by rw [← hw8, wipe_length]
        refine ⟨m', hm, i + 1, H', (I'.unpinned (pins := [])).weak hl (fun j v e => ?_), T.keep _ _ _ st7 fun b hb o e => (pin' b hb o e).1, fun b hb => ?_, w'⟩
        · rw [← hw8] at e
          exact (wipe_some e).1
        · obtain ⟨o, e, _⟩ := T.obj _ _ st7 b hb
          exact (pin' b hb o e).2
      cases b with
      | false =>
        simp only [Bool.false_eq_true, if_false] at q9 ⊢
        exact fin I9 q9
      | true =>
        simp only [if_true] at q9 ⊢
        refine thnF (pk.run _ s9 σ8 H9 _ I9 q9) fun z s10 ⟨yk, H10, I10, r10, q10⟩ => ?_
        refine thnF (pe.run _ s10 σ8 H10 _ I10 q10) fun z2 s11 ⟨yv, H11, I11, r11, es, k, b, ek, hD11, g1, g2, g3, hz11, nx⟩ => ?_
        subst ek
        cases r10
        exact nd_dictSet (X := X.blk s3 H3 scope ce fp) hu I11 hD11 g1 g2 g3 hz11 r11 fun s12 I12 => fin I12 nx
  exact codeAny_compStart_dict loop (T.self X.A 0 _ _ _ st4 loop)
/-- as a value -/
theorem pe_ndc {kx vx tg iter : Expr} {ifs : List Expr} {scope : Scope} {own : List (Str × Nat)} {pos : Pos} {wi : TI} {g : TG} {tt : TT} {tk tv : TE} (hu : X.A.units + 9 < cLine) (hc : X.calm = true) (hN : X.N.Nodup) (hi : PI X tg iter wi) (ok : BlkOk X.N X.env.scope scope own)
    (hg : ∀ (s : Shared) (H : Hp) (C : Addr) (cl : List (Str × Addr)) (fp : List Addr), PG (X.blk s H scope (compEnvC scope cl C X.env) fp) tg g) (ht : ∀ (s : Shared) (H : Hp) (C : Addr) (cl : List (Str × Addr)) (fp : List Addr), PTs (X.blk s H scope (compEnvC scope cl C X.env) fp) ifs tt)
    (hk : ∀ (s : Shared) (H : Hp) (C : Addr) (cl : List (Str × Addr)) (fp : List Addr), PE (X.blk s H scope (compEnvC scope cl C X.env) fp) kx tk)
    (he : ∀ (s : Shared) (H : Hp) (C : Addr) (cl : List (Str × Addr)) (fp : List Addr), PE (X.blk s H scope (compEnvC scope cl C X.env) fp) vx tv) (hs : ∀ x, foldedSetIterable iter X.env x = pure x := by intro _; rfl) :
    PE X (.DictComp kx vx [⟨tg, iter, ifs, 0⟩] scope pos) (tDcN X.prog X.w X.K wi g tt tk tv (own.map (·.2))) := by
  refine ⟨fun pins s σ H Q I h => ?_⟩
  rw [arm_eval_DictComp]
  refine ndc_core hu hc hN I hi ok hg ht hk he hs h fun D C s' m H' I' q hn f => ⟨m, hn, fun h'' sb => ?_⟩
  obtain ⟨f0, f1, f2, f3, f4, f5⟩ := f
  exact ⟨.ref D, H', I'.turned (t' := s'.toks) (fun b o hb e => (sb.2 b hb).trans e) f0 f1 f3 f4 f5, rfl, q⟩end
end Ts
set_option maxHeartbeats 4000000
namespace Ts
open PySem PySem.Spec PyProof.Rows L2 C8 He
section
variable {X : Cx}
def tNdVals (P : Program) (w : World) (to : TE) : TE := fun σ H Q => to σ H fun x H1 => ∃ (a : Addr) (es : List NE), x = .ref a ∧ H1 a = some (ndO P w a es) ∧ ∀ p, H1 p = none → Q (.ref p) (upd H1 p (valsO p a))
theorem pe_ndvals {o : Expr} {to : TE} {apos cpos : Pos} (ho : PE X o to)
    (hbase : attributeBase o "values" X.env (eval o X.env) = eval o X.env := by rfl) (hline : (apos.endLine == cpos.line) = true := by rfl) : PE X (.Call (.Attribute o "values" apos) [] [] cpos) (tNdVals X.prog X.w to) := by
  refine ⟨fun pins s σ H Q I h => ?_⟩
  refine wpAny_Call_method0_late hbase hline (thn (ho.run pins s σ H _ I h) fun v s1 ⟨x, H1, I1, r1, a, es, ex, ha, q1⟩ => ?_)
  subst ex
  cases r1
  obtain ⟨z, lo, ys, es1, ep, rel, ⟨o, h1, h2, h3⟩, _⟩ := nd_raw (I1.hok a _ ha)
  exact ⟨"dict", "dict.values", PySem.F.plainAttrs_dict, PySem.F.slot_dict_values, PySem.F.type_dict_values, ⟨o, h1, h2.1⟩, fun b e => (by cases e; exact ⟨o, h1, h2.2.1⟩), Calls.callWith_builtin rfl (PySem.evalArgs_none (mt_ndvals pins s1 σ H1 (.ref a) [] (.ref a) [] Q I1 rfl .nil ⟨a, es, rfl, rfl, ha, q1⟩))⟩
end
theorem hu9 {k : Nat} {A : Around} (r : Room k A) : A.units + 9 < cLine := by have := r.units; omega
/-! ### tables without doubles -/
theorem ndAt_of : ∀ {xs : List NE} {e : NE}, (xs.map (·.1)).Nodup → e ∈ xs → ndAt xs e.1 = some e.2.2
  | p :: ps, e, nd, h => by
    rw [List.map_cons, List.nodup_cons] at nd
    rcases List.mem_cons.mp h with rfl | h
    · simp [ndAt, List.find?_cons]
    · have hne : ¬ p.1 = e.1 := fun z => nd.1 (by rw [z]; exact List.mem_map.mpr ⟨e, h, rfl⟩)
      have ih := ndAt_of nd.2 h
      simpa [ndAt, List.find?_cons, hne] using ih
theorem ndAt_some {xs : List NE} {k : NestedKey} : (ndAt xs k).isSome = true ↔ ∃ e ∈ xs, e.1 = k := by
  unfold ndAt
  rw [Option.isSome_map, List.find?_isSome]
  simp
theorem ndPut_mem {xs : List NE} {k : NestedKey} {a : Addr} {v : V} {e : NE} (h : e ∈ ndPut xs k a v) : (e ∈ xs ∧ e.1 ≠ k) ∨ (e.1 = k ∧ e.2.2 = v ∧ (e.2.1 = a ∨ ∃ e0 ∈ xs, e0.1 = k ∧ e0.2.1 = e.2.1)) := by
  unfold ndPut at h
  split at h
  · obtain ⟨x, hx, rfl⟩ := List.mem_map.mp h
    by_cases hk : x.1 = k
    · rw [if_pos hk]
      exact .inr ⟨hk, rfl, .inr ⟨x, hx, hk, rfl⟩⟩
    · rw [if_neg hk]
      exact .inl ⟨hx, hk⟩
  · rename_i hn
    rcases List.mem_append.mp h with h | h
    · exact .inl ⟨h, fun z => hn (ndAt_some.mpr ⟨e, h, z⟩)⟩
    · rw [List.mem_singleton.mp h]
      exact .inr ⟨rfl, rfl, .inl rfl⟩
theorem ndPut_keys (xs : List NE) (k : NestedKey) (a : Addr) (v : V) : (ndPut xs k a v).map (·.1) = if (ndAt xs k).isSome = true then xs.map (·.1) else xs.map (·.1) ++ [k] := by
  unfold ndPut
  split
  · rw [List.map_map]
    refine List.map_congr_left fun x _ => ?_
    show (if x.1 = k then _ else x).1 = x.1
    split <;> rfl
  · rw [List.map_append]
    rfl
theorem ndPut_nodup {xs : List NE} {k : NestedKey} {a : Addr} {v : V} (h : (xs.map (·.1)).Nodup) : ((ndPut xs k a v).map (·.1)).Nodup := by
  rw [ndPut_keys]
  split
  · exact h
  · rename_i hn
    refine List.nodup_append.mpr ⟨h, by simp, fun x hx y hy e => hn (ndAt_some.mpr ?_)⟩
    rw [List.mem_singleton.mp hy] at e
    obtain ⟨z, hz, rfl⟩ := List.mem_map.mp hx
    exact ⟨z, hz, e⟩
theorem ndPut_has {xs : List NE} {k : NestedKey} {a : Addr} {v : V} : k ∈ (ndPut xs k a v).map (·.1) := by
  rw [ndPut_keys]
  split
  · rename_i hs
    obtain ⟨e, he, rfl⟩ := ndAt_some.mp hs
    exact List.mem_map.mpr ⟨e, he, rfl⟩
  · exact List.mem_append_right _ (List.mem_singleton.mpr rfl)
theorem ndPut_sub {xs : List NE} {k k' : NestedKey} {a : Addr} {v : V} (h : k' ∈ xs.map (·.1)) : k' ∈ (ndPut xs k a v).map (·.1) := by
  rw [ndPut_keys]
  split
  · exact h
  · exact List.mem_append_left _ h
/-! ### stories as keys -/
def ocK (o : Oc) : NestedKey := .tup [.num o.b, .text o.nm, .num o.m]
def keyOs (os : List Oc) : NestedKey := .tup (os.map ocK)
def unOc : NestedKey → Oc
  | .tup [.num b, .text n, .num m] => ⟨b, n, m⟩
  | _ => ⟨0, "", 0⟩
def unOs : NestedKey → List Oc
  | .tup ks => ks.map unOc
  | _ => []
theorem unOs_key (os : List Oc) : unOs (keyOs os) = os := by
  show (os.map ocK).map unOc = os
  rw [List.map_map]
  exact (List.map_congr_left fun o _ => rfl).trans (List.map_id os)
theorem keyOs_inj {a b : List Oc} (e : keyOs a = keyOs b) : a = b := by rw [← unOs_key a, e, unOs_key]
theorem nk_ocs {K : PySem.W.Frag} {H : Hp} : ∀ {xs : List V} {os : List Oc}, OcsAt H xs os → NkAll K H (os.map ocK) xs
  | [], [], _ => .nil
  | [], _ :: _, h => by have := h.1; simp at this
  | _ :: _, [], h => by have := h.1; simp at this
  | x :: xs, o :: os, h => by
    obtain ⟨p, e1, e2⟩ := h.2 0 o rfl
    obtain rfl : x = .ref p := Option.some.inj e1
    refine .cons (.tup (SqT.of e2) (.cons (.int _) (.cons (.text _) (.cons (.int _) .nil)))) (nk_ocs ⟨by simpa using h.1, fun i o e => ?_⟩)
    obtain ⟨p, a, b⟩ := h.2 (i + 1) o (by simpa using e)
    exact ⟨p, by simpa using a, b⟩
theorem depth_ocs : ∀ os : List Oc, NestedKey.depthAll (os.map ocK) ≤ 1
  | [] => by simp [NestedKey.depthAll]
  | o :: os => by
    rw [List.map_cons, NestedKey.depthAll]
    have := depth_ocs os
    simp [ocK, NestedKey.depth, NestedKey.depthAll]
    omega
theorem depth_os (os : List Oc) : (keyOs os).depth ≤ 2 := by
  have := depth_ocs os
  simp [keyOs, NestedKey.depth]
  omega
theorem alike_os : ∀ a b : List Oc, PySem.W.alikeAll (encKs (a.map ocK)) (encKs (b.map ocK)) = true
  | [], _ => by simp [encKs, PySem.W.alikeAll]
  | _ :: _, [] => by simp [encKs, PySem.W.alikeAll]
  | x :: xs, y :: ys => by
    rw [List.map_cons, List.map_cons, encKs, encKs, PySem.W.alikeAll, alike_os xs ys]
    simp [ocK, encK, encKs, PySem.W.alike, PySem.W.alikeAll]
theorem edepth_ocs : ∀ os : List Oc, PyData.depthAll (encKs (os.map ocK)) ≤ 1
  | [] => by simp [encKs, PyData.depthAll]
  | o :: os => by
    rw [List.map_cons, encKs, PyData.depthAll]
    have := edepth_ocs os
    simp [ocK, encK, encKs, PyData.depth, PyData.depthAll]
    omega
theorem edepth_os (os : List Oc) : (encK (keyOs os)).depth ≤ 8 := by
  have := edepth_ocs os
  simp [keyOs, encK, PyData.depth]
  omega
/-! ### fillings -/
def StoriesAt (K : PySem.W.Frag) (H : Hp) (ss : List V) (oss : List (List Oc)) : Prop := ss.length = oss.length ∧ ∀ (i : Nat) (os : List Oc), oss[i]? = some os → ∃ b, ss[i]? = some (.ref b) ∧ StoryAt K H b os
theorem StoriesAt.mono {K : PySem.W.Frag} {H H' : Hp} {ss : List V} {oss : List (List Oc)} (s : SameI H H') (h : StoriesAt K H ss oss) : StoriesAt K H' ss oss := ⟨h.1, fun i os e => let ⟨b, h1, h2⟩ := h.2 i os e; ⟨b, h1, h2.mono s⟩⟩
def spFillings (K : PySem.W.Frag) : Sp := fun vs H Q _ => ∃ (a : Addr) (us : List Us), vs = [.ref a] ∧ UnsureAt K H a us ∧ UssOk us ∧
  ∀ H' t ss oss, Same H H' → H' t = some (.tup ss) → StoriesAt K H' ss oss → (∀ os, os ∈ oss ↔ ∃ c ∈ choicesM us, os = filledM us c) → oss.Nodup → Q (.ref t) H'
def dlH (H : Hp) (D : Addr) : Hp := fun b => if b = D then none else H b
theorem dlH_at {H : Hp} {D b : Addr} {o : HO} (e : H b = some o) (h : b ≠ D) : dlH H D b = some o := by
  unfold dlH
  rw [if_neg h]
  exact e
theorem dlH_no {H : Hp} {D : Addr} : dlH H D D = none := by
  unfold dlH
  rw [if_pos rfl]
theorem sm_dl {H0 H : Hp} {D : Addr} (s : Same H0 H) (h : H0 D = none) : Same H0 (dlH H D) := fun b o e => by
  unfold dlH
  rw [if_neg (ne_of_none e h)]
  exact s b o e
theorem sm_dlH (H : Hp) (D : Addr) : Same (dlH H D) H := fun b o e => by
  unfold dlH at e
  split at e
  · cases e
  · exact e
section
variable {K : PySem.W.Frag} {H : Hp} {D : Addr} {φ : Heap → Prop}
theorem sq_dl {a : Addr} {xs : List V} (hD : H D = some (.ext φ)) (h : SqT K H a xs) : SqT K (dlH H D) a xs := by
  rcases h with (h | ⟨o, h⟩) | h
  · exact .inl (.inl (dlH_at h fun z => by rw [z, hD] at h; cases h))
  · exact .inl (.inr ⟨o, dlH_at h fun z => by rw [z, hD] at h; cases h⟩)
  · exact .inr h
mutual
theorem NkAt.dl (hD : H D = some (.ext φ)) : ∀ (k : NestedKey) (x : V), NkAt K H k x → NkAt K (dlH H D) k x
  | .none, _, h => by cases h
  | .num i, _, h => by cases h; exact .int i
  | .text y, _, h => by cases h; exact .text y
  | .tup ks, _, h => by
    cases h with
    | tup h1 h2 => exact .tup (sq_dl hD h1) (NkAll.dl hD ks _ h2)
theorem NkAll.dl (hD : H D = some (.ext φ)) : ∀ (ks : List NestedKey) (xs : List V), NkAll K H ks xs → NkAll K (dlH H D) ks xs
  | [], _, h => by cases h; exact .nil
  | k :: ks, _, h => by
    cases h with
    | cons h1 h2 => exact .cons (NkAt.dl hD k _ h1) (NkAll.dl hD ks _ h2)
end
theorem StoryAt.dl {b : Addr} {os : List Oc} (hD : H D = some (.ext φ)) (h : StoryAt K H b os) : StoryAt K (dlH H D) b os := by
  obtain ⟨dx, fs, t, xs, h1, h2, h3, h4, h5⟩ := h
  refine ⟨dx, fs, t, xs, dlH_at h1 (fun z => by rw [z, hD] at h1; cases h1), h2, sq_dl hD h3, ⟨h4.1, fun i o e => ?_⟩, h5⟩
  obtain ⟨p, g1, g2⟩ := h4.2 i o e
  exact ⟨p, g1, dlH_at g2 fun z => by rw [z, hD] at g2; cases g2⟩
end
/-- an entry: a story by its occasions -/
structure EsAt (K : PySem.W.Frag) (H : Hp) (us : List Us) (cs : List (List Int)) (i : Nat) (es : List NE) : Prop where
  nd : (es.map (·.1)).Nodup
  ent : ∀ e ∈ es, ∃ j c b, j < i ∧ cs[j]? = some c ∧ e.1 = keyOs (filledM us c) ∧ e.2.2 = .ref b ∧ StoryAt K H b (filledM us c) ∧ NkAt K H e.1 (.ref e.2.1)
  all : ∀ j c, j < i → cs[j]? = some c → keyOs (filledM us c) ∈ es.map (·.1)
  len : es.length ≤ i
theorem EsAt.mono {K : PySem.W.Frag} {H H' : Hp} {us : List Us} {cs : List (List Int)} {i : Nat} {es : List NE} (s : Same H H') (h : EsAt K H us cs i es) : EsAt K H' us cs i es :=
  ⟨h.nd, fun e he => let ⟨j, c, b, h1, h2, h3, h4, h5, h6⟩ := h.ent e he; ⟨j, c, b, h1, h2, h3, h4, h5.mono (SameI.of s), NkAt.mono s _ _ h6⟩, h.all, h.len⟩
theorem EsAt.dl {K : PySem.W.Frag} {H : Hp} {D : Addr} {φ : Heap → Prop} {us : List Us} {cs : List (List Int)} {i : Nat} {es : List NE} (hD : H D = some (.ext φ)) (h : EsAt K H us cs i es) : EsAt K (dlH H D) us cs i es :=
  ⟨h.nd, fun e he => let ⟨j, c, b, h1, h2, h3, h4, h5, h6⟩ := h.ent e he; ⟨j, c, b, h1, h2, h3, h4, h5.dl hD, NkAt.dl hD _ _ h6⟩, h.all, h.len⟩
theorem EsAt.keys {K : PySem.W.Frag} {H : Hp} {us : List Us} {cs : List (List Int)} {i : Nat} {es : List NE} (h : EsAt K H us cs i es) : NdKeys K H es := fun e he => by
  obtain ⟨j, c, b, _, _, h3, _, _, h6⟩ := h.ent e he
  refine ⟨h6, ?_⟩
  rw [h3]
  have := depth_os (filledM us c)
  omega
theorem EsAt.put {K : PySem.W.Frag} {H : Hp} {us : List Us} {cs : List (List Int)} {i : Nat} {es : List NE} (h : EsAt K H us cs i es) {c : List Int} {a b : Addr} (hc : cs[i]? = some c) (hs : StoryAt K H b (filledM us c)) (ha : NkAt K H (keyOs (filledM us c)) (.ref a)) :
    EsAt K H us cs (i + 1) (ndPut es (keyOs (filledM us c)) a (.ref b)) := by
  refine ⟨ndPut_nodup h.nd, fun e he => ?_, fun j c' hj e => ?_, ?_⟩
  · rcases ndPut_mem he with ⟨h1, h2⟩ | ⟨h1, h2, h3⟩
    · obtain ⟨j, c', b', g1, g⟩ := h.ent e h1
      exact ⟨j, c', b', by omega, g⟩
    · refine ⟨i, c, b, by omega, hc, h1, h2, hs, ?_⟩
      rcases h3 with h3 | ⟨e0, h4, h5, h6⟩
      · rw [h1, h3]
        exact ha
      · obtain ⟨_, _, _, _, _, _, _, _, g⟩ := h.ent e0 h4
        rw [h5, h6, ← h1] at g
        exact g
  · by_cases hji : j = i
    · subst hji
      rw [hc] at e
      cases e
      exact ndPut_has
    · exact ndPut_sub (h.all j c' (by omega) e)
  · have := ndPut_len es (keyOs (filledM us c)) a (.ref b)
    have := h.len
    omega
theorem foldC_cnt : ∀ (us : List Us) (acc : List (List Int)), (∀ u ∈ us, UsOk u) → (us.foldl stepC acc).length ≤ acc.length * 4 ^ us.length
  | [], acc, _ => by simp
  | u :: us, acc, ok => by
    have ih := foldC_cnt us (stepC acc u) fun v hv => ok v (List.mem_cons_of_mem _ hv)
    have hd := daysU_len (ok u (List.mem_cons_self ..))
    have h1 : (stepC acc u).length = acc.length * (daysU u).length := by
      unfold stepC
      generalize daysU u = dd
      clear ih hd
      induction acc with
      | nil => simp
      | cons a as ih =>
        rw [List.flatMap_cons, List.length_append, ih, List.length_map, List.length_cons, Nat.succ_mul]
        omega
    have h2 : (stepC acc u).length ≤ acc.length * 4 := by rw [h1]; exact Nat.mul_le_mul_left _ hd
    refine Nat.le_trans ih ?_
    rw [List.length_cons, Nat.pow_succ, Nat.mul_comm (4 ^ us.length) 4, ← Nat.mul_assoc]
    exact Nat.mul_le_mul_right _ h2
theorem choices_cnt {us : List Us} (ok : UssOk us) : (choicesM us).length ≤ 64 := by
  have h := foldC_cnt us [[]] ok.ok
  have h2 := ok.len
  refine Nat.le_trans h ?_
  have : 4 ^ us.length ≤ 4 ^ 3 := Nat.pow_le_pow_right (by decide) h2
  simp
  omega
theorem foldC_pos : ∀ (us : List Us) (acc : List (List Int)), (∀ u ∈ us, UsOk u) → (∀ c ∈ acc, ∀ d ∈ c, 0 ≤ d) → ∀ c ∈ us.foldl stepC acc, ∀ d ∈ c, 0 ≤ d
  | [], acc, _, h => h
  | u :: us, acc, ok, h => by
    refine foldC_pos us (stepC acc u) (fun v hv => ok v (List.mem_cons_of_mem _ hv)) fun c hc d hd => ?_
    unfold stepC daysU at hc
    obtain ⟨s, hs, hc⟩ := List.mem_flatMap.mp hc
    obtain ⟨x, hx, rfl⟩ := List.mem_map.mp hc
    obtain ⟨j, _, rfl⟩ := List.mem_map.mp hx
    rcases List.mem_append.mp hd with hd | hd
    · exact h s hs d hd
    · rw [List.mem_singleton.mp hd]
      have := (ok u (List.mem_cons_self ..)).f
      omega
theorem choices_pos {us : List Us} (ok : UssOk us) : ∀ c ∈ choicesM us, ∀ d ∈ c, 0 ≤ d := foldC_pos us [[]] ok.ok fun c hc d hd => by
  rw [List.mem_singleton.mp hc] at hd
  cases hd
section
variable {P : Program} {w : World} {K : PySem.W.Frag} {mg : Str → Option Value} {base : Heap}
theorem G_fillings (T : Txt P w K mg) : Cal P w K mg base 8 "fillings" (spFillings K) [] := by
  have G_choices := G_choices (P := P) (w := w) (base := base) T
  have G_filled := G_filled (P := P) (w := w) (base := base) T
  refine calN T.d_fillings T.g_fillings sc_fillings (fun _ _ _ _ _ _ us hl => match us, hl with | [_], _ => rfl) (fun vs H Q E h => ?_) (fun cdv A outer s H vs Q E hr h => ?_)
  · obtain ⟨a, us, rfl, _⟩ := h
    rfl
  · obtain ⟨a, us, rfl, hU, ok, k⟩ := h
    refine ⟨_, (pss_cons (ps_set (i := 1) sc_fillings.nd rfl (Or.inr rfl) pe_nd0)
      (pss_cons (ps_for PassesOwn.never rfl (pi_list (pe_c G_choices hr (by decide) (by rfl) (pa_cons (pv 0) pa_nil))) (pg_name (i := 2) sc_fillings.nd rfl (Or.inl rfl)) (pss_cons (ps_set (i := 3) sc_fillings.nd rfl (Or.inl rfl) (pe_c G_filled hr (by decide) (by rfl) (pa_cons (pv 0) (pa_cons (pv 2) pa_nil))))
      (pss_one (ps_ndput (hu9 hr) (pv 1) (pe_fld (pv 3) (by rfl)) (pv 3) rfl))))
      (pss_one (ps_ret (pe_callTy call_tuple_of (by rfl) T.b_tuple boot_tuple (pa_cons (pe_lc (own := [("occasions", 4)]) (by rfl) sc_fillings.nd (pi_list (pe_callB (cr_sortedNd rfl hr.units) (by rfl) T.b_sorted boot_sorted (pa_cons (pv 1) pa_nil))) (blkOk_by (N := n_fillings) (sc := defScope s_fillings) (by decide +kernel)) (fun _ _ _ _ _ => (pg_name (i := 4) sc_fillings.nd rfl (Or.inl rfl))) (fun _ _ _ _ _ => pts_nil) (fun _ _ _ _ _ => (pe_ndget (P := P) (w := w) (K := K) rfl rfl rfl (hu9 hr) (pv 1) (pv 4) (fun _ _ => rfl)))) pa_nil)))))), ?_⟩
    refine fun D hD => ?_
    have sD := sm_new (o := ndO P w D []) hD
    refine ⟨_, rfl, a, us, rfl, hU.mono (SameI.of sD), ok, fun H1 l ys s1 hl hys => ?_⟩
    have h1D := s1 _ _ upd_same
    have lD : l ≠ D := fun z => by rw [z, h1D] at hl; cases hl
    have sB := sm_dl (sD.trans s1) hD
    have hcl := choices_cnt ok
    have hU0 := hU.mono (SameI.of sB)
    have hys0 : ∀ (j : Nat) (x : V), ys[j]? = some x → ∃ p c, x = .ref p ∧ (choicesM us)[j]? = some c ∧ dlH H1 D p = some (.tup (c.map V.int)) := fun j x e => by
      obtain ⟨p, c, rfl, hc, hp⟩ := hys.at_ e
      exact ⟨p, c, rfl, hc, dlH_at hp fun z => by rw [z, h1D] at hp; cases hp⟩
    refine ⟨l, rfl, ⟨_, SqL.of hl⟩, ?_⟩
    refine for_it (walk_list (K := K) (a := l) (xs := ys)) (fun i σ H' => Same (dlH H1 D) H' ∧ ∃ u2 u3 u4 es, σ = [some (.ref a), some (.ref D), u2, u3, u4] ∧ H' D = some (ndO P w D es) ∧ EsAt K H' us (choicesM us) i es)
      ⟨sm_dlH H1 D, none, none, none, [], rfl, h1D, ⟨List.nodup_nil, (fun e he => nomatch he), (fun j c hj => absurd hj (Nat.not_lt_zero _)), Nat.le_refl _⟩⟩ (fun i σ H' _ q => SqL.of (q.1 _ _ (dlH_at hl lD))) ?_ ?_
    · rintro i v σ H3 H4 hi ⟨s3, u2, u3, u4, es, rfl, hD3, hes⟩ ⟨rfl, hv⟩
      obtain ⟨p, c, rfl, hc, hp⟩ := hys0 i v hv
      have hmem := List.mem_of_getElem? hc
      refine ⟨_, rfl, _, rfl, a, p, us, c, rfl, hU0.mono (SameI.of s3), ok, SqT.of (s3 _ _ hp), choices_len hmem, choices_pos ok c hmem, fun H5 b s5 hb => ?_⟩
      have hD5 := s5 _ _ hD3
      have hes5 := hes.mono s5
      obtain ⟨dx, fs, t, xs, g1, g2, g3, g4, g5⟩ := id hb
      refine ⟨_, rfl, _, rfl, _, rfl, b, _, dx, fs, _, rfl, g1, T.c_Story, T.no_Story_occasions, g2, ?_⟩
      refine ⟨D, t, es, keyOs (filledM us c), rfl, rfl, hD5, hes5.keys, .tup g3 (nk_ocs g4), Nat.le_trans (depth_os _) (by decide), ?_, ?_⟩
      · have h1 := hes.len
        have h2 : i < (choicesM us).length := (List.getElem?_eq_some_iff.mp hc).1
        exact Nat.lt_of_le_of_lt (show es.length ≤ 64 by omega) (by decide)
      · have s6 := sm_to (o := ndO P w D (ndPut es (keyOs (filledM us c)) t (.ref b))) (s3.trans s5) dlH_no
        refine ⟨s6, _, _, _, _, rfl, upd_same, EsAt.mono (sm_to (sm_dlH H5 D) dlH_no) (EsAt.put (hes5.dl hD5) hc (hb.dl hD5) (NkAt.dl hD5 _ _ (.tup g3 (nk_ocs g4))))⟩
    · rintro σ H3 ⟨s3, u2, u3, u4, es, rfl, hD3, hes⟩
      rw [hys.1] at hes
      refine ⟨_, rfl, D, es, rfl, hD3, hes.keys, Nat.le_trans hes.len (by omega), ?_, fun zs p hp hpn => ?_⟩
      · by_cases hu : us = []
        · left
          have := hes.len
          rw [hu] at this
          exact this
        · right
          refine ⟨fun d hd d' hd' => ?_, fun e he => ?_⟩
          · obtain ⟨e, he, rfl⟩ := List.mem_map.mp hd
            obtain ⟨e', he', rfl⟩ := List.mem_map.mp hd'
            obtain ⟨_, c, _, _, _, h3, _⟩ := hes.ent e he
            obtain ⟨_, c', _, _, _, h3', _⟩ := hes.ent e' he'
            rw [h3, h3']
            show PySem.W.alike (.tuple _) (.tuple _) = true
            rw [PySem.W.alike]
            exact alike_os _ _
          · obtain ⟨_, c, _, _, hc, h3, _⟩ := hes.ent e he
            rw [h3]
            refine ⟨?_, edepth_os _⟩
            have hl := filledM_len us c
            rw [choices_len (List.mem_of_getElem? hc)] at hl
            cases hf : filledM us c with
            | nil =>
              rw [hf] at hl
              exact absurd (List.eq_nil_of_length_eq_zero hl.symm) hu
            | cons o os => exact ⟨ocK o, os.map ocK, rfl⟩
      have sp := sm_new (o := HO.lst (zs.map fun x => V.ref x.2.1)) hpn
      have sZ : ∀ {e : NE}, e ∈ zs → e ∈ es := fun h => hp.mem_iff.mp h
      refine ⟨p, rfl, ⟨_, SqL.of upd_same⟩, fun D2 hD2 => ?_⟩
      refine lc_map (walk_list (K := K) (a := p) (xs := zs.map fun x => V.ref x.2.1)) hD2 (fun H' s => SqL.of (s _ _ upd_same)) (by rw [List.length_map, hp.length_eq]; have := hes.len; omega) (fun i y H' => ∃ e, zs[i]? = some e ∧ y = e.2.2) (fun i y H3 H4 s h => h) ?_ ?_
      · rintro i v H4 H5 hi s4 ⟨rfl, hv⟩ k2 hk2
        rw [List.getElem?_map] at hv
        obtain ⟨e, he, rfl⟩ := Option.map_eq_some_iff.mp hv
        have hm := sZ (List.mem_of_getElem? he)
        have sH := sp.trans s4
        have kk := (NdKeys.mono sH hes.keys)
        refine ⟨rfl, ?_⟩
        refine ⟨_, rfl, _, rfl, D, e.2.1, es, e.1, e.2.2, rfl, rfl, sH _ _ hD3, kk, (kk e hm).1, (kk e hm).2, ndAt_of hes.nd hm, ?_⟩
        exact hk2 _ _ (fun _ _ e => e) ⟨e, he, rfl⟩
      intro H4 ws s4 hw hwl hwt
      rw [List.length_map] at hwl
      refine ⟨D2, ws, rfl, .inl ⟨SqL.of hw, fun t ht => ?_⟩⟩
      have s5 := sm_new (o := HO.tup ws) ht
      have sA := (sp.trans s4).trans s5
      refine k _ t ws (zs.map fun e => unOs e.1) (sB.trans (s3.trans sA)) upd_same ⟨by rw [List.length_map, hwl], fun i os e => ?_⟩ (fun os => ?_) ?_
      · rw [List.getElem?_map] at e
        obtain ⟨x, hx, rfl⟩ := Option.map_eq_some_iff.mp e
        have hi : i < ws.length := by rw [hwl]; exact (List.getElem?_eq_some_iff.mp hx).1
        obtain ⟨x', hx', ew⟩ := hwt i _ (List.getElem?_eq_getElem hi)
        rw [hx] at hx'
        cases hx'
        obtain ⟨j, c, b, _, _, h3, h4, h5, _⟩ := hes.ent x (sZ (List.mem_of_getElem? hx))
        refine ⟨b, by rw [List.getElem?_eq_getElem hi, ew, h4], ?_⟩
        rw [h3, unOs_key]
        exact h5.mono (SameI.of sA)
      · constructor
        · intro h
          obtain ⟨x, hx, rfl⟩ := List.mem_map.mp h
          obtain ⟨j, c, b, _, hc, h3, _⟩ := hes.ent x (sZ hx)
          exact ⟨c, List.mem_of_getElem? hc, by rw [h3, unOs_key]⟩
        · rintro ⟨c, hc, rfl⟩
          obtain ⟨j, hj⟩ := List.getElem?_of_mem hc
          obtain ⟨x, hx, ex⟩ := List.mem_map.mp (hes.all j c (List.getElem?_eq_some_iff.mp hj).1 hj)
          exact List.mem_map.mpr ⟨x, hp.mem_iff.mpr hx, by rw [ex, unOs_key]⟩
      · have nz : (zs.map (·.1)).Nodup := (hp.map _).nodup_iff.mpr hes.nd
        rw [List.nodup_iff_pairwise_ne, List.pairwise_map] at nz ⊢
        refine nz.imp_of_mem fun {x y} hx hy hne e => hne ?_
        obtain ⟨_, c, _, _, _, h3, _⟩ := hes.ent x (sZ hx)
        obtain ⟨_, c', _, _, _, h3', _⟩ := hes.ent y (sZ hy)
        rw [h3, h3', unOs_key, unOs_key] at e
        rw [h3, h3', e]
end
end Ts
set_option maxHeartbeats 4000000
namespace Ts
open PySem PySem.Spec PyProof.Rows L2 C8 He
/-! ### a dict comprehension's loop -/
section
variable {P : Program} {w : World} {K : PySem.W.Frag} {J : It} {n : Nat} {G : Hp → Prop} {Y : Nat → Hp → V → Hp → Prop}
theorem ndc_it (wk : Walk J n G Y) {g : TG} {tt : TT} {tk tv : TE} {vs : List Nat} {σ : L2.St} {H1 : Hp} {D : Addr} {Qd : Hp → Prop} (Pv : Nat → Hp → Prop) (h0 : Pv 0 (upd H1 D (ndO P w D []))) (hG : ∀ i H, i ≤ n → Pv i H → G H)
    (hs : ∀ i x H H', i < n → Pv i H → Y i H x H' → g x (wipe σ vs) H' fun σ2 H2 => wipe σ2 vs = wipe σ vs ∧ tt σ2 H2 fun b H3 =>
      if b = true then tk σ2 H3 fun y H4 => tv σ2 H4 fun z H5 => ∃ (es : List NE) (k : NestedKey) (a : Addr), y = .ref a ∧ H5 D = some (ndO P w D es) ∧ NdKeys K H5 es ∧ NkAt K H5 k (.ref a) ∧ k.depth ≤ 8 ∧ es.length < sizeLine ∧ Pv (i + 1) (upd H5 D (ndO P w D (ndPut es k a z))) else Pv (i + 1) H3) (hd : ∀ H, Pv n H → Qd H) :
    ∃ W : Nat → Nat → Hp → Prop, (∃ m, W 0 m (upd H1 D (ndO P w D []))) ∧ ∀ i m H, W i m H →
      (J.stop i H ∧ Qd H) ∨ (J.go i H ∧ ∃ Nx : Hp → Prop, (∀ H', Nx H' → ∃ m', m' < m ∧ W (i + 1) m' H') ∧ ∀ x H', J.yld i H x H' → g x (wipe σ vs) H' fun σ2 H2 => wipe σ2 vs = wipe σ vs ∧ tt σ2 H2 fun b H3 =>
        if b = true then tk σ2 H3 fun y H4 => tv σ2 H4 fun z H5 => ∃ (es : List NE) (k : NestedKey) (a : Addr), y = .ref a ∧ H5 D = some (ndO P w D es) ∧ NdKeys K H5 es ∧ NkAt K H5 k (.ref a) ∧ k.depth ≤ 8 ∧ es.length < sizeLine ∧ Nx (upd H5 D (ndO P w D (ndPut es k a z))) else Nx H3) := by
  refine ⟨fun i m H => m = n - i ∧ i ≤ n ∧ Pv i H, ⟨n, by simp, Nat.zero_le _, h0⟩, ?_⟩
  rintro i m H ⟨rfl, hi, p⟩
  have q := hG i H hi p
  by_cases hlt : i < n
  · exact .inr ⟨wk.goes i H hlt q, Pv (i + 1), fun H' p' => ⟨n - (i + 1), by omega, rfl, hlt, p'⟩, fun x H' y => hs i x H H' hlt p (wk.yields i H x H' hlt q y)⟩
  · have e : i = n := by omega
    subst e
    exact .inl ⟨wk.stops H q, hd H p⟩
end
def keyI (c : List Int) : NestedKey := .tup (c.map .num)
theorem nk_ints {K : PySem.W.Frag} {H : Hp} : ∀ c : List Int, NkAll K H (c.map .num) (c.map V.int)
  | [] => .nil
  | x :: xs => .cons (.int x) (nk_ints xs)
theorem depth_ints' : ∀ c : List Int, NestedKey.depthAll (c.map .num) = 0
  | [] => by simp [NestedKey.depthAll]
  | x :: xs => by
    rw [List.map_cons, NestedKey.depthAll, depth_ints' xs]
    simp [NestedKey.depth]
theorem depth_keyI (c : List Int) : (keyI c).depth ≤ 8 := by
  simp [keyI, NestedKey.depth, depth_ints']
def unI : NestedKey → Int
  | .num i => i
  | _ => 0
def unIs : NestedKey → List Int
  | .tup ks => ks.map unI
  | _ => []
theorem unIs_key (c : List Int) : unIs (keyI c) = c := by
  show (c.map NestedKey.num).map unI = c
  rw [List.map_map]
  exact (List.map_congr_left fun o _ => rfl).trans (List.map_id c)
theorem keyI_inj {a b : List Int} (e : keyI a = keyI b) : a = b := by rw [← unIs_key a, e, unIs_key]
/-- an entry: a lapse by its choice -/
structure LsAt (K : PySem.W.Frag) (H : Hp) (L : List Int → Int) (cs : List (List Int)) (i : Nat) (es : List NE) : Prop where
  ent : ∀ e ∈ es, ∃ j c, j < i ∧ cs[j]? = some c ∧ e.1 = keyI c ∧ e.2.2 = .int (L c) ∧ NkAt K H e.1 (.ref e.2.1)
  all : ∀ j c, j < i → cs[j]? = some c → keyI c ∈ es.map (·.1)
  len : es.length ≤ i
theorem LsAt.mono {K : PySem.W.Frag} {H H' : Hp} {L : List Int → Int} {cs : List (List Int)} {i : Nat} {es : List NE} (s : Same H H') (h : LsAt K H L cs i es) : LsAt K H' L cs i es :=
  ⟨fun e he => let ⟨j, c, h1, h2, h3, h4, h6⟩ := h.ent e he; ⟨j, c, h1, h2, h3, h4, NkAt.mono s _ _ h6⟩, h.all, h.len⟩
theorem LsAt.dl {K : PySem.W.Frag} {H : Hp} {D : Addr} {φ : Heap → Prop} {L : List Int → Int} {cs : List (List Int)} {i : Nat} {es : List NE} (hD : H D = some (.ext φ)) (h : LsAt K H L cs i es) : LsAt K (dlH H D) L cs i es :=
  ⟨fun e he => let ⟨j, c, h1, h2, h3, h4, h6⟩ := h.ent e he; ⟨j, c, h1, h2, h3, h4, NkAt.dl hD _ _ h6⟩, h.all, h.len⟩
theorem LsAt.keys {K : PySem.W.Frag} {H : Hp} {L : List Int → Int} {cs : List (List Int)} {i : Nat} {es : List NE} (h : LsAt K H L cs i es) : NdKeys K H es := fun e he => by
  obtain ⟨j, c, _, _, h3, _, h6⟩ := h.ent e he
  refine ⟨h6, ?_⟩
  rw [h3]
  exact depth_keyI c
theorem LsAt.put {K : PySem.W.Frag} {H : Hp} {L : List Int → Int} {cs : List (List Int)} {i : Nat} {es : List NE} (h : LsAt K H L cs i es) {c : List Int} {a : Addr} (hc : cs[i]? = some c) (ha : NkAt K H (keyI c) (.ref a)) :
    LsAt K H L cs (i + 1) (ndPut es (keyI c) a (.int (L c))) := by
  refine ⟨fun e he => ?_, fun j c' hj e => ?_, ?_⟩
  · rcases ndPut_mem he with ⟨h1, h2⟩ | ⟨h1, h2, h3⟩
    · obtain ⟨j, c', g1, g⟩ := h.ent e h1
      exact ⟨j, c', by omega, g⟩
    · refine ⟨i, c, by omega, hc, h1, h2, ?_⟩
      rcases h3 with h3 | ⟨e0, h4, h5, h6⟩
      · rw [h1, h3]
        exact ha
      · obtain ⟨_, _, _, _, _, _, g⟩ := h.ent e0 h4
        rw [h5, h6, ← h1] at g
        exact g
  · by_cases hji : j = i
    · subst hji
      rw [hc] at e
      cases e
      exact ndPut_has
    · exact ndPut_sub (h.all j c' (by omega) e)
  · have := ndPut_len es (keyI c) a (.int (L c))
    have := h.len
    omega
abbrev lapseC (R : Rl) (us : List Us) (c : List Int) : Int := lapseM R (filledM us c)
def spEnds (P : Program) (w : World) (K : PySem.W.Frag) : Sp := fun vs H Q _ => ∃ (ra a : Addr) (R : Rl) (us : List Us), vs = [.ref ra, .ref a] ∧ RuleAt K H ra R ∧ RlOk R ∧ UnsureAt K H a us ∧ UssOk us ∧
  ∀ H' D es, Same H H' → H' D = some (ndO P w D es) → LsAt K H' (lapseC R us) (choicesM us) (choicesM us).length es → Q (.ref D) H'
def spLapses (K : PySem.W.Frag) : Sp := fun vs H Q _ => ∃ (ra a : Addr) (R : Rl) (us : List Us), vs = [.ref ra, .ref a] ∧ RuleAt K H ra R ∧ RlOk R ∧ UnsureAt K H a us ∧ UssOk us ∧
  ∀ H' t (ns : List Int), Same H H' → H' t = some (.tup (ns.map V.int)) → ns.Pairwise (· < ·) → (∀ k, k ∈ ns ↔ ∃ c ∈ choicesM us, k = lapseC R us c) → ns.length ≤ 64 → Q (.ref t) H'
/-- lives on a day by all, none, or some -/
def toldM (ns : List Int) (d : Int) : V := if (ns.any fun e => decide (d ≤ e)) = true ∧ (ns.any fun e => !decide (d ≤ e)) = true then .non else .bl (ns.any fun e => decide (d ≤ e))
def spTold (K : PySem.W.Frag) : Sp := fun vs H Q _ => ∃ (t : Addr) (ns : List Int) (d : Int), vs = [.ref t, .int d] ∧ SqT K H t (ns.map V.int) ∧ ns.length ≤ 64 ∧ ∀ H', Same H H' → Q (toldM ns d) H'
def spSurely (K : PySem.W.Frag) : Sp := fun vs H Q _ => ∃ (ra a : Addr) (R : Rl) (us : List Us) (d : Int), vs = [.ref ra, .ref a, .int d] ∧ RuleAt K H ra R ∧ RlOk R ∧ UnsureAt K H a us ∧ UssOk us ∧
  ∀ H' (ns : List Int), Same H H' → (∀ k, k ∈ ns ↔ ∃ c ∈ choicesM us, k = lapseC R us c) → Q (toldM ns d) H'
section
variable {P : Program} {w : World} {K : PySem.W.Frag} {mg : Str → Option Value} {base : Heap}
theorem G_ends_by_choice (T : Txt P w K mg) : Cal P w K mg base 8 "ends_by_choice" (spEnds P w K) [] := by
  have G_choices := G_choices (P := P) (w := w) (base := base) T
  have G_filled := G_filled (P := P) (w := w) (base := base) T
  have G_lapse := G_lapse (P := P) (w := w) (base := base) T
  refine calN T.d_ends_by_choice T.g_ends_by_choice sc_ends_by_choice (fun _ _ _ _ _ _ us hl => match us, hl with | [_, _], _ => rfl) (fun vs H Q E h => ?_) (fun cdv A outer s H vs Q E hr h => ?_)
  · obtain ⟨ra, a, R, us, rfl, _⟩ := h
    rfl
  · obtain ⟨ra, a, R, us, rfl, hR, rok, hU, ok, k⟩ := h
    refine ⟨_, (pss_one (ps_ret (pe_ndc (hu9 hr) (own := [("some", 2)]) (by rfl) sc_ends_by_choice.nd (pi_list (pe_c G_choices hr (by decide) (by rfl) (pa_cons (pv 1) pa_nil))) (blkOk_by (N := n_ends_by_choice) (sc := defScope s_ends_by_choice) (by decide +kernel)) (fun _ _ _ _ _ => (pg_name (i := 2) sc_ends_by_choice.nd rfl (Or.inl rfl))) (fun _ _ _ _ _ => pts_nil) (fun _ _ _ _ _ => (pv 2)) (fun _ _ _ _ _ => (pe_c G_lapse hr (by decide) (by rfl) (pa_cons (pv 0) (pa_cons (pe_c G_filled hr (by decide) (by rfl) (pa_cons (pv 1) (pa_cons (pv 2) pa_nil))) pa_nil))))))), ?_⟩
    refine ⟨_, rfl, a, us, rfl, hU, ok, fun H1 l ys s1 hl hys => ?_⟩
    have hcl := choices_cnt ok
    refine ⟨l, rfl, ⟨_, SqL.of hl⟩, fun D hD => ?_⟩
    refine ndc_it (walk_list (K := K) (a := l) (xs := ys)) (fun i H' => Same H1 H' ∧ ∃ es, H' D = some (ndO P w D es) ∧ LsAt K H' (lapseC R us) (choicesM us) i es)
      ⟨sm_new hD, [], upd_same, ⟨(fun e he => nomatch he), (fun j c hj => absurd hj (Nat.not_lt_zero _)), Nat.le_refl _⟩⟩ (fun i H' _ q => SqL.of (q.1 _ _ hl)) ?_ ?_
    · rintro i v H3 H4 hi ⟨s3, es, hD3, hes⟩ ⟨rfl, hv⟩
      obtain ⟨p, c, rfl, hc, hp⟩ := hys.at_ hv
      have hmem := List.mem_of_getElem? hc
      have s03 := s1.trans s3
      refine ⟨rfl, ?_⟩
      refine ⟨_, rfl, _, rfl, _, rfl, _, rfl, a, p, us, c, rfl, hU.mono (SameI.of s03), ok, SqT.of (s3 _ _ hp), choices_len hmem, choices_pos ok c hmem, fun H5 b s5 hb => ?_⟩
      have hfo := filledM_ok ok (choices_len hmem) (choices_pos ok c hmem)
      refine ⟨ra, b, R, _, rfl, hR.mono (SameI.of (s03.trans s5)), rok, hb, by have := hfo.len; omega, fun H6 s6 => ?_⟩
      have s36 := s5.trans s6
      have hD6 := s36 _ _ hD3
      have hes6 := hes.mono s36
      have hk : NkAt K H6 (keyI c) (.ref p) := .tup (SqT.of (s36 _ _ (s3 _ _ hp))) (nk_ints c)
      refine ⟨es, keyI c, p, rfl, hD6, hes6.keys, hk, depth_keyI c, ?_, sm_to (s3.trans s36) hD, _, upd_same, LsAt.mono (sm_to (sm_dlH H6 D) dlH_no) (LsAt.put (hes6.dl hD6) hc (NkAt.dl hD6 _ _ hk))⟩
      have h1 := hes.len
      have h2 : i < (choicesM us).length := (List.getElem?_eq_some_iff.mp hc).1
      exact Nat.lt_of_le_of_lt (show es.length ≤ 64 by omega) (by decide)
    · rintro H3 ⟨s3, es, hD3, hes⟩
      rw [hys.1] at hes
      exact k _ D es (s1.trans s3) hD3 hes
theorem G_lapses (T : Txt P w K mg) : Cal P w K mg base 9 "lapses" (spLapses K) [] := by
  have G_ends_by_choice := G_ends_by_choice (P := P) (w := w) (base := base) T
  refine calN T.d_lapses T.g_lapses sc_lapses (fun _ _ _ _ _ _ us hl => match us, hl with | [_, _], _ => rfl) (fun vs H Q E h => ?_) (fun cdv A outer s H vs Q E hr h => ?_)
  · obtain ⟨ra, a, R, us, rfl, _⟩ := h
    rfl
  · obtain ⟨ra, a, R, us, rfl, hR, rok, hU, ok, k⟩ := h
    refine ⟨_, (pss_one (ps_ret (pe_callTy call_tuple_of (by rfl) T.b_tuple boot_tuple (pa_cons (pe_callB (cr_sortedSI rfl hr.units) (by rfl) T.b_sorted boot_sorted (pa_cons (pe_callTy (cr_setLI rfl) (by rfl) T.b_set boot_set (pa_cons (pe_callTy (cr_lstVals rfl) (by rfl) T.b_list boot_list (pa_cons (pe_ndvals (pe_c G_ends_by_choice hr (by decide) (by rfl) (pa_cons (pv 0) (pa_cons (pv 1) pa_nil)))) pa_nil)) pa_nil)) pa_nil)) pa_nil)))), ?_⟩
    have hcl := choices_cnt ok
    refine ⟨_, rfl, _, rfl, ra, a, R, us, rfl, hR, rok, hU, ok, fun H1 D es s1 hD hes => ?_⟩
    refine ⟨D, es, rfl, hD, fun p hp => ?_⟩
    have sp := sm_new (o := valsO p D) hp
    refine ⟨p, D, es, rfl, upd_same, sp _ _ hD, fun l hl => ?_⟩
    have sl := sm_new (o := HO.lst (es.map fun x => x.2.2)) hl
    have ev : (es.map fun x => x.2.2) = (es.map fun e => lapseC R us (unIs e.1)).map V.int := by
      rw [List.map_map]
      refine List.map_congr_left fun e he => ?_
      obtain ⟨j, c, _, _, h3, h4, _⟩ := hes.ent e he
      rw [h4]
      show V.int _ = V.int (lapseC R us (unIs e.1))
      rw [h3, unIs_key]
    generalize hns : (es.map fun e => lapseC R us (unIs e.1)) = ns at ev
    have nl : ns.length = es.length := by rw [← hns, List.length_map]
    have el := hes.len
    refine ⟨l, ns, rfl, SqL.of (by rw [← ev]; exact upd_same), by omega, fun q n hq hn => ?_⟩
    have sq := sm_new (o := SetO w q (fun j => decide (j ∈ ns)) n) hq
    refine ⟨q, _, n, rfl, upd_same, by omega, fun ms r hpw hmem hlen hr => ?_⟩
    have sr := sm_new (o := HO.lst (ms.map V.int)) hr
    refine ⟨r, _, rfl, .inl ⟨SqL.of upd_same, fun t ht => ?_⟩⟩
    have st := sm_new (o := HO.tup (ms.map V.int)) ht
    refine k _ t ms (s1.trans ((((sp.trans sl).trans sq).trans sr).trans st)) upd_same hpw (fun z => ?_) (by omega)
    rw [hmem z, decide_eq_true_eq]
    have hz : z ∈ ns ↔ V.int z ∈ ns.map V.int := by
      rw [List.mem_map]
      constructor
      · exact fun h => ⟨z, h, rfl⟩
      · rintro ⟨y, hy, e⟩
        injection e with e
        rw [← e]
        exact hy
    rw [hz, ← ev, List.mem_map]
    constructor
    · rintro ⟨e, he, e1⟩
      obtain ⟨j, c, _, hc, _, h4, _⟩ := hes.ent e he
      rw [h4] at e1
      injection e1 with e1
      exact ⟨c, List.mem_of_getElem? hc, e1.symm⟩
    · rintro ⟨c, hc, rfl⟩
      obtain ⟨j, hj⟩ := List.getElem?_of_mem hc
      obtain ⟨x, hx, ex⟩ := List.mem_map.mp (hes.all j c (List.getElem?_eq_some_iff.mp hj).1 hj)
      obtain ⟨_, c', _, _, h3, h4, _⟩ := hes.ent x hx
      rw [h3] at ex
      have := keyI_inj ex
      exact ⟨x, hx, by rw [h4, this]⟩
theorem inV_bl (f : Int → Bool) (b : Bool) (ns : List Int) : inV (.bl b) ((List.range ns.length).map fun i => V.bl (f (ns.getD i 0))) = ns.any fun e => f e == b := by
  unfold inV
  rw [Bool.eq_iff_iff, List.any_eq_true, List.any_eq_true]
  constructor
  · rintro ⟨y, hy, e⟩
    obtain ⟨i, hi, rfl⟩ := List.mem_map.mp hy
    have hi' := List.mem_range.mp hi
    refine ⟨ns[i], List.getElem_mem hi', ?_⟩
    rw [List.getD_eq_getElem?_getD, List.getElem?_eq_getElem hi'] at e
    exact e
  · rintro ⟨e, he, h⟩
    obtain ⟨i, hi⟩ := List.getElem?_of_mem he
    have hi' := (List.getElem?_eq_some_iff.mp hi).1
    refine ⟨_, List.mem_map.mpr ⟨i, List.mem_range.mpr hi', rfl⟩, ?_⟩
    rw [List.getD_eq_getElem?_getD, hi]
    exact h
theorem flat_bl (f : Nat → Bool) (n : Nat) : ((List.range n).map fun i => V.bl (f i)).all flatV = true := by
  rw [List.all_eq_true]
  intro y hy
  obtain ⟨i, _, rfl⟩ := List.mem_map.mp hy
  rfl
theorem G_told_of (T : Txt P w K mg) : Cal P w K mg base 1 "told_of" (spTold K) [] := by
  refine calN T.d_told_of T.g_told_of sc_told_of (fun _ _ _ _ _ _ us hl => match us, hl with | [_, _], _ => rfl) (fun vs H Q E h => ?_) (fun cdv A outer s H vs Q E hr h => ?_)
  · obtain ⟨t, ns, d, rfl, _⟩ := h
    rfl
  · obtain ⟨t, ns, d, rfl, ht, hl, k⟩ := h
    refine ⟨_, (pss_cons (ps_setLc (i := 2)  (own := [("end", 3)]) (by rfl) sc_told_of.nd rfl rfl (sw_true rfl rfl rfl (by decide +kernel)) (pi_tup (pv 0)) (blkOk_by (N := n_told_of) (sc := defScope s_told_of) (by decide +kernel)) (fun _ _ _ _ _ => (pg_name (i := 3) sc_told_of.nd rfl (Or.inl rfl))) (fun _ _ _ _ _ => pts_nil) (fun _ _ _ _ _ => (pe_cmpR op_le (pv 1) (pv 3) (nomark _))))
      (pss_one (ps_ret (pe_ifExp (PW.pt (pw_and (pt_cmpR op_in_seq pe_bl (pv 2) (by rfl)) (pw_and1 (pt_cmpR op_in_seq pe_bl (pv 2) (by rfl))))) pe_non (pe_cmpR op_in_seq pe_bl (pv 2) (by rfl)))))), ?_⟩
    refine ⟨_, rfl, t, rfl, ⟨_, ht⟩, fun D hD => ?_⟩
    refine lc_fn (walk_tup (K := K) (a := t) (xs := ns.map V.int)) hD (fun H' s => sm_seqT s ht) (by rw [List.length_map]; omega) (fun i => .bl (decide (d ≤ ns.getD i 0))) ?_ ?_
    · rintro i v H3 H4 hi s3 ⟨rfl, hv⟩ k2 hk
      rw [List.getElem?_map] at hv
      obtain ⟨e, he, rfl⟩ := Option.map_eq_some_iff.mp hv
      refine ⟨rfl, ?_⟩
      refine ⟨_, rfl, _, rfl, d, e, rfl, rfl, ?_⟩
      have := hk _ (fun _ _ e => e)
      rw [List.getD_eq_getElem?_getD, he] at this
      exact this
    intro H3 s3 h3
    rw [List.length_map] at h3
    have hT : (ns.any fun e => decide (d ≤ e) == true) = ns.any fun e => decide (d ≤ e) := by congr 1; funext e; simp
    have hF : (ns.any fun e => decide (d ≤ e) == false) = ns.any fun e => !decide (d ≤ e) := by congr 1; funext e; simp
    have iT := (inV_bl (fun e => decide (d ≤ e)) true ns).trans hT
    have iF := (inV_bl (fun e => decide (d ≤ e)) false ns).trans hF
    have hf := flat_bl (fun i => decide (d ≤ ns.getD i 0)) ns.length
    have q := k _ s3
    unfold toldM at q
    generalize ((List.range ns.length).map fun i => V.bl (decide (d ≤ ns.getD i 0))) = L at *
    generalize (ns.any fun e => decide (d ≤ e)) = x1 at *
    generalize (ns.any fun e => !decide (d ≤ e)) = x2 at *
    refine ⟨_, rfl, D, L, rfl, .inl (SqL.of h3), rfl, hf, _, rfl, ?_⟩
    cases x1
    · refine itF iT ?_
      refine iteF ?_
      refine ⟨_, rfl, D, L, rfl, .inl (SqL.of h3), rfl, hf, ?_⟩
      rw [if_neg (fun h => nomatch h.1)] at q
      rw [if_neg (by decide), iT]
      exact q
    · refine itT iT ?_
      refine ⟨_, rfl, D, L, rfl, .inl (SqL.of h3), rfl, hf, _, rfl, ?_⟩
      cases x2
      · refine itF iF ?_
        refine ⟨_, rfl, D, L, rfl, .inl (SqL.of h3), rfl, hf, ?_⟩
        rw [if_neg (fun h => nomatch h.2)] at q
        rw [if_neg (by decide), iT]
        exact q
      · refine itT iF ?_
        rw [if_pos ⟨rfl, rfl⟩] at q
        exact q
theorem G_surely (T : Txt P w K mg) : Cal P w K mg base 10 "surely" (spSurely K) [] := by
  have G_lapses := G_lapses (P := P) (w := w) (base := base) T
  have G_told_of := G_told_of (P := P) (w := w) (base := base) T
  refine calN T.d_surely T.g_surely sc_surely (fun _ _ _ _ _ _ us hl => match us, hl with | [_, _, _], _ => rfl) (fun vs H Q E h => ?_) (fun cdv A outer s H vs Q E hr h => ?_)
  · obtain ⟨ra, a, R, us, d, rfl, _⟩ := h
    rfl
  · obtain ⟨ra, a, R, us, d, rfl, hR, rok, hU, ok, k⟩ := h
    refine ⟨_, (pss_one (ps_ret (pe_c G_told_of hr (by decide) (by rfl) (pa_cons (pe_c G_lapses hr (by decide) (by rfl) (pa_cons (pv 0) (pa_cons (pv 1) pa_nil))) (pa_cons (pv 2) pa_nil))))), ?_⟩
    refine ⟨_, rfl, _, rfl, ra, a, R, us, rfl, hR, rok, hU, ok, fun H1 t ns s1 ht hpw hmem hl => ?_⟩
    exact ⟨_, rfl, t, ns, d, rfl, SqT.of ht, hl, fun H2 s2 => k _ ns (s1.trans s2) hmem⟩
end
end Ts
set_option maxHeartbeats 4000000
namespace Ts
open PySem PySem.Spec PyProof.Rows L2 C8 He
/-! ### the source of draws -/
structure DealAt (H : Hp) (d l : Addr) : Prop where
  ne : d ≠ l
  dd : ∃ b : Int, H d = some (.lst [.ref l, .int b])
  ll : ∃ ns : List Int, ns.length ≤ 63 ∧ H l = some (.lst (ns.map V.int))
/-- all but the source is as it was -/
def SD (d l : Addr) (H H' : Hp) : Prop := ∀ b o, H b = some o → b ≠ d → b ≠ l → H' b = some o
theorem SD.of {d l : Addr} {H H' : Hp} (s : Same H H') : SD d l H H' := fun b o e _ _ => s b o e
theorem SD.refl (d l : Addr) (H : Hp) : SD d l H H := fun _ _ e _ _ => e
theorem SD.trans {d l : Addr} {H H1 H2 : Hp} (a : SD d l H H1) (b : SD d l H1 H2) : SD d l H H2 := fun c o e h1 h2 => b c o (a c o e h1 h2) h1 h2
theorem SD.I {d l : Addr} {H H' : Hp} (D : DealAt H d l) (s : SD d l H H') : SameI H H' := fun b o e h => by
  refine s b o e (fun z => ?_) (fun z => ?_)
  · obtain ⟨x, hx⟩ := D.dd
    rw [z, hx] at e
    cases e
    cases h
  · obtain ⟨x, _, hx⟩ := D.ll
    rw [z, hx] at e
    cases e
    cases h
theorem SD.d {d l : Addr} {H H' : Hp} (s : SD d l H H') (o : HO) : SD d l H (upd H' d o) := fun b u e h1 h2 => by
  rw [upd_ne h1]
  exact s b u e h1 h2
theorem SD.l {d l : Addr} {H H' : Hp} (s : SD d l H H') (o : HO) : SD d l H (upd H' l o) := fun b u e h1 h2 => by
  rw [upd_ne h2]
  exact s b u e h1 h2
theorem DealAt.same {d l : Addr} {H H' : Hp} (s : Same H H') (D : DealAt H d l) : DealAt H' d l := ⟨D.ne, let ⟨b, h⟩ := D.dd; ⟨b, s _ _ h⟩, let ⟨ns, h1, h⟩ := D.ll; ⟨ns, h1, s _ _ h⟩⟩
theorem SD.new {d l p : Addr} {H H' : Hp} {o : HO} (s : SD d l H H') (h : H' p = none) : SD d l H (upd H' p o) := s.trans (.of (sm_new h))
theorem ite_any {c : Bool} {A B : Prop} (a : c = true → A) (b : c = false → B) : if c = true then A else B := by
  cases c
  · exact iteF (b rfl)
  · exact itT rfl (a rfl)
theorem dpI (K : PySem.W.Frag) (H : Hp) : ∀ l : List Int, DpAll K H (l.map V.int) (l.map PyData.int)
  | [] => .nil
  | x :: l => .cons (.int x) (dpI K H l)
theorem layI : ∀ l : List Int, PyData.canLayAll0 (l.map PyData.int) = true
  | [] => rfl
  | x :: l => by
    show (true && PyData.canLayAll0 (l.map PyData.int)) = true
    rw [layI l]
    rfl
theorem depI : ∀ l : List Int, PyData.depthAll (l.map PyData.int) = 0
  | [] => rfl
  | x :: l => by
    show max 0 (PyData.depthAll (l.map PyData.int)) = 0
    rw [depI l]
    rfl
theorem shI (l : List Int) : SeqAt.shaped (.list (l.map PyData.int)) = true := by
  show (PyData.canLayAll0 (l.map PyData.int) && decide (PyData.depthAll (l.map PyData.int) + 1 ≤ 64)) = true
  rw [layI l, depI l]
  rfl
theorem eqI : ∀ a b : List Int, PyData.eqvAll (a.map PyData.int) (b.map PyData.int) = decide (a = b)
  | [], [] => rfl
  | [], _ :: _ => rfl
  | _ :: _, [] => rfl
  | x :: xs, y :: ys => by
    show ((x == y) && PyData.eqvAll (xs.map PyData.int) (ys.map PyData.int)) = _
    rw [eqI xs ys, Bool.eq_iff_iff]
    simp
theorem emp_ne (a : List PyData) : (!PyData.eqv (.list a) (.list [])) = !a.isEmpty := by
  cases a <;> rfl
theorem atI_neg1 {α : Type} {xs : List α} {v : α} (h : xs[xs.length - 1]? = some v) : atI xs (-1) = some v := by
  have hl : xs.length - 1 < xs.length := (List.getElem?_eq_some_iff.mp h).1
  have e : ixN xs.length (-1) = some (xs.length - 1) := by
    unfold ixN
    rw [if_neg (by decide), if_pos (by omega)]
    congr 1
    omega
  unfold atI
  rw [e]
  exact h
theorem last_int {ns : List Int} (h : ns ≠ []) : ∃ z : Int, (ns.map V.int)[(ns.map V.int).length - 1]? = some (.int z) := by
  have h0 : 0 < ns.length := List.length_pos_iff.mpr h
  have hi : ns.length - 1 < ns.length := by omega
  exact ⟨ns[ns.length - 1], by rw [List.length_map, List.getElem?_map, List.getElem?_eq_getElem hi]; rfl⟩
theorem map_dropLast' (ns : List Int) : (ns.map V.int).dropLast = (ns.dropLast).map V.int := List.map_dropLast.symm
def spDraw : Sp := fun vs H Q _ => ∃ (d l : Addr) (n : Int), vs = [.ref d, .int n] ∧ DealAt H d l ∧ 1 ≤ n ∧ n < 1000000 ∧ ∀ H' v, SD d l H H' → DealAt H' d l → 0 ≤ v → v < n → Q (.int v) H'
def spPick : Sp := fun vs H Q _ => ∃ (d l a : Addr) (ys : List V), vs = [.ref d, .ref a] ∧ DealAt H d l ∧ H a = some (.lst ys) ∧ a ≠ d ∧ a ≠ l ∧ 1 ≤ ys.length ∧ ys.length < 1000 ∧ ∀ H' v, SD d l H H' → DealAt H' d l → v ∈ ys → Q v H'
/-- a list of texts, reordered -/
def spMixed : Sp := fun vs H Q _ => ∃ (d l a : Addr) (ys : List Str), vs = [.ref d, .ref a] ∧ DealAt H d l ∧ H a = some (.lst (ys.map V.str)) ∧ a ≠ d ∧ a ≠ l ∧ ys.length < 60 ∧ (∀ x ∈ ys, PySem.PyData.strOk x = true) ∧
  ∀ H' p (zs : List Str), SD d l H H' → DealAt H' d l → zs.Perm ys → H' p = some (.lst (zs.map V.str)) → p ≠ d → p ≠ l → Q (.ref p) H'
section
variable {P : Program} {w : World} {K : PySem.W.Frag} {mg : Str → Option Value} {base : Heap}
theorem G_u_law_draw (T : Txt P w K mg) : Cal P w K mg base 1 "_law_draw" spDraw [] := by
  refine calN T.d_u_law_draw T.g_u_law_draw sc_u_law_draw (fun _ _ _ _ _ _ us hl => match us, hl with | [_, _], _ => rfl) (fun vs H Q E h => ?_) (fun cdv A outer s H vs Q E hr h => ?_)
  · obtain ⟨d, l, n, rfl, _⟩ := h
    rfl
  · obtain ⟨d, l, n, rfl, D, n1, n2, k⟩ := h
    refine ⟨_, (pss_cut (ps_while PassesOwn.never (PW.pt (pw_and (pt_cmpR (op_neD hr.units) (pe_ix ix_list (pv 0) pe_int (fun _ _ => rfl)) (pe_lst pa_nil) (nomark _)) (pw_and1 (pt_cmpR op_eq (pe_ix ix_list (pe_ix ix_list (pv 0) pe_int (fun _ _ => rfl)) (pe_un un_neg pe_int) (fun _ _ => rfl)) pe_int (nomark _))))) (pss_one (ps_expr (pe_bm0 PySem.F.plainAttrs_list PySem.F.slot_list_pop PySem.F.type_list_pop mt_pop (pe_ix ix_list (pv 0) pe_int (fun _ _ => rfl))))))
      (pss_cons (ps_if (pt_cmpR (op_neD hr.units) (pe_ix ix_list (pv 0) pe_int (fun _ _ => rfl)) (pe_lst pa_nil) (nomark _)) (pss_cons (ps_set (i := 2) sc_u_law_draw.nd rfl (Or.inl rfl) (pe_bm0 PySem.F.plainAttrs_list PySem.F.slot_list_pop PySem.F.type_list_pop mt_pop (pe_ix ix_list (pv 0) pe_int (fun _ _ => rfl))))
      (pss_cons (ps_expr (pe_bm PySem.F.plainAttrs_list PySem.F.slot_list_append PySem.F.type_list_append mt_append (pe_ix ix_list (pv 0) pe_int (fun _ _ => rfl)) (pa_cons (pe_op op_fdiv (pv 2) (pv 1)) pa_nil)))
      (pss_one (ps_ret (pe_op op_mod (pe_callTy call_int1 (by rfl) T.b_int boot_int (pa_cons (pv 2) pa_nil)) (pv 1)))))) pss_nil)
      (pss_cons (ps_asg (pe_op op_mod (pe_callTy call_int1 (by rfl) T.b_int boot_int (pa_cons (pe_op op_add (pe_op op_mul (pe_ix ix_list (pv 0) pe_int (fun _ _ => rfl)) pe_int) pe_int) pa_nil)) pe_int) (pg_sub (pv 0) pe_int set_list))
      (pss_one (ps_ret (pe_op op_mod (pe_callTy call_int1 (by rfl) T.b_int boot_int (pa_cons (pe_op op_fdiv (pe_ix ix_list (pv 0) pe_int (fun _ _ => rfl)) pe_int) pa_nil)) (pv 1))))))), ?_⟩
    obtain ⟨b0, hd0⟩ := D.dd
    obtain ⟨ns0, hn0, hl0⟩ := D.ll
    refine ⟨fun σ' H' => σ' = [some (.ref d), some (.int n), none] ∧ SD d l H H' ∧ DealAt H' d l, ?_, ?_⟩
    · refine ⟨fun m σ H' => ∃ ns : List Int, m = ns.length ∧ ns.length ≤ 63 ∧ σ = [some (.ref d), some (.int n), none] ∧ SD d l H H' ∧ H' d = some (.lst [.ref l, .int b0]) ∧ H' l = some (.lst (ns.map V.int)), ⟨_, ns0, rfl, hn0, rfl, SD.refl d l H, hd0, hl0⟩, ?_⟩
      rintro m σ H3 ⟨ns, rfl, hn, rfl, s3, hd, hl⟩
      refine ⟨_, rfl, d, _, 0, _, rfl, rfl, SqL.of hd, atI_nat (j := 0) rfl, Nat.zero_le _, fun e he => ?_⟩
      have hd' := sm_new (o := HO.lst []) he _ _ hd
      have hl' := sm_new (o := HO.lst []) he _ _ hl
      have s3' := s3.new (o := HO.lst []) he
      refine ⟨.list (ns.map .int), .list [], .lst (SqL.of hl') (dpI K _ ns), .lst (SqL.of upd_same) .nil, shI ns, rfl, _, congrArg V.bl (emp_ne _), ?_⟩
      have aft : DealAt (upd H3 e (.lst [])) d l := ⟨D.ne, ⟨b0, hd'⟩, ns, hn, hl'⟩
      cases hns : ns with
      | nil => exact iteF (iteF ⟨rfl, s3', aft⟩)
      | cons x xs =>
        rw [hns] at hl' hn
        refine itT rfl ?_
        obtain ⟨z, hz⟩ := last_int (ns := x :: xs) (fun h => nomatch h)
        refine ⟨_, rfl, d, _, 0, _, rfl, rfl, SqL.of hd', atI_nat (j := 0) rfl, 1, rfl, l, _, -1, _, rfl, rfl, SqL.of hl', atI_neg1 hz, ?_⟩
        refine ⟨rfl, _, rfl, ?_⟩
        refine ite_any (fun _ => ?_) fun _ => ⟨rfl, s3', aft⟩
        refine ⟨_, fun _ _ h => h, _, rfl, d, _, 0, _, rfl, rfl, SqL.of hd', atI_nat (j := 0) rfl, .inl ⟨rfl, _, SqL.of hl'⟩, l, _, _, rfl, rfl, hl', hz, ?_⟩
        refine ⟨xs.length, by simp, (x :: xs).dropLast, by simp, by simp at hn ⊢; omega, rfl, s3'.l _, ?_, ?_⟩
        · rw [upd_ne D.ne]
          exact hd'
        · rw [upd_same, map_dropLast']
    · rintro σ' H3 ⟨rfl, s3, D3⟩
      obtain ⟨b1, hd⟩ := D3.dd
      obtain ⟨ns, hn, hl⟩ := D3.ll
      refine ⟨_, rfl, d, _, 0, _, rfl, rfl, SqL.of hd, atI_nat (j := 0) rfl, Nat.zero_le _, fun e he => ?_⟩
      have hd' := sm_new (o := HO.lst []) he _ _ hd
      have hl' := sm_new (o := HO.lst []) he _ _ hl
      have s3' := s3.new (o := HO.lst []) he
      refine ⟨.list (ns.map .int), .list [], .lst (SqL.of hl') (dpI K _ ns), .lst (SqL.of upd_same) .nil, shI ns, rfl, _, congrArg V.bl (emp_ne _), ?_⟩
      cases hns : ns with
      | nil =>
        refine iteF ?_
        refine ⟨_, rfl, d, _, 1, _, rfl, rfl, SqL.of hd', atI_nat (j := 1) rfl, b1, 48271, rfl, rfl, Or.inr ⟨by decide, by decide⟩, _, 11, rfl, rfl, .inl ⟨_, rfl, _, 2147483647, rfl, rfl, (show (0 : Int) < 2147483647 by decide), ?_⟩⟩
        refine ⟨_, rfl, d, _, 1, 1, rfl, rfl, hd', rfl, ?_⟩
        have s4 := s3'.d (.lst [.ref l, .int ((b1 * 48271 + 11) % 2147483647)])
        refine ⟨_, rfl, d, _, 1, _, rfl, rfl, SqL.of upd_same, atI_nat (j := 1) rfl, _, 8, rfl, rfl, ⟨by decide, by decide⟩, .inl ⟨_, rfl, _, rfl, _, n, rfl, rfl, (show 0 < n by omega), ?_⟩⟩
        refine k _ _ s4 ⟨D.ne, ⟨_, upd_same⟩, ns, hn, ?_⟩ (Int.emod_nonneg _ (by omega)) (Int.emod_lt_of_pos _ (by omega))
        rw [upd_ne D.ne.symm]
        exact hl'
      | cons x xs =>
        rw [hns] at hl' hn
        refine itT rfl ?_
        obtain ⟨z, hz⟩ := last_int (ns := x :: xs) (fun h => nomatch h)
        refine ⟨_, rfl, d, _, 0, _, rfl, rfl, SqL.of hd', atI_nat (j := 0) rfl, .inl ⟨rfl, _, SqL.of hl'⟩, l, _, _, rfl, rfl, hl', hz, ?_⟩
        have s4 := s3'.l (.lst ((x :: xs).map V.int).dropLast)
        have hd4 : (upd (upd H3 e (.lst [])) l (.lst ((x :: xs).map V.int).dropLast)) d = some (.lst [.ref l, .int b1]) := by
          rw [upd_ne D.ne]
          exact hd'
        refine ⟨_, rfl, d, _, 0, _, rfl, rfl, SqL.of hd4, atI_nat (j := 0) rfl, .inl ⟨rfl, _, SqL.of upd_same⟩, _, rfl, _, rfl, _, n, rfl, rfl, ⟨by omega, by omega⟩, ?_⟩
        refine ⟨l, _, _, rfl, rfl, upd_same, ?_, ?_⟩
        · refine Nat.lt_of_le_of_lt (m := 63) ?_ (by decide)
          rw [List.length_dropLast, List.length_map]
          omega
        have s5 := s4.l (.lst (((x :: xs).map V.int).dropLast ++ [.int (z / n)]))
        refine ⟨_, rfl, .inl ⟨_, rfl, _, rfl, _, n, rfl, rfl, (show 0 < n by omega), ?_⟩⟩
        refine k _ _ s5 ⟨D.ne, ⟨b1, ?_⟩, (x :: xs).dropLast ++ [z / n], by simp at hn ⊢; omega, ?_⟩ (Int.emod_nonneg _ (by omega)) (Int.emod_lt_of_pos _ (by omega))
        · rw [upd_ne D.ne]
          exact hd4
        · rw [upd_same, map_dropLast', List.map_append]
          rfl
end
end Ts
set_option maxHeartbeats 4000000
namespace Ts
open PySem PySem.Spec PyProof.Rows L2 C8 He
theorem ixN_of {n : Nat} {v : Int} (h0 : 0 ≤ v) (h1 : v < n) : ixN n v = some v.toNat := by
  unfold ixN
  rw [if_pos h0, if_pos h1]
theorem atI_of {α : Type} {xs : List α} {v : Int} (h0 : 0 ≤ v) (h1 : v < xs.length) : ∃ z, xs[v.toNat]? = some z ∧ atI xs v = some z := by
  have hi : v.toNat < xs.length := by omega
  refine ⟨xs[v.toNat], List.getElem?_eq_getElem hi, ?_⟩
  unfold atI
  rw [ixN_of h0 h1]
  exact List.getElem?_eq_getElem hi
theorem shT {l : List Str} (h : ∀ x ∈ l, PySem.PyData.strOk x = true) : SeqAt.shaped (.list (l.map PyData.str)) = true := shS h
theorem map_eraseIdx' : ∀ (xs : List Str) (k : Nat), (xs.map V.str).eraseIdx k = (xs.eraseIdx k).map V.str
  | [], k => by simp
  | x :: xs, 0 => by simp
  | x :: xs, k + 1 => by
    have ih := map_eraseIdx' xs k
    simp [ih]
theorem perm_erase {α : Type} : ∀ {xs : List α} {k : Nat} {y : α}, xs[k]? = some y → (y :: xs.eraseIdx k).Perm xs
  | [], _, _, h => by simp at h
  | x :: xs, 0, y, h => by
    have e : x = y := by simpa using h
    rw [e]
    exact List.Perm.refl _
  | x :: xs, k + 1, y, h => by
    have ih := perm_erase (xs := xs) (k := k) (y := y) (by simpa using h)
    exact (List.Perm.swap x y _).trans (List.Perm.cons x ih)
section
variable {P : Program} {w : World} {K : PySem.W.Frag} {mg : Str → Option Value} {base : Heap}
theorem G_u_law_pick (T : Txt P w K mg) : Cal P w K mg base 2 "_law_pick" spPick [] := by
  have G_u_law_draw := G_u_law_draw (P := P) (w := w) (base := base) T
  refine calN T.d_u_law_pick T.g_u_law_pick sc_u_law_pick (fun _ _ _ _ _ _ us hl => match us, hl with | [_, _], _ => rfl) (fun vs H Q E h => ?_) (fun cdv A outer s H vs Q E hr h => ?_)
  · obtain ⟨d, l, a, ys, rfl, _⟩ := h
    rfl
  · obtain ⟨d, l, a, ys, rfl, D, ha, n1, n2, y1, y2, k⟩ := h
    refine ⟨_, (pss_one (ps_ret (pe_ix ix_list (pv 1) (pe_c G_u_law_draw hr (by decide) (by rfl) (pa_cons (pv 0) (pa_cons (pe_callB call_len_seq (by rfl) T.b_len boot_len (pa_cons (pv 1) pa_nil)) pa_nil))) (fun _ _ => rfl)))), ?_⟩
    refine ⟨_, rfl, _, rfl, _, rfl, a, ys, rfl, .inl (SqL.of ha), d, l, _, rfl, D, by omega, by omega, fun H' v s D' v0 vn => ?_⟩
    obtain ⟨z, hz, e⟩ := atI_of v0 vn
    exact ⟨a, ys, v, z, rfl, rfl, SqL.of (s _ _ ha n1 n2), e, k _ _ s D' (List.mem_of_getElem? hz)⟩
theorem G_u_law_mixed (T : Txt P w K mg) : Cal P w K mg base 2 "_law_mixed" spMixed [] := by
  have G_u_law_draw := G_u_law_draw (P := P) (w := w) (base := base) T
  refine calN T.d_u_law_mixed T.g_u_law_mixed sc_u_law_mixed (fun _ _ _ _ _ _ us hl => match us, hl with | [_, _], _ => rfl) (fun vs H Q E h => ?_) (fun cdv A outer s H vs Q E hr h => ?_)
  · obtain ⟨d, l, a, ys, rfl, _⟩ := h
    rfl
  · obtain ⟨d, l, a, ys, rfl, D, ha, n1, n2, y2, sok, k⟩ := h
    refine ⟨_, (pss_cons (ps_par (i := 2) (j := 3) (by rfl) sc_u_law_mixed.nd rfl rfl (by decide) rfl rfl (pa_cons (pe_callTy call_list_of (by rfl) T.b_list boot_list (pa_cons (pv 1) pa_nil)) (pa_cons (pe_lst pa_nil) pa_nil)) (by rfl))
      (pss_cons (ps_while PassesOwn.never (pt_cmpR (op_neD hr.units) (pv 2) (pe_lst pa_nil) (nomark _)) (pss_one (ps_expr (pe_bm PySem.F.plainAttrs_list PySem.F.slot_list_append PySem.F.type_list_append mt_append (pv 3) (pa_cons (pe_bm PySem.F.plainAttrs_list PySem.F.slot_list_pop PySem.F.type_list_pop mt_popAt (pv 2) (pa_cons (pe_c G_u_law_draw hr (by decide) (by rfl) (pa_cons (pv 0) (pa_cons (pe_callB call_len_seq (by rfl) T.b_len boot_len (pa_cons (pv 2) pa_nil)) pa_nil))) pa_nil)) pa_nil)))))
      (pss_one (ps_ret (pv 3))))), ?_⟩
    obtain ⟨b0, hd0⟩ := D.dd
    obtain ⟨ns0, hn0, hl0⟩ := D.ll
    refine ⟨_, rfl, a, _, rfl, .inl (SqL.of ha), fun lf hlf => ?_⟩
    have sf := sm_new (o := HO.lst (ys.map V.str)) hlf
    refine ⟨Nat.zero_le _, fun fd hfd => ?_⟩
    have sg := sm_new (o := HO.lst []) hfd
    have s2 := sf.trans sg
    have lfd : lf ≠ fd := fun z => by rw [← z, upd_same] at hfd; cases hfd
    have nf1 : lf ≠ d := (ne_of_none hd0 hlf).symm
    have nf2 : lf ≠ l := (ne_of_none hl0 hlf).symm
    have ng1 : fd ≠ d := (ne_of_none (sf _ _ hd0) hfd).symm
    have ng2 : fd ≠ l := (ne_of_none (sf _ _ hl0) hfd).symm
    refine ⟨_, _, rfl, ?_⟩
    refine ⟨fun m σ H' => ∃ rest acc : List Str, m = rest.length ∧ σ = [some (.ref d), some (.ref a), some (.ref lf), some (.ref fd)] ∧ SD d l H H' ∧ DealAt H' d l ∧ H' lf = some (.lst (rest.map V.str)) ∧ H' fd = some (.lst (acc.map V.str)) ∧ (acc ++ rest).Perm ys,
      ⟨_, ys, [], rfl, rfl, .of s2, D.same s2, sg _ _ upd_same, upd_same, List.Perm.refl _⟩, ?_⟩
    rintro m σ H3 ⟨rest, acc, rfl, rfl, s3, D3, hr3, hf3, hp3⟩
    have hlen := hp3.length_eq
    rw [List.length_append] at hlen
    refine ⟨_, rfl, Nat.zero_le _, fun e he => ?_⟩
    have se := sm_new (o := HO.lst []) he
    have hr4 := se _ _ hr3
    have hf4 := se _ _ hf3
    refine ⟨.list (rest.map .str), .list [], .lst (SqL.of hr4) (dpS K _ rest), .lst (SqL.of upd_same) .nil, shS (fun x hx => sok x (hp3.mem_iff.mp (List.mem_append_right _ hx))), rfl, _, congrArg V.bl (emp_ne _), ?_⟩
    have s4 := s3.trans (.of se)
    have D4 := D3.same se
    generalize hH4 : upd H3 e (.lst []) = H4 at *
    cases hrest : rest with
    | nil =>
      refine iteF ⟨_, rfl, ?_⟩
      rw [hrest, List.append_nil] at hp3
      exact k H4 fd acc s4 D4 hp3 hf4 ng1 ng2
    | cons r0 rs =>
      refine itT rfl ⟨_, fun _ _ h => h, ?_⟩
      rw [← hrest]
      refine ⟨_, rfl, .inl ⟨rfl, _, SqL.of hf4⟩, _, rfl, .inl ⟨rfl, _, SqL.of hr4⟩, _, rfl, _, rfl, lf, _, rfl, .inl (SqL.of hr4), d, l, _, rfl, D4, ?_, ?_, fun H5 v s5 D5 v0 vn => ?_⟩
      · rw [List.length_map, hrest]; simp; omega
      · rw [List.length_map]; omega
      have hr5 := s5 _ _ hr4 nf1 nf2
      have hf5 := s5 _ _ hf4 ng1 ng2
      obtain ⟨z, hz, _⟩ := atI_of v0 vn
      rw [List.length_map] at vn
      have hz' := hz
      rw [List.getElem?_map] at hz'
      obtain ⟨y, hy, rfl⟩ := Option.map_eq_some_iff.mp hz'
      refine ⟨lf, _, v, v.toNat, _, rfl, rfl, hr5, by omega, by omega, (ixN_seq (ixN_of v0 (by rw [List.length_map]; exact vn))).1, hz, ?_⟩
      have hf6 : (upd H5 lf (.lst ((rest.map V.str).eraseIdx v.toNat))) fd = some (.lst (acc.map V.str)) := by rw [upd_ne lfd.symm]; exact hf5
      refine ⟨fd, _, _, rfl, rfl, hf6, ?_, ?_⟩
      · rw [List.length_map]
        exact Nat.lt_of_lt_of_le (show acc.length < 60 by omega) (by decide)
      have sW : SD d l H (upd (upd H5 lf (.lst ((rest.map V.str).eraseIdx v.toNat))) fd (.lst (acc.map V.str ++ [V.str y]))) := fun b o e h1 h2 => by
        have e4 := (s4.trans s5) b o e h1 h2
        have b1 : b ≠ fd := fun z => by rw [z] at e; rw [sf _ _ e] at hfd; cases hfd
        have b2 : b ≠ lf := fun z => by rw [z, hlf] at e; cases e
        rw [upd_ne b1, upd_ne b2]
        exact e4
      have perm2 := perm_erase hy
      refine ⟨(rest.eraseIdx v.toNat).length, ?_, rest.eraseIdx v.toNat, acc ++ [y], rfl, rfl, sW, ?_, ?_, ?_, ?_⟩
      · have := perm2.length_eq
        rw [List.length_cons] at this
        omega
      · obtain ⟨b5, hd5⟩ := D5.dd
        obtain ⟨ns5, hn5, hl5⟩ := D5.ll
        exact ⟨D.ne, ⟨b5, by rw [upd_ne ng1.symm, upd_ne nf1.symm]; exact hd5⟩, ns5, hn5, by rw [upd_ne ng2.symm, upd_ne nf2.symm]; exact hl5⟩
      · rw [upd_ne lfd, upd_same]
        congr 2
        exact map_eraseIdx' _ _
      · rw [upd_same, List.map_append]
        rfl
      · rw [List.append_assoc]
        exact (List.Perm.append_left acc perm2).trans hp3
end
end Ts
set_option maxHeartbeats 4000000
namespace Ts
open PySem PySem.Spec PyProof.Rows L2 C8 He
/-! ### the deal and the rests -/
structure RsOk (rs : List Int) : Prop where
  rest : ∀ r ∈ rs, 0 ≤ r ∧ r < 7
  rl : rs.length ≤ 6
  nd : rs.Nodup
  srt : rs.Pairwise (· ≤ ·)
def restsC : List (List Int) := [[], [], [5, 6], [5, 6], [0], [6], [1, 3, 4], [0, 1, 2, 4, 5, 6]]
theorem restsC_ok : ∀ rs ∈ restsC, (∀ r ∈ rs, 0 ≤ r ∧ r < 7) ∧ rs.length ≤ 6 ∧ rs.Nodup := by decide
theorem sdne {H H1 : Hp} {d l p : Addr} (D : DealAt H d l) (s : Same H H1) (h : H1 p = none) : p ≠ d ∧ p ≠ l := by
  obtain ⟨b, hd⟩ := D.dd
  obtain ⟨ns, _, hl⟩ := D.ll
  exact ⟨(ne_of_none (s _ _ hd) h).symm, (ne_of_none (s _ _ hl) h).symm⟩
theorem all_ints : ∀ ys : List V, (∀ y ∈ ys, ∃ n, y = V.int n) → ∃ ms : List Int, ys = ms.map V.int
  | [], _ => ⟨[], rfl⟩
  | y :: ys, h => by
    obtain ⟨n, rfl⟩ := h y (List.mem_cons_self ..)
    obtain ⟨ms, rfl⟩ := all_ints ys fun z hz => h z (List.mem_cons_of_mem _ hz)
    exact ⟨n :: ms, rfl⟩
def spDeal (K : PySem.W.Frag) : Sp := fun vs H Q _ => ∃ (a : Addr) (ns : List Int), vs = [.ref a, .int 0] ∧ SqL K H a (ns.map V.int) ∧ ns.length ≤ 63 ∧ ∀ H' d l, DealAt H' d l → Q (.ref d) H'
def spRests : Sp := fun vs H Q _ => ∃ (d l : Addr), vs = [.ref d] ∧ DealAt H d l ∧ ∀ H' p (rs : List Int), SD d l H H' → DealAt H' d l → H' p = some (.lst (rs.map V.int)) → p ≠ d → p ≠ l → RsOk rs → Q (.ref p) H'
section
variable {P : Program} {w : World} {K : PySem.W.Frag} {mg : Str → Option Value} {base : Heap}
theorem G_u_law_rests (T : Txt P w K mg) : Cal P w K mg base 3 "_law_rests" spRests [] := by
  have G_u_law_pick := G_u_law_pick (P := P) (w := w) (base := base) T
  refine calN T.d_u_law_rests T.g_u_law_rests sc_u_law_rests (fun _ _ _ _ _ _ us hl => match us, hl with | [_], _ => rfl) (fun vs H Q E h => ?_) (fun cdv A outer s H vs Q E hr h => ?_)
  · obtain ⟨d, l, rfl, _⟩ := h
    rfl
  · obtain ⟨d, l, rfl, D, k⟩ := h
    refine ⟨_, (pss_one (ps_ret (pe_callB cr_sortedI (by rfl) T.b_sorted boot_sorted (pa_cons (pe_c G_u_law_pick hr (by decide) (by rfl) (pa_cons (pv 0) (pa_cons (pe_lst (pa_cons (pe_lst pa_nil) (pa_cons (pe_lst pa_nil) (pa_cons (pe_lst (pa_cons pe_int (pa_cons pe_int pa_nil))) (pa_cons (pe_lst (pa_cons pe_int (pa_cons pe_int pa_nil))) (pa_cons (pe_lst (pa_cons pe_int pa_nil)) (pa_cons (pe_lst (pa_cons pe_int pa_nil)) (pa_cons (pe_lst (pa_cons pe_int (pa_cons pe_int (pa_cons pe_int pa_nil)))) (pa_cons (pe_lst (pa_cons pe_int (pa_cons pe_int (pa_cons pe_int (pa_cons pe_int (pa_cons pe_int (pa_cons pe_int pa_nil))))))) pa_nil))))))))) pa_nil))) pa_nil)))), ?_⟩
    refine ⟨_, rfl, Nat.zero_le _, fun p1 h1 => ⟨Nat.zero_le _, fun p2 h2 => ⟨Nat.le_of_ble_eq_true rfl, fun p3 h3 => ⟨Nat.le_of_ble_eq_true rfl, fun p4 h4 => ⟨Nat.le_of_ble_eq_true rfl, fun p5 h5 => ⟨Nat.le_of_ble_eq_true rfl, fun p6 h6 => ⟨Nat.le_of_ble_eq_true rfl, fun p7 h7 => ⟨Nat.le_of_ble_eq_true rfl, fun p8 h8 => ⟨Nat.le_of_ble_eq_true rfl, fun a ha => ?_⟩⟩⟩⟩⟩⟩⟩⟩⟩
    have t1 := sm_new (o := HO.lst []) h1
    have n1 := sdne D (Same.refl _) h1
    have t2 := sm_new (o := HO.lst []) h2
    have n2 := sdne D t1 h2
    have t3 := sm_new (o := HO.lst [V.int 5, V.int 6]) h3
    have n3 := sdne D (t1.trans t2) h3
    have t4 := sm_new (o := HO.lst [V.int 5, V.int 6]) h4
    have n4 := sdne D ((t1.trans t2).trans t3) h4
    have t5 := sm_new (o := HO.lst [V.int 0]) h5
    have n5 := sdne D (((t1.trans t2).trans t3).trans t4) h5
    have t6 := sm_new (o := HO.lst [V.int 6]) h6
    have n6 := sdne D ((((t1.trans t2).trans t3).trans t4).trans t5) h6
    have t7 := sm_new (o := HO.lst [V.int 1, V.int 3, V.int 4]) h7
    have n7 := sdne D (((((t1.trans t2).trans t3).trans t4).trans t5).trans t6) h7
    have t8 := sm_new (o := HO.lst [V.int 0, V.int 1, V.int 2, V.int 4, V.int 5, V.int 6]) h8
    have n8 := sdne D ((((((t1.trans t2).trans t3).trans t4).trans t5).trans t6).trans t7) h8
    have t9 := sm_new (o := HO.lst [V.ref p1, V.ref p2, V.ref p3, V.ref p4, V.ref p5, V.ref p6, V.ref p7, V.ref p8]) ha
    have s8 := (((((((t1.trans t2).trans t3).trans t4).trans t5).trans t6).trans t7).trans t8)
    have n9 := sdne D s8 ha
    refine ⟨d, l, a, _, rfl, D.same (s8.trans t9), upd_same, n9.1, n9.2, Nat.le_of_ble_eq_true rfl, Nat.le_of_ble_eq_true rfl, fun H' v s' D' hv => ?_⟩
    have main : ∃ p rs, v = .ref p ∧ rs ∈ restsC ∧ H' p = some (.lst (rs.map V.int)) := by
      rcases List.mem_cons.mp hv with rfl | hv
      · exact ⟨p1, [], rfl, by decide, s' _ _ (t9 _ _ (t8 _ _ (t7 _ _ (t6 _ _ (t5 _ _ (t4 _ _ (t3 _ _ (t2 _ _ upd_same)))))))) n1.1 n1.2⟩
      rcases List.mem_cons.mp hv with rfl | hv
      · exact ⟨p2, [], rfl, by decide, s' _ _ (t9 _ _ (t8 _ _ (t7 _ _ (t6 _ _ (t5 _ _ (t4 _ _ (t3 _ _ upd_same))))))) n2.1 n2.2⟩
      rcases List.mem_cons.mp hv with rfl | hv
      · exact ⟨p3, [5, 6], rfl, by decide, s' _ _ (t9 _ _ (t8 _ _ (t7 _ _ (t6 _ _ (t5 _ _ (t4 _ _ upd_same)))))) n3.1 n3.2⟩
      rcases List.mem_cons.mp hv with rfl | hv
      · exact ⟨p4, [5, 6], rfl, by decide, s' _ _ (t9 _ _ (t8 _ _ (t7 _ _ (t6 _ _ (t5 _ _ upd_same))))) n4.1 n4.2⟩
      rcases List.mem_cons.mp hv with rfl | hv
      · exact ⟨p5, [0], rfl, by decide, s' _ _ (t9 _ _ (t8 _ _ (t7 _ _ (t6 _ _ upd_same)))) n5.1 n5.2⟩
      rcases List.mem_cons.mp hv with rfl | hv
      · exact ⟨p6, [6], rfl, by decide, s' _ _ (t9 _ _ (t8 _ _ (t7 _ _ upd_same))) n6.1 n6.2⟩
      rcases List.mem_cons.mp hv with rfl | hv
      · exact ⟨p7, [1, 3, 4], rfl, by decide, s' _ _ (t9 _ _ (t8 _ _ upd_same)) n7.1 n7.2⟩
      rcases List.mem_cons.mp hv with rfl | hv
      · exact ⟨p8, [0, 1, 2, 4, 5, 6], rfl, by decide, s' _ _ (t9 _ _ upd_same) n8.1 n8.2⟩
      cases hv
    obtain ⟨p, rs, rfl, hrs, hp⟩ := main
    obtain ⟨r1, r2, r3⟩ := restsC_ok rs hrs
    refine ⟨p, rs, rfl, SqL.of hp, fun ns q pm pw hq => ?_⟩
    have tq := sm_new (o := HO.lst (ns.map V.int)) hq
    have nq := sdne D' (Same.refl _) hq
    exact k _ q ns (((SD.of (s8.trans t9)).trans s').trans (.of tq)) (D'.same tq) upd_same nq.1 nq.2 ⟨fun r hr => r1 r (pm.mem_iff.mp hr), by rw [pm.length_eq]; exact r2, pm.nodup_iff.mpr r3, pw⟩
theorem G_u_law_deal (T : Txt P w K mg) : Cal P w K mg base 1 "_law_deal" (spDeal K) [] := by
  refine calN T.d_u_law_deal T.g_u_law_deal sc_u_law_deal (fun _ _ _ _ _ _ us hl => match us, hl with | [_, _], _ => rfl) (fun vs H Q E h => ?_) (fun cdv A outer s H vs Q E hr h => ?_)
  · obtain ⟨a, ns, rfl, _⟩ := h
    rfl
  · obtain ⟨a, ns, rfl, ha, hn, k⟩ := h
    refine ⟨_, (pss_cons (ps_setLc (i := 2)  (own := [("_law_cell", 4)]) (by rfl) sc_u_law_deal.nd rfl rfl (sw_true rfl rfl rfl (by decide +kernel)) (pi_list (pe_slice sl_list (pv 0) (po_some (pv 1)) (po_some pe_int))) (blkOk_by (N := n_u_law_deal) (sc := defScope s_u_law_deal) (by decide +kernel)) (fun _ _ _ _ _ => (pg_name (i := 4) sc_u_law_deal.nd rfl (Or.inl rfl))) (fun _ _ _ _ _ => pts_nil) (fun _ _ _ _ _ => (pe_callB call_abs (by rfl) T.b_abs boot_abs (pa_cons (pv 4) pa_nil))))
      (pss_cons (ps_set (i := 3) sc_u_law_deal.nd rfl (Or.inl rfl) (pe_op op_add pe_int (pe_op op_mul pe_int (pv 1))))
      (pss_cons (ps_for PassesOwn.never rfl (pi_list (pv 2)) (pg_name (i := 4) sc_u_law_deal.nd rfl (Or.inl rfl)) (pss_one (ps_set (i := 3) sc_u_law_deal.nd rfl (Or.inl rfl) (pe_op op_mod (pe_callTy call_int1 (by rfl) T.b_int boot_int (pa_cons (pe_op op_add (pe_op op_mul (pv 3) pe_int) (pe_op op_mod (pe_callTy call_int1 (by rfl) T.b_int boot_int (pa_cons (pv 4) pa_nil)) pe_int)) pa_nil)) pe_int))))
      (pss_one (ps_ret (pe_lst (pa_cons (pe_revL (pe_lc (own := [("_law_cell", 4)]) (by rfl) sc_u_law_deal.nd (pi_list (pv 2)) (blkOk_by (N := n_u_law_deal) (sc := defScope s_u_law_deal) (by decide +kernel)) (fun _ _ _ _ _ => (pg_name (i := 4) sc_u_law_deal.nd rfl (Or.inl rfl))) (fun _ _ _ _ _ => (pts_one (pt_cmpR op_ge (pv 4) (pe_op op_pow pe_int pe_int) (nomark _)))) (fun _ _ _ _ _ => (pv 4)))) (pa_cons (pv 3) pa_nil)))))))), ?_⟩
    have hcl : (cutV (ns.map V.int) (some 0) (some 63)).length ≤ 63 := Nat.le_trans (cutV_length _ _ _) (by rw [List.length_map]; exact hn)
    have hcm : ∀ x ∈ cutV (ns.map V.int) (some 0) (some 63), ∃ i, x = V.int i := fun x hx => by
      unfold cutV at hx
      obtain ⟨i, _, rfl⟩ := List.mem_map.mp (List.mem_of_mem_drop (List.mem_of_mem_take hx))
      exact ⟨i, rfl⟩
    refine ⟨_, rfl, _, rfl, 0, rfl, 63, rfl, a, _, rfl, ha, fun c hc => ?_⟩
    generalize cutV (ns.map V.int) (some 0) (some 63) = cs at *
    refine ⟨c, rfl, ⟨_, SqL.of upd_same⟩, fun D hD => ?_⟩
    refine lc_map (walk_list (K := K) (a := c) (xs := cs)) hD (fun H' s => SqL.of (s _ _ upd_same)) (by omega) (fun i y _ => ∃ n, y = V.int n) (fun i y _ _ _ h => h) ?_ ?_
    · rintro i v H3 H4 hi s3 ⟨rfl, hv⟩ k2 hk
      obtain ⟨n, rfl⟩ := hcm v (List.mem_of_getElem? hv)
      refine ⟨rfl, ?_⟩
      exact ⟨_, rfl, n, rfl, hk _ _ (Same.refl _) ⟨_, rfl⟩⟩
    intro H1 ys s1 hy hyl hpt
    obtain ⟨ms, rfl⟩ : ∃ ms : List Int, ys = ms.map V.int := all_ints ys fun y hy => by
      obtain ⟨i, hi⟩ := List.getElem?_of_mem hy
      exact hpt i y hi
    rw [List.length_map] at hyl
    refine ⟨_, rfl, 11, 0, rfl, rfl, .inl ⟨by decide, by decide⟩, 15485863, _, rfl, rfl, ?_⟩
    refine ⟨_, rfl, D, rfl, ⟨_, SqL.of hy⟩, ?_⟩
    refine for_it (walk_list (K := K) (a := D) (xs := ms.map V.int)) (fun i σ H' => H' = H1 ∧ ∃ (b : Int) (u4 : Option V), σ = [some (.ref a), some (.int 0), some (.ref D), some (.int b), u4]) ⟨rfl, _, _, rfl⟩ (fun i σ H' _ q => by rw [q.1]; exact SqL.of hy) ?_ ?_
    · rintro i v σ H3 H4 hi ⟨rfl, b, u4, rfl⟩ ⟨rfl, hv⟩
      rw [List.getElem?_map] at hv
      obtain ⟨z, hz, rfl⟩ := Option.map_eq_some_iff.mp hv
      exact ⟨_, rfl, b, 16807, rfl, rfl, .inr ⟨by decide, by decide⟩, _, rfl, .inl ⟨_, rfl, _, 2147483629, rfl, rfl, (show (0 : Int) < 2147483629 by decide), _, _, rfl, rfl, .inl ⟨_, rfl, _, 2147483647, rfl, rfl, (show (0 : Int) < 2147483647 by decide), rfl, _, _, rfl⟩⟩⟩
    · rintro σ H3 ⟨rfl, b, u4, rfl⟩
      refine ⟨_, rfl, D, rfl, ⟨_, SqL.of hy⟩, fun D2 hD2 => ?_⟩
      refine lc_it (walk_list (K := K) (a := D) (xs := ms.map V.int)) (fun i H' => Same H3 H' ∧ ∃ ks : List Int, H' D2 = some (.lst (ks.map V.int)) ∧ ks.length ≤ i) ⟨sm_new hD2, [], upd_same, Nat.le_refl _⟩ (fun i H' _ q => SqL.of (q.1 _ _ hy)) ?_ ?_
      · rintro i v H5 H6 hi ⟨s5, ks, hk, hkl⟩ ⟨rfl, hv⟩
        rw [List.getElem?_map] at hv
        obtain ⟨z, hz, rfl⟩ := Option.map_eq_some_iff.mp hv
        refine ⟨rfl, ?_⟩
        refine ⟨_, rfl, 10, 18, rfl, rfl, ⟨by decide, by decide, by decide⟩, _, _, rfl, rfl, _, rfl, ?_⟩
        refine ite_any (fun _ => ?_) fun _ => ⟨s5, ks, hk, by omega⟩
        rw [List.length_map] at hi
        refine ⟨_, rfl, _, hk, ?_, sm_to s5 hD2, ks ++ [z], ?_, by rw [List.length_append]; simp; omega⟩
        · rw [List.length_map]
          exact Nat.lt_of_le_of_lt (show ks.length ≤ 63 by omega) (by decide)
        · rw [upd_same, List.map_append]
          rfl
      · rintro H5 ⟨s5, ks, hk, hkl⟩
        rw [List.length_map] at hkl
        refine ⟨D2, _, rfl, SqL.of hk, fun q hq => ⟨_, rfl, Nat.le_of_ble_eq_true rfl, fun p hp => ?_⟩⟩
        have tp := sm_new (o := HO.lst [V.ref q, V.int b]) hp
        refine k _ p q ⟨fun z => ?_, ⟨b, upd_same⟩, ks.reverse, by rw [List.length_reverse]; omega, ?_⟩
        · rw [z, upd_same] at hp
          cases hp
        · rw [List.map_reverse]
          exact tp _ _ upd_same
end
end Ts
set_option maxHeartbeats 4000000
namespace Ts
open PySem PySem.Spec PyProof.Rows L2 C8 He
/-! ### a drawn plan, its text -/
structure So where
  fm : Str
  nm : Str
  n : Int
  h : Int
  o : Option Int
def soV (s : So) : List V := [.str s.fm, .str s.nm, .int s.n, .int s.h, oV s.o]
structure SoOk (s : So) : Prop where
  fm : s.fm = "still" ∨ s.fm = "anew" ∨ s.fm = "lift"
  nm : NameOk s.nm
  n : NumI s.n
  h : NumI s.h
  o : ∀ i, s.o = some i → NumI i
def kdOf (s : So) : Kd := ⟨s.nm, s.o, if s.fm = "still" then .still s.n else if s.fm = "anew" then .anew s.n else .lift s.n s.h⟩
def SosAt (H : Hp) (xs : List V) (ss : List So) : Prop := xs.length = ss.length ∧ ∀ (i : Nat) (s : So), ss[i]? = some s → ∃ p, xs[i]? = some (.ref p) ∧ H p = some (.tup (soV s))
theorem SosAt.mono {H H' : Hp} {xs : List V} {ss : List So} (s : SameI H H') (h : SosAt H xs ss) : SosAt H' xs ss := ⟨h.1, fun i o e => by
  obtain ⟨p, h1, h2⟩ := h.2 i o e
  exact ⟨p, h1, s _ _ h2 rfl⟩⟩
theorem SosAt.at_ {H : Hp} {xs : List V} {ss : List So} (h : SosAt H xs ss) {i : Nat} {x : V} (e : xs[i]? = some x) : ∃ p o, x = .ref p ∧ ss[i]? = some o ∧ H p = some (.tup (soV o)) := by
  have hi : i < ss.length := by
    have := (List.getElem?_eq_some_iff.mp e).1
    rw [← h.1]
    exact this
  obtain ⟨a, h1, h2⟩ := h.2 i _ (List.getElem?_eq_getElem hi)
  rw [e] at h1
  exact ⟨a, _, Option.some.inj h1, List.getElem?_eq_getElem hi, h2⟩
structure Pl where
  size : Int
  free : List Int
  cap : Option Int
  ss : List So
def Pl.rule (p : Pl) : Rl := ⟨p.size, p.free, p.cap, p.ss.map kdOf⟩
structure PlOk (p : Pl) : Prop where
  size : NumI p.size
  free : RsOk p.free
  cap : ∀ i, p.cap = some i → NumI i
  ss : ∀ s ∈ p.ss, SoOk s
  len : p.ss.length ≤ 3
  nd : (p.ss.map (·.nm)).Nodup
theorem kdOf_ok {s : So} (h : SoOk s) : KdOk (kdOf s) := by
  refine ⟨h.nm, h.o, ?_⟩
  show FmOk (if s.fm = "still" then .still s.n else if s.fm = "anew" then .anew s.n else .lift s.n s.h)
  split
  · exact h.n
  · split
    · exact h.n
    · exact ⟨h.n, h.h⟩
theorem PlOk.rule {p : Pl} (h : PlOk p) : RlOk p.rule := by
  refine ⟨h.size, h.free.rest, h.free.rl, h.free.nd, h.free.srt, h.cap, fun k hk => ?_, ?_, ?_⟩
  · obtain ⟨s, hs, rfl⟩ := List.mem_map.mp hk
    exact kdOf_ok (h.ss s hs)
  · show (p.ss.map kdOf).length ≤ 3
    rw [List.length_map]
    exact h.len
  · show ((p.ss.map kdOf).map (·.nm)).Nodup
    rw [List.map_map]
    exact h.nd
def PlanAt (H : Hp) (t : Addr) (p : Pl) : Prop := ∃ (a b : Addr) (xs : List V), H t = some (.tup [.int p.size, .ref a, oV p.cap, .ref b]) ∧ H a = some (.lst (p.free.map V.int)) ∧ H b = some (.lst xs) ∧ SosAt H xs p.ss
theorem mapS1 (A : List Str) (x : Str) : A.map V.str ++ [V.str x] = (A ++ [x]).map V.str := by simp
theorem mapS2 (A : List Str) (x y : Str) : A.map V.str ++ [V.str x, V.str y] = (A ++ [x, y]).map V.str := by simp
theorem kWords_of {s : So} (h : SoOk s) : kWords (kdOf s) = (([s.fm, s.nm, nt s.n] : List Str) ++ (if s.fm = "lift" then [nt s.h] else [])) ++ [tmT s.o] := by
  have d1 : ¬ (("still" : Str) = "lift") := by decide +kernel
  have d2 : ¬ (("anew" : Str) = "lift") := by decide +kernel
  have d3 : ¬ (("anew" : Str) = "still") := by decide +kernel
  have d4 : ¬ (("lift" : Str) = "still") := by decide +kernel
  have d5 : ¬ (("lift" : Str) = "anew") := by decide +kernel
  obtain ⟨fm, nm, n, hh, o⟩ := s
  rcases h.fm with e | e | e
  · obtain rfl : fm = "still" := e
    unfold kWords kdOf
    simp only [if_true, if_neg d1]
    rfl
  · obtain rfl : fm = "anew" := e
    unfold kWords kdOf
    simp only [if_true, if_neg d2, if_neg d3]
    rfl
  · obtain rfl : fm = "lift" := e
    unfold kWords kdOf
    simp only [if_true, if_neg d4, if_neg d5]
    rfl
def spText : Sp := fun vs H Q _ => ∃ (t : Addr) (p : Pl), vs = [.ref t] ∧ PlanAt H t p ∧ PlOk p ∧ ∀ H', Same H H' → Q (.str (rText p.rule)) H'
def spMade (K : PySem.W.Frag) : Sp := fun vs H Q _ => ∃ (t : Addr) (p : Pl), vs = [.ref t] ∧ PlanAt H t p ∧ PlOk p ∧ ∀ H' a, Same H H' → RuleAt K H' a p.rule → Q (.ref a) H'
theorem sum_le {B : Nat} : ∀ ys : List Str, (∀ x ∈ ys, x.length ≤ B) → (ys.map (·.length)).sum ≤ B * ys.length
  | [], _ => Nat.zero_le _
  | y :: ys, h => by
    have ih := sum_le ys fun z hz => h z (List.mem_cons_of_mem _ hz)
    have := h y (List.mem_cons_self ..)
    rw [List.map_cons, List.sum_cons, List.length_cons, Nat.mul_succ]
    omega
theorem small_log {i : Int} (h : NumI i) : i.natAbs.log2 < 1920 := by
  obtain ⟨h1, h2⟩ := h
  by_cases h0 : i.natAbs = 0
  · rw [h0]
    decide
  · exact Nat.lt_trans ((Nat.log2_lt h0).mpr (show i.natAbs < 2 ^ 7 by omega)) (by decide)
theorem small_log0 {i : Int} (h : 0 ≤ i ∧ i < 7) : i.natAbs.log2 < 1920 := by
  by_cases h0 : i.natAbs = 0
  · rw [h0]
    decide
  · exact Nat.lt_trans ((Nat.log2_lt h0).mpr (show i.natAbs < 2 ^ 7 by omega)) (by decide)
section
variable {P : Program} {w : World} {K : PySem.W.Frag} {mg : Str → Option Value} {base : Heap}
theorem G_u_law_text (T : Txt P w K mg) : Cal P w K mg base 1 "_law_text" spText [] := by
  refine calN T.d_u_law_text T.g_u_law_text sc_u_law_text (fun _ _ _ _ _ _ us hl => match us, hl with | [_], _ => rfl) (fun vs H Q E h => ?_) (fun cdv A outer s H vs Q E hr h => ?_)
  · obtain ⟨t, p, rfl, _⟩ := h
    rfl
  · obtain ⟨t, p, rfl, ⟨a, b, xs, ht, ha, hb, hss⟩, ok, k⟩ := h
    refine ⟨_, (pss_cons (ps_asg (pv 0) (pg_tup rfl (pgs_cons (pg_name (i := 1) sc_u_law_text.nd rfl (Or.inl rfl)) (pgs_cons (pg_name (i := 2) sc_u_law_text.nd rfl (Or.inl rfl)) (pgs_cons (pg_name (i := 3) sc_u_law_text.nd rfl (Or.inl rfl)) (pgs_cons (pg_name (i := 4) sc_u_law_text.nd rfl (Or.inl rfl)) pgs_nil))))))
      (pss_cut (ps_set (i := 5) sc_u_law_text.nd rfl (Or.inl rfl) (pe_op op_cat (pe_lst (pa_cons pe_str (pa_cons (pe_callTy call_str_int (by rfl) T.b_str boot_str (pa_cons (pv 1) pa_nil)) (pa_cons pe_str pa_nil)))) (pe_ifExp (pt_cmpR (op_neD hr.units) (pv 2) (pe_lst pa_nil) (nomark _)) (pe_lc (own := [("_law_one", 13)]) (by rfl) sc_u_law_text.nd (pi_list (pv 2)) (blkOk_by (N := n_u_law_text) (sc := defScope s_u_law_text) (by decide +kernel)) (fun _ _ _ _ _ => (pg_name (i := 13) sc_u_law_text.nd rfl (Or.inl rfl))) (fun _ _ _ _ _ => pts_nil) (fun _ _ _ _ _ => (pe_callTy call_str_int (by rfl) T.b_str boot_str (pa_cons (pv 13) pa_nil)))) (pe_lst (pa_cons pe_str pa_nil)))))
      (pss_cut (ps_set (i := 6) sc_u_law_text.nd rfl (Or.inl rfl) (pe_lst (pa_cons (pe_join pe_str (pe_op op_cat (pv 5) (pe_lst (pa_cons pe_str (pa_cons (pe_ifExp (pt_cmpR op_isN (pv 3) pe_non (nomark _)) pe_str (pe_callTy call_str_int (by rfl) T.b_str boot_str (pa_cons (pv 3) pa_nil))) pa_nil))))) pa_nil)))
      (pss_cons (ps_for PassesOwn.never rfl (pi_list (pv 4)) (pg_tup rfl (pgs_cons (pg_name (i := 7) sc_u_law_text.nd rfl (Or.inl rfl)) (pgs_cons (pg_name (i := 8) sc_u_law_text.nd rfl (Or.inl rfl)) (pgs_cons (pg_name (i := 9) sc_u_law_text.nd rfl (Or.inl rfl)) (pgs_cons (pg_name (i := 10) sc_u_law_text.nd rfl (Or.inl rfl)) (pgs_cons (pg_name (i := 11) sc_u_law_text.nd rfl (Or.inl rfl)) pgs_nil)))))) (pss_cut (ps_set (i := 12) sc_u_law_text.nd rfl (Or.inl rfl) (pe_op op_cat (pe_lst (pa_cons (pv 7) (pa_cons (pv 8) (pa_cons (pe_callTy call_str_int (by rfl) T.b_str boot_str (pa_cons (pv 9) pa_nil)) pa_nil)))) (pe_ifExp (pt_cmpR op_eq (pv 7) pe_str (nomark _)) (pe_lst (pa_cons (pe_callTy call_str_int (by rfl) T.b_str boot_str (pa_cons (pv 10) pa_nil)) pa_nil)) (pe_lst pa_nil))))
      (pss_one (ps_expr (pe_bm PySem.F.plainAttrs_list PySem.F.slot_list_append PySem.F.type_list_append mt_append (pv 6) (pa_cons (pe_join pe_str (pe_op op_cat (pv 12) (pe_lst (pa_cons (pe_ifExp (pt_cmpR op_isN (pv 11) pe_non (nomark _)) pe_str (pe_callTy call_str_int (by rfl) T.b_str boot_str (pa_cons (pv 11) pa_nil))) pa_nil)))) pa_nil))))))
      (pss_one (ps_ret (pe_join pe_str (pv 6)))))))), ?_⟩
    refine ⟨_, rfl, t, _, rfl, SqT.of ht, rfl, _, _, rfl, _, _, rfl, _, _, rfl, _, _, rfl, rfl, ?_⟩
    refine ⟨fun σ' H' => ∃ q, σ' = [some (.ref t), some (.int p.size), some (.ref a), some (oV p.cap), some (.ref b), some (.ref q), none, none, none, none, none, none, none, none] ∧ Same H H' ∧ H' q = some (.lst (([("term" : Str), nt p.size, "rests"] ++ restW p.free).map V.str)), ?_, ?_⟩
    · refine ⟨_, rfl, p.size, rfl, small_log ok.size, Nat.le_of_ble_eq_true rfl, fun p1 h1 => ?_⟩
      have s1 := sm_new (o := HO.lst [V.str "term", V.str (nt p.size), V.str "rests"]) h1
      refine ⟨_, rfl, Nat.zero_le _, fun e he => ?_⟩
      have se := sm_new (o := HO.lst []) he
      have s2 := s1.trans se
      refine ⟨.list (p.free.map .int), .list [], .lst (SqL.of (s2 _ _ ha)) (dpI K _ _), .lst (SqL.of upd_same) .nil, shI _, rfl, _, congrArg V.bl (emp_ne _), ?_⟩
      cases hf : p.free with
      | nil =>
        refine iteF ⟨Nat.le_of_ble_eq_true rfl, fun p2 h2 => ?_⟩
        have s3 := sm_new (o := HO.lst [V.str "none"]) h2
        refine ⟨p1, p2, _, _, rfl, rfl, s3 _ _ (se _ _ upd_same), upd_same, Nat.le_of_ble_eq_true rfl, fun q hq => ⟨q, rfl, (s2.trans s3).trans (sm_new hq), upd_same⟩⟩
      | cons r rs =>
        refine itT rfl ?_
        rw [← hf]
        refine ⟨_, rfl, a, rfl, ⟨_, SqL.of (s2 _ _ ha)⟩, fun D hD => ?_⟩
        refine lc_fn (walk_list (K := K) (a := a) (xs := p.free.map V.int)) hD (fun H' s => SqL.of (s _ _ (s2 _ _ ha))) (by rw [List.length_map]; have := ok.free.rl; omega) (fun i => .str (nt (p.free.getD i 0))) ?_ ?_
        · rintro i v H3 H4 hi s3 ⟨rfl, hv⟩ k2 hk
          rw [List.getElem?_map] at hv
          obtain ⟨z, hz, rfl⟩ := Option.map_eq_some_iff.mp hv
          refine ⟨rfl, _, rfl, z, rfl, small_log0 (ok.free.rest z (List.mem_of_getElem? hz)), ?_⟩
          have := hk _ (Same.refl _)
          rw [List.getD_eq_getElem?_getD, hz] at this
          exact this
        intro H3 s3 h3
        have e3 : (List.range (p.free.map V.int).length).map (fun i => V.str (nt (p.free.getD i 0))) = (restW p.free).map V.str := by
          have hw : restW p.free = p.free.map nt := by rw [hf]; rfl
          rw [hw, List.map_map, List.length_map]
          refine List.ext_getElem? fun i => ?_
          by_cases hi : i < p.free.length
          · rw [List.getElem?_map, List.getElem?_range hi, List.getElem?_map, List.getElem?_eq_getElem hi]
            show some (V.str (nt (p.free.getD i 0))) = some (V.str (nt p.free[i]))
            rw [List.getD_eq_getElem?_getD, List.getElem?_eq_getElem hi]
            rfl
          · rw [List.getElem?_eq_none (by simp; omega), List.getElem?_eq_none (by simp; omega)]
        rw [e3] at h3
        have hl6 : ((restW p.free).map V.str).length ≤ 6 := by
          have hw : restW p.free = p.free.map nt := by rw [hf]; rfl
          rw [List.length_map, hw, List.length_map]
          exact ok.free.rl
        refine ⟨p1, D, _, _, rfl, rfl, s3 _ _ (se _ _ upd_same), h3, ?_, fun q hq => ⟨q, rfl, (s2.trans s3).trans (sm_new hq), ?_⟩⟩
        · exact Nat.le_trans (show _ ≤ 9 by simp only [List.length_cons, List.length_nil]; omega) (by decide)
        · rw [upd_same, List.map_append]
          rfl
    · rintro σ' H1 ⟨q, rfl, s1, hq⟩
      have rok := ok.rule
      refine ⟨fun σ' H' => ∃ ln, σ' = [some (.ref t), some (.int p.size), some (.ref a), some (oV p.cap), some (.ref b), some (.ref q), some (.ref ln), none, none, none, none, none, none, none] ∧ H ln = none ∧ Same H H' ∧ H' ln = some (.lst [.str (hLine p.rule)]), ?_, ?_⟩
      · have fin : ∀ (H2 : Hp) (c : Addr), Same H1 H2 → H2 c = some (.lst [.str "cap", .str (capT p.cap)]) → ∀ z, H2 z = none →
            (((rWords p.rule).map (·.length)).sum + (rWords p.rule).length * (" " : Str).length ≤ 16777216) ∧ (upd H2 z (.lst (([("term" : Str), nt p.size, "rests"] ++ restW p.free).map V.str ++ [.str "cap", .str (capT p.cap)]))) z = some (.lst ((rWords p.rule).map V.str)) := fun H2 c s2 hc z hz => by
          refine ⟨?_, ?_⟩
          · have h1 := sum_le (B := 5) (rWords p.rule) fun x hx => (rWords_plain rok x hx).2
            have h2 := rWords_len rok
            have h3 : (" " : Str).length = 1 := by decide +kernel
            rw [h3]
            omega
          · rw [upd_same]
            have e : (rWords p.rule) = ([("term" : Str), nt p.size, "rests"] ++ restW p.free) ++ [("cap" : Str), capT p.cap] := by
              rw [List.append_assoc]
              rfl
            rw [e]
            exact congrArg (fun l => some (HO.lst l)) (mapS2 _ _ _)
        have hl : (([("term" : Str), nt p.size, "rests"] ++ restW p.free).map V.str).length + 2 ≤ sizeLine := by
          have h2 := restW_len rok
          refine Nat.le_trans (show _ ≤ 11 from ?_) (by decide)
          rw [List.length_map, List.length_append]
          have h3 : (restW p.free).length ≤ 6 := h2.2
          simp only [List.length_cons, List.length_nil]
          omega
        refine ⟨⟨_, rfl⟩, _, rfl, _, rfl, rfl, _, rfl, ?_⟩
        cases hc : p.cap with
        | none =>
          refine itT rfl ⟨Nat.le_of_ble_eq_true rfl, fun c hcn => ?_⟩
          have s2 := sm_new (o := HO.lst [V.str "cap", V.str "none"]) hcn
          refine ⟨q, c, _, _, rfl, rfl, s2 _ _ hq, upd_same, hl, fun z hz => ?_⟩
          obtain ⟨g1, g2⟩ := fin _ c s2 (by rw [hc]; exact upd_same) z hz
          rw [hc] at g2
          have s3 := s2.trans (sm_new (o := HO.lst (([("term" : Str), nt p.size, "rests"] ++ restW p.free).map V.str ++ [V.str "cap", V.str "none"])) hz)
          refine ⟨" ", z, rWords p.rule, rfl, rfl, .inl (SqL.of g2), g1, Nat.le_of_ble_eq_true rfl, fun ln hln => ⟨ln, rfl, sm_le (s1.trans s3) hln, (s1.trans s3).trans (sm_new hln), upd_same⟩⟩
        | some i =>
          refine itF rfl ⟨_, rfl, i, rfl, small_log (ok.cap i hc), Nat.le_of_ble_eq_true rfl, fun c hcn => ?_⟩
          have s2 := sm_new (o := HO.lst [V.str "cap", V.str (nt i)]) hcn
          refine ⟨q, c, _, _, rfl, rfl, s2 _ _ hq, upd_same, hl, fun z hz => ?_⟩
          obtain ⟨g1, g2⟩ := fin _ c s2 (by rw [hc]; exact upd_same) z hz
          rw [hc] at g2
          have s3 := s2.trans (sm_new (o := HO.lst (([("term" : Str), nt p.size, "rests"] ++ restW p.free).map V.str ++ [V.str "cap", V.str (nt i)])) hz)
          refine ⟨" ", z, rWords p.rule, rfl, rfl, .inl (SqL.of g2), g1, Nat.le_of_ble_eq_true rfl, fun ln hln => ⟨ln, rfl, sm_le (s1.trans s3) hln, (s1.trans s3).trans (sm_new hln), upd_same⟩⟩
      · rintro σ' H2 ⟨ln, rfl, nln, s2, hln⟩
        refine ⟨_, rfl, b, rfl, ⟨_, SqL.of (s2 _ _ hb)⟩, ?_⟩
        refine for_it (walk_list (K := K) (a := b) (xs := xs)) (fun i σ H' => ∃ u7 u8 u9 u10 u11 u12, σ = [some (.ref t), some (.int p.size), some (.ref a), some (oV p.cap), some (.ref b), some (.ref q), some (.ref ln), u7, u8, u9, u10, u11, u12, none] ∧ Same H H' ∧ H' ln = some (.lst ((hLine p.rule :: (p.ss.take i).map (fun s => kLine (kdOf s))).map V.str)))
          ⟨none, none, none, none, none, none, rfl, s2, hln⟩ (fun i σ H' _ q => by obtain ⟨_, _, _, _, _, _, _, s3, _⟩ := q; exact SqL.of (s3 _ _ hb)) ?_ ?_
        · rintro i v σ H3 H4 hi ⟨u7, u8, u9, u10, u11, u12, rfl, s3, h3⟩ ⟨rfl, hv⟩
          obtain ⟨x, so, rfl, hso, hx⟩ := hss.at_ hv
          have sok := ok.ss so (List.mem_of_getElem? hso)
          have kok := kdOf_ok sok
          refine ⟨x, _, rfl, SqT.of (s3 _ _ hx), rfl, _, _, rfl, _, _, rfl, _, _, rfl, _, _, rfl, _, _, rfl, rfl, ?_⟩
          refine ⟨fun σ' H' => ∃ m, σ' = [some (.ref t), some (.int p.size), some (.ref a), some (oV p.cap), some (.ref b), some (.ref q), some (.ref ln), some (.str so.fm), some (.str so.nm), some (.int so.n), some (.int so.h), some (oV so.o), some (.ref m), none] ∧ Same H4 H' ∧ H' m = some (.lst ((([so.fm, so.nm, nt so.n] : List Str) ++ (if so.fm = "lift" then [nt so.h] else [])).map V.str)), ?_, ?_⟩
          · refine ⟨_, rfl, _, rfl, _, rfl, so.n, rfl, small_log sok.n, Nat.le_of_ble_eq_true rfl, fun p1 h1 => ?_⟩
            have t1 := sm_new (o := HO.lst [V.str so.fm, V.str so.nm, V.str (nt so.n)]) h1
            refine ⟨_, rfl, rfl, _, rfl, ?_⟩
            by_cases hl : so.fm = "lift"
            · rw [if_pos hl]
              refine itT (decide_eq_true (by rw [hl])) ⟨_, rfl, so.h, rfl, small_log sok.h, Nat.le_of_ble_eq_true rfl, fun p2 h2 => ?_⟩
              have t2 := sm_new (o := HO.lst [V.str (nt so.h)]) h2
              exact ⟨p1, p2, _, _, rfl, rfl, t2 _ _ upd_same, upd_same, Nat.le_of_ble_eq_true rfl, fun m hm => ⟨m, rfl, (t1.trans t2).trans (sm_new hm), upd_same⟩⟩
            · rw [if_neg hl]
              refine itF (sne hl) ⟨Nat.zero_le _, fun p2 h2 => ?_⟩
              have t2 := sm_new (o := HO.lst []) h2
              exact ⟨p1, p2, _, _, rfl, rfl, t2 _ _ upd_same, upd_same, Nat.le_of_ble_eq_true rfl, fun m hm => ⟨m, rfl, (t1.trans t2).trans (sm_new hm), upd_same⟩⟩
          · rintro σ' H5 ⟨m, rfl, s5, hm⟩
            have h5 := s5 _ _ h3
            have wl := kWords_len (kdOf so)
            have ml : ((([so.fm, so.nm, nt so.n] : List Str) ++ (if so.fm = "lift" then [nt so.h] else [])).map V.str).length + 1 ≤ sizeLine := by
              refine Nat.le_trans (show _ ≤ 9 from ?_) (by decide)
              rw [List.length_map]
              split <;> simp
            have bnd : ((kWords (kdOf so)).map (·.length)).sum + (kWords (kdOf so)).length * (" " : Str).length ≤ 16777216 := by
              have h1 := sum_le (B := 5) (kWords (kdOf so)) fun x hx => (kWords_plain kok x hx).2
              have h3 : (" " : Str).length = 1 := by decide +kernel
              rw [h3]
              omega
            have ew : ∀ T : Str, T = tmT so.o → ((([so.fm, so.nm, nt so.n] : List Str) ++ (if so.fm = "lift" then [nt so.h] else [])).map V.str) ++ [V.str T] = (kWords (kdOf so)).map V.str := fun T hT => by
              rw [kWords_of sok, hT]
              exact mapS1 _ _
            have ll : ((hLine p.rule :: (p.ss.take i).map (fun s => kLine (kdOf s))).map V.str).length < sizeLine := by
              refine Nat.lt_of_le_of_lt (show _ ≤ 5 from ?_) (by decide)
              have := ok.len
              simp only [List.length_map, List.length_cons, List.length_take]
              omega
            have el : ((hLine p.rule :: (p.ss.take i).map (fun s => kLine (kdOf s))).map V.str) ++ [V.str (kLine (kdOf so))] = (hLine p.rule :: (p.ss.take (i + 1)).map (fun s => kLine (kdOf s))).map V.str := by
              rw [List.take_succ, hso]
              simp
            refine ⟨_, rfl, .inl ⟨rfl, _, SqL.of h5⟩, ⟨_, rfl⟩, _, rfl, _, rfl, rfl, _, rfl, ?_⟩
            cases ho : so.o with
            | none =>
              refine itT rfl ⟨Nat.le_of_ble_eq_true rfl, fun c hc => ?_⟩
              have t1 := sm_new (o := HO.lst [V.str "any"]) hc
              refine ⟨m, c, _, _, rfl, rfl, t1 _ _ hm, upd_same, ml, fun z hz => ?_⟩
              have t2 := t1.trans (sm_new (o := HO.lst (((([so.fm, so.nm, nt so.n] : List Str) ++ (if so.fm = "lift" then [nt so.h] else [])).map V.str) ++ [V.str "any"])) hz)
              refine ⟨" ", z, kWords (kdOf so), rfl, rfl, .inl (SqL.of (by rw [← ew "any" (by rw [ho]; rfl)]; exact upd_same)), bnd, ln, _, _, rfl, rfl, t2 _ _ h5, ll, _, _, _, _, _, _, rfl, sm_to ((s3.trans s5).trans t2) nln, ?_⟩
              rw [upd_same]
              exact congrArg (fun l => some (HO.lst l)) el
            | some j =>
              refine itF rfl ⟨_, rfl, j, rfl, small_log (sok.o j ho), Nat.le_of_ble_eq_true rfl, fun c hc => ?_⟩
              have t1 := sm_new (o := HO.lst [V.str (nt j)]) hc
              refine ⟨m, c, _, _, rfl, rfl, t1 _ _ hm, upd_same, ml, fun z hz => ?_⟩
              have t2 := t1.trans (sm_new (o := HO.lst (((([so.fm, so.nm, nt so.n] : List Str) ++ (if so.fm = "lift" then [nt so.h] else [])).map V.str) ++ [V.str (nt j)])) hz)
              refine ⟨" ", z, kWords (kdOf so), rfl, rfl, .inl (SqL.of (by rw [← ew (nt j) (by rw [ho]; rfl)]; exact upd_same)), bnd, ln, _, _, rfl, rfl, t2 _ _ h5, ll, _, _, _, _, _, _, rfl, sm_to ((s3.trans s5).trans t2) nln, ?_⟩
              rw [upd_same]
              exact congrArg (fun l => some (HO.lst l)) el
        · rintro σ H3 ⟨u7, u8, u9, u10, u11, u12, rfl, s3, h3⟩
          rw [hss.1, List.take_length] at h3
          refine ⟨⟨_, rfl⟩, _, rfl, "\n", ln, _, rfl, rfl, .inl (SqL.of h3), ?_, ?_⟩
          · have h1 := sum_le (B := 66) (hLine p.rule :: p.ss.map fun s => kLine (kdOf s)) fun x hx => by
              rcases List.mem_cons.mp hx with rfl | hx
              · exact hLine_len rok
              · obtain ⟨s, hs, rfl⟩ := List.mem_map.mp hx
                exact Nat.le_trans (kLine_len (kdOf_ok (ok.ss s hs))) (by decide)
            have h2 := ok.len
            have h3 : ("\n" : Str).length = 1 := by decide +kernel
            rw [h3]
            simp only [List.length_cons, List.length_map] at h1 ⊢
            omega
          · have := k _ s3
            have e : rText p.rule = Txt.join "\n" (hLine p.rule :: p.ss.map fun s => kLine (kdOf s)) := by
              show Txt.join "\n" (hLine p.rule :: (p.ss.map kdOf).map kLine) = _
              rw [List.map_map]
              rfl
            rw [e] at this
            exact this
theorem G_u_law_made (T : Txt P w K mg) : Cal P w K mg base 9 "_law_made" (spMade K) [] := by
  have G_u_law_text := G_u_law_text (P := P) (w := w) (base := base) T
  have R_Rule_read := R_Rule_read (P := P) (w := w) (base := base) T
  refine calN T.d_u_law_made T.g_u_law_made sc_u_law_made (fun _ _ _ _ _ _ us hl => match us, hl with | [_], _ => rfl) (fun vs H Q E h => ?_) (fun cdv A outer s H vs Q E hr h => ?_)
  · obtain ⟨t, p, rfl, _⟩ := h
    rfl
  · obtain ⟨t, p, rfl, hp, ok, k⟩ := h
    refine ⟨_, (pss_one (ps_ret (ClX.pe_cmeth (E := C8.E0) (pe_glob (v := .ref (ga K "Rule")) (by rfl) T.g_Rule rfl) T.cr_Rule T.cm_Rule R_Rule_read (hr.mono (by decide)) C8.pass0 (pa_cons (pe_c G_u_law_text hr (by decide) (by rfl) (pa_cons (pv 0) pa_nil)) pa_nil)))), ?_⟩
    exact ⟨rfl, _, rfl, t, p, rfl, hp, ok, fun H1 s1 => ⟨p.rule, rfl, ok.rule, fun H2 a s2 ha => k _ a (s1.trans s2) ha⟩⟩
end
end Ts
set_option maxHeartbeats 4000000
namespace Ts
open PySem PySem.Spec PyProof.Rows L2 C8 He
/-! ### drawn sorts, drawn plans -/
def titlesC : List Str := ["talk", "owe", "plea", "x", "ill", "a"]
theorem titlesC_nd : titlesC.Nodup := by decide +kernel
def nameB (x : Str) : Bool := !inV (.str x) [.str "any", .str "none", .str "anew", .str "lift", .str "term"] && (decide (1 ≤ x.length) && (decide (x.length ≤ 4) && x.cps.toList.all fun c => decide (c ∈ ("abcdefghijklmnopqrstuvwxyz" : Str).cps.toList)))
theorem nameB_ok {x : Str} (h : nameB x = true) : NameOk x := by
  unfold nameB at h
  rw [Bool.and_eq_true, Bool.and_eq_true, Bool.and_eq_true] at h
  obtain ⟨h1, h2, h3, h4⟩ := h
  exact ⟨by simpa using h1, of_decide_eq_true h2, of_decide_eq_true h3, fun c hc => of_decide_eq_true (List.all_eq_true.mp h4 c hc)⟩
theorem titlesC_ok : ∀ x ∈ titlesC, NameOk x := fun x hx => nameB_ok (List.all_eq_true.mp (show titlesC.all nameB = true by decide +kernel) x hx)
theorem titlesC_str : ∀ x ∈ titlesC, PySem.PyData.strOk x = true := fun x hx => List.all_eq_true.mp (show titlesC.all PySem.PyData.strOk = true by decide +kernel) x hx
theorem zz_ok : NameOk "zz" := nameB_ok (by decide +kernel)
abbrev sizesV : List V := [.int 1, .int 2, .int 3, .int 5, .int 9]
abbrev oftenV : List V := [.int 1, .int 1, .int 2, .non]
theorem sizes_mem {v : V} (h : v ∈ sizesV) : ∃ n, v = .int n ∧ NumI n := by
  simp only [List.mem_cons, List.not_mem_nil, or_false] at h
  rcases h with rfl | rfl | rfl | rfl | rfl
  · exact ⟨1, rfl, by decide, by decide⟩
  · exact ⟨2, rfl, by decide, by decide⟩
  · exact ⟨3, rfl, by decide, by decide⟩
  · exact ⟨5, rfl, by decide, by decide⟩
  · exact ⟨9, rfl, by decide, by decide⟩
theorem often_mem {v : V} (h : v ∈ oftenV) : ∃ o, v = oV o ∧ ∀ i, o = some i → NumI i := by
  simp only [List.mem_cons, List.not_mem_nil, or_false] at h
  rcases h with rfl | rfl | rfl | rfl
  · exact ⟨some 1, rfl, fun i e => by cases e; exact ⟨by decide, by decide⟩⟩
  · exact ⟨some 1, rfl, fun i e => by cases e; exact ⟨by decide, by decide⟩⟩
  · exact ⟨some 2, rfl, fun i e => by cases e; exact ⟨by decide, by decide⟩⟩
  · exact ⟨none, rfl, fun i e => by cases e⟩
theorem form_mem {v : V} (h : v ∈ [V.str "still", V.str "anew", V.str "lift"]) : ∃ f : Str, v = .str f ∧ (f = "still" ∨ f = "anew" ∨ f = "lift") := by
  simp only [List.mem_cons, List.not_mem_nil, or_false] at h
  rcases h with rfl | rfl | rfl
  · exact ⟨_, rfl, .inl rfl⟩
  · exact ⟨_, rfl, .inr (.inl rfl)⟩
  · exact ⟨_, rfl, .inr (.inr rfl)⟩
theorem cut_take (xs : List V) {v : Int} (h : 0 ≤ v) : cutV xs none (some v) = xs.take v.toNat := by
  unfold cutV
  have e : HT.sIx xs.length xs.length (some v) = min v.toNat xs.length := by
    show (if v < 0 then (v + (xs.length : Int)).toNat else min v.toNat xs.length) = _
    rw [if_neg (by omega)]
  rw [e]
  show ((xs.drop 0).take (min v.toNat xs.length - 0)) = _
  rw [List.drop_zero, Nat.sub_zero]
  by_cases hv : v.toNat ≤ xs.length
  · rw [Nat.min_eq_left hv]
  · rw [Nat.min_eq_right (by omega), List.take_length, List.take_of_length_le (by omega)]
structure SzAt (H : Hp) (d l az ao : Addr) : Prop where
  z : H az = some (.lst sizesV)
  o : H ao = some (.lst oftenV)
  z1 : az ≠ d
  z2 : az ≠ l
  o1 : ao ≠ d
  o2 : ao ≠ l
theorem SzAt.sd {H H' : Hp} {d l az ao : Addr} (s : SD d l H H') (h : SzAt H d l az ao) : SzAt H' d l az ao := ⟨s _ _ h.z h.z1 h.z2, s _ _ h.o h.o1 h.o2, h.z1, h.z2, h.o1, h.o2⟩
def spSorts : Sp := fun vs H Q _ => ∃ (d l az ao : Addr), vs = [.ref d, .int 3, .ref az, .ref ao] ∧ DealAt H d l ∧ SzAt H d l az ao ∧
  ∀ H' p xs (ss : List So), SD d l H H' → DealAt H' d l → H' p = some (.lst xs) → SosAt H' xs ss → (∀ s ∈ ss, SoOk s) → ss.length ≤ 3 → (ss.map (·.nm)).Nodup → Q (.ref p) H'
def spPlan : Sp := fun vs H Q _ => ∃ (d l az ao : Addr), vs = [.ref d, .int 3, .ref az, .ref ao] ∧ DealAt H d l ∧ SzAt H d l az ao ∧
  ∀ H' t p, SD d l H H' → DealAt H' d l → PlanAt H' t p → PlOk p → Q (.ref t) H'
section
variable {P : Program} {w : World} {K : PySem.W.Frag} {mg : Str → Option Value} {base : Heap}
theorem G_u_law_sorts (T : Txt P w K mg) : Cal P w K mg base 3 "_law_sorts" spSorts [] := by
  have G_u_law_draw := G_u_law_draw (P := P) (w := w) (base := base) T
  have G_u_law_pick := G_u_law_pick (P := P) (w := w) (base := base) T
  have G_u_law_mixed := G_u_law_mixed (P := P) (w := w) (base := base) T
  refine calN T.d_u_law_sorts T.g_u_law_sorts sc_u_law_sorts (fun _ _ _ _ _ _ us hl => match us, hl with | [_, _, _, _], _ => rfl) (fun vs H Q E h => ?_) (fun cdv A outer s H vs Q E hr h => ?_)
  · obtain ⟨d, l, az, ao, rfl, _⟩ := h
    rfl
  · obtain ⟨d, l, az, ao, rfl, D, Z, k⟩ := h
    refine ⟨_, (pss_cons (ps_set (i := 4) sc_u_law_sorts.nd rfl (Or.inl rfl) (pe_lst pa_nil))
      (pss_cons (ps_for PassesOwn.never rfl (pi_list (pe_slice sl_list (pe_c G_u_law_mixed hr (by decide) (by rfl) (pa_cons (pv 0) (pa_cons (pe_lst (pa_cons pe_str (pa_cons pe_str (pa_cons pe_str (pa_cons pe_str (pa_cons pe_str (pa_cons pe_str pa_nil))))))) pa_nil))) po_none (po_some (pe_c G_u_law_draw hr (by decide) (by rfl) (pa_cons (pv 0) (pa_cons (pe_op op_add (pv 1) pe_int) pa_nil)))))) (pg_name (i := 5) sc_u_law_sorts.nd rfl (Or.inl rfl)) (pss_cons (ps_set (i := 6) sc_u_law_sorts.nd rfl (Or.inl rfl) (pe_c G_u_law_pick hr (by decide) (by rfl) (pa_cons (pv 0) (pa_cons (pe_lst (pa_cons pe_str (pa_cons pe_str (pa_cons pe_str pa_nil)))) pa_nil))))
      (pss_one (ps_expr (pe_bm PySem.F.plainAttrs_list PySem.F.slot_list_append PySem.F.type_list_append mt_append (pv 4) (pa_cons (pe_tup (pa_cons (pv 6) (pa_cons (pv 5) (pa_cons (pe_c G_u_law_pick hr (by decide) (by rfl) (pa_cons (pv 0) (pa_cons (pv 2) pa_nil))) (pa_cons (pe_c G_u_law_pick hr (by decide) (by rfl) (pa_cons (pv 0) (pa_cons (pv 2) pa_nil))) (pa_cons (pe_c G_u_law_pick hr (by decide) (by rfl) (pa_cons (pv 0) (pa_cons (pv 3) pa_nil))) pa_nil)))))) pa_nil))))))
      (pss_one (ps_ret (pv 4))))), ?_⟩
    refine ⟨Nat.zero_le _, fun fd hfd => ?_⟩
    have sf := sm_new (o := HO.lst []) hfd
    have nf := sdne D (Same.refl _) hfd
    refine ⟨_, rfl, Nat.le_of_ble_eq_true rfl, fun at_ hat => ?_⟩
    have sa := sm_new (o := HO.lst (titlesC.map V.str)) hat
    have na := sdne D sf hat
    have nfa : at_ ≠ fd := fun z => by rw [z, upd_same] at hat; cases hat
    refine ⟨d, l, at_, titlesC, rfl, D.same (sf.trans sa), upd_same, na.1, na.2, by decide, titlesC_str, fun H2 p zs s2 D2 perm hp p1 p2 => ?_⟩
    refine ⟨_, rfl, _, rfl, 3, 1, rfl, rfl, d, l, _, rfl, D2, by decide, by decide, fun H3 v s3 D3 v0 v4 => ?_⟩
    have hf3 : H3 fd = some (.lst []) := s3 _ _ (s2 _ _ (sa _ _ upd_same) nf.1 nf.2) nf.1 nf.2
    refine ⟨v, rfl, p, _, rfl, SqL.of (s3 _ _ hp p1 p2), fun q hq => ?_⟩
    rw [cut_take _ v0, ← List.map_take]
    have v4' : v < 4 := v4
    have tnd : (zs.take v.toNat).Nodup := (perm.nodup_iff.mpr titlesC_nd).sublist (List.take_sublist _ _)
    have tok : ∀ x ∈ zs.take v.toNat, NameOk x := fun x hx => titlesC_ok x (perm.mem_iff.mp (List.mem_of_mem_take hx))
    have tl : (zs.take v.toNat).length ≤ 3 := by rw [List.length_take]; omega
    generalize zs.take v.toNat = ts at *
    have sq := sm_new (o := HO.lst (ts.map V.str)) hq
    have nq := sdne D3 (Same.refl _) hq
    have nqf : q ≠ fd := fun z => by rw [z, hf3] at hq; cases hq
    have s4 : SD d l H (upd H3 q (.lst (ts.map V.str))) := (((SD.of (sf.trans sa)).trans s2).trans s3).trans (.of sq)
    refine ⟨q, rfl, ⟨_, SqL.of upd_same⟩, ?_⟩
    refine for_it (walk_list (K := K) (a := q) (xs := ts.map V.str)) (fun i σ H' => ∃ xs ss u5 u6, σ = [some (.ref d), some (.int 3), some (.ref az), some (.ref ao), some (.ref fd), u5, u6] ∧ SD d l H H' ∧ DealAt H' d l ∧ H' q = some (.lst (ts.map V.str)) ∧ H' fd = some (.lst xs) ∧ SosAt H' xs ss ∧ ss.map (·.nm) = ts.take i ∧ ∀ s ∈ ss, SoOk s)
      ⟨[], [], none, none, rfl, s4, D3.same sq, upd_same, sq _ _ hf3, ⟨rfl, fun i s e => by simp at e⟩, rfl, fun s hs => nomatch hs⟩ (fun i σ H' _ h => by obtain ⟨_, _, _, _, _, _, _, h, _⟩ := h; exact SqL.of h) ?_ ?_
    · rintro i v5 σ H5 H6 hi ⟨xs, ss, u5, u6, rfl, s5, D5, hq5, hf5, hss, hnm, hok⟩ ⟨rfl, hv⟩
      rw [List.getElem?_map] at hv
      obtain ⟨ti, hti, rfl⟩ := Option.map_eq_some_iff.mp hv
      refine ⟨_, rfl, Nat.le_of_ble_eq_true rfl, fun ap hap => ?_⟩
      have sap := sm_new (o := HO.lst [V.str "still", V.str "anew", V.str "lift"]) hap
      have nap := sdne D5 (Same.refl _) hap
      refine ⟨d, l, ap, _, rfl, D5.same sap, upd_same, nap.1, nap.2, Nat.le_of_ble_eq_true rfl, Nat.le_of_ble_eq_true rfl, fun H7 v7 s7 D7 hv7 => ?_⟩
      obtain ⟨fm, rfl, hfm⟩ := form_mem hv7
      have S7 : SD d l H6 H7 := (SD.of sap).trans s7
      have Z7 := Z.sd (s5.trans S7)
      refine ⟨_, rfl, .inl ⟨rfl, _, SqL.of (S7 _ _ hf5 nf.1 nf.2)⟩, _, rfl, _, rfl, ?_⟩
      refine ⟨_, rfl, _, rfl, d, l, az, _, rfl, D7, Z7.z, Z.z1, Z.z2, Nat.le_of_ble_eq_true rfl, Nat.le_of_ble_eq_true rfl, fun H8 v8 s8 D8 hv8 => ?_⟩
      obtain ⟨n1, rfl, hn1⟩ := sizes_mem hv8
      have Z8 := Z7.sd s8
      refine ⟨_, rfl, _, rfl, d, l, az, _, rfl, D8, Z8.z, Z.z1, Z.z2, Nat.le_of_ble_eq_true rfl, Nat.le_of_ble_eq_true rfl, fun H9 v9 s9 D9 hv9 => ?_⟩
      obtain ⟨n2, rfl, hn2⟩ := sizes_mem hv9
      have Z9 := Z8.sd s9
      refine ⟨_, rfl, _, rfl, d, l, ao, _, rfl, D9, Z9.o, Z.o1, Z.o2, Nat.le_of_ble_eq_true rfl, Nat.le_of_ble_eq_true rfl, fun Ha va sa' Da hva => ?_⟩
      obtain ⟨oo, rfl, hoo⟩ := often_mem hva
      refine ⟨Nat.le_of_ble_eq_true rfl, fun x hx => ?_⟩
      have sx := sm_new (o := HO.tup [V.str fm, V.str ti, V.int n1, V.int n2, oV oo]) hx
      have SA : SD d l H6 (upd Ha x (.tup [V.str fm, V.str ti, V.int n1, V.int n2, oV oo])) := (((S7.trans s8).trans s9).trans sa').trans (.of sx)
      have hfA := SA _ _ hf5 nf.1 nf.2
      have hqA := SA _ _ hq5 nq.1 nq.2
      have DA := Da.same sx
      have lss : ss.length ≤ 3 := by
        have h := congrArg List.length hnm
        rw [List.length_map, List.length_take] at h
        omega
      refine ⟨fd, xs, _, rfl, rfl, hfA, Nat.lt_of_le_of_lt (show xs.length ≤ 3 by rw [hss.1]; exact lss) (by decide), ?_⟩
      have up : SameI (upd Ha x (.tup [V.str fm, V.str ti, V.int n1, V.int n2, oV oo])) (upd (upd Ha x (.tup [V.str fm, V.str ti, V.int n1, V.int n2, oV oo])) fd (.lst (xs ++ [.ref x]))) := SameI.lst hfA
      have hxA : (upd (upd Ha x (.tup [V.str fm, V.str ti, V.int n1, V.int n2, oV oo])) fd (.lst (xs ++ [.ref x]))) x = some (.tup (soV ⟨fm, ti, n1, n2, oo⟩)) := up _ _ upd_same rfl
      have hssA := (hss.mono (SD.I D5 SA)).mono up
      refine ⟨xs ++ [.ref x], ss ++ [⟨fm, ti, n1, n2, oo⟩], _, _, rfl, ?_, ?_, ?_, upd_same, ⟨by rw [List.length_append, List.length_append, hss.1]; rfl, fun j s e => ?_⟩, ?_, fun s hs => ?_⟩
      · intro b o e h1 h2
        have e2 := (s5.trans SA) b o e h1 h2
        rw [upd_ne (ne_of_none e hfd)]
        exact e2
      · obtain ⟨b5, hd5⟩ := DA.dd
        obtain ⟨ns5, hn5, hl5⟩ := DA.ll
        exact ⟨D.ne, ⟨b5, by rw [upd_ne nf.1.symm]; exact hd5⟩, ns5, hn5, by rw [upd_ne nf.2.symm]; exact hl5⟩
      · rw [upd_ne nqf]
        exact hqA
      · by_cases hj : j < ss.length
        · rw [List.getElem?_append_left hj] at e
          obtain ⟨p', e1, e2⟩ := hssA.2 j s e
          exact ⟨p', by rw [List.getElem?_append_left (by rw [hss.1]; exact hj)]; exact e1, e2⟩
        · rw [List.getElem?_append_right (by omega)] at e
          have hj0 : j - ss.length = 0 := by
            have := (List.getElem?_eq_some_iff.mp e).1
            simp at this
            omega
          rw [hj0] at e
          cases e
          exact ⟨x, by rw [List.getElem?_append_right (by rw [hss.1]; omega), hss.1, hj0]; rfl, hxA⟩
      · rw [List.map_append, hnm, List.take_succ, hti]
        rfl
      · rcases List.mem_append.mp hs with hs | hs
        · exact hok s hs
        · rw [List.mem_singleton.mp hs]
          exact ⟨hfm, tok ti (List.mem_of_getElem? hti), hn1, hn2, hoo⟩
    · rintro σ H5 ⟨xs, ss, u5, u6, rfl, s5, D5, hq5, hf5, hss, hnm, hok⟩
      rw [List.length_map, List.take_length] at hnm
      refine ⟨_, rfl, k H5 fd xs ss s5 D5 hf5 hss hok ?_ (by rw [hnm]; exact tnd)⟩
      have h := congrArg List.length hnm
      rw [List.length_map] at h
      omega
theorem cap_mem {v : V} {c : Int} (h1 : 0 ≤ c) (h2 : c < 60) (h : v ∈ [V.non, V.non, V.int (1 + c)]) : ∃ o, v = oV o ∧ ∀ i, o = some i → NumI i := by
  simp only [List.mem_cons, List.not_mem_nil, or_false] at h
  rcases h with rfl | rfl | rfl
  · exact ⟨none, rfl, fun i e => by cases e⟩
  · exact ⟨none, rfl, fun i e => by cases e⟩
  · exact ⟨some (1 + c), rfl, fun i e => by cases e; exact ⟨by omega, by omega⟩⟩
theorem G_u_law_plan (T : Txt P w K mg) : Cal P w K mg base 4 "_law_plan" spPlan [] := by
  have G_u_law_draw := G_u_law_draw (P := P) (w := w) (base := base) T
  have G_u_law_pick := G_u_law_pick (P := P) (w := w) (base := base) T
  have G_u_law_rests := G_u_law_rests (P := P) (w := w) (base := base) T
  have G_u_law_sorts := G_u_law_sorts (P := P) (w := w) (base := base) T
  refine calN T.d_u_law_plan T.g_u_law_plan sc_u_law_plan (fun _ _ _ _ _ _ us hl => match us, hl with | [_, _, _, _], _ => rfl) (fun vs H Q E h => ?_) (fun cdv A outer s H vs Q E hr h => ?_)
  · obtain ⟨d, l, az, ao, rfl, _⟩ := h
    rfl
  · obtain ⟨d, l, az, ao, rfl, D, Z, k⟩ := h
    refine ⟨_, (pss_cons (ps_set (i := 4) sc_u_law_plan.nd rfl (Or.inl rfl) (pe_c G_u_law_pick hr (by decide) (by rfl) (pa_cons (pv 0) (pa_cons (pe_lst (pa_cons pe_non (pa_cons pe_non (pa_cons (pe_op op_add pe_int (pe_c G_u_law_draw hr (by decide) (by rfl) (pa_cons (pv 0) (pa_cons pe_int pa_nil)))) pa_nil)))) pa_nil))))
      (pss_one (ps_ret (pe_tup (pa_cons (pe_c G_u_law_pick hr (by decide) (by rfl) (pa_cons (pv 0) (pa_cons (pv 2) pa_nil))) (pa_cons (pe_c G_u_law_rests hr (by decide) (by rfl) (pa_cons (pv 0) pa_nil)) (pa_cons (pv 4) (pa_cons (pe_c G_u_law_sorts hr (by decide) (by rfl) (pa_cons (pv 0) (pa_cons (pv 1) (pa_cons (pv 2) (pa_cons (pv 3) pa_nil))))) pa_nil)))))))), ?_⟩
    refine ⟨_, rfl, _, rfl, d, l, 60, rfl, D, by decide, by decide, fun H1 c s1 D1 c0 c60 => ?_⟩
    refine ⟨1, c, rfl, rfl, Nat.le_of_ble_eq_true rfl, fun ap hap => ?_⟩
    have sap := sm_new (o := HO.lst [V.non, V.non, V.int (1 + c)]) hap
    have nap := sdne D1 (Same.refl _) hap
    refine ⟨d, l, ap, _, rfl, D1.same sap, upd_same, nap.1, nap.2, Nat.le_of_ble_eq_true rfl, Nat.le_of_ble_eq_true rfl, fun H2 v2 s2 D2 hv2 => ?_⟩
    obtain ⟨cp, rfl, hcp⟩ := cap_mem c0 c60 hv2
    have S2 : SD d l H H2 := (s1.trans (.of sap)).trans s2
    have Z2 := Z.sd S2
    refine ⟨_, rfl, _, rfl, d, l, az, _, rfl, D2, Z2.z, Z.z1, Z.z2, Nat.le_of_ble_eq_true rfl, Nat.le_of_ble_eq_true rfl, fun H3 v3 s3 D3 hv3 => ?_⟩
    obtain ⟨sz, rfl, hsz⟩ := sizes_mem hv3
    refine ⟨_, rfl, d, l, rfl, D3, fun H4 p rs s4 D4 hp p1 p2 rok => ?_⟩
    refine ⟨_, rfl, ?_⟩
    have S4 := (S2.trans s3).trans s4
    refine ⟨_, rfl, _, rfl, _, rfl, _, rfl, d, l, az, ao, rfl, D4, Z.sd S4, fun H5 q xs ss s5 D5 hq hss sok sl snd => ?_⟩
    refine ⟨Nat.le_of_ble_eq_true rfl, fun t ht => ?_⟩
    have st := sm_new (o := HO.tup [V.int sz, V.ref p, oV cp, V.ref q]) ht
    exact k _ t ⟨sz, rs, cp, ss⟩ ((S4.trans s5).trans (.of st)) (D5.same st) ⟨p, q, xs, upd_same, st _ _ (s5 _ _ hp p1 p2), st _ _ hq, hss.mono (SameI.of st)⟩ ⟨hsz, rok, hcp, sok, sl, snd⟩
end
end Ts
set_option maxHeartbeats 4000000
namespace Ts
open PySem PySem.Spec PyProof.Rows L2 C8 He
section
variable {X : Cx}
/-! ### repr of None, True, False -/
def rReprN : List V → Hp → VK → Prop := fun vs H Q => (vs = [.non] ∧ Q (.str "None") H) ∨ ∃ b : Bool, vs = [.bl b] ∧ Q (.str (if b then "True" else "False")) H
theorem cr_reprN : CallR X (.builtin "repr") rReprN := by
  intro pins s σ H vs us Q I r h
  rcases h with ⟨rfl, q⟩ | ⟨b, rfl, q⟩
  · obtain ⟨u, rfl, ru⟩ := vals1 r
    cases ru
    exact PySem.P.repr_of_none ⟨.str _, H, I.tok _, ⟨_, rfl⟩, q⟩
  · obtain ⟨u, rfl, ru⟩ := vals1 r
    cases ru
    exact PySem.P.repr_of_bool ⟨.str _, H, I.tok _, ⟨_, rfl⟩, q⟩
/-! ### sorted(xs) of unsure occasions -/
def encU (b : Us × Addr) : PyData := .tuple [.int b.1.f, .int b.1.l, .str b.1.nm, .int b.1.d]
theorem alikeU (a b : Us × Addr) : PySem.W.alike (encU a) (encU b) = true := by
  simp [encU, PySem.W.alike, PySem.W.alikeAll]
theorem notT {b : Bool} (h : (!b) = true) : b = false := by
  cases b
  · rfl
  · cases h
theorem leU_total : ∀ a b : Us × Addr, (PySem.W.dataLe false encU a b || PySem.W.dataLe false encU b a) = true := fun a b => by
  show (!PySem.W.dataLt (encU b) (encU a) || !PySem.W.dataLt (encU a) (encU b)) = true
  cases h1 : PySem.W.dataLt (encU b) (encU a) with
  | false => rfl
  | true =>
    cases h2 : PySem.W.dataLt (encU a) (encU b) with
    | false => rfl
    | true =>
      have h3 := lex_trans (O := itemOrd) _ _ _ h1 h2
      rw [lex_irrefl] at h3
      cases h3
theorem leU_trans : ∀ a b c : Us × Addr, PySem.W.dataLe false encU a b = true → PySem.W.dataLe false encU b c = true → PySem.W.dataLe false encU a c = true := fun a b c h1 h2 => by
  have h1' : PySem.W.dataLt (encU b) (encU a) = false := notT h1
  have h2' : PySem.W.dataLt (encU c) (encU b) = false := notT h2
  have h3 : PySem.W.dataLt (encU c) (encU a) = false := by
    cases h : PySem.W.dataLt (encU c) (encU a) with
    | false => rfl
    | true =>
      rcases lex_negTrans (O := itemOrd) _ (PySem.W.keyToks (encU b)) _ h with q | q
      · rw [show lexLt itemOrd (PySem.W.keyToks (encU c)) (PySem.W.keyToks (encU b)) = false from h2'] at q; cases q
      · rw [show lexLt itemOrd (PySem.W.keyToks (encU b)) (PySem.W.keyToks (encU a)) = false from h1'] at q; cases q
  show (!PySem.W.dataLt (encU c) (encU a)) = true
  rw [h3]
  rfl
theorem leU_f {a b : Us × Addr} (h : PySem.W.dataLe false encU a b = true) : a.1.f ≤ b.1.f := by
  have h1 : PySem.W.dataLt (encU b) (encU a) = false := notT h
  unfold encU at h1
  rw [PySem.W.dataLt_tuple, PySem.W.dataLt_cons (by simp [PySem.W.alike])] at h1
  by_cases e : b.1.f = a.1.f
  · omega
  · have e' : ¬ PyData.eqv (.int b.1.f) (.int a.1.f) = true := by simpa [PyData.eqv] using e
    rw [if_neg e', PySem.W.dataLt_int] at h1
    have := of_decide_eq_false h1
    omega
theorem sortU_pw (l : List (Us × Addr)) : (l.mergeSort (PySem.W.dataLe false encU)).Pairwise fun a b => a.1.f ≤ b.1.f :=
  (List.pairwise_mergeSort (le := PySem.W.dataLe false encU) leU_trans leU_total l).imp leU_f
def rSortU (K : PySem.W.Frag) : List V → Hp → VK → Prop := fun vs H Q => ∃ (a : Addr) (xs : List V) (us : List Us), vs = [.ref a] ∧ SqL K H a xs ∧ UssAt H xs us ∧ us.length ≤ 1000 ∧
  ∀ (p : Addr) (ys : List V) (us' : List Us), us'.Perm us → us'.Pairwise (fun u v => u.f ≤ v.f) → UssAt H ys us' → H p = none → Q (.ref p) (upd H p (.lst ys))
theorem uss_pairs {H : Hp} : ∀ {xs : List V} {us : List Us}, UssAt H xs us → ∃ bs : List (Us × Addr), bs.map (·.1) = us ∧ bs.map (fun b => V.ref b.2) = xs ∧ ∀ b ∈ bs, H b.2 = some (.tup (unV b.1))
  | [], [], _ => ⟨[], rfl, rfl, fun b hb => nomatch hb⟩
  | [], _ :: _, h => by have := h.1; simp at this
  | _ :: _, [], h => by have := h.1; simp at this
  | x :: xs, u :: us, h => by
    obtain ⟨p, e1, e2⟩ := h.2 0 u rfl
    obtain rfl : x = .ref p := Option.some.inj e1
    obtain ⟨bs, h1, h2, h3⟩ := uss_pairs (xs := xs) (us := us) ⟨by simpa using h.1, fun i o e => by
      obtain ⟨p, a, b⟩ := h.2 (i + 1) o (by simpa using e)
      exact ⟨p, by simpa using a, b⟩⟩
    refine ⟨(u, p) :: bs, by rw [List.map_cons, h1], by rw [List.map_cons, h2], fun b hb => ?_⟩
    rcases List.mem_cons.mp hb with rfl | hb
    · exact e2
    · exact h3 b hb
theorem uss_of {H : Hp} : ∀ {bs : List (Us × Addr)}, (∀ b ∈ bs, H b.2 = some (.tup (unV b.1))) → UssAt H (bs.map fun b => V.ref b.2) (bs.map (·.1)) := fun {bs} h => ⟨by simp, fun i u e => by
  rw [List.getElem?_map] at e
  obtain ⟨b, hb, rfl⟩ := Option.map_eq_some_iff.mp e
  exact ⟨b.2, by rw [List.getElem?_map, hb]; rfl, h b (List.mem_of_getElem? hb)⟩⟩
theorem vals_uss : ∀ bs : List (Us × Addr), Vals (bs.map fun b => V.ref b.2) (bs.map fun b => Value.ref b.2)
  | [] => .nil
  | _ :: r => .cons rfl (vals_uss r)
theorem each_uss {R : Value → Us × Addr → Prop} : ∀ (bs : List (Us × Addr)), (∀ b ∈ bs, R (.ref b.2) b) → PySem.W.EachIs R (bs.map fun b => Value.ref b.2) bs
  | [], _ => .nil
  | b :: bs, h => .cons (h b (List.mem_cons_self ..)) (each_uss bs fun y hy => h y (List.mem_cons_of_mem _ hy))
theorem each_uss_eq : ∀ {vs : List Value} {bs : List (Us × Addr)}, PySem.W.EachIs (fun v (b : Us × Addr) => v = .ref b.2) vs bs → vs = bs.map fun b => Value.ref b.2
  | _, _, .nil => rfl
  | _, _, .cons h t => by rw [List.map_cons, h, each_uss_eq t]
theorem cr_sortedU (hu : X.A.units + 64 < cLine) : CallR X (.builtin "sorted") (rSortU X.K) := by
  intro pins s σ H vs us Q I r h
  obtain ⟨a, xs, us0, rfl, hs, hx, hl, q⟩ := h
  obtain ⟨bs, rfl, rfl, hb⟩ := uss_pairs hx
  obtain ⟨its, rv, hli, hz⟩ := I.list hs
  obtain ⟨u, rfl, ru⟩ := vals1 r
  cases ru
  have ei : its = bs.map fun b => Value.ref b.2 := by
    have e1 : bs.map (fun b => V.ref b.2) = (bs.map (·.2)).map V.ref := by rw [List.map_map]; rfl
    rw [e1] at rv
    rw [refs_at rv, List.map_map]
    rfl
  subst ei
  rw [List.length_map] at hl
  refine PySem.W.sorted_data (vs := bs.map fun b => Value.ref b.2) (bs := bs) (enc := encU) (R := fun v b => v = .ref b.2) hli.isList (each_uss bs fun b hb => rfl) (each_uss bs fun b hbm => ?_) (PySem.W.AllAlike.of alikeU) (PySem.W.Sortable.tuples fun b => ⟨_, _, rfl⟩) (by rw [sizeLine_eq]; omega) (fun b _ => ?_) fun out ho he => ?_
  · obtain ⟨z, its2, r2, o, h1, h2, n, h3⟩ := (show ObjOk X.prog X.w H s.heap b.2 (.tup (unV b.1)) from I.hok _ _ (hb b hbm))
    unfold unV at r2
    cases r2 with
    | cons a1 r2 =>
      cases r2 with
      | cons a2 r2 =>
        cases r2 with
        | cons a3 r2 =>
          cases r2 with
          | cons a4 r2 =>
            cases r2
            obtain ⟨t1, rfl⟩ := a1
            obtain ⟨t2, rfl⟩ := a2
            obtain ⟨t3, rfl⟩ := a3
            obtain ⟨t4, rfl⟩ := a4
            exact ⟨_, Reads.tuple h1 h2 h3 (ReadsAll.cons (Reads.int _ _) (ReadsAll.cons (Reads.int _ _) (ReadsAll.cons (Reads.str _ _) (ReadsAll.cons (Reads.int _ _) ReadsAll.nil))))⟩
  · have : (encU b).depth ≤ 2 := by simp [encU, PyData.depth, PyData.depthAll]
    omega
  · have eo := each_uss_eq he
    subst eo
    have hpm : (bs.mergeSort (PySem.W.dataLe false encU)).Perm bs := List.mergeSort_perm _ _
    have hpw := sortU_pw bs
    generalize bs.mergeSort (PySem.W.dataLe false encU) = cs at *
    obtain ⟨e, hat⟩ := sortedAll_at s.heap (bs.map fun b => Value.ref b.2) (cs.map fun b => Value.ref b.2).toArray
    have hn : H (s.heap.objs.size + 1) = none := I.hok.fresh (Nat.le_succ _)
    refine ⟨.ref (s.heap.objs.size + 1), _, I.laid (o := .lst (cs.map fun b => V.ref b.2)) (t' := s.toks) (fun b o q => sortedAll_old q) (Nat.le_succ _) ⟨by rw [List.length_map, hpm.length_eq, sizeLine_eq]; omega, _, e, vals_uss cs, hat⟩, rfl, q _ _ (cs.map (·.1)) (hpm.map _) (List.pairwise_map.mpr hpw) (uss_of fun b hbm => hb b (hpm.mem_iff.mp hbm)) hn⟩
end
end Ts
set_option maxHeartbeats 4000000
namespace Ts
open PySem PySem.Spec PyProof.Rows L2 C8 He
/-! ### the plain law -/
theorem strict_eq {a b : List Int} (ha : a.Pairwise (· < ·)) (hb : b.Pairwise (· < ·)) (h : ∀ k, k ∈ a ↔ k ∈ b) : a = b := by
  have na : a.Nodup := ha.imp fun h => by omega
  have nb : b.Nodup := hb.imp fun h => by omega
  exact List.Perm.eq_of_pairwise (le := fun x y => x < y) (fun x y _ _ h1 h2 => by omega) ha hb ((List.perm_ext_iff_of_nodup na nb).mpr h)
theorem daysU_ne {u : Us} (h : UsOk u) : daysU u ≠ [] := by
  have := h.l
  unfold daysU
  intro e
  have e2 := congrArg List.length e
  rw [List.length_map, List.length_range, List.length_nil] at e2
  omega
theorem foldC_ne : ∀ (us : List Us) (acc : List (List Int)), (∀ u ∈ us, UsOk u) → acc ≠ [] → us.foldl stepC acc ≠ []
  | [], acc, _, h => h
  | u :: us, acc, ok, h => by
    refine foldC_ne us (stepC acc u) (fun v hv => ok v (List.mem_cons_of_mem _ hv)) ?_
    obtain ⟨x, xs, rfl⟩ := List.exists_cons_of_ne_nil h
    obtain ⟨y, ys, e⟩ := List.exists_cons_of_ne_nil (daysU_ne (ok u (List.mem_cons_self ..)))
    unfold stepC
    rw [List.flatMap_cons, e]
    simp
theorem choices_ne {us : List Us} (ok : UssOk us) : choicesM us ≠ [] := foldC_ne us [[]] ok.ok (by simp)
/-- what the law awaits -/
def dueM (fs : List Int) (d : Int) : V := if (fs.filter fun e => decide (d ≤ e)) ≠ [] ∧ (fs.filter fun e => decide (d ≤ e)).length < fs.length then .non else .bl (!(fs.filter fun e => decide (d ≤ e)).isEmpty)
theorem filter_lt (f : Int → Bool) : ∀ fs : List Int, ((fs.filter f).length < fs.length) ↔ (fs.any fun e => !f e) = true
  | [] => by simp
  | x :: fs => by
    have ih := filter_lt f fs
    have hl := List.length_filter_le f fs
    rw [List.filter_cons, List.any_cons]
    cases hf : f x with
    | true =>
      simp only [if_true, List.length_cons, Bool.not_true, Bool.false_or]
      rw [← ih]
      omega
    | false =>
      simp
      omega
theorem filter_ne (f : Int → Bool) : ∀ fs : List Int, (!(fs.filter f).isEmpty) = fs.any f
  | [] => rfl
  | x :: fs => by
    have ih := filter_ne f fs
    rw [List.filter_cons, List.any_cons]
    cases hf : f x with
    | true => simp
    | false => simpa using ih
theorem any_same {f : Int → Bool} {a b : List Int} (h : ∀ k, k ∈ a ↔ k ∈ b) : a.any f = b.any f := by
  rw [Bool.eq_iff_iff, List.any_eq_true, List.any_eq_true]
  exact ⟨fun ⟨x, h1, h2⟩ => ⟨x, (h x).mp h1, h2⟩, fun ⟨x, h1, h2⟩ => ⟨x, (h x).mpr h1, h2⟩⟩
theorem told_due {ns fs : List Int} (d : Int) (h : ∀ k, k ∈ ns ↔ k ∈ fs) : toldM ns d = dueM fs d := by
  unfold toldM dueM
  rw [any_same h, any_same h]
  have e1 := filter_ne (fun e => decide (d ≤ e)) fs
  have e2 := filter_lt (fun e => decide (d ≤ e)) fs
  rw [e1]
  by_cases c : (fs.any fun e => decide (d ≤ e)) = true ∧ (fs.any fun e => !decide (d ≤ e)) = true
  · have c1 : (fs.filter fun e => decide (d ≤ e)) ≠ [] ∧ (fs.filter fun e => decide (d ≤ e)).length < fs.length := by
      refine ⟨fun z => ?_, e2.mpr c.2⟩
      rw [z] at e1
      rw [c.1] at e1
      exact Bool.noConfusion e1
    rw [if_pos c, if_pos c1]
  · have c2 : ¬ ((fs.filter fun e => decide (d ≤ e)) ≠ [] ∧ (fs.filter fun e => decide (d ≤ e)).length < fs.length) := fun z => by
      refine c ⟨?_, e2.mp z.2⟩
      rw [← e1]
      cases hq : (fs.filter fun e => decide (d ≤ e)) with
      | nil => exact absurd hq z.1
      | cons _ _ => rfl
    rw [if_neg c, if_neg c2]
/-! sure days -/
def sureU (u : Us) : Us := ⟨u.f, u.f, u.nm, u.d⟩
def bareO (u : Us) : Oc := ⟨u.f, u.nm, u.d⟩
theorem sure_ok {us : List Us} (ok : UssOk us) : UssOk (us.map sureU) := ⟨fun u hu => by
  obtain ⟨v, hv, rfl⟩ := List.mem_map.mp hu
  have h := ok.ok v hv
  exact ⟨h.f, Int.le_refl _, by show v.f ≤ v.f + 3; omega, h.hi, h.nm, h.d⟩, by rw [List.length_map]; exact ok.len⟩
theorem sure_fold : ∀ (us : List Us) (s : List Int), (us.map sureU).foldl stepC [s] = [s ++ us.map (·.f)]
  | [], s => by simp
  | u :: us, s => by
    have e : stepC [s] (sureU u) = [s ++ [u.f]] := by
      have e2 : daysU (sureU u) = [u.f] := by
        unfold daysU sureU
        have e3 : (u.f + 1 - u.f).toNat = 1 := by omega
        show (List.range (u.f + 1 - u.f).toNat).map (fun (j : Nat) => u.f + (j : Int)) = _
        rw [e3]
        simp
      unfold stepC
      rw [e2]
      rfl
    show ((us.map sureU).foldl stepC (stepC [s] (sureU u))) = _
    rw [e, sure_fold us (s ++ [u.f])]
    simp
theorem sure_choices (us : List Us) : choicesM (us.map sureU) = [us.map (·.f)] := sure_fold us []
theorem sure_filled {us : List Us} (h : us.Pairwise fun u v => u.f ≤ v.f) : filledM (us.map sureU) (us.map (·.f)) = us.map bareO := by
  have pw : (pairsOf (us.map (·.f))).Pairwise fun x y => leP x y = true := by
    unfold pairsOf
    rw [List.pairwise_map, List.pairwise_iff_getElem]
    intro i j hi hj hij
    rw [List.length_range, List.length_map] at hi hj
    rw [List.getElem_range, List.getElem_range, leP_iff]
    have hm := (List.pairwise_iff_getElem.mp h) i j hi hj hij
    have e1 : (us.map (·.f)).getD i 0 = us[i].f := by
      rw [List.getD_eq_getElem?_getD, List.getElem?_map, List.getElem?_eq_getElem hi]
      rfl
    have e2 : (us.map (·.f)).getD j 0 = us[j].f := by
      rw [List.getD_eq_getElem?_getD, List.getElem?_map, List.getElem?_eq_getElem hj]
      rfl
    show (us.map (·.f)).getD i 0 < (us.map (·.f)).getD j 0 ∨ ((us.map (·.f)).getD i 0 = (us.map (·.f)).getD j 0 ∧ (i : Int) ≤ (j : Int))
    rw [e1, e2]
    omega
  unfold filledM
  rw [← sortP_eq (List.Perm.refl _) pw]
  unfold pairsOf
  rw [List.map_map, List.length_map]
  refine List.ext_getElem? fun i => ?_
  by_cases hi : i < us.length
  · rw [List.getElem?_map, List.getElem?_range hi, List.getElem?_map, List.getElem?_eq_getElem hi]
    show some (ocOf (us.map sureU) ((us.map (·.f)).getD i 0, (i : Int))) = some (bareO us[i])
    have e1 : (us.map (·.f)).getD i 0 = us[i].f := by
      rw [List.getD_eq_getElem?_getD, List.getElem?_map, List.getElem?_eq_getElem hi]
      rfl
    have e2 : (us.map sureU).getD ((i : Int)).toNat usD = sureU us[i] := by
      rw [Int.toNat_natCast, List.getD_eq_getElem?_getD, List.getElem?_map, List.getElem?_eq_getElem hi]
      rfl
    unfold ocOf
    show some (⟨(us.map (·.f)).getD i 0, ((us.map sureU).getD ((i : Int)).toNat usD).nm, ((us.map sureU).getD ((i : Int)).toNat usD).d⟩ : Oc) = _
    rw [e1, e2]
    rfl
  · rw [List.getElem?_eq_none (by simp; omega), List.getElem?_eq_none (by simp; omega)]
end Ts
set_option maxHeartbeats 4000000
namespace Ts
open PySem PySem.Spec PyProof.Rows L2 C8 He
/-! ### what the law's own body needs -/
theorem DealAt.upd {H : Hp} {d l a : Addr} {o : HO} (D : DealAt H d l) (h1 : a ≠ d) (h2 : a ≠ l) : DealAt (upd H a o) d l :=
  ⟨D.ne, let ⟨b, h⟩ := D.dd; ⟨b, by rw [upd_ne h1.symm]; exact h⟩, let ⟨ns, h3, h⟩ := D.ll; ⟨ns, h3, by rw [upd_ne h2.symm]; exact h⟩⟩
theorem UssAt.snoc {H : Hp} {xs : List V} {us : List Us} {p : Addr} {u : Us} (h : UssAt H xs us) (hp : H p = some (.tup (unV u))) : UssAt H (xs ++ [.ref p]) (us ++ [u]) := by
  refine ⟨by simp [h.1], fun j c' e => ?_⟩
  by_cases hj : j < us.length
  · rw [List.getElem?_append_left hj] at e
    obtain ⟨b, hb1, hb2⟩ := h.2 j c' e
    exact ⟨b, by rw [List.getElem?_append_left (by rw [h.1]; exact hj)]; exact hb1, hb2⟩
  · rw [List.getElem?_append_right (by omega)] at e
    have ej : j = us.length := by
      have := (List.getElem?_eq_some_iff.mp e).1
      simp at this
      omega
    subst ej
    rw [Nat.sub_self] at e
    cases e
    refine ⟨p, ?_, hp⟩
    rw [← h.1, List.getElem?_append_right (Nat.le_refl _), Nat.sub_self]
    rfl
/-- a list told by places -/
theorem list_at {α : Type} {xs : List V} {ys : List α} (f : α → V) (hl : xs.length = ys.length) (h : ∀ (i : Nat) y, xs[i]? = some y → ∃ a, ys[i]? = some a ∧ y = f a) : xs = ys.map f := by
  refine List.ext_getElem? fun i => ?_
  by_cases hi : i < xs.length
  · obtain ⟨a, h1, h2⟩ := h i _ (List.getElem?_eq_getElem hi)
    rw [List.getElem?_eq_getElem hi, List.getElem?_map, h1, h2]
    rfl
  · rw [List.getElem?_eq_none (by omega), List.getElem?_eq_none (by rw [List.length_map]; omega)]
theorem nodup_len {α : Type} : ∀ {a b : List α}, a.Nodup → (∀ x ∈ a, x ∈ b) → a.length ≤ b.length
  | [], _, _, _ => Nat.zero_le _
  | x :: a, b, h, s => by
    obtain ⟨h1, h2⟩ := List.nodup_cons.mp h
    obtain ⟨l, r, rfl⟩ := List.append_of_mem (s x (List.mem_cons_self ..))
    have ih := nodup_len (b := l ++ r) h2 fun y hy => by
      have h3 := s y (List.mem_cons_of_mem _ hy)
      have h4 : y ≠ x := fun e => h1 (e ▸ hy)
      simp only [List.mem_append, List.mem_cons] at h3 ⊢
      rcases h3 with h3 | h3 | h3
      · exact .inl h3
      · exact absurd h3 h4
      · exact .inr h3
    simp only [List.length_cons, List.length_append] at ih ⊢
    omega
theorem oss_len {us : List Us} {oss : List (List Oc)} (ok : UssOk us) (hm : ∀ os, os ∈ oss ↔ ∃ c ∈ choicesM us, os = filledM us c) (nd : oss.Nodup) : oss.length ≤ 64 := by
  have h := nodup_len (b := (choicesM us).map (filledM us)) nd fun os h => by
    obtain ⟨c, hc, e⟩ := (hm os).mp h
    exact List.mem_map.mpr ⟨c, hc, e.symm⟩
  rw [List.length_map] at h
  exact Nat.le_trans h (choices_cnt ok)
theorem ends_mem {R : Rl} {us : List Us} {oss : List (List Oc)} {ns : List Int} (hm : ∀ os, os ∈ oss ↔ ∃ c ∈ choicesM us, os = filledM us c) (hn : ∀ k, k ∈ ns ↔ ∃ c ∈ choicesM us, k = lapseC R us c) : ∀ k, k ∈ ns ↔ k ∈ oss.map (lapseM R) := fun k => by
  rw [hn, List.mem_map]
  constructor
  · rintro ⟨c, hc, e⟩
    exact ⟨filledM us c, (hm _).mpr ⟨c, hc, rfl⟩, e.symm⟩
  · rintro ⟨os, ho, e⟩
    obtain ⟨c, hc, e2⟩ := (hm os).mp ho
    exact ⟨c, hc, by rw [← e, e2]⟩
theorem one_of {α : Type} {l : List α} {x : α} (nd : l.Nodup) (h : ∀ y, y ∈ l ↔ y = x) : l = [x] := by
  match l, nd, h with
  | [], _, h => exact absurd ((h x).mpr rfl) (by simp)
  | [y], _, h => rw [(h y).mp (by simp)]
  | y :: z :: l, nd, h =>
    have e1 := (h y).mp (by simp)
    have e2 := (h z).mp (by simp)
    simp [e1, e2] at nd
/-! comparing deep lists -/
def ocD (o : Oc) : PyData := .tuple [.int o.b, .str o.nm, .int o.m]
theorem dp_oc {K : PySem.W.Frag} {H : Hp} {p : Addr} {o : Oc} (h : H p = some (.tup (ocV o))) : Dp K H (.ref p) (ocD o) := .tup (SqT.of h) (.cons (.int _) (.cons (.str _) (.cons (.int _) .nil)))
theorem dp_ocs {K : PySem.W.Frag} {H : Hp} : ∀ {xs : List V} {os : List Oc}, OcsAt H xs os → DpAll K H xs (os.map ocD)
  | [], [], _ => .nil
  | [], _ :: _, h => by have := h.1; simp at this
  | _ :: _, [], h => by have := h.1; simp at this
  | x :: xs, o :: os, h => by
    obtain ⟨p, e1, e2⟩ := h.2 0 o rfl
    obtain rfl : x = .ref p := Option.some.inj e1
    refine .cons (dp_oc e2) (dp_ocs ⟨by simpa using h.1, fun i o e => ?_⟩)
    obtain ⟨p, a, b⟩ := h.2 (i + 1) o (by simpa using e)
    exact ⟨p, by simpa using a, b⟩
theorem eq_ocs : ∀ os : List Oc, PyData.eqvAll (os.map ocD) (os.map ocD) = true
  | [] => rfl
  | o :: os => by
    rw [List.map_cons, PyData.eqvAll, eq_ocs os]
    simp [ocD, PyData.eqv, PyData.eqvAll]
theorem name_strOk {x : Str} (h : NameOk x) : PySem.PyData.strOk x = true := plain_strOk fun c hc => by
  have h2 := h.let_ c hc
  have h3 : ∀ d ∈ ("abcdefghijklmnopqrstuvwxyz" : Str).cps.toList, d < 200 := by decide +kernel
  exact h3 c h2
theorem lay_ocs : ∀ os : List Oc, (∀ o ∈ os, PySem.PyData.strOk o.nm = true) → PyData.canLayAll0 (os.map ocD) = true
  | [], _ => rfl
  | o :: os, h => by
    rw [List.map_cons, PyData.canLayAll0, lay_ocs os fun o ho => h o (List.mem_cons_of_mem _ ho)]
    simp [ocD, PyData.canLay0, PyData.canLayAll0, h o (List.mem_cons_self ..)]
theorem dep_ocs : ∀ os : List Oc, PyData.depthAll (os.map ocD) ≤ 1
  | [] => by simp [PyData.depthAll]
  | o :: os => by
    rw [List.map_cons, PyData.depthAll]
    have := dep_ocs os
    simp [ocD, PyData.depth, PyData.depthAll]
    omega
theorem sh_ocs {os : List Oc} (h : ∀ o ∈ os, PySem.PyData.strOk o.nm = true) : SeqAt.shaped (.list (os.map ocD)) = true := by
  show (PyData.canLayAll0 (os.map ocD) && decide (PyData.depthAll (os.map ocD) + 1 ≤ 64)) = true
  rw [lay_ocs os h, decide_eq_true (by have := dep_ocs os; omega)]
  rfl
theorem shIT (l : List Int) : SeqAt.shaped (.tuple (l.map PyData.int)) = true := by
  show (PyData.canLayAll0 (l.map PyData.int) && decide (PyData.depthAll (l.map PyData.int) + 1 ≤ 64)) = true
  rw [layI l, depI l]
  rfl
theorem eqI_self (a : List Int) : (!PyData.eqv (.list (a.map PyData.int)) (.list (a.map PyData.int))) = false := by
  show (!PyData.eqvAll (a.map PyData.int) (a.map PyData.int)) = false
  rw [eqI, decide_eq_true rfl]
  rfl
theorem eqIT_self (a : List Int) : (!PyData.eqv (.tuple (a.map PyData.int)) (.tuple (a.map PyData.int))) = false := by
  show (!PyData.eqvAll (a.map PyData.int) (a.map PyData.int)) = false
  rw [eqI, decide_eq_true rfl]
  rfl
theorem eqO_self (os : List Oc) : (!PyData.eqv (.list (os.map ocD)) (.list (os.map ocD))) = false := by
  show (!PyData.eqvAll (os.map ocD) (os.map ocD)) = false
  rw [eq_ocs]
  rfl
/-! the sure occasions -/
theorem sure_oss {us : List Us} {oss : List (List Oc)} (h : us.Pairwise fun u v => u.f ≤ v.f) (hm : ∀ os, os ∈ oss ↔ ∃ c ∈ choicesM (us.map sureU), os = filledM (us.map sureU) c) (nd : oss.Nodup) : oss = [us.map bareO] := by
  refine one_of nd fun os => ?_
  rw [hm, sure_choices]
  constructor
  · rintro ⟨c, hc, e⟩
    rw [List.mem_singleton] at hc
    rw [e, hc, sure_filled h]
  · rintro rfl
    exact ⟨_, List.mem_singleton.mpr rfl, (sure_filled h).symm⟩
theorem sure_ends {R : Rl} {us : List Us} {ns : List Int} (h : us.Pairwise fun u v => u.f ≤ v.f) (hn : ∀ k, k ∈ ns ↔ ∃ c ∈ choicesM (us.map sureU), k = lapseC R (us.map sureU) c) (pw : ns.Pairwise (· < ·)) : ns = [lapseM R (us.map bareO)] := by
  refine one_of (pw.imp fun h => by omega) fun k => ?_
  rw [hn, sure_choices]
  constructor
  · rintro ⟨c, hc, e⟩
    rw [List.mem_singleton] at hc
    rw [e, hc, lapseC, sure_filled h]
  · rintro rfl
    exact ⟨_, List.mem_singleton.mpr rfl, by rw [lapseC, sure_filled h]⟩
theorem head_int {ns : List Int} (h : ns ≠ []) : ∃ z : Int, (ns.map V.int)[0]? = some (.int z) := by
  obtain ⟨x, xs, rfl⟩ := List.exists_cons_of_ne_nil h
  exact ⟨x, rfl⟩
theorem due_cases (fs : List Int) (d : Int) : dueM fs d = .non ∨ ∃ b, dueM fs d = .bl b := by
  unfold dueM
  split
  · exact .inl rfl
  · exact .inr ⟨_, rfl⟩
theorem perm_ok {us vs : List Us} (h : vs.Perm us) (ok : UssOk us) : UssOk vs := ⟨fun u hu => ok.ok u (h.mem_iff.mp hu), by rw [h.length_eq]; exact ok.len⟩
end Ts
set_option maxHeartbeats 4000000
namespace Ts
open PySem PySem.Spec PyProof.Rows L2 C8 He
def spLaw (K : PySem.W.Frag) : Sp := fun vs H Q _ => ∃ (a : Addr) (ns : List Int), vs = [.ref a] ∧ SqL K H a (ns.map V.int) ∧ ns.length ≤ 63 ∧ ∀ H', Q (.bl true) H'
section
variable {P : Program} {w : World} {K : PySem.W.Frag} {mg : Str → Option Value} {base : Heap}
theorem law_len : Len ["_law_script"] (spLaw K) := fun vs H Q E h => by
  obtain ⟨a, ns, rfl, _⟩ := h
  rfl
theorem law_body (T : Txt P w K mg) {f : Addr} : Body P w K mg base 11 "law" s_law n_law f (spLaw K) := by
  have G_u_law_deal := G_u_law_deal (P := P) (w := w) (base := base) T
  have G_u_law_plan := G_u_law_plan (P := P) (w := w) (base := base) T
  have G_u_law_made := G_u_law_made (P := P) (w := w) (base := base) T
  have G_u_law_draw := G_u_law_draw (P := P) (w := w) (base := base) T
  have G_u_law_pick := G_u_law_pick (P := P) (w := w) (base := base) T
  have G_u_law_last := G_u_law_last (P := P) (w := w) (base := base) T
  have G_fillings := G_fillings (P := P) (w := w) (base := base) T
  have G_lapses := G_lapses (P := P) (w := w) (base := base) T
  have G_lapse := G_lapse (P := P) (w := w) (base := base) T
  have G_surely := G_surely (P := P) (w := w) (base := base) T
  have M_Unsure := M_Unsure (P := P) (w := w) (base := base) T
  intro cdv A outer s H vs Q E hr h
  obtain ⟨a, ns, rfl, ha, hn, k⟩ := h
  refine ⟨_, (pss_cons (ps_set (i := 1) sc_law.nd rfl (Or.inl rfl) (pe_c G_u_law_deal hr (by decide) (by rfl) (pa_cons (pv 0) (pa_cons pe_int pa_nil))))
      (pss_cons (ps_for PassesOwn.never rfl (pi_range1 rfl T.b_range (pa_cons pe_int pa_nil)) (pg_name (i := 2) sc_law.nd rfl (Or.inl rfl)) (pss_cons (ps_set (i := 3) sc_law.nd rfl (Or.inl rfl) (pe_c G_u_law_plan hr (by decide) (by rfl) (pa_cons (pv 1) (pa_cons pe_int (pa_cons (pe_lst (pa_cons pe_int (pa_cons pe_int (pa_cons pe_int (pa_cons pe_int (pa_cons pe_int pa_nil)))))) (pa_cons (pe_lst (pa_cons pe_int (pa_cons pe_int (pa_cons pe_int (pa_cons pe_non pa_nil))))) pa_nil))))))
      (pss_cons (ps_asg (pe_tup (pa_cons (pe_c G_u_law_made hr (by decide) (by rfl) (pa_cons (pv 3) pa_nil)) (pa_cons (pe_op op_cat (pe_lc (own := [("_law_sort", 21)]) (by rfl) sc_law.nd (pi_list (pe_ix ix_tup (pv 3) pe_int (fun _ _ => rfl))) (blkOk_by (N := n_law) (sc := defScope s_law) (by decide +kernel)) (fun _ _ _ _ _ => (pg_name (i := 21) sc_law.nd rfl (Or.inl rfl))) (fun _ _ _ _ _ => pts_nil) (fun _ _ _ _ _ => (pe_ix (ix_tupK (K := K) rfl) (pv 21) pe_int (fun _ _ => rfl)))) (pe_lst (pa_cons pe_str pa_nil))) (pa_cons (pe_lst pa_nil) pa_nil)))) (pg_tup rfl (pgs_cons (pg_name (i := 4) sc_law.nd rfl (Or.inr rfl)) (pgs_cons (pg_name (i := 5) sc_law.nd rfl (Or.inl rfl)) (pgs_cons (pg_name (i := 6) sc_law.nd rfl (Or.inl rfl)) pgs_nil)))))
      (pss_cons (ps_for PassesOwn.never rfl (pi_range1 rfl T.b_range (pa_cons (pe_c G_u_law_draw hr (by decide) (by rfl) (pa_cons (pv 1) (pa_cons pe_int pa_nil))) pa_nil)) (pg_name (i := 7) sc_law.nd rfl (Or.inl rfl)) (pss_cons (ps_set (i := 14) sc_law.nd rfl (Or.inl rfl) (pe_c G_u_law_draw hr (by decide) (by rfl) (pa_cons (pv 1) (pa_cons pe_int pa_nil))))
      (pss_one (ps_expr (pe_bm PySem.F.plainAttrs_list PySem.F.slot_list_append PySem.F.type_list_append mt_append (pv 6) (pa_cons (pe_tup (pa_cons (pv 14) (pa_cons (pe_op op_add (pv 14) (pe_c G_u_law_draw hr (by decide) (by rfl) (pa_cons (pv 1) (pa_cons pe_int pa_nil)))) (pa_cons (pe_c G_u_law_pick hr (by decide) (by rfl) (pa_cons (pv 1) (pa_cons (pv 5) pa_nil))) (pa_cons (pe_op op_add pe_int (pe_c G_u_law_draw hr (by decide) (by rfl) (pa_cons (pv 1) (pa_cons pe_int pa_nil)))) pa_nil))))) pa_nil))))))
      (pss_cons (ps_setLc (i := 8)  (own := [("_law_story", 17)]) (by rfl) sc_law.nd rfl rfl (sw_true rfl rfl rfl (by decide +kernel)) (pi_tup (pe_c G_fillings hr (by decide) (by rfl) (pa_cons (pe_mk M_Unsure hr (by decide) (by rfl) (pa_cons (pv 6) pa_nil)) pa_nil))) (blkOk_by (N := n_law) (sc := defScope s_law) (by decide +kernel)) (fun _ _ _ _ _ => (pg_name (i := 17) sc_law.nd rfl (Or.inl rfl))) (fun _ _ _ _ _ => pts_nil) (fun _ _ _ _ _ => (pe_c G_u_law_last hr (by decide) (by rfl) (pa_cons (pv 4) (pa_cons (pv 17) pa_nil)))))
      (pss_cons (ps_set (i := 9) sc_law.nd rfl (Or.inl rfl) (pe_c G_lapses hr (by decide) (by rfl) (pa_cons (pv 4) (pa_cons (pe_mk M_Unsure hr (by decide) (by rfl) (pa_cons (pv 6) pa_nil)) pa_nil))))
      (pss_cons (ps_if (pt_cmpR (op_neD hr.units) (pe_callTy call_list_of (by rfl) T.b_list boot_list (pa_cons (pv 9) pa_nil)) (pe_callB (cr_sortedSI rfl hr.units) (by rfl) T.b_sorted boot_sorted (pa_cons (pe_callTy (cr_setLI rfl) (by rfl) T.b_set boot_set (pa_cons (pe_lc (own := [("_law_day", 10)]) (by rfl) sc_law.nd (pi_list (pv 8)) (blkOk_by (N := n_law) (sc := defScope s_law) (by decide +kernel)) (fun _ _ _ _ _ => (pg_name (i := 10) sc_law.nd rfl (Or.inl rfl))) (fun _ _ _ _ _ => pts_nil) (fun _ _ _ _ _ => (pe_callTy call_int1 (by rfl) T.b_int boot_int (pa_cons (pv 10) pa_nil)))) pa_nil)) pa_nil)) (nomark _)) (pss_one (ps_ret pe_bl)) pss_nil)
      (pss_cons (ps_for PassesOwn.never rfl (pi_tup (pe_tup (pa_cons pe_int (pa_cons (pe_ix ix_tup (pv 9) pe_int (fun _ _ => rfl)) (pa_cons (pe_ix ix_tup (pv 9) (pe_un un_neg pe_int) (fun _ _ => rfl)) (pa_cons (pe_op op_add (pe_ix ix_tup (pv 9) (pe_un un_neg pe_int) (fun _ _ => rfl)) pe_int) (pa_cons (pe_c G_u_law_draw hr (by decide) (by rfl) (pa_cons (pv 1) (pa_cons pe_int pa_nil))) pa_nil))))))) (pg_name (i := 10) sc_law.nd rfl (Or.inr rfl)) (pss_cons (ps_setLc (i := 15)  (own := [("_law_last_here", 18)]) (by rfl) sc_law.nd rfl rfl (sw_true rfl rfl rfl (by decide +kernel)) (pi_list (pv 8)) (blkOk_by (N := n_law) (sc := defScope s_law) (by decide +kernel)) (fun _ _ _ _ _ => (pg_name (i := 18) sc_law.nd rfl (Or.inl rfl))) (fun _ _ _ _ _ => (pts_one (pt_cmpR op_ge (pv 18) (pv 10) (nomark _)))) (fun _ _ _ _ _ => (pv 18)))
      (pss_cut (ps_set (i := 16) sc_law.nd rfl (Or.inl rfl) (pe_ifExp (PW.pt (pw_and (pt_cmpR (op_neD hr.units) (pv 15) (pe_lst pa_nil) (nomark _)) (pw_and1 (pt_cmpR op_lt (pe_callB call_len_seq (by rfl) T.b_len boot_len (pa_cons (pv 15) pa_nil)) (pe_callB call_len_seq (by rfl) T.b_len boot_len (pa_cons (pv 8) pa_nil)) (nomark _))))) pe_non (pe_cmpR (op_neD hr.units) (pv 15) (pe_lst pa_nil) (nomark _))))
      (pss_one (ps_if (pt_cmpR op_ne (pe_callB cr_reprN (by rfl) T.b_repr boot_repr (pa_cons (pe_c G_surely hr (by decide) (by rfl) (pa_cons (pv 4) (pa_cons (pe_mk M_Unsure hr (by decide) (by rfl) (pa_cons (pv 6) pa_nil)) (pa_cons (pv 10) pa_nil)))) pa_nil)) (pe_callB cr_reprN (by rfl) T.b_repr boot_repr (pa_cons (pv 16) pa_nil)) (nomark _)) (pss_one (ps_ret pe_bl)) pss_nil)))))
      (pss_cons (ps_setLc (i := 11)  (own := [("_law_first", 14), ("_law_last_here", 18), ("_law_title", 19), ("_law_long", 20)]) (by rfl) sc_law.nd rfl rfl (sw_true rfl rfl rfl (by decide +kernel)) (pi_list (pe_callB (cr_sortedU hr.units) (by rfl) T.b_sorted boot_sorted (pa_cons (pv 6) pa_nil))) (blkOk_by (N := n_law) (sc := defScope s_law) (by decide +kernel)) (fun _ _ _ _ _ => (pg_tupK (K := K) (n := 4) rfl rfl (pgs_cons (pg_name (i := 14) sc_law.nd rfl (Or.inl rfl)) (pgs_cons (pg_name (i := 18) sc_law.nd rfl (Or.inl rfl)) (pgs_cons (pg_name (i := 19) sc_law.nd rfl (Or.inl rfl)) (pgs_cons (pg_name (i := 20) sc_law.nd rfl (Or.inl rfl)) pgs_nil)))))) (fun _ _ _ _ _ => pts_nil) (fun _ _ _ _ _ => (pe_tup (pa_cons (pv 14) (pa_cons (pv 14) (pa_cons (pv 19) (pa_cons (pv 20) pa_nil)))))))
      (pss_cons (ps_set (i := 12) sc_law.nd rfl (Or.inl rfl) (pe_c G_fillings hr (by decide) (by rfl) (pa_cons (pe_mk M_Unsure hr (by decide) (by rfl) (pa_cons (pv 11) pa_nil)) pa_nil)))
      (pss_cons (ps_setLc (i := 13)  (own := [("_law_first", 14), ("_law_last_here", 18), ("_law_title", 19), ("_law_long", 20)]) (by rfl) sc_law.nd rfl rfl (sw_true rfl rfl rfl (by decide +kernel)) (pi_list (pv 11)) (blkOk_by (N := n_law) (sc := defScope s_law) (by decide +kernel)) (fun _ _ _ _ _ => (pg_tupK (K := K) (n := 4) rfl rfl (pgs_cons (pg_name (i := 14) sc_law.nd rfl (Or.inl rfl)) (pgs_cons (pg_name (i := 18) sc_law.nd rfl (Or.inl rfl)) (pgs_cons (pg_name (i := 19) sc_law.nd rfl (Or.inl rfl)) (pgs_cons (pg_name (i := 20) sc_law.nd rfl (Or.inl rfl)) pgs_nil)))))) (fun _ _ _ _ _ => pts_nil) (fun _ _ _ _ _ => (pe_tup (pa_cons (pv 14) (pa_cons (pv 19) (pa_cons (pv 20) pa_nil))))))
      (pss_cons (ps_if (PW.pt (pw_or (pt_cmpR op_ne (pe_callB call_len_seq (by rfl) T.b_len boot_len (pa_cons (pv 12) pa_nil)) pe_int (nomark _)) (pw_or1 (pt_cmpR (op_neD hr.units) (pe_callTy call_list_of (by rfl) T.b_list boot_list (pa_cons (pe_fld (pe_ix ix_tup (pv 12) pe_int (fun _ _ => rfl)) (by rfl)) pa_nil)) (pv 13) (nomark _))))) (pss_one (ps_ret pe_bl)) pss_nil)
      (pss_one (ps_if (pt_cmpR (op_neD hr.units) (pe_c G_lapses hr (by decide) (by rfl) (pa_cons (pv 4) (pa_cons (pe_mk M_Unsure hr (by decide) (by rfl) (pa_cons (pv 11) pa_nil)) pa_nil))) (pe_tup (pa_cons (pe_c G_lapse hr (by decide) (by rfl) (pa_cons (pv 4) (pa_cons (pe_ix ix_tup (pv 12) pe_int (fun _ _ => rfl)) pa_nil))) pa_nil)) (nomark _)) (pss_one (ps_ret pe_bl)) pss_nil))))))))))))))
      (pss_one (ps_ret pe_bl)))), ?_⟩
  refine ⟨_, rfl, a, ns, rfl, ha, hn, fun H1 d l D1 => ?_⟩
  refine ⟨4, rfl, by decide, by decide, ?_⟩
  refine for_it (walk_range (lo := 0) (n := 4)) (fun i σ H' => ∃ u2 u3 u4 u5 u6 u7 u8 u9 u10 u11 u12 u13 u14 u15 u16 u17 u18 u19 u20 u21, σ = [some (.ref a), some (.ref d), u2, u3, u4, u5, u6, u7, u8, u9, u10, u11, u12, u13, u14, u15, u16, u17, u18, u19, u20, u21] ∧ DealAt H' d l) ⟨none, none, none, none, none, none, none, none, none, none, none, none, none, none, none, none, none, none, none, none, rfl, D1⟩ (fun _ _ _ _ _ => trivial) ?_ ?_
  · rintro i v σ H3 H4 hi ⟨u2, u3, u4, u5, u6, u7, u8, u9, u10, u11, u12, u13, u14, u15, u16, u17, u18, u19, u20, u21, rfl, D3⟩ ⟨rfl, rfl⟩
    -- the plan
    refine ⟨_, rfl, Nat.le_of_ble_eq_true rfl, fun az haz => ⟨Nat.le_of_ble_eq_true rfl, fun ao hao => ?_⟩⟩
    have saz := sm_new (o := HO.lst sizesV) haz
    have naz := sdne D3 (Same.refl _) haz
    have sao := sm_new (o := HO.lst oftenV) hao
    have nao := sdne D3 saz hao
    refine ⟨d, l, az, ao, rfl, D3.same (saz.trans sao), ⟨sao _ _ upd_same, upd_same, naz.1, naz.2, nao.1, nao.2⟩, fun H5 t p s5 D5 hP pok => ?_⟩
    clear haz hao saz sao naz nao s5
    have rok := pok.rule
    -- the rule, the titles
    refine ⟨_, rfl, t, p, rfl, hP, pok, fun H6 ma s6 hR => ?_⟩
    obtain ⟨pa, pb, pxs, pt, pha, phb, pss⟩ := hP
    have D6 := D5.same s6
    have pt6 := s6 _ _ pt
    have pb6 := s6 _ _ phb
    have pss6 := pss.mono (SameI.of s6)
    refine ⟨_, rfl, t, _, 3, _, rfl, rfl, SqT.of pt6, atI_nat (j := 3) rfl, pb, rfl, ⟨_, SqL.of pb6⟩, fun Da hDa => ?_⟩
    refine lc_map (walk_list (K := K) (a := pb) (xs := pxs)) hDa (fun H' s => SqL.of (s _ _ pb6)) (by rw [pss.1]; have := pok.len; omega) (fun i y _ => ∃ so, p.ss[i]? = some so ∧ y = V.str so.nm) (fun i y _ _ _ h => h) ?_ ?_
    · rintro i v H7 H8 hi s7 ⟨rfl, hv⟩ k2 hk
      obtain ⟨x, so, rfl, hso, hx⟩ := pss6.at_ hv
      refine ⟨rfl, ?_⟩
      exact ⟨_, rfl, x, _, 1, _, rfl, rfl, SqT.of (s7 _ _ hx), atI_nat (j := 1) rfl, hk _ _ (Same.refl _) ⟨so, hso, rfl⟩⟩
    intro H7 ts s7 hts htl htt
    have tsok : ∀ v ∈ ts, ∃ x : Str, v = .str x ∧ NameOk x := fun v hv => by
      obtain ⟨j, hj⟩ := List.getElem?_of_mem hv
      obtain ⟨so, hso, e⟩ := htt j v hj
      exact ⟨so.nm, e, (pok.ss so (List.mem_of_getElem? hso)).nm⟩
    have tsl : ts.length ≤ 3 := by rw [htl, pss.1]; exact pok.len
    refine ⟨Nat.le_of_ble_eq_true rfl, fun z hz => ?_⟩
    have sz := sm_new (o := HO.lst [V.str "zz"]) hz
    refine ⟨Da, z, ts, [V.str "zz"], rfl, rfl, sz _ _ hts, upd_same, Nat.le_trans (show _ ≤ 4 by simp; omega) (by decide), fun tl htl2 => ?_⟩
    have stl := sm_new (o := HO.lst (ts ++ [V.str "zz"])) htl2
    have sB := (s7.trans sz).trans stl
    have hR7 := hR.mono (SameI.of sB)
    have D7 := D6.same sB
    have ntl := sdne D6 (s7.trans sz) htl2
    have htl7 : (upd (upd H7 z (.lst [V.str "zz"])) tl (.lst (ts ++ [V.str "zz"]))) tl = some (.lst (ts ++ [V.str "zz"])) := upd_same
    have tok : ∀ v ∈ ts ++ [V.str "zz"], ∃ x : Str, v = .str x ∧ NameOk x := fun v hv => by
      rcases List.mem_append.mp hv with hv | hv
      · exact tsok v hv
      · rw [List.mem_singleton.mp hv]
        exact ⟨"zz", rfl, zz_ok⟩
    have tll : 1 ≤ (ts ++ [V.str "zz"]).length ∧ (ts ++ [V.str "zz"]).length < 1000 := by
      rw [List.length_append, List.length_singleton]
      omega
    generalize ts ++ [V.str "zz"] = tv at *
    generalize (upd (upd H7 z (.lst [V.str "zz"])) tl (.lst tv)) = HB at *
    clear hz sz s7 sB stl htl2 hts htt
    refine ⟨Nat.zero_le _, fun sm hsm => ⟨Nat.le_of_ble_eq_true rfl, fun tp htp => ?_⟩⟩
    have ssm := sm_new (o := HO.lst []) hsm
    have stp := sm_new (o := HO.tup [V.ref ma, V.ref tl, V.ref sm]) htp
    have nsm := sdne D7 (Same.refl _) hsm
    refine ⟨tp, _, rfl, SqT.of upd_same, rfl, _, _, rfl, _, _, rfl, _, _, rfl, rfl, ?_⟩
    have D8 := D7.same (ssm.trans stp)
    have hsm8 := stp _ _ (upd_same (H := HB) (a := sm) (o := .lst []))
    have sB8 := ssm.trans stp
    generalize upd (upd HB sm (.lst [])) tp (.tup [V.ref ma, V.ref tl, V.ref sm]) = H8 at *
    have ntm : tl ≠ sm := fun z => by rw [z, hsm] at htl7; cases htl7
    have htl8 := sB8 _ _ htl7
    have hR8 := hR7.mono (SameI.of sB8)
    clear sB8 htl7 hR7 D7 ssm stp hsm htp D6 hR s6 pt6 pb6 pss6 pss pha phb pt htl tsok tsl
    -- drawn occasions
    refine ⟨_, rfl, d, l, 4, rfl, D8, by decide, by decide, fun H9 v9 s9 D9 v0 v4 => ⟨v9, rfl, by omega, by omega, ?_⟩⟩
    refine for_it (walk_range (lo := 0) (n := v9.toNat)) (fun j σ H' => ∃ us ys u7 u14, σ = [some (.ref a), some (.ref d), some (.int (0 + (i : Int))), some (.ref t), some (.ref ma), some (.ref tl), some (.ref sm), u7, u8, u9, u10, u11, u12, u13, u14, u15, u16, u17, u18, u19, u20, u21] ∧ DealAt H' d l ∧ H' sm = some (.lst ys) ∧ UssAt H' ys us ∧ (∀ u ∈ us, UsOk u) ∧ us.length = j ∧ H' tl = some (.lst tv) ∧ RuleAt K H' ma p.rule)
      ⟨[], [], _, _, rfl, D9, s9 _ _ hsm8 nsm.1 nsm.2, ⟨rfl, fun i u e => by simp at e⟩, (fun u hu => nomatch hu), rfl, s9 _ _ htl8 ntl.1 ntl.2, hR8.mono (SD.I D8 s9)⟩ (fun _ _ _ _ _ => trivial) ?_ ?_
    · rintro j vj σ Ha Hb hj ⟨us, ys, u7', u14', rfl, Da, hsa, hua, oka, hla, hta, hRa⟩ ⟨rfl, rfl⟩
      refine ⟨_, rfl, d, l, 8, rfl, Da, by decide, by decide, fun Hc f sc Dc f0 f8 => ?_⟩
      refine ⟨_, rfl, .inl ⟨rfl, ys, SqL.of (sc _ _ hsa nsm.1 nsm.2)⟩, ?_⟩
      refine ⟨_, rfl, _, rfl, _, rfl, d, l, 4, rfl, Dc, by decide, by decide, fun Hd e se De e0 e4 => ?_⟩
      refine ⟨f, e, rfl, rfl, ?_⟩
      have Se := sc.trans se
      refine ⟨_, rfl, _, rfl, d, l, tl, tv, rfl, De, Se _ _ hta ntl.1 ntl.2, ntl.1, ntl.2, tll.1, tll.2, fun Hf x sf Df hx => ?_⟩
      obtain ⟨nm, rfl, hnm⟩ := tok x hx
      refine ⟨_, rfl, d, l, 3, rfl, Df, by decide, by decide, fun Hg m sg Dg m0 m3 => ?_⟩
      refine ⟨1, m, rfl, rfl, Nat.le_of_ble_eq_true rfl, fun x hx => ?_⟩
      have sx := sm_new (o := HO.tup [V.int f, V.int (f + e), V.str nm, V.int (1 + m)]) hx
      have Sg := (Se.trans sf).trans sg
      have Sx := Sg.trans (.of sx)
      have hsx := Sx _ _ hsa nsm.1 nsm.2
      refine ⟨sm, ys, _, rfl, rfl, hsx, by rw [hua.1, hla]; exact Nat.lt_of_lt_of_le (show j < 4 by omega) (by decide), ?_⟩
      have up := SameI.lst (o := HO.lst (ys ++ [V.ref x])) hsx
      have SI := (SD.I Da Sx).trans up
      refine ⟨us ++ [⟨f, f + e, nm, 1 + m⟩], ys ++ [.ref x], _, _, rfl, (Dg.same sx).upd nsm.1 nsm.2, upd_same, (hua.mono SI).snoc (up _ _ upd_same rfl), fun u hu => ?_, by rw [List.length_append, hla]; rfl, ?_, hRa.mono SI⟩
      · rcases List.mem_append.mp hu with hu | hu
        · exact oka u hu
        · rw [List.mem_singleton.mp hu]
          exact ⟨f0, show f ≤ f + e by omega, show f + e ≤ f + 3 by omega, show f ≤ 1000 by omega, hnm, show 1 ≤ 1 + m by omega⟩
      · rw [upd_ne ntm]
        exact Sx _ _ hta ntl.1 ntl.2
    rintro σ Ha ⟨us, ys, u7', u14', rfl, Da, hsa, hua, oka, hla, hta, hRa⟩
    have uok : UssOk us := ⟨oka, by omega⟩
    clear oka hla hta htl8 hR8 D8 hsm8 D9 s9
    -- the last days
    refine ⟨_, rfl, fun pu dx np ndx nex => ?_⟩
    refine ⟨Ha, pu, sm, dx, ys, us, rfl, np, made_same np ndx, upd_same, SqL.of hsa, hua, uok, fun H1' s1 hU => ⟨rfl, ?_⟩⟩
    refine ⟨pu, us, rfl, hU, uok, fun H2 t2 ss oss s2 ht2 hss hoss hnd => ?_⟩
    refine ⟨t2, rfl, ⟨_, SqT.of ht2⟩, fun Df hDf => ?_⟩
    have hol := oss_len uok hoss hnd
    have S2 := s1.trans s2
    have nDf := sdne Da S2 hDf
    have hR2 := hRa.mono (SameI.of S2)
    refine lc_map (walk_tup (K := K) (a := t2) (xs := ss)) hDf (fun H' s => SqT.of (s _ _ ht2)) (by rw [hss.1]; omega) (fun j y _ => ∃ os, oss[j]? = some os ∧ y = V.int (lapseM p.rule os)) (fun _ _ _ _ _ h => h) ?_ ?_
    · rintro j y H7 H8 hj s7 ⟨rfl, hv⟩ k2 hk
      have hjl : j < oss.length := by rw [← hss.1]; exact hj
      obtain ⟨b, hb, hSb⟩ := hss.2 j _ (List.getElem?_eq_getElem hjl)
      obtain rfl : y = .ref b := Option.some.inj (hv.symm.trans hb)
      obtain ⟨c, hc, ec⟩ := (hoss _).mp (List.getElem_mem hjl)
      refine ⟨rfl, ?_⟩
      exact ⟨_, rfl, _, rfl, ma, b, p.rule, oss[j], rfl, hR2.mono (SameI.of s7), rok, hSb.mono (SameI.of s7), by rw [ec]; exact filledM_ok uok (choices_len hc) (choices_pos uok c hc), fun H9 s9 => hk _ _ s9 ⟨_, List.getElem?_eq_getElem hjl, rfl⟩⟩
    intro H3 fs s3 hfs hfl hff
    have efs : fs = (oss.map (lapseM p.rule)).map V.int := by
      rw [List.map_map]
      exact list_at (fun os => V.int (lapseM p.rule os)) (hfl.trans hss.1) hff
    subst efs
    have S3 := S2.trans s3
    have hs3 := S3 _ _ hsa
    have hu3 := hua.mono (SameI.of S3)
    have hR3 := hR2.mono (SameI.of s3)
    have D3' := Da.same S3
    have hFl : (oss.map (lapseM p.rule)).length ≤ 64 := by rw [List.length_map]; exact hol
    have hFm : ∀ ns : List Int, (∀ k, k ∈ ns ↔ ∃ c ∈ choicesM us, k = lapseC p.rule us c) → ∀ k, k ∈ ns ↔ k ∈ oss.map (lapseM p.rule) := fun ns h => ends_mem hoss h
    generalize oss.map (lapseM p.rule) = F at *
    clear hDf hff hfl hol hss hoss hnd ht2 s1 s2 s3 S2 S3 hU np ndx nex hR2 hsa hua hRa Da
    -- lapses
    refine ⟨_, rfl, _, rfl, fun pw dw nw ndw new => ?_⟩
    refine ⟨H3, pw, sm, dw, ys, us, rfl, nw, made_same nw ndw, upd_same, SqL.of hs3, hu3, uok, fun H4' s4 hV => ⟨rfl, ?_⟩⟩
    refine ⟨ma, pw, p.rule, us, rfl, hR3.mono (SameI.of s4), rok, hV, uok, fun H5 tn ns s5 htn hpw hmem hnl => ?_⟩
    have S5 := s4.trans s5
    have hs5 := S5 _ _ hs3
    have hu5 := hu3.mono (SameI.of S5)
    have hR5 := hR3.mono (SameI.of S5)
    have D5' := D3'.same S5
    have hf5 := S5 _ _ hfs
    have hnF := hFm ns hmem
    have nne : ns ≠ [] := fun z => by
      obtain ⟨c, r, e⟩ := List.exists_cons_of_ne_nil (choices_ne uok)
      have h := (hmem (lapseC p.rule us c)).mpr ⟨c, by rw [e]; exact List.mem_cons_self .., rfl⟩
      rw [z] at h
      cases h
    clear hmem s4 s5 S5 hV nw ndw new hs3 hu3 hR3 D3' hfs
    -- the days told
    refine ⟨_, rfl, tn, _, rfl, .inr (SqT.of htn), fun lA hlA => ?_⟩
    have sA := sm_new (o := HO.lst (ns.map V.int)) hlA
    refine ⟨_, rfl, Df, rfl, ⟨_, SqL.of (sA _ _ hf5)⟩, fun Dg hDg => ?_⟩
    refine lc_fn (walk_list (K := K) (a := Df) (xs := F.map V.int)) hDg (fun H' s => SqL.of (s _ _ (sA _ _ hf5))) (by rw [List.length_map]; omega) (fun j => .int (F.getD j 0)) ?_ ?_
    · rintro j y H7 H8 hj s7 ⟨rfl, hv⟩ k2 hk
      rw [List.getElem?_map] at hv
      obtain ⟨r, hr2, rfl⟩ := Option.map_eq_some_iff.mp hv
      have eg : F.getD j 0 = r := by simp [List.getD, hr2]
      rw [eg] at hk
      exact ⟨rfl, _, rfl, .inl ⟨r, rfl, hk _ (Same.refl _)⟩⟩
    intro H6 s6 hg6
    rw [List.length_map, range_getD] at hg6
    refine ⟨Dg, F, rfl, SqL.of hg6, by omega, fun q n hq hn => ?_⟩
    have sq := sm_new (o := SetO w q (fun j => decide (j ∈ F)) n) hq
    refine ⟨q, _, n, rfl, upd_same, by omega, fun ms r hms hmm hml hr => ?_⟩
    have sr := sm_new (o := HO.lst (ms.map V.int)) hr
    have em : ms = ns := strict_eq hms hpw fun k => by rw [hmm, decide_eq_true_eq, hnF]
    subst em
    have SB := ((sA.trans s6).trans sq).trans sr
    refine ⟨_, _, .lst (SqL.of (((s6.trans sq).trans sr) _ _ upd_same)) (dpI K _ ms), .lst (SqL.of upd_same) (dpI K _ ms), shI ms, shI ms, _, rfl, itF (eqI_self ms) ?_⟩
    have hs6 := SB _ _ hs5
    have hu6 := hu5.mono (SameI.of SB)
    have hR6 := hR5.mono (SameI.of SB)
    have D6 := D5'.same SB
    have hf6 := SB _ _ hf5
    have htn6 := SB _ _ htn
    generalize upd (upd _ q _) r _ = H7 at *
    clear hlA sA hDg s6 hg6 hq sq hn hmm hml hr sr hms SB hs5 hu5 hR5 D5' hf5 htn
    -- five days
    obtain ⟨n0, hn0⟩ := head_int nne
    obtain ⟨nz, hnz⟩ := last_int nne
    refine ⟨_, rfl, tn, _, 0, _, rfl, rfl, SqT.of htn6, atI_nat (j := 0) hn0, ?_⟩
    refine ⟨_, rfl, 1, rfl, tn, _, -1, _, rfl, rfl, SqT.of htn6, atI_neg1 hnz, ?_⟩
    refine ⟨_, rfl, 1, rfl, tn, _, -1, _, rfl, rfl, SqT.of htn6, atI_neg1 hnz, nz, 1, rfl, rfl, ?_⟩
    refine ⟨_, rfl, d, l, 20, rfl, D6, by decide, by decide, fun H8' v8 s8 D8' w0 w20 => ?_⟩
    refine ⟨Nat.le_of_ble_eq_true rfl, fun tt htt => ?_⟩
    refine ⟨tt, rfl, ⟨_, SqT.of upd_same⟩, ?_⟩
    have st8 := sm_new (o := HO.tup [V.int 0, V.int n0, V.int nz, V.int (nz + 1), V.int v8]) htt
    have zint : ∀ x ∈ [V.int 0, V.int n0, V.int nz, V.int (nz + 1), V.int v8], ∃ k, x = V.int k := fun x hx => by
      simp only [List.mem_cons, List.not_mem_nil, or_false] at hx
      rcases hx with rfl | rfl | rfl | rfl | rfl <;> exact ⟨_, rfl⟩
    have S8 := s8.trans (SD.of st8)
    have hs8 := S8 _ _ hs6 nsm.1 nsm.2
    have hf8 := S8 _ _ hf6 nDf.1 nDf.2
    have I8 := SD.I D6 S8
    have hu8 := hu6.mono I8
    have hR8' := hR6.mono I8
    have D9' := D8'.same st8
    have ht8 : (upd H8' tt (.tup [V.int 0, V.int n0, V.int nz, V.int (nz + 1), V.int v8])) tt = some (.tup [V.int 0, V.int n0, V.int nz, V.int (nz + 1), V.int v8]) := upd_same
    generalize [V.int 0, V.int n0, V.int nz, V.int (nz + 1), V.int v8] = Z at *
    generalize upd H8' tt (.tup Z) = H9' at *
    clear hn0 hnz htn6 s8 D8' htt st8 S8 hs6 hf6 I8 hu6 hR6 D6
    refine for_it (walk_tup (K := K) (a := tt) (xs := Z)) (fun j σ H' => ∃ u10 u15 u16, σ = [some (.ref a), some (.ref d), some (.int (0 + (i : Int))), some (.ref t), some (.ref ma), some (.ref tl), some (.ref sm), u7', some (.ref Df), some (.ref tn), u10, u11, u12, u13, u14', u15, u16, u17, u18, u19, u20, u21] ∧ DealAt H' d l ∧ H' sm = some (.lst ys) ∧ UssAt H' ys us ∧ RuleAt K H' ma p.rule ∧ H' Df = some (.lst (F.map V.int)) ∧ H' tt = some (.tup Z))
      ⟨_, _, _, rfl, D9', hs8, hu8, hR8', hf8, ht8⟩ (fun _ _ _ _ h => by obtain ⟨_, _, _, _, _, _, _, _, _, h⟩ := h; exact SqT.of h) ?_ ?_
    · rintro j y σ Hb Hc hj ⟨w10, w15, w16, rfl, Db, hsb, hub, hRb, hfb, htb⟩ ⟨rfl, hv⟩
      obtain ⟨dy, rfl⟩ := zint y (List.mem_of_getElem? hv)
      refine ⟨_, rfl, Df, rfl, ⟨_, SqL.of hfb⟩, fun Dl hDl => ?_⟩
      refine lc_it (walk_list (K := K) (a := Df) (xs := F.map V.int)) (fun m H' => Same Hc H' ∧ ∃ zs : List Int, zs = (F.take m).filter (fun e => decide (dy ≤ e)) ∧ H' Dl = some (.lst (zs.map V.int))) ⟨sm_new hDl, [], by simp, upd_same⟩ (fun m H' _ q => SqL.of (q.1 _ _ hfb)) ?_ ?_
      · rintro m y H' H'' hm ⟨sb, zs, hz, hl'⟩ ⟨rfl, hy⟩
        rw [List.getElem?_map] at hy
        obtain ⟨r, hr2, rfl⟩ := Option.map_eq_some_iff.mp hy
        have et : F.take (m + 1) = F.take m ++ [r] := by rw [List.take_succ, hr2]; rfl
        have zl : zs.length ≤ 64 := by
          have h1 := List.length_filter_le (fun e => decide (dy ≤ e)) (F.take m)
          rw [← hz, List.length_take] at h1
          omega
        refine ⟨rfl, _, rfl, _, rfl, r, dy, rfl, rfl, _, rfl, ?_⟩
        by_cases e : dy ≤ r
        · refine itT (decide_eq_true e) ⟨_, rfl, zs.map V.int, hl', Nat.lt_of_le_of_lt (show (zs.map V.int).length ≤ 64 by rw [List.length_map]; exact zl) (by decide), sm_to sb hDl, zs ++ [r], ?_, by rw [upd_same, List.map_append]; rfl⟩
          rw [et, List.filter_append, hz, show ([r].filter fun e => decide (dy ≤ e)) = [r] by simp [e]]
        · refine itF (decide_eq_false e) ⟨sb, zs, ?_, hl'⟩
          rw [et, List.filter_append, hz, show ([r].filter fun e => decide (dy ≤ e)) = [] by simp [e], List.append_nil]
      rintro Hd ⟨sd, zs, hz, hlz⟩
      rw [List.length_map, List.take_length] at hz
      -- what is due
      refine ⟨fun σ' H' => σ' = [some (.ref a), some (.ref d), some (.int (0 + (i : Int))), some (.ref t), some (.ref ma), some (.ref tl), some (.ref sm), u7', some (.ref Df), some (.ref tn), some (.int dy), u11, u12, u13, u14', some (.ref Dl), some (dueM F dy), u17, u18, u19, u20, u21] ∧ Same Hd H', ?_, ?_⟩
      · refine ⟨_, rfl, Nat.zero_le _, fun le hle => ?_⟩
        have sle := sm_new (o := HO.lst []) hle
        refine ⟨_, _, .lst (SqL.of (sle _ _ hlz)) (dpI K _ zs), .lst (SqL.of upd_same) (dpI K _ []), shI zs, shI [], _, rfl, ?_⟩
        have hdue : dueM F dy = if zs ≠ [] ∧ zs.length < F.length then .non else .bl (!zs.isEmpty) := by rw [hz]; rfl
        have sbl := sd.trans sle
        rcases zs with _ | ⟨z0, zs⟩
        · rw [if_neg (fun z => z.1 rfl)] at hdue
          refine iteF (iteF ⟨_, rfl, Nat.zero_le _, fun lf hlf => ?_⟩)
          have slf := sm_new (o := HO.lst []) hlf
          refine ⟨_, _, .lst (SqL.of ((sle.trans slf) _ _ hlz)) (dpI K _ []), .lst (SqL.of upd_same) (dpI K _ []), shI [], shI [], ?_, sle.trans slf⟩
          rw [hdue]
          rfl
        · refine itT rfl ⟨_, rfl, Dl, _, rfl, .inl (SqL.of (sle _ _ hlz)), _, rfl, Df, _, rfl, .inl (SqL.of (sbl _ _ hfb)), _, _, rfl, rfl, _, rfl, ?_⟩
          by_cases c : (z0 :: zs).length < F.length
          · rw [if_pos ⟨fun z => (nomatch z), c⟩] at hdue
            refine itT (decide_eq_true (by rw [List.length_map, List.length_map]; omega)) ⟨?_, sle⟩
            rw [hdue]
            rfl
          · rw [if_neg (fun z => c z.2)] at hdue
            refine itF (decide_eq_false (by rw [List.length_map, List.length_map]; omega)) ⟨_, rfl, Nat.zero_le _, fun lf hlf => ?_⟩
            have slf := sm_new (o := HO.lst []) hlf
            refine ⟨_, _, .lst (SqL.of ((sle.trans slf) _ _ hlz)) (dpI K _ (z0 :: zs)), .lst (SqL.of upd_same) (dpI K _ []), shI (z0 :: zs), shI [], ?_, sle.trans slf⟩
            rw [hdue]
            rfl
      rintro σ' He ⟨rfl, se⟩
      have hd2 := due_cases F dy
      have sbe := sd.trans se
      refine ⟨_, rfl, _, rfl, fun pw dw nw ndw new => ?_⟩
      refine ⟨He, pw, sm, dw, ys, us, rfl, nw, made_same nw ndw, upd_same, SqL.of (sbe _ _ hsb), hub.mono (SameI.of sbe), uok, fun Hf sf hV => ⟨rfl, ?_⟩⟩
      refine ⟨_, rfl, ma, pw, p.rule, us, dy, rfl, hRb.mono (SameI.of (sbe.trans sf)), rok, hV, uok, fun Hg ns' sg hmem => ?_⟩
      rw [told_due dy (hFm ns' hmem)]
      generalize dueM F dy = dv at *
      have sbg := (sbe.trans sf).trans sg
      have fin : ∃ u10 u15 u16, [some (.ref a), some (.ref d), some (.int (0 + (i : Int))), some (.ref t), some (.ref ma), some (.ref tl), some (.ref sm), u7', some (.ref Df), some (.ref tn), some (.int dy), u11, u12, u13, u14', some (.ref Dl), some (dv), u17, u18, u19, u20, u21] = [some (.ref a), some (.ref d), some (.int (0 + (i : Int))), some (.ref t), some (.ref ma), some (.ref tl), some (.ref sm), u7', some (.ref Df), some (.ref tn), u10, u11, u12, u13, u14', u15, u16, u17, u18, u19, u20, u21] ∧ DealAt Hg d l ∧ Hg sm = some (.lst ys) ∧ UssAt Hg ys us ∧ RuleAt K Hg ma p.rule ∧ Hg Df = some (.lst (F.map V.int)) ∧ Hg tt = some (.tup Z) :=
        ⟨_, _, _, rfl, Db.same sbg, sbg _ _ hsb, hub.mono (SameI.of sbg), hRb.mono (SameI.of sbg), sbg _ _ hfb, sbg _ _ htb⟩
      rcases hd2 with rfl | ⟨b, rfl⟩
      · exact .inl ⟨rfl, _, rfl, .inl ⟨rfl, rfl, _, rfl, itF (by simp) fin⟩⟩
      · exact .inr ⟨b, rfl, _, rfl, .inr ⟨b, rfl, rfl, _, rfl, itF (by simp) fin⟩⟩
    rintro σ Hb ⟨w10, w15, w16, rfl, Db, hsb, hub, hRb, hfb, htb⟩
    -- the sure occasions
    have ul := uok.len
    refine ⟨_, rfl, sm, ys, us, rfl, SqL.of hsb, hub, by omega, fun ps zs us' hperm hpw2 hzs hps => ⟨ps, rfl, ⟨_, SqL.of upd_same⟩, fun Du hDu => ?_⟩⟩
    have sp := sm_new (o := HO.lst zs) hps
    have uok' := perm_ok hperm uok
    have hzs1 := hzs.mono (SameI.of sp)
    have hps1 : (upd Hb ps (.lst zs)) ps = some (.lst zs) := upd_same
    have hRc := hRb.mono (SameI.of sp)
    have Dc := Db.same sp
    have ul' := uok'.len
    generalize upd Hb ps (.lst zs) = Hc at *
    clear hRb Db hzs hps sp hsb hub hfb htb hnF
    refine lc_map (walk_list (K := K) (a := ps) (xs := zs)) hDu (fun H' s => SqL.of (s _ _ hps1)) (by rw [hzs1.1]; omega) (fun j y H => ∃ q u, us'[j]? = some u ∧ y = V.ref q ∧ H q = some (.tup (unV (sureU u)))) (fun j y H H' s h => by obtain ⟨q, u, h1, h2, h3⟩ := h; exact ⟨q, u, h1, h2, s _ _ h3 rfl⟩) ?_ ?_
    · rintro j y H7 H8 hj s7 ⟨rfl, hv⟩ k2 hk
      obtain ⟨q0, u, rfl, hu, hq0⟩ := hzs1.at_ hv
      refine ⟨q0, _, rfl, SqT.of (s7 _ _ hq0), rfl, _, _, rfl, _, _, rfl, _, _, rfl, _, _, rfl, rfl, rfl, ?_⟩
      exact ⟨_, rfl, _, rfl, _, rfl, _, rfl, Nat.le_of_ble_eq_true rfl, fun q hq => hk _ _ (sm_new hq) ⟨q, u, hu, rfl, upd_same⟩⟩
    intro Hd ss sd hDd hsl hsp
    have hus : UssAt Hd ss (us'.map sureU) := ⟨by rw [List.length_map, hsl, hzs1.1], fun j u e => by
      rw [List.getElem?_map] at e
      obtain ⟨u0, hu0, rfl⟩ := Option.map_eq_some_iff.mp e
      have hj : j < ss.length := by
        have := (List.getElem?_eq_some_iff.mp hu0).1
        rw [hsl, hzs1.1]
        exact this
      obtain ⟨q, u1, h1, h2, h3⟩ := hsp j _ (List.getElem?_eq_getElem hj)
      rw [hu0] at h1
      cases h1
      exact ⟨q, by rw [List.getElem?_eq_getElem hj, h2], h3⟩⟩
    have hRd := hRc.mono (SameI.of sd)
    have Dd := Dc.same sd
    have sok := sure_ok uok'
    have sll : ss.length ≤ 3 := by rw [hsl, hzs1.1]; exact ul'
    clear hDu hps1 hzs1 hsp hRc Dc sd hsl
    -- every filling
    refine ⟨_, rfl, fun pw dw nw ndw new => ?_⟩
    refine ⟨Hd, pw, Du, dw, ss, us'.map sureU, rfl, nw, made_same nw ndw, upd_same, SqL.of hDd, hus, sok, fun He se hV => ⟨rfl, ?_⟩⟩
    refine ⟨pw, us'.map sureU, rfl, hV, sok, fun Hf te xs oss' sf hte hxs hoss2 hnd2 => ?_⟩
    have eo := sure_oss hpw2 hoss2 hnd2
    subst eo
    have sdf := se.trans sf
    have hDf2 := sdf _ _ hDd
    have husf := hus.mono (SameI.of sdf)
    have hRf := hRd.mono (SameI.of sdf)
    have Df' := Dd.same sdf
    clear hDd hus hRd Dd sdf se sf hV nw ndw new hoss2 hnd2
    -- the bare story
    refine ⟨_, rfl, Du, rfl, ⟨_, SqL.of hDf2⟩, fun Dv hDv => ?_⟩
    refine lc_map (walk_list (K := K) (a := Du) (xs := ss)) hDv (fun H' s => SqL.of (s _ _ hDf2)) (by omega) (fun j y H => ∃ q u, us'[j]? = some u ∧ y = V.ref q ∧ H q = some (.tup (ocV (bareO u)))) (fun j y H H' s h => by obtain ⟨q, u, h1, h2, h3⟩ := h; exact ⟨q, u, h1, h2, s _ _ h3 rfl⟩) ?_ ?_
    · rintro j y H7 H8 hj s7 ⟨rfl, hv⟩ k2 hk
      obtain ⟨q0, u', rfl, hu, hq0⟩ := husf.at_ hv
      rw [List.getElem?_map] at hu
      obtain ⟨u, hu0, rfl⟩ := Option.map_eq_some_iff.mp hu
      refine ⟨q0, _, rfl, SqT.of (s7 _ _ hq0), rfl, _, _, rfl, _, _, rfl, _, _, rfl, _, _, rfl, rfl, rfl, ?_⟩
      exact ⟨_, rfl, _, rfl, _, rfl, Nat.le_of_ble_eq_true rfl, fun q hq => hk _ _ (sm_new hq) ⟨q, u, hu0, rfl, upd_same⟩⟩
    intro Hg bs sg hDg hbl hbp
    have hos : OcsAt Hg bs (us'.map bareO) := ⟨by rw [List.length_map, hbl, husf.1, List.length_map], fun j o e => by
      rw [List.getElem?_map] at e
      obtain ⟨u0, hu0, rfl⟩ := Option.map_eq_some_iff.mp e
      have hj : j < bs.length := by
        have := (List.getElem?_eq_some_iff.mp hu0).1
        rw [hbl, husf.1, List.length_map]
        exact this
      obtain ⟨q, u1, h1, h2, h3⟩ := hbp j _ (List.getElem?_eq_getElem hj)
      rw [hu0] at h1
      cases h1
      exact ⟨q, by rw [List.getElem?_eq_getElem hj, h2], h3⟩⟩
    have hRg := hRf.mono (SameI.of sg)
    have Dg := Df'.same sg
    have husg := husf.mono (SameI.of sg)
    have hDug := sg _ _ hDf2
    have hteg := sg _ _ hte
    obtain ⟨b, hb0, hSt⟩ := hxs.2 0 _ rfl
    have xl : xs.length = 1 := hxs.1
    have hStg := hSt.mono (SameI.of sg)
    have hstr : ∀ o ∈ us'.map bareO, PySem.PyData.strOk o.nm = true := fun o ho => by
      obtain ⟨u, hu, rfl⟩ := List.mem_map.mp ho
      exact name_strOk (uok'.ok u hu).nm
    clear hDv hbp hbl sg hRf Df' husf hDf2 hte hxs hSt
    -- the first test
    refine ⟨_, rfl, te, xs, rfl, .inr (SqT.of hteg), rfl, _, rfl, itF (by rw [xl]; rfl) ?_⟩
    obtain ⟨dx2, fs2, t2, ys2, h1, h2, h3, h4, h5⟩ := id hStg
    refine ⟨_, rfl, te, _, 0, _, rfl, rfl, SqT.of hteg, atI_nat (j := 0) hb0, b, _, dx2, fs2, _, rfl, h1, T.c_Story, T.no_Story_occasions, h2, t2, ys2, rfl, .inr h3, fun lB hlB => ?_⟩
    have sB := sm_new (o := HO.lst ys2) hlB
    refine ⟨_, rfl, _, _, .lst (SqL.of upd_same) (dp_ocs (h4.mono (SameI.of sB))), .lst (SqL.of (sB _ _ hDg)) (dp_ocs (hos.mono (SameI.of sB))), sh_ocs hstr, sh_ocs hstr, _, rfl, itF (eqO_self _) ?_⟩
    have hRh := hRg.mono (SameI.of sB)
    have Dh := Dg.same sB
    have hush := husg.mono (SameI.of sB)
    have hDuh := sB _ _ hDug
    have hteh := sB _ _ hteg
    have hSth := hStg.mono (SameI.of sB)
    generalize upd Hg lB (.lst ys2) = Hh at *
    clear hRg Dg husg hDug hteg hStg sB hlB h1 h2 h3 h4 h5 hos hDg
    -- the second
    refine ⟨_, rfl, _, rfl, fun pw dw nw ndw new => ?_⟩
    refine ⟨Hh, pw, Du, dw, ss, us'.map sureU, rfl, nw, made_same nw ndw, upd_same, SqL.of hDuh, hush, sok, fun Hi si hV => ⟨rfl, ?_⟩⟩
    refine ⟨ma, pw, p.rule, us'.map sureU, rfl, hRh.mono (SameI.of si), rok, hV, sok, fun Hj tj ns2 sj htj hpw3 hmem3 _ => ?_⟩
    have en := sure_ends hpw2 hmem3 hpw3
    subst en
    have sij := si.trans sj
    refine ⟨_, rfl, _, rfl, te, _, 0, _, rfl, rfl, SqT.of (sij _ _ hteh), atI_nat (j := 0) hb0, ma, b, p.rule, us'.map bareO, rfl, hRh.mono (SameI.of sij), rok, hSth.mono (SameI.of sij), by rw [List.length_map]; omega, fun Hk sk => ?_⟩
    refine ⟨Nat.le_of_ble_eq_true rfl, fun tk htk => ?_⟩
    have stk := sm_new (o := HO.tup [V.int (lapseM p.rule (us'.map bareO))]) htk
    refine ⟨_, _, .tup (SqT.of ((sk.trans stk) _ _ htj)) (dpI K _ [lapseM p.rule (us'.map bareO)]), .tup (SqT.of upd_same) (dpI K _ [lapseM p.rule (us'.map bareO)]), shIT [lapseM p.rule (us'.map bareO)], shIT [lapseM p.rule (us'.map bareO)], _, rfl, itF (eqIT_self [lapseM p.rule (us'.map bareO)]) ?_⟩
    exact ⟨_, _, _, _, _, _, _, _, _, _, _, _, _, _, _, _, _, _, _, _, rfl, Dh.same ((sij.trans sk).trans stk)⟩
  · rintro σ H3 ⟨u2, u3, u4, u5, u6, u7, u8, u9, u10, u11, u12, u13, u14, u15, u16, u17, u18, u19, u20, u21, rfl, D3⟩
    exact k H3
end
end Ts
set_option maxHeartbeats 0
noncomputable section
namespace Ts
open PySem PySem.W PySem.Calls PyProof.Rows L2 C8 He
def fileZ : PySem.Str := PySem.Challenge.pw_termstill_k76_whole_unsure_and_live_clai.main.file
def fa : List He.Fa := [.glo "is_integer",
  .glo "is_number",
  .glo "is_length",
  .glo "is_name",
  .glo "is_sequence",
  .glo "number_in",
  .glo "need",
  .glo "is_many",
  .glo "told_by",
  .glo "made_of",
  .glo "after",
  .glo "gone",
  .glo "end_by",
  .glo "course_of",
  .glo "lapse",
  .glo "counted",
  .glo "is_occasion_stories",
  .glo "need_occasions",
  .glo "is_occasion_live",
  .glo "are_rests",
  .glo "are_kinds",
  .glo "head_in",
  .glo "is_unsure",
  .glo "choices",
  .glo "filled",
  .glo "fillings",
  .glo "ends_by_choice",
  .glo "lapses",
  .glo "told_of",
  .glo "surely",
  .glo "_law_deal",
  .glo "_law_draw",
  .glo "_law_pick",
  .glo "_law_mixed",
  .glo "_law_rests",
  .glo "_law_text",
  .glo "_law_made",
  .glo "_law_sorts",
  .glo "_law_plan",
  .glo "_law_last",
  .glo "law",
  .glo "Kind",
  .glo "Still",
  .glo "Anew",
  .glo "Lift",
  .glo "Course",
  .glo "Story",
  .glo "Point",
  .glo "Live",
  .glo "Rule",
  .glo "Unsure",
  .free "isinstance",
  .free "int",
  .free "bool",
  .free "str",
  .free "list",
  .free "tuple",
  .free "len",
  .free "all",
  .free "enumerate",
  .free "super",
  .free "range",
  .free "sorted",
  .free "set",
  .free "max",
  .free "min",
  .free "abs",
  .free "repr",
  .int "WEEK" 7,
  .int "MOST_RESTS" 6,
  .int "MOST_LETTERS" 4,
  .int "MOST_SIGNS" 19,
  .str "LETTERS" "abcdefghijklmnopqrstuvwxyz",
  .str "SIGNS" "0123456789",
  .glo "BARRED",
  .glo "FORMS",
  .glo "Refused",
  .cls "Still",
  .mkr "Still",
  .noat "Still" "name",
  .noat "Still" "days",
  .noat "Still" "times",
  .cls "Anew",
  .mkr "Anew",
  .noat "Anew" "name",
  .noat "Anew" "left",
  .noat "Anew" "times",
  .cls "Lift",
  .mkr "Lift",
  .noat "Lift" "name",
  .noat "Lift" "by",
  .noat "Lift" "top",
  .noat "Lift" "times",
  .cls "Course",
  .mkr "Course",
  .noat "Course" "plan",
  .noat "Course" "today",
  .noat "Course" "rest",
  .noat "Course" "going",
  .noat "Course" "used",
  .noat "Course" "heard",
  .cls "Story",
  .mkr "Story",
  .noat "Story" "occasions",
  .cls "Point",
  .mkr "Point",
  .noat "Point" "plan",
  .noat "Point" "told",
  .noat "Point" "over_by",
  .noat "Point" "today",
  .cls "Live",
  .mkr "Live",
  .noat "Live" "past",
  .cls "Rule",
  .mkr "Rule",
  .noat "Rule" "length",
  .noat "Rule" "rests",
  .noat "Rule" "cap",
  .noat "Rule" "kinds",
  .noat "Rule" "names",
  .cls "Unsure",
  .mkr "Unsure",
  .noat "Unsure" "occasions",
  .meth "Course" "end",
  .meth "Course" "go_to",
  .meth "Course" "hear",
  .meth "Course" "take",
  .meth "Story" "further",
  .meth "Story" "__len__",
  .meth "Point" "is_on",
  .meth "Point" "beginning",
  .meth "Live" "several",
  .meth "Rule" "work"]
def moreB (K : PySem.W.Frag) : List Bool := [insB K (ga K "Still"),
  insB K (ga K "Anew"),
  insB K (ga K "Lift"),
  insB K (ga K "Course"),
  insB K (ga K "Story"),
  insB K (ga K "Point"),
  insB K (ga K "Live"),
  insB K (ga K "Rule"),
  insB K (ga K "Unsure"),
  decide (PySem.W.kitOne K (.ref (ga K "Still")) (.ref (ga K "Kind")) = some true),
  decide (PySem.W.kitOne K (.ref (ga K "Still")) (.ref (ga K "Still")) = some true),
  decide (PySem.W.kitOne K (.ref (ga K "Still")) (.ref (ga K "Anew")) = some false),
  decide (PySem.W.kitOne K (.ref (ga K "Still")) (.ref (ga K "Lift")) = some false),
  decide (PySem.W.kitOne K (.ref (ga K "Anew")) (.ref (ga K "Kind")) = some true),
  decide (PySem.W.kitOne K (.ref (ga K "Anew")) (.ref (ga K "Still")) = some false),
  decide (PySem.W.kitOne K (.ref (ga K "Anew")) (.ref (ga K "Anew")) = some true),
  decide (PySem.W.kitOne K (.ref (ga K "Anew")) (.ref (ga K "Lift")) = some false),
  decide (PySem.W.kitOne K (.ref (ga K "Lift")) (.ref (ga K "Kind")) = some true),
  decide (PySem.W.kitOne K (.ref (ga K "Lift")) (.ref (ga K "Still")) = some false),
  decide (PySem.W.kitOne K (.ref (ga K "Lift")) (.ref (ga K "Anew")) = some false),
  decide (PySem.W.kitOne K (.ref (ga K "Lift")) (.ref (ga K "Lift")) = some true),
  tupB K "BARRED" [.str "any", .str "none", .str "anew", .str "lift", .str "term"],
  nsIntB K (ga K "FORMS") "still" 4,
  nsIntB K (ga K "FORMS") "anew" 4,
  nsIntB K (ga K "FORMS") "lift" 5,
  propB K (ga K "Live") "last",
  decide (PySem.W.exmOne K (.ref (ga K "Refused")) (.ref (ga K "Refused")) = some true),
  creadB K (ga K "Kind"),
  cmetB K (ga K "Kind") "read",
  creadB K (ga K "Rule"),
  cmetB K (ga K "Rule") "read", v0B K, refB K fileZ]
def da_0 : He5.DefA := ⟨fun K => ga K "is_integer", "is_integer", "is_integer", defArgs s_is_integer, defBody s_is_integer, defScope s_is_integer, [], []⟩
def da_1 : He5.DefA := ⟨fun K => ga K "is_number", "is_number", "is_number", defArgs s_is_number, defBody s_is_number, defScope s_is_number, [], []⟩
def da_2 : He5.DefA := ⟨fun K => ga K "is_length", "is_length", "is_length", defArgs s_is_length, defBody s_is_length, defScope s_is_length, [], []⟩
def da_3 : He5.DefA := ⟨fun K => ga K "is_name", "is_name", "is_name", defArgs s_is_name, defBody s_is_name, defScope s_is_name, [], []⟩
def da_4 : He5.DefA := ⟨fun K => ga K "is_sequence", "is_sequence", "is_sequence", defArgs s_is_sequence, defBody s_is_sequence, defScope s_is_sequence, [], []⟩
def da_5 : He5.DefA := ⟨fun K => ga K "number_in", "number_in", "number_in", defArgs s_number_in, defBody s_number_in, defScope s_number_in, [], []⟩
def da_6 : He5.DefA := ⟨fun K => ga K "need", "need", "need", defArgs s_need, defBody s_need, defScope s_need, [], []⟩
def da_7 : He5.DefA := ⟨fun K => ga K "is_many", "is_many", "is_many", defArgs s_is_many, defBody s_is_many, defScope s_is_many, [], []⟩
def da_8 : He5.DefA := ⟨fun K => ga K "told_by", "told_by", "told_by", defArgs s_told_by, defBody s_told_by, defScope s_told_by, [], []⟩
def da_9 : He5.DefA := ⟨fun K => ga K "made_of", "made_of", "made_of", defArgs s_made_of, defBody s_made_of, defScope s_made_of, [], []⟩
def da_10 : He5.DefA := ⟨fun K => ga K "after", "after", "after", defArgs s_after, defBody s_after, defScope s_after, [], []⟩
def da_11 : He5.DefA := ⟨fun K => ga K "gone", "gone", "gone", defArgs s_gone, defBody s_gone, defScope s_gone, [], []⟩
def da_12 : He5.DefA := ⟨fun K => ga K "end_by", "end_by", "end_by", defArgs s_end_by, defBody s_end_by, defScope s_end_by, [], []⟩
def da_13 : He5.DefA := ⟨fun K => ga K "course_of", "course_of", "course_of", defArgs s_course_of, defBody s_course_of, defScope s_course_of, [], []⟩
def da_14 : He5.DefA := ⟨fun K => ga K "lapse", "lapse", "lapse", defArgs s_lapse, defBody s_lapse, defScope s_lapse, [], []⟩
def da_15 : He5.DefA := ⟨fun K => ga K "counted", "counted", "counted", defArgs s_counted, defBody s_counted, defScope s_counted, [], []⟩
def da_16 : He5.DefA := ⟨fun K => ga K "is_occasion_stories", "is_occasion", "is_occasion", defArgs s_is_occasion_stories, defBody s_is_occasion_stories, defScope s_is_occasion_stories, [], []⟩
def da_17 : He5.DefA := ⟨fun K => ga K "need_occasions", "need_occasions", "need_occasions", defArgs s_need_occasions, defBody s_need_occasions, defScope s_need_occasions, [], []⟩
def da_18 : He5.DefA := ⟨fun K => ga K "is_occasion_live", "is_occasion", "is_occasion", defArgs s_is_occasion_live, defBody s_is_occasion_live, defScope s_is_occasion_live, [], []⟩
def da_19 : He5.DefA := ⟨fun K => ga K "are_rests", "are_rests", "are_rests", defArgs s_are_rests, defBody s_are_rests, defScope s_are_rests, [], []⟩
def da_20 : He5.DefA := ⟨fun K => ga K "are_kinds", "are_kinds", "are_kinds", defArgs s_are_kinds, defBody s_are_kinds, defScope s_are_kinds, [], []⟩
def da_21 : He5.DefA := ⟨fun K => ga K "head_in", "head_in", "head_in", defArgs s_head_in, defBody s_head_in, defScope s_head_in, [], []⟩
def da_22 : He5.DefA := ⟨fun K => ga K "is_unsure", "is_unsure", "is_unsure", defArgs s_is_unsure, defBody s_is_unsure, defScope s_is_unsure, [], []⟩
def da_23 : He5.DefA := ⟨fun K => ga K "choices", "choices", "choices", defArgs s_choices, defBody s_choices, defScope s_choices, [], []⟩
def da_24 : He5.DefA := ⟨fun K => ga K "filled", "filled", "filled", defArgs s_filled, defBody s_filled, defScope s_filled, [], []⟩
def da_25 : He5.DefA := ⟨fun K => ga K "fillings", "fillings", "fillings", defArgs s_fillings, defBody s_fillings, defScope s_fillings, [], []⟩
def da_26 : He5.DefA := ⟨fun K => ga K "ends_by_choice", "ends_by_choice", "ends_by_choice", defArgs s_ends_by_choice, defBody s_ends_by_choice, defScope s_ends_by_choice, [], []⟩
def da_27 : He5.DefA := ⟨fun K => ga K "lapses", "lapses", "lapses", defArgs s_lapses, defBody s_lapses, defScope s_lapses, [], []⟩
def da_28 : He5.DefA := ⟨fun K => ga K "told_of", "told_of", "told_of", defArgs s_told_of, defBody s_told_of, defScope s_told_of, [], []⟩
def da_29 : He5.DefA := ⟨fun K => ga K "surely", "surely", "surely", defArgs s_surely, defBody s_surely, defScope s_surely, [], []⟩
def da_30 : He5.DefA := ⟨fun K => ga K "_law_deal", "_law_deal", "_law_deal", defArgs s_u_law_deal, defBody s_u_law_deal, defScope s_u_law_deal, [], []⟩
def da_31 : He5.DefA := ⟨fun K => ga K "_law_draw", "_law_draw", "_law_draw", defArgs s_u_law_draw, defBody s_u_law_draw, defScope s_u_law_draw, [], []⟩
def da_32 : He5.DefA := ⟨fun K => ga K "_law_pick", "_law_pick", "_law_pick", defArgs s_u_law_pick, defBody s_u_law_pick, defScope s_u_law_pick, [], []⟩
def da_33 : He5.DefA := ⟨fun K => ga K "_law_mixed", "_law_mixed", "_law_mixed", defArgs s_u_law_mixed, defBody s_u_law_mixed, defScope s_u_law_mixed, [], []⟩
def da_34 : He5.DefA := ⟨fun K => ga K "_law_rests", "_law_rests", "_law_rests", defArgs s_u_law_rests, defBody s_u_law_rests, defScope s_u_law_rests, [], []⟩
def da_35 : He5.DefA := ⟨fun K => ga K "_law_text", "_law_text", "_law_text", defArgs s_u_law_text, defBody s_u_law_text, defScope s_u_law_text, [], []⟩
def da_36 : He5.DefA := ⟨fun K => ga K "_law_made", "_law_made", "_law_made", defArgs s_u_law_made, defBody s_u_law_made, defScope s_u_law_made, [], []⟩
def da_37 : He5.DefA := ⟨fun K => ga K "_law_sorts", "_law_sorts", "_law_sorts", defArgs s_u_law_sorts, defBody s_u_law_sorts, defScope s_u_law_sorts, [], []⟩
def da_38 : He5.DefA := ⟨fun K => ga K "_law_plan", "_law_plan", "_law_plan", defArgs s_u_law_plan, defBody s_u_law_plan, defScope s_u_law_plan, [], []⟩
def da_39 : He5.DefA := ⟨fun K => ga K "_law_last", "_law_last", "_law_last", defArgs s_u_law_last, defBody s_u_law_last, defScope s_u_law_last, [], []⟩
def da_40 : He5.DefA := ⟨fun K => ga K "law", "law", "law", defArgs s_law, defBody s_law, defScope s_law, [], []⟩
def da_41 : He5.DefA := ⟨fun K => He5.wf K (ga K "Kind") "classmethod" "read", "read", "Kind.read", defArgs s_Kind_read, defBody s_Kind_read, defScope s_Kind_read, [], []⟩
def da_42 : He5.DefA := ⟨fun K => ma K (ga K "Still") "__init__", "__init__", "Still.__init__", defArgs s_Still_init, defBody s_Still_init, defScope s_Still_init, [.non], []⟩
def da_43 : He5.DefA := ⟨fun K => ma K (ga K "Anew") "__init__", "__init__", "Anew.__init__", defArgs s_Anew_init, defBody s_Anew_init, defScope s_Anew_init, [.non], []⟩
def da_44 : He5.DefA := ⟨fun K => ma K (ga K "Lift") "__init__", "__init__", "Lift.__init__", defArgs s_Lift_init, defBody s_Lift_init, defScope s_Lift_init, [.non], []⟩
def da_45 : He5.DefA := ⟨fun K => ma K (ga K "Course") "__init__", "__init__", "Course.__init__", defArgs s_Course_init, defBody s_Course_init, defScope s_Course_init, [], []⟩
def da_46 : He5.DefA := ⟨fun K => ma K (ga K "Course") "end", "end", "Course.end", defArgs s_Course_end, defBody s_Course_end, defScope s_Course_end, [], []⟩
def da_47 : He5.DefA := ⟨fun K => ma K (ga K "Course") "go_to", "go_to", "Course.go_to", defArgs s_Course_go_to, defBody s_Course_go_to, defScope s_Course_go_to, [], []⟩
def da_48 : He5.DefA := ⟨fun K => ma K (ga K "Course") "hear", "hear", "Course.hear", defArgs s_Course_hear, defBody s_Course_hear, defScope s_Course_hear, [], []⟩
def da_49 : He5.DefA := ⟨fun K => ma K (ga K "Course") "take", "take", "Course.take", defArgs s_Course_take, defBody s_Course_take, defScope s_Course_take, [], []⟩
def da_50 : He5.DefA := ⟨fun K => ma K (ga K "Story") "__init__", "__init__", "Story.__init__", defArgs s_Story_init, defBody s_Story_init, defScope s_Story_init, [.adr fun K => dflAt ("Story", some "__init__") 0 K], []⟩
def da_51 : He5.DefA := ⟨fun K => ma K (ga K "Story") "further", "further", "Story.further", defArgs s_Story_further, defBody s_Story_further, defScope s_Story_further, [], []⟩
def da_52 : He5.DefA := ⟨fun K => ma K (ga K "Story") "__len__", "__len__", "Story.__len__", defArgs s_Story_len, defBody s_Story_len, defScope s_Story_len, [], []⟩
def da_53 : He5.DefA := ⟨fun K => ma K (ga K "Point") "__init__", "__init__", "Point.__init__", defArgs s_Point_init, defBody s_Point_init, defScope s_Point_init, [], []⟩
def da_54 : He5.DefA := ⟨fun K => ma K (ga K "Point") "is_on", "is_on", "Point.is_on", defArgs s_Point_is_on, defBody s_Point_is_on, defScope s_Point_is_on, [], []⟩
def da_55 : He5.DefA := ⟨fun K => ma K (ga K "Point") "beginning", "beginning", "Point.beginning", defArgs s_Point_beginning, defBody s_Point_beginning, defScope s_Point_beginning, [], []⟩
def da_56 : He5.DefA := ⟨fun K => ma K (ga K "Live") "__init__", "__init__", "Live.__init__", defArgs s_Live_init, defBody s_Live_init, defScope s_Live_init, [], []⟩
def da_57 : He5.DefA := ⟨fun K => propAt K (ga K "Live") "last", "last", "Live.last", defArgs s_Live_last, defBody s_Live_last, defScope s_Live_last, [], []⟩
def da_58 : He5.DefA := ⟨fun K => ma K (ga K "Live") "several", "several", "Live.several", defArgs s_Live_several, defBody s_Live_several, defScope s_Live_several, [], []⟩
def da_59 : He5.DefA := ⟨fun K => ma K (ga K "Rule") "__init__", "__init__", "Rule.__init__", defArgs s_Rule_init, defBody s_Rule_init, defScope s_Rule_init, [.adr fun K => dflAt ("Rule", some "__init__") 0 K, .non, .adr fun K => dflAt ("Rule", some "__init__") 2 K], []⟩
def da_60 : He5.DefA := ⟨fun K => He5.wf K (ga K "Rule") "classmethod" "read", "read", "Rule.read", defArgs s_Rule_read, defBody s_Rule_read, defScope s_Rule_read, [], []⟩
def da_61 : He5.DefA := ⟨fun K => ma K (ga K "Rule") "work", "work", "Rule.work", defArgs s_Rule_work, defBody s_Rule_work, defScope s_Rule_work, [], []⟩
def da_62 : He5.DefA := ⟨fun K => ma K (ga K "Unsure") "__init__", "__init__", "Unsure.__init__", defArgs s_Unsure_init, defBody s_Unsure_init, defScope s_Unsure_init, [], []⟩
def fn : List He5.DefA := [da_0, da_1, da_2, da_3, da_4, da_5, da_6, da_7, da_8, da_9, da_10, da_11, da_12, da_13, da_14, da_15, da_16, da_17, da_18, da_19, da_20, da_21, da_22, da_23, da_24, da_25, da_26, da_27, da_28, da_29, da_30, da_31, da_32, da_33, da_34, da_35, da_36, da_37, da_38, da_39, da_40, da_41, da_42, da_43, da_44, da_45, da_46, da_47, da_48, da_49, da_50, da_51, da_52, da_53, da_54, da_55, da_56, da_57, da_58, da_59, da_60, da_61, da_62]

/-! the objects that the facts need, layer by layer -/
def refP (o : Obj) : List Addr := match o.data with
  | .func fd => refV fd.code ++ (refV fd.defaults ++ fd.closure.map (·.2))
  | .cls cd => [cd.ns]
  | .dict es _ => es.toList.flatMap fun e => refV e.val
  | .seq its _ => its.toList.flatMap refV
  | .fields vs => (match o.cls with
    | .type c => (match decide (c = "property") || decide (c = "classmethod") with
      | true => vs.toList.flatMap refV
      | false => [])
    | _ => [])
  | _ => []
def nxL (g : Addr → Option Obj) (l : List Addr) : List Addr := l.flatMap fun a => match g a with
  | some o => refP o
  | none => []
def asP (g : Addr → Option Obj) : List Addr := [mainGlobals, cStatics] ++ (nxL g [mainGlobals] ++ (nxL g (nxL g [mainGlobals]) ++ (nxL g (nxL g (nxL g [mainGlobals])) ++ (nxL g (nxL g (nxL g (nxL g [mainGlobals]))) ++ nxL g (nxL g (nxL g (nxL g (nxL g [mainGlobals]))))))))
abbrev AlZ : Type := (Bool × List He.FnW) × (List (Option (List (Option (Str × Int)))) × He.FnW)
def obsZ (K : PySem.W.Frag) : AlZ := (((fa.all fun f => f.ok K) && ((fn.all fun d => d.ok K) && (moreB K).all id), fn.map fun d => He5.fnA K (d.at_ K)), ([dicW K (ga K "FORMS")], fnC K (refAt K)))
def valZ (w : World) : AlZ := ((true, fn.map He5.DefA.val), ([some (keysIn w.params ["still", "anew", "lift"])], fnRefV))
def SaysZ (w : World) (K : PySem.W.Frag) : Prop := obsZ K = valZ w
def obsZG (n : Nat) (g : Addr → Option Obj) : AlZ := obsZ (frG g (asP g))
def hookZ (n : Nat) : PySem.W.Hook where
  α := AlZ
  obs := fun s => obsZG n s.heap.get?
  val := fun w => valZ w
  says := fun w h => ∃ K : PySem.W.Frag, K.In h ∧ SaysZ w K
  of := fun _ _ e => ⟨_, frG_in, e⟩
  keeps := fun _ _ _ ⟨K, hK, c⟩ k => ⟨K, PySem.W.Frag.In.keeps hK k, c⟩
theorem obsZG_eq {n : Nat} {g : Addr → Option Obj} {s : Shared} (h : ∀ a, g a = s.heap.get? a) : obsZG n g = (hookZ n).obs s := by
  have e : g = s.heap.get? := funext h
  rw [e] <;> rfl
section
variable {w : World} {K : PySem.W.Frag}
theorem SaysZ.three (c : SaysZ w K) : (fa.all fun f => f.ok K) = true ∧ (fn.all fun d => d.ok K) = true ∧ (moreB K).all id = true := by
  have c1 : ((fa.all fun f => f.ok K) && ((fn.all fun d => d.ok K) && (moreB K).all id)) = true := congrArg (fun z : AlZ => z.1.1) c
  obtain ⟨h1, h2⟩ := ba c1
  obtain ⟨h2, h3⟩ := ba h2
  exact ⟨h1, h2, h3⟩
theorem SaysZ.fact (c : SaysZ w K) (i : Nat) {f : He.Fa} (h : fa[i]? = some f := by rfl) : f.ok K = true := List.all_eq_true.mp c.three.1 f (List.mem_of_getElem? h)
theorem SaysZ.more (c : SaysZ w K) (i : Nat) {b : Bool} (h : (moreB K)[i]? = some b) : b = true := List.all_eq_true.mp c.three.2.2 b (List.mem_of_getElem? h)
theorem SaysZ.def_ (c : SaysZ w K) (i : Nat) {d : He5.DefA} (h : fn[i]? = some d := by rfl) : ∃ fd, FunD K d.name d.qual d.params d.body d.scope (d.dvs K) (d.kws K) (d.at_ K) fd := by
  have e : fn.map (fun d => He5.fnA K (d.at_ K)) = fn.map He5.DefA.val := congrArg (fun z : AlZ => z.1.2) c
  have e2 : (fn.map fun d => He5.fnA K (d.at_ K))[i]? = (fn.map He5.DefA.val)[i]? := by rw [e]
  rw [List.getElem?_map, List.getElem?_map, h] at e2
  exact He5.DefA.funD (Option.some.inj e2) (List.all_eq_true.mp c.three.2.1 d (List.mem_of_getElem? h))
theorem SaysZ.tab (c : SaysZ w K) : ∃ es n, KDict K w (ga K "FORMS") es n := by
  have e : [dicW K (ga K "FORMS")] = [some (keysIn w.params ["still", "anew", "lift"])] := congrArg (fun z : AlZ => z.2.1) c
  exact dicW_ok (List.cons.inj e).1
theorem SaysZ.refF {P : Program} (c : SaysZ w K) (hp : P.main.file = fileZ) (ht : (P.main.scope.names.lookup ("super" : PySem.Str)).isSome = false) : ∃ f cc cda, RefF P K (ga K "Refused") f cc cda :=
  refB_ok (c.more 32 rfl) (congrArg (fun z : AlZ => z.2.2) c) hp ht
end
abbrev R : OpenRow := OpenLaw.row PySem.Challenge.rw_termstill_k76_whole_unsure_and_live_clai
abbrev qv : Program := view R.prog [80]
def names0 : List PySem.Str := ["_wall", "TermError", "InvalidKind", "InvalidRule", "InvalidStory", "InvalidUnsure", "InvalidText", "Refused", "NoKind", "BARRED", "LETTERS", "SIGNS", "MOST_LETTERS", "MOST_SIGNS", "is_integer", "is_number", "is_length", "is_name", "is_sequence", "number_in", "Kind", "need", "is_many", "many_text", "Still", "Anew", "Lift", "FORMS", "told_by", "made_of"]
def names1 : List PySem.Str := ["after", "gone", "end_by", "Course", "course_of", "lapse", "counted", "is_occasion", "is_occasion_stories", "need_occasions", "occasion_in", "Story", "Point", "is_occasion_live", "Live", "WEEK", "MOST_RESTS", "are_rests", "are_kinds", "head_in", "Rule", "is_unsure", "Unsure", "choices", "filled", "fillings", "ends_by_choice", "lapses", "told_of", "surely"]
def names2 : List PySem.Str := ["_law_deal", "_law_draw", "_law_pick", "_law_mixed", "_law_rests", "_law_text", "_law_made", "_law_sorts", "_law_plan", "_law_last"]
def names : List PySem.Str := names0 ++ names1 ++ names2
def ob (s : PySem.W.SharedT) : AlZ := obsZG 6 (HandSHeadRun.getT s)
theorem ob_eq (s : PySem.W.SharedT) : ob s = (hookZ 6).obs s.abs := obsZG_eq (HandSHeadRun.getT_eq s)
theorem runF (w : World) : HandSHeadRun.RunEq R qv (hookZ 6) ob 15000 names (w.withFollow "special-get-raises" false) := by
  intro os
  kernel_rfl
theorem runT (w : World) : HandSHeadRun.RunEq R qv (hookZ 6) ob 15000 names (w.withFollow "special-get-raises" true) := by
  intro os
  kernel_rfl
theorem run (w : World) : HandSHeadRun.RunEq R qv (hookZ 6) ob 15000 names w := byRow2 "special-get-raises" (P := fun w => HandSHeadRun.RunEq R qv (hookZ 6) ob 15000 names w) runF runT w
end Ts
end
set_option maxHeartbeats 0
namespace Ts
open PySem PySem.Spec PyProof.Rows L2 C8 He
theorem txt_of {P : Program} {w : World} {K : PySem.W.Frag} {h : Heap} {mg : Str → Option Value} (X : K.In h) (G : h.Ns mainGlobals mg) (c : SaysZ w K) (hp : P.main.file = fileZ) (ht : (P.main.scope.names.lookup ("super" : Str)).isSome = false) : Txt P w K mg where
  g_is_integer := He.glo_ok X G (c.fact 0 (f := .glo "is_integer") rfl)
  g_is_number := He.glo_ok X G (c.fact 1 (f := .glo "is_number") rfl)
  g_is_length := He.glo_ok X G (c.fact 2 (f := .glo "is_length") rfl)
  g_is_name := He.glo_ok X G (c.fact 3 (f := .glo "is_name") rfl)
  g_is_sequence := He.glo_ok X G (c.fact 4 (f := .glo "is_sequence") rfl)
  g_number_in := He.glo_ok X G (c.fact 5 (f := .glo "number_in") rfl)
  g_need := He.glo_ok X G (c.fact 6 (f := .glo "need") rfl)
  g_is_many := He.glo_ok X G (c.fact 7 (f := .glo "is_many") rfl)
  g_told_by := He.glo_ok X G (c.fact 8 (f := .glo "told_by") rfl)
  g_made_of := He.glo_ok X G (c.fact 9 (f := .glo "made_of") rfl)
  g_after := He.glo_ok X G (c.fact 10 (f := .glo "after") rfl)
  g_gone := He.glo_ok X G (c.fact 11 (f := .glo "gone") rfl)
  g_end_by := He.glo_ok X G (c.fact 12 (f := .glo "end_by") rfl)
  g_course_of := He.glo_ok X G (c.fact 13 (f := .glo "course_of") rfl)
  g_lapse := He.glo_ok X G (c.fact 14 (f := .glo "lapse") rfl)
  g_counted := He.glo_ok X G (c.fact 15 (f := .glo "counted") rfl)
  g_is_occasion_stories := He.glo_ok X G (c.fact 16 (f := .glo "is_occasion_stories") rfl)
  g_need_occasions := He.glo_ok X G (c.fact 17 (f := .glo "need_occasions") rfl)
  g_is_occasion_live := He.glo_ok X G (c.fact 18 (f := .glo "is_occasion_live") rfl)
  g_are_rests := He.glo_ok X G (c.fact 19 (f := .glo "are_rests") rfl)
  g_are_kinds := He.glo_ok X G (c.fact 20 (f := .glo "are_kinds") rfl)
  g_head_in := He.glo_ok X G (c.fact 21 (f := .glo "head_in") rfl)
  g_is_unsure := He.glo_ok X G (c.fact 22 (f := .glo "is_unsure") rfl)
  g_choices := He.glo_ok X G (c.fact 23 (f := .glo "choices") rfl)
  g_filled := He.glo_ok X G (c.fact 24 (f := .glo "filled") rfl)
  g_fillings := He.glo_ok X G (c.fact 25 (f := .glo "fillings") rfl)
  g_ends_by_choice := He.glo_ok X G (c.fact 26 (f := .glo "ends_by_choice") rfl)
  g_lapses := He.glo_ok X G (c.fact 27 (f := .glo "lapses") rfl)
  g_told_of := He.glo_ok X G (c.fact 28 (f := .glo "told_of") rfl)
  g_surely := He.glo_ok X G (c.fact 29 (f := .glo "surely") rfl)
  g_u_law_deal := He.glo_ok X G (c.fact 30 (f := .glo "_law_deal") rfl)
  g_u_law_draw := He.glo_ok X G (c.fact 31 (f := .glo "_law_draw") rfl)
  g_u_law_pick := He.glo_ok X G (c.fact 32 (f := .glo "_law_pick") rfl)
  g_u_law_mixed := He.glo_ok X G (c.fact 33 (f := .glo "_law_mixed") rfl)
  g_u_law_rests := He.glo_ok X G (c.fact 34 (f := .glo "_law_rests") rfl)
  g_u_law_text := He.glo_ok X G (c.fact 35 (f := .glo "_law_text") rfl)
  g_u_law_made := He.glo_ok X G (c.fact 36 (f := .glo "_law_made") rfl)
  g_u_law_sorts := He.glo_ok X G (c.fact 37 (f := .glo "_law_sorts") rfl)
  g_u_law_plan := He.glo_ok X G (c.fact 38 (f := .glo "_law_plan") rfl)
  g_u_law_last := He.glo_ok X G (c.fact 39 (f := .glo "_law_last") rfl)
  g_law := He.glo_ok X G (c.fact 40 (f := .glo "law") rfl)
  g_Kind := He.glo_ok X G (c.fact 41 (f := .glo "Kind") rfl)
  g_Still := He.glo_ok X G (c.fact 42 (f := .glo "Still") rfl)
  g_Anew := He.glo_ok X G (c.fact 43 (f := .glo "Anew") rfl)
  g_Lift := He.glo_ok X G (c.fact 44 (f := .glo "Lift") rfl)
  g_Course := He.glo_ok X G (c.fact 45 (f := .glo "Course") rfl)
  g_Story := He.glo_ok X G (c.fact 46 (f := .glo "Story") rfl)
  g_Point := He.glo_ok X G (c.fact 47 (f := .glo "Point") rfl)
  g_Live := He.glo_ok X G (c.fact 48 (f := .glo "Live") rfl)
  g_Rule := He.glo_ok X G (c.fact 49 (f := .glo "Rule") rfl)
  g_Unsure := He.glo_ok X G (c.fact 50 (f := .glo "Unsure") rfl)
  b_isinstance := He.free_ok X G (c.fact 51 (f := .free "isinstance") rfl)
  b_int := He.free_ok X G (c.fact 52 (f := .free "int") rfl)
  b_bool := He.free_ok X G (c.fact 53 (f := .free "bool") rfl)
  b_str := He.free_ok X G (c.fact 54 (f := .free "str") rfl)
  b_list := He.free_ok X G (c.fact 55 (f := .free "list") rfl)
  b_tuple := He.free_ok X G (c.fact 56 (f := .free "tuple") rfl)
  b_len := He.free_ok X G (c.fact 57 (f := .free "len") rfl)
  b_all := He.free_ok X G (c.fact 58 (f := .free "all") rfl)
  b_enumerate := He.free_ok X G (c.fact 59 (f := .free "enumerate") rfl)
  b_super := He.free_ok X G (c.fact 60 (f := .free "super") rfl)
  b_range := He.free_ok X G (c.fact 61 (f := .free "range") rfl)
  b_sorted := He.free_ok X G (c.fact 62 (f := .free "sorted") rfl)
  b_set := He.free_ok X G (c.fact 63 (f := .free "set") rfl)
  b_max := He.free_ok X G (c.fact 64 (f := .free "max") rfl)
  b_min := He.free_ok X G (c.fact 65 (f := .free "min") rfl)
  b_abs := He.free_ok X G (c.fact 66 (f := .free "abs") rfl)
  b_repr := He.free_ok X G (c.fact 67 (f := .free "repr") rfl)
  i_WEEK := He.int_ok X G (c.fact 68 (f := .int "WEEK" 7) rfl)
  i_MOST_RESTS := He.int_ok X G (c.fact 69 (f := .int "MOST_RESTS" 6) rfl)
  i_MOST_LETTERS := He.int_ok X G (c.fact 70 (f := .int "MOST_LETTERS" 4) rfl)
  i_MOST_SIGNS := He.int_ok X G (c.fact 71 (f := .int "MOST_SIGNS" 19) rfl)
  t_LETTERS := He.str_ok X G (c.fact 72 (f := .str "LETTERS" "abcdefghijklmnopqrstuvwxyz") rfl)
  t_SIGNS := He.str_ok X G (c.fact 73 (f := .str "SIGNS" "0123456789") rfl)
  g_BARRED := He.glo_ok X G (c.fact 74 (f := .glo "BARRED") rfl)
  g_FORMS := He.glo_ok X G (c.fact 75 (f := .glo "FORMS") rfl)
  g_Refused := He.glo_ok X G (c.fact 76 (f := .glo "Refused") rfl)
  c_Still := He.cls_ok (c.fact 77 (f := .cls "Still") rfl)
  k_Still := He.mkr_ok (c.fact 78 (f := .mkr "Still") rfl)
  no_Still_name := He.noat_ok (c.fact 79 (f := .noat "Still" "name") rfl)
  no_Still_days := He.noat_ok (c.fact 80 (f := .noat "Still" "days") rfl)
  no_Still_times := He.noat_ok (c.fact 81 (f := .noat "Still" "times") rfl)
  c_Anew := He.cls_ok (c.fact 82 (f := .cls "Anew") rfl)
  k_Anew := He.mkr_ok (c.fact 83 (f := .mkr "Anew") rfl)
  no_Anew_name := He.noat_ok (c.fact 84 (f := .noat "Anew" "name") rfl)
  no_Anew_left := He.noat_ok (c.fact 85 (f := .noat "Anew" "left") rfl)
  no_Anew_times := He.noat_ok (c.fact 86 (f := .noat "Anew" "times") rfl)
  c_Lift := He.cls_ok (c.fact 87 (f := .cls "Lift") rfl)
  k_Lift := He.mkr_ok (c.fact 88 (f := .mkr "Lift") rfl)
  no_Lift_name := He.noat_ok (c.fact 89 (f := .noat "Lift" "name") rfl)
  no_Lift_by := He.noat_ok (c.fact 90 (f := .noat "Lift" "by") rfl)
  no_Lift_top := He.noat_ok (c.fact 91 (f := .noat "Lift" "top") rfl)
  no_Lift_times := He.noat_ok (c.fact 92 (f := .noat "Lift" "times") rfl)
  c_Course := He.cls_ok (c.fact 93 (f := .cls "Course") rfl)
  k_Course := He.mkr_ok (c.fact 94 (f := .mkr "Course") rfl)
  no_Course_plan := He.noat_ok (c.fact 95 (f := .noat "Course" "plan") rfl)
  no_Course_today := He.noat_ok (c.fact 96 (f := .noat "Course" "today") rfl)
  no_Course_rest := He.noat_ok (c.fact 97 (f := .noat "Course" "rest") rfl)
  no_Course_going := He.noat_ok (c.fact 98 (f := .noat "Course" "going") rfl)
  no_Course_used := He.noat_ok (c.fact 99 (f := .noat "Course" "used") rfl)
  no_Course_heard := He.noat_ok (c.fact 100 (f := .noat "Course" "heard") rfl)
  c_Story := He.cls_ok (c.fact 101 (f := .cls "Story") rfl)
  k_Story := He.mkr_ok (c.fact 102 (f := .mkr "Story") rfl)
  no_Story_occasions := He.noat_ok (c.fact 103 (f := .noat "Story" "occasions") rfl)
  c_Point := He.cls_ok (c.fact 104 (f := .cls "Point") rfl)
  k_Point := He.mkr_ok (c.fact 105 (f := .mkr "Point") rfl)
  no_Point_plan := He.noat_ok (c.fact 106 (f := .noat "Point" "plan") rfl)
  no_Point_told := He.noat_ok (c.fact 107 (f := .noat "Point" "told") rfl)
  no_Point_over_by := He.noat_ok (c.fact 108 (f := .noat "Point" "over_by") rfl)
  no_Point_today := He.noat_ok (c.fact 109 (f := .noat "Point" "today") rfl)
  c_Live := He.cls_ok (c.fact 110 (f := .cls "Live") rfl)
  k_Live := He.mkr_ok (c.fact 111 (f := .mkr "Live") rfl)
  no_Live_past := He.noat_ok (c.fact 112 (f := .noat "Live" "past") rfl)
  c_Rule := He.cls_ok (c.fact 113 (f := .cls "Rule") rfl)
  k_Rule := He.mkr_ok (c.fact 114 (f := .mkr "Rule") rfl)
  no_Rule_length := He.noat_ok (c.fact 115 (f := .noat "Rule" "length") rfl)
  no_Rule_rests := He.noat_ok (c.fact 116 (f := .noat "Rule" "rests") rfl)
  no_Rule_cap := He.noat_ok (c.fact 117 (f := .noat "Rule" "cap") rfl)
  no_Rule_kinds := He.noat_ok (c.fact 118 (f := .noat "Rule" "kinds") rfl)
  no_Rule_names := He.noat_ok (c.fact 119 (f := .noat "Rule" "names") rfl)
  c_Unsure := He.cls_ok (c.fact 120 (f := .cls "Unsure") rfl)
  k_Unsure := He.mkr_ok (c.fact 121 (f := .mkr "Unsure") rfl)
  no_Unsure_occasions := He.noat_ok (c.fact 122 (f := .noat "Unsure" "occasions") rfl)
  m_Course_end := He.meth_ok (c.fact 123 (f := .meth "Course" "end") rfl)
  m_Course_go_to := He.meth_ok (c.fact 124 (f := .meth "Course" "go_to") rfl)
  m_Course_hear := He.meth_ok (c.fact 125 (f := .meth "Course" "hear") rfl)
  m_Course_take := He.meth_ok (c.fact 126 (f := .meth "Course" "take") rfl)
  m_Story_further := He.meth_ok (c.fact 127 (f := .meth "Story" "further") rfl)
  m_Story_len := He.meth_ok (c.fact 128 (f := .meth "Story" "__len__") rfl)
  m_Point_is_on := He.meth_ok (c.fact 129 (f := .meth "Point" "is_on") rfl)
  m_Point_beginning := He.meth_ok (c.fact 130 (f := .meth "Point" "beginning") rfl)
  m_Live_several := He.meth_ok (c.fact 131 (f := .meth "Live" "several") rfl)
  m_Rule_work := He.meth_ok (c.fact 132 (f := .meth "Rule" "work") rfl)
  ic_Still := insB_ok (c.more 0 rfl)
  ic_Anew := insB_ok (c.more 1 rfl)
  ic_Lift := insB_ok (c.more 2 rfl)
  ic_Course := insB_ok (c.more 3 rfl)
  ic_Story := insB_ok (c.more 4 rfl)
  ic_Point := insB_ok (c.more 5 rfl)
  ic_Live := insB_ok (c.more 6 rfl)
  ic_Rule := insB_ok (c.more 7 rfl)
  ic_Unsure := insB_ok (c.more 8 rfl)
  is_Still_Kind := of_decide_eq_true (c.more 9 rfl)
  is_Still_Still := of_decide_eq_true (c.more 10 rfl)
  is_Still_Anew := of_decide_eq_true (c.more 11 rfl)
  is_Still_Lift := of_decide_eq_true (c.more 12 rfl)
  is_Anew_Kind := of_decide_eq_true (c.more 13 rfl)
  is_Anew_Still := of_decide_eq_true (c.more 14 rfl)
  is_Anew_Anew := of_decide_eq_true (c.more 15 rfl)
  is_Anew_Lift := of_decide_eq_true (c.more 16 rfl)
  is_Lift_Kind := of_decide_eq_true (c.more 17 rfl)
  is_Lift_Still := of_decide_eq_true (c.more 18 rfl)
  is_Lift_Anew := of_decide_eq_true (c.more 19 rfl)
  is_Lift_Lift := of_decide_eq_true (c.more 20 rfl)
  v_BARRED := tupB_ok (c.more 21 rfl)
  f_still := nsIntB_ok (c.more 22 rfl)
  f_anew := nsIntB_ok (c.more 23 rfl)
  f_lift := nsIntB_ok (c.more 24 rfl)
  p_last := propB_ok (c.more 25 rfl)
  exm_Refused := of_decide_eq_true (c.more 26 rfl)
  cr_Kind := creadB_ok (c.more 27 rfl)
  cm_Kind := cmetB_ok (c.more 28 rfl)
  cr_Rule := creadB_ok (c.more 29 rfl)
  cm_Rule := cmetB_ok (c.more 30 rfl)
  kd_FORMS := c.tab
  ref := c.refF hp ht
  v_story0 := v0B_ok (c.more 31 rfl)
  d_is_integer := c.def_ 0 (d := da_0) rfl
  d_is_number := c.def_ 1 (d := da_1) rfl
  d_is_length := c.def_ 2 (d := da_2) rfl
  d_is_name := c.def_ 3 (d := da_3) rfl
  d_is_sequence := c.def_ 4 (d := da_4) rfl
  d_number_in := c.def_ 5 (d := da_5) rfl
  d_need := c.def_ 6 (d := da_6) rfl
  d_is_many := c.def_ 7 (d := da_7) rfl
  d_told_by := c.def_ 8 (d := da_8) rfl
  d_made_of := c.def_ 9 (d := da_9) rfl
  d_after := c.def_ 10 (d := da_10) rfl
  d_gone := c.def_ 11 (d := da_11) rfl
  d_end_by := c.def_ 12 (d := da_12) rfl
  d_course_of := c.def_ 13 (d := da_13) rfl
  d_lapse := c.def_ 14 (d := da_14) rfl
  d_counted := c.def_ 15 (d := da_15) rfl
  d_is_occasion_stories := c.def_ 16 (d := da_16) rfl
  d_need_occasions := c.def_ 17 (d := da_17) rfl
  d_is_occasion_live := c.def_ 18 (d := da_18) rfl
  d_are_rests := c.def_ 19 (d := da_19) rfl
  d_are_kinds := c.def_ 20 (d := da_20) rfl
  d_head_in := c.def_ 21 (d := da_21) rfl
  d_is_unsure := c.def_ 22 (d := da_22) rfl
  d_choices := c.def_ 23 (d := da_23) rfl
  d_filled := c.def_ 24 (d := da_24) rfl
  d_fillings := c.def_ 25 (d := da_25) rfl
  d_ends_by_choice := c.def_ 26 (d := da_26) rfl
  d_lapses := c.def_ 27 (d := da_27) rfl
  d_told_of := c.def_ 28 (d := da_28) rfl
  d_surely := c.def_ 29 (d := da_29) rfl
  d_u_law_deal := c.def_ 30 (d := da_30) rfl
  d_u_law_draw := c.def_ 31 (d := da_31) rfl
  d_u_law_pick := c.def_ 32 (d := da_32) rfl
  d_u_law_mixed := c.def_ 33 (d := da_33) rfl
  d_u_law_rests := c.def_ 34 (d := da_34) rfl
  d_u_law_text := c.def_ 35 (d := da_35) rfl
  d_u_law_made := c.def_ 36 (d := da_36) rfl
  d_u_law_sorts := c.def_ 37 (d := da_37) rfl
  d_u_law_plan := c.def_ 38 (d := da_38) rfl
  d_u_law_last := c.def_ 39 (d := da_39) rfl
  d_law := c.def_ 40 (d := da_40) rfl
  d_Kind_read := c.def_ 41 (d := da_41) rfl
  d_Still_init := c.def_ 42 (d := da_42) rfl
  d_Anew_init := c.def_ 43 (d := da_43) rfl
  d_Lift_init := c.def_ 44 (d := da_44) rfl
  d_Course_init := c.def_ 45 (d := da_45) rfl
  d_Course_end := c.def_ 46 (d := da_46) rfl
  d_Course_go_to := c.def_ 47 (d := da_47) rfl
  d_Course_hear := c.def_ 48 (d := da_48) rfl
  d_Course_take := c.def_ 49 (d := da_49) rfl
  d_Story_init := c.def_ 50 (d := da_50) rfl
  d_Story_further := c.def_ 51 (d := da_51) rfl
  d_Story_len := c.def_ 52 (d := da_52) rfl
  d_Point_init := c.def_ 53 (d := da_53) rfl
  d_Point_is_on := c.def_ 54 (d := da_54) rfl
  d_Point_beginning := c.def_ 55 (d := da_55) rfl
  d_Live_init := c.def_ 56 (d := da_56) rfl
  d_Live_last := c.def_ 57 (d := da_57) rfl
  d_Live_several := c.def_ 58 (d := da_58) rfl
  d_Rule_init := c.def_ 59 (d := da_59) rfl
  d_Rule_read := c.def_ 60 (d := da_60) rfl
  d_Rule_work := c.def_ 61 (d := da_61) rfl
  d_Unsure_init := c.def_ 62 (d := da_62) rfl
theorem facts {P : Program} {w : World} {K : PySem.W.Frag} {h : Heap} {mg : Str → Option Value} {f : Addr} (X : K.In h) (G : h.Ns mainGlobals mg) (hfa : mg ("law" : Str) = some (.ref f)) (c : SaysZ w K)
    (hp : P.main.file = fileZ) (ht : (P.main.scope.names.lookup ("super" : Str)).isSome = false) :
    ∃ fd : FuncData, (∀ (s : Shared) (v : Value), BindsTo s fd ⟨[v], []⟩ [("_law_script", v)]) ∧ ∀ base : Heap, K.In base → base.Ns mainGlobals mg → FnOk P w K mg base C8.CX0 12 f fd ["_law_script"] (spLaw K) := by
  have T := txt_of (P := P) X G c hp ht
  have e := hfa.symm.trans T.g_law
  cases e
  obtain ⟨fd, F⟩ := T.d_law
  have b := FunD.bindsA (ps := ["_law_script"]) F fun _ _ _ _ _ _ us hl => match us, hl with | [_], _ => rfl
  exact ⟨fd, fun s v => b s [v] rfl, fun base _ _ => fnok F sc_law law_len (law_body T)⟩
end Ts
open PySem PySem.W PySem.Calls PyProof.Rows
theorem PySem.Challenge.cw_termstill_k76_whole_unsure_and_live_clai_holds : PySem.Challenge.rw_termstill_k76_whole_unsure_and_live_clai.Holds := by
  w_on; o_law
  refine HandSHeadRun.head_any (r := Ts.R) (q := Ts.qv) (H := Ts.hookZ 6) (ob := Ts.ob) (M := 15000) (loose := Ts.names) (d := HandSHeadRun.topDef Ts.R.prog 80) (kwd := []) Ts.ob_eq
    (by kernel_rfl) (fun s => by kernel_rfl) Ts.run (by kernel_rfl) (by kernel_rfl) (by kernel_rfl) (by rfl) (by first | assumption | decide +kernel) (by decide +kernel) ⟨rfl, rfl, rfl, rfl, rfl, by decide +kernel⟩ ?hw ?hc
  case hw => w_witness2
  case hc =>
    refine L2.walk_ofE (l := PySem.Challenge.rw_termstill_k76_whole_unsure_and_live_clai) (n := 63) (k := 12) (x := "_law_script") (CX := C8.CX0) rfl (by decide) (by kernel_rfl) ⟨rfl, by decide, by decide⟩ ?F (fun _ _ _ _ z => z)
    intro w mg fa h Y G hmg0
    obtain ⟨K, KX, c⟩ := Y
    have hmg : mg ("law" : PySem.Str) = some (.ref fa) := by
      have e : (HandSHeadRun.topDef Ts.R.prog 80).name = ("law" : PySem.Str) := by kernel_rfl
      rw [← e]
      exact hmg0
    obtain ⟨fd, hb, hF⟩ := Ts.facts (P := (PySem.Challenge.rw_termstill_k76_whole_unsure_and_live_clai).prog) (w := w) KX G hmg c (by kernel_rfl) (by kernel_rfl)
    exact ⟨K, fd, Ts.spLaw K, KX, hb, fun H a ns hl _ hS => ⟨a, ns, rfl, hS, hl, fun _ => rfl⟩, hF⟩
