import PyProof.Rows.All
import Wide.All
import OpenK.AllK
import Wide.FinOn
import HandS.ForMost
import HandS.Zip
import HandS.Style
import HandS.TupAny
import HandS.TupMul
import HandS.Conv
import HandS.IsInst
import HandS.Deep
import HandS.Defaults
import HandS.Walk
import PySem.Challenge.RW_houseslessties_k27_whole_twisted_counter
import HandS.Zip0
import PyProof.Draws
import PyProof.EnumMake
import HandS.DictComp
import HandS.SortInts
import KE.KSortTupG
import HandS.RaiseMore
import HandS.OwnEq
import HandS.Ends
import HandS.More
set_option Elab.async false
set_option linter.all false
set_option maxRecDepth 100000
set_option autoImplicit false
namespace Hou
open PySem PySem.Spec PyProof.Rows L2
/-! ### a def of the top and its promise -/
structure Def (P : Program) (w : World) (K : PySem.W.Frag) (mg : Str → Option Value) (base : Heap) (k : Nat) (x : Str) (st : Stmt) (ps : List Str) (sp : Sp) : Prop where
  ex : ∃ (f : Addr) (fd : FuncData), FnOk P w K mg base CX0 k f fd ps sp ∧ Fun K x x st f fd ∧ mg x = some (.ref f) ∧ Binds K fd ps []
/-- a def as it stands behind the top -/
structure Top (K : PySem.W.Frag) (mg : Str → Option Value) (x : Str) (st : Stmt) (ps : List Str) : Prop where
  ex : ∃ (f : Addr) (fd : FuncData), Fun K x x st f fd ∧ mg x = some (.ref f) ∧ Binds K fd ps []
/-- a method as it stands behind the top -/
structure TopM (K : PySem.W.Frag) (C : Addr) (m q : Str) (st : Stmt) (ps : List Str) : Prop where
  ex : ∃ (f : Addr) (fd : FuncData), Fun K m q st f fd ∧ Meth K C m f ∧ Binds K fd ps []
structure MDef (P : Program) (w : World) (K : PySem.W.Frag) (mg : Str → Option Value) (base : Heap) (k : Nat) (C : Addr) (m q : Str) (st : Stmt) (ps : List Str) (sp : Sp) : Prop where
  ex : ∃ (f : Addr) (fd : FuncData), FnOk P w K mg base CX0 k f fd ps sp ∧ Fun K m q st f fd ∧ Meth K C m f ∧ Binds K fd ps []
  cl : Cls K C
/-- a class that is made: its __init__ -/
structure TopI (K : PySem.W.Frag) (mg : Str → Option Value) (C : Addr) (x q : Str) (st : Stmt) (ps : List Str) : Prop where
  ex : ∃ (f : Addr) (fd : FuncData), Fun K "__init__" q st f fd ∧ Mk K C f ∧ mg x = some (.ref C) ∧ Binds K fd ps []
structure IDef (P : Program) (w : World) (K : PySem.W.Frag) (mg : Str → Option Value) (base : Heap) (k : Nat) (C : Addr) (x : Str) (ps : List Str) (sp : Sp) : Prop where
  ex : ∃ (f : Addr) (fd : FuncData), FnOk P w K mg base CX0 k f fd ps sp ∧ Mk K C f ∧ mg x = some (.ref C) ∧ Binds K fd ps []
section
variable {P : Program} {w : World} {K : PySem.W.Frag} {mg : Str → Option Value} {base : Heap} {k : Nat} {x q m : Str} {st : Stmt} {C : Addr} {N ps : List Str} {sp : Sp}
/-- the body of a def, once -/
theorem Top.ok (T : Top K mg x st ps) (S : FnScope N ps (defScope st)) (len : ∀ vs H Q E, sp vs H Q E → vs.length = ps.length)
    (hbody : ∀ (f : Addr) (cdv : Value) (A : Around) (outer : List Env) (s : Shared) (H : Hp) (vs : List V) (Q : VK) (E : XK), Room k (A.deeper (envOfC x (defScope st) s.heap.objs.size f cdv)) → sp vs H Q E →
      ∃ t, PSs (cxOf CX0 P w K mg base N x (defScope st) f cdv A outer s H E).nox (defBody st) t ∧ t { nx := fun _ H' => Q .non H', rt := Q } (start N vs) H) : Def P w K mg base (k + 1) x st ps sp := by
  obtain ⟨f, fd, F, h, b⟩ := T.ex
  exact ⟨f, fd, F.ok S len (hbody f), F, h, b⟩
theorem TopM.ok (T : TopM K C m q st ps) (c : Cls K C) (S : FnScope N ps (defScope st)) (len : ∀ vs H Q E, sp vs H Q E → vs.length = ps.length)
    (hbody : ∀ (f : Addr) (cdv : Value) (A : Around) (outer : List Env) (s : Shared) (H : Hp) (vs : List V) (Q : VK) (E : XK), Room k (A.deeper (envOfC q (defScope st) s.heap.objs.size f cdv)) → sp vs H Q E →
      ∃ t, PSs (cxOf CX0 P w K mg base N q (defScope st) f cdv A outer s H E).nox (defBody st) t ∧ t { nx := fun _ H' => Q .non H', rt := Q } (start N vs) H) : MDef P w K mg base (k + 1) C m q st ps sp := by
  obtain ⟨f, fd, F, h, b⟩ := T.ex
  exact ⟨⟨f, fd, F.ok S len (hbody f), F, h, b⟩, c⟩
theorem TopI.ok (T : TopI K mg C x q st ps) (S : FnScope N ps (defScope st)) (len : ∀ vs H Q E, sp vs H Q E → vs.length = ps.length)
    (hbody : ∀ (f : Addr) (cdv : Value) (A : Around) (outer : List Env) (s : Shared) (H : Hp) (vs : List V) (Q : VK) (E : XK), Room k (A.deeper (envOfC q (defScope st) s.heap.objs.size f cdv)) → sp vs H Q E →
      ∃ t, PSs (cxOf CX0 P w K mg base N q (defScope st) f cdv A outer s H E).nox (defBody st) t ∧ t { nx := fun _ H' => Q .non H', rt := Q } (start N vs) H) : IDef P w K mg base (k + 1) C x ps sp := by
  obtain ⟨f, fd, F, h, h2, b⟩ := T.ex
  exact ⟨f, fd, F.ok S len (hbody f), h, h2, b⟩
theorem Def.imp {sp' : Sp} (D : Def P w K mg base k x st ps sp) (h : ∀ vs H Q E, sp' vs H Q E → sp vs H Q E) : Def P w K mg base k x st ps sp' := by
  obtain ⟨f, fd, F, a, b⟩ := D.ex
  exact ⟨f, fd, F.imp h, a, b⟩
end
section
variable {X : Cx} {k n : Nat} {C : Addr} {ps ks : List Str} {st : Stmt} {sp : Sp} {x m q : Str} {p pos apos : Pos} {e o : Expr} {es : List Expr} {ta : TE} {t : TA} {kws : List Keyword} {tk : TA}
theorem pe_def (D : Def X.prog X.w X.K X.mg X.base k x st ps sp) (hr : Room k X.A) (hg : Gl X x) (ha : PA X (e :: es) t) (hdb : (x == ("__debug__" : Str)) = false := by decide)
    (he : starEach (e :: es) X.env = (false, eval e X.env) :: starEach es X.env := by rfl) (hpl : (backTo pos (starEach es X.env)).any (·.1) = false := by rfl) :
    PE X (.Call (.Name x p) (e :: es) [] pos) (tCall sp [] E0 t) := by
  obtain ⟨f, fd, F, G, hm, hb⟩ := D.ex
  exact pe_call F hr hg hm G.kp hb .nil pass0 ha hdb he hpl
theorem pe_mdef {pl : Sem Bool} (he : PE X o ta) (D : MDef X.prog X.w X.K X.mg X.base k C m q st ps sp) (hr : Room k X.A) (ha : PA X (e :: es) t)
    (hst : starEach (e :: es) X.env = (false, eval e X.env) :: starEach es X.env := by rfl) (hpl : (backTo pos (starEach es X.env)).any (·.1) = false := by rfl)
    (ht : eval (.Call (.Attribute o m apos) (e :: es) [] pos) X.env = (do
      let ov ← eval o X.env
      standAt apos.atName
      let (f, first) ← holding [ov] (getMethod ov m pl)
      callWith pos f first (backTo pos (starEach (e :: es) X.env)) (backToKw pos (keywordEach [] X.env))) := by rfl) :
    PE X (.Call (.Attribute o m apos) (e :: es) [] pos) (tMeth C m sp [] E0 ta t) := by
  obtain ⟨f, fd, F, G, hm, hb⟩ := D.ex
  exact pe_meth he D.cl hm F hr hb .nil pass0 ha hst hpl ht
theorem pe_mk (D : IDef X.prog X.w X.K X.mg X.base k C x ps sp) (hr : Room (k + 1) X.A) (hg : Gl X x) (ha : PA X (e :: es) t) (hdb : (x == ("__debug__" : Str)) = false := by decide)
    (he : starEach (e :: es) X.env = (false, eval e X.env) :: starEach es X.env := by rfl) (hpl : (backTo pos (starEach es X.env)).any (·.1) = false := by rfl) :
    PE X (.Call (.Name x p) (e :: es) [] pos) (tMake C sp [] E0 t) := by
  obtain ⟨f, fd, F, M, hm, hb⟩ := D.ex
  exact pe_make M F hr hg hm hb .nil pass0 ha hdb he hpl
/-! ### keywords alone -/
def tCallN (n m : Nat) (sp : Sp) (gV : List V → List V → List V) (t tk : TA) : TE := fun σ H Q => t σ H fun vs H1 => tk σ H1 fun zs H2 => vs.length = n ∧ zs.length = m ∧ sp (gV vs zs) H2 Q E0
/-- how a def of the text binds keywords alone (p: by place of the parameters, which of the keywords) -/
def KwOk (K : PySem.W.Frag) (x qual : Str) (st : Stmt) (ps : List Str) (n : Nat) (ks : List Str) (p : List Nat) : Prop :=
  ∀ (kV doc pm : Value) (an : Option Addr) (cdv ct : Value) (us ws : List Value), us.length = n → ws.length = ks.length →
    bindArgs (PySem.W.fnOf x qual (defArgs st) (defBody st) (defScope st) .none kV doc pm an cdv ct) ⟨us, ks.zip ws⟩ = pure (ps.zip (p.map fun i => (us ++ ws).getD i .none))
theorem getD_rel {vs : List V} {us : List Value} (r : Vals vs us) : ∀ i, L2.RelV (vs.getD i .non) (us.getD i .none) := by
  induction r with
  | nil => intro i; exact rfl
  | cons a b ih =>
    intro i
    cases i with
    | zero => exact a
    | succ j => exact ih j
theorem perm_rel {vs : List V} {us : List Value} (r : Vals vs us) : ∀ p : List Nat, Vals (p.map fun i => vs.getD i .non) (p.map fun i => us.getD i .none)
  | [] => .nil
  | i :: p => .cons (getD_rel r i) (perm_rel r p)
theorem kbn {K : PySem.W.Frag} {f : Addr} {fd : FuncData} {x q : Str} {pp : List Nat} (F : Fun K x q st f fd) (h : KwOk K x q st ps n ks pp) :
    KBn K fd ps n ks (fun us ws => pp.map fun i => (us ++ ws).getD i .none) (fun vs zs => pp.map fun i => (vs ++ zs).getD i .non) := by
  obtain ⟨oc, od, kV, doc, pm, an, cdv, ct, osl, rfl, lk, hcd⟩ := F.ex
  exact ⟨fun s us ws _ l1 l2 => .of_eq (h kV doc pm an cdv ct us ws l1 l2), fun r1 r2 => perm_rel (r1.append r2) pp⟩
theorem pe_defK0 {pp : List Nat} (D : Def X.prog X.w X.K X.mg X.base k x st ps sp) (hr : Room k X.A) (hg : Gl X x) (hb : KwOk X.K x x st ps 0 ks pp) (hkw : PK X kws tk)
    (hall : (backToKw pos (keywordEach kws X.env)).all (·.1.isSome) = true := by rfl) (hks : (backToKw pos (keywordEach kws X.env)).filterMap (·.1) = ks := by rfl)
    (hdb : (x == ("__debug__" : Str)) = false := by decide) (hpl : ((backTo pos (starEach [] X.env)).any (·.1) || (backToKw pos (keywordEach kws X.env)).any (·.1.isNone)) = false := by rfl) :
    PE X (.Call (.Name x p) [] kws pos) (tCallN 0 ks.length sp (fun vs zs => pp.map fun i => (vs ++ zs).getD i .non) tNil tk) := by
  obtain ⟨f, fd, F, G, hm, _⟩ := D.ex
  refine ⟨fun pins s σ H Q I h => ?_⟩
  refine wpAny_Call_Name_kw (ld_glob I hg hm ?_ hdb)
  refine PySem.W.callWith_KW0 (h₀ := X.base) I.ok.mod.kin G.kp hall ?_ hpl
  refine thn (hkw.run pos pins s σ H _ I h) fun ws s2 ⟨zs, H2, I2, rz, l1, l2, q2⟩ => ⟨I2.kIn, ?_⟩
  rw [hks]
  exact run_fnN F hr (kbn G hb) pass0 I2 .nil rz rfl l2 q2
theorem pe_mdefK0 {pl : Sem Bool} {pp : List Nat} (he : PE X o ta) (D : MDef X.prog X.w X.K X.mg X.base k C m q st ps sp) (hr : Room k X.A) (hb : KwOk X.K m q st ps 1 ks pp) (hkw : PK X kws tk)
    (hall : (backToKw pos (keywordEach kws X.env)).all (·.1.isSome) = true := by rfl) (hks : (backToKw pos (keywordEach kws X.env)).filterMap (·.1) = ks := by rfl)
    (hpl : ((backTo pos (starEach [] X.env)).any (·.1) || (backToKw pos (keywordEach kws X.env)).any (·.1.isNone)) = false := by rfl)
    (ht : eval (.Call (.Attribute o m apos) [] kws pos) X.env = (do
      let ov ← eval o X.env
      standAt apos.atName
      let (f, first) ← holding [ov] (getMethod ov m pl)
      callWith pos f first (backTo pos (starEach [] X.env)) (backToKw pos (keywordEach kws X.env))) := by rfl) :
    PE X (.Call (.Attribute o m apos) [] kws pos) (fun σ H Q => ta σ H fun x H1 => ∃ a dx fs, x = .ref a ∧ H1 a = some (.ins C dx fs) ∧ fs.lookup m = none ∧ tk σ H1 fun zs H2 => zs.length = ks.length ∧ sp (pp.map fun i => (x :: zs).getD i .non) H2 Q E0) := by
  obtain ⟨f, fd, F, G, hm, _⟩ := D.ex
  refine ⟨fun pins s σ H Q I h => ?_⟩
  refine PySem.W.methodCall_KW (pl := pl) (thn (he.run pins s σ H _ I h) fun u s1 ⟨x, H1, I1, rx, a, dx, fs, ex, ea, l, q⟩ => ?_) ht
  subst ex
  obtain rfl : u = Value.ref a := rx
  refine getmeth_ok I1 ea D.cl hm l ?_
  refine PySem.W.callWith_KW0 (first := [.ref a]) (h₀ := X.base) I.ok.mod.kin hm.kp hall ?_ hpl
  refine thn (hkw.run pos pins s1 σ H1 _ I1 q) fun ws s2 ⟨zs, H2, I2, rz, l2, q2⟩ => ⟨I2.kIn, ?_⟩
  rw [hks]
  exact run_fnN (us := [.ref a]) (vs := [.ref a]) F hr (kbn G hb) pass0 I2 (.cons rfl .nil) rz rfl l2 q2
end
end Hou
set_option Elab.async false
set_option linter.all false
set_option maxRecDepth 100000
set_option autoImplicit false
namespace Hou
open PySem PySem.Spec PyProof.Rows L2
/-! ### the text by places -/
def top (i : Nat) : Stmt := PySem.Challenge.pw_houseslessties_k27_whole_twisted_counter.main.body.getD i (.Pass ⟨0, 0, 0, 0⟩)
abbrev s_is_integer : Stmt := top 9
abbrev s_is_number : Stmt := top 10
abbrev s_is_below : Stmt := top 11
abbrev s_is_within : Stmt := top 12
abbrev s_is_sequence : Stmt := top 13
/-- the names of the builtins are not taken -/
structure Bl (mg : Str → Option Value) : Prop where
  isinstance : mg "isinstance" = none
  int : mg "int" = none
  bool : mg "bool" = none
  list : mg "list" = none
  tuple : mg "tuple" = none
  abs : mg "abs" = none
  len : mg "len" = none
  range : mg "range" = none
  sorted : mg "sorted" = none
  sum : mg "sum" = none
  max : mg "max" = none
  min : mg "min" = none
  repr : mg "repr" = none
  all : mg "all" = none
  enumerate : mg "enumerate" = none
  zip : mg "zip" = none
section
variable {P : Program} {w : World} {K : PySem.W.Frag} {mg : Str → Option Value} {base : Heap}
theorem sc_is_integer : FnScope ["value"] ["value"] (defScope s_is_integer) := ⟨rfl, rfl, rfl, by decide +kernel, rfl, by decide +kernel, by decide +kernel⟩
/-- whole numbers alone -/
def spIsInteger : Sp := fun vs H Q _ => ∃ n : Int, vs = [.int n] ∧ Q (.bl true) H
theorem ok_is_integer (T : Top K mg "is_integer" s_is_integer ["value"]) (B : Bl mg) : Def P w K mg base 1 "is_integer" s_is_integer ["value"] spIsInteger := by
  refine T.ok sc_is_integer (fun vs H Q E h => ?_) (fun f cdv A outer s H vs Q E hr h => ?_)
  · obtain ⟨n, rfl, _⟩ := h
    rfl
  · obtain ⟨n, rfl, k⟩ := h
    refine ⟨_, pss_one (ps_ret (pe_and (pe_callB call_isi (by rfl) B.isinstance (by decide +kernel) (pa_cons (pv 0) (pa_cons (pe_bltn (v := .ty "int") (by rfl) B.int PyProof.Rows.boot_int rfl) pa_nil)))
      (pe_one (pe_not (pe_callB call_isi (by rfl) B.isinstance (by decide +kernel) (pa_cons (pv 0) (pa_cons (pe_bltn (v := .ty "bool") (by rfl) B.bool PyProof.Rows.boot_bool rfl) pa_nil))))))), ?_⟩
    refine ⟨_, rfl, .int n, .ty "int", .type "int", .type "int", true, rfl, .ty _, .base (.int n), kit_ty (by decide +kernel), true, rfl, ?_⟩
    refine iteT ?_
    refine ⟨_, rfl, .int n, .ty "bool", .type "int", .type "bool", false, rfl, .ty _, .base (.int n), kit_ty (by decide +kernel), false, rfl, ?_⟩
    exact k
theorem sc_is_number : FnScope ["value"] ["value"] (defScope s_is_number) := ⟨rfl, rfl, rfl, by decide +kernel, rfl, by decide +kernel, by decide +kernel⟩
def spIsNumber : Sp := fun vs H Q _ => ∃ n : Int, vs = [.int n] ∧ Q (.bl (decide (0 ≤ n))) H
theorem ok_is_number (T : Top K mg "is_number" s_is_number ["value"]) (D : Def P w K mg base 1 "is_integer" s_is_integer ["value"] spIsInteger) : Def P w K mg base 2 "is_number" s_is_number ["value"] spIsNumber := by
  refine T.ok sc_is_number (fun vs H Q E h => ?_) (fun f cdv A outer s H vs Q E hr h => ?_)
  · obtain ⟨n, rfl, _⟩ := h
    rfl
  · obtain ⟨n, rfl, k⟩ := h
    refine ⟨_, pss_one (ps_ret (pe_and (pe_def D hr rfl (pa_cons (pv 0) pa_nil)) (pe_one (pe_cmpR op_ge (pv 0) pe_int (nomark _))))), ?_⟩
    refine ⟨_, rfl, n, rfl, true, rfl, iteT ?_⟩
    exact ⟨_, rfl, _, _, rfl, rfl, k⟩
theorem sc_is_below : FnScope ["value", "most"] ["value", "most"] (defScope s_is_below) := ⟨rfl, rfl, rfl, by decide +kernel, rfl, by decide +kernel, by decide +kernel⟩
def spIsBelow : Sp := fun vs H Q _ => ∃ n m : Int, vs = [.int n, .int m] ∧ Q (.bl (decide (0 ≤ n ∧ n < m))) H
theorem ok_is_below (T : Top K mg "is_below" s_is_below ["value", "most"]) (D : Def P w K mg base 2 "is_number" s_is_number ["value"] spIsNumber) : Def P w K mg base 3 "is_below" s_is_below ["value", "most"] spIsBelow := by
  refine T.ok sc_is_below (fun vs H Q E h => ?_) (fun f cdv A outer s H vs Q E hr h => ?_)
  · obtain ⟨n, m, rfl, _⟩ := h
    rfl
  · obtain ⟨n, m, rfl, k⟩ := h
    refine ⟨_, pss_one (ps_ret (pe_and (pe_def D hr rfl (pa_cons (pv 0) pa_nil)) (pe_one (pe_cmpR op_lt (pv 0) (pv 1) (nomark _))))), ?_⟩
    refine ⟨_, rfl, n, rfl, _, rfl, ?_⟩
    by_cases h0 : 0 ≤ n
    · rw [decide_eq_true h0]
      refine iteT ⟨_, rfl, _, rfl, _, _, rfl, rfl, ?_⟩
      have e : decide (n < m) = decide (0 ≤ n ∧ n < m) := by simp [h0]
      show Q (V.bl (decide (n < m))) H
      rw [e]
      exact k
    · rw [decide_eq_false h0]
      refine iteF ?_
      have e : decide (0 ≤ n ∧ n < m) = false := by simp [h0]
      rw [e] at k
      exact k
theorem sc_is_within : FnScope ["value", "least", "most"] ["value", "least", "most"] (defScope s_is_within) := ⟨rfl, rfl, rfl, by decide +kernel, rfl, by decide +kernel, by decide +kernel⟩
def spIsWithin : Sp := fun vs H Q _ => ∃ n l m : Int, vs = [.int n, .int l, .int m] ∧ Q (.bl (decide (l ≤ n ∧ n ≤ m))) H
theorem ok_is_within (T : Top K mg "is_within" s_is_within ["value", "least", "most"]) (D : Def P w K mg base 1 "is_integer" s_is_integer ["value"] spIsInteger) : Def P w K mg base 2 "is_within" s_is_within ["value", "least", "most"] spIsWithin := by
  refine T.ok sc_is_within (fun vs H Q E h => ?_) (fun f cdv A outer s H vs Q E hr h => ?_)
  · obtain ⟨n, l, m, rfl, _⟩ := h
    rfl
  · obtain ⟨n, l, m, rfl, k⟩ := h
    refine ⟨_, pss_one (ps_ret (pe_and (pe_def D hr rfl (pa_cons (pv 0) pa_nil)) (pe_one (pe_chain op_le op_le (pv 1) (pv 0) (pv 2))))), ?_⟩
    refine ⟨_, rfl, n, rfl, true, rfl, iteT ?_⟩
    refine ⟨_, rfl, _, rfl, _, _, rfl, rfl, _, rfl, ?_⟩
    by_cases h0 : l ≤ n
    · rw [decide_eq_true h0]
      refine iteT ⟨_, rfl, _, _, rfl, rfl, ?_⟩
      have e : decide (n ≤ m) = decide (l ≤ n ∧ n ≤ m) := by simp [h0]
      show Q (V.bl (decide (n ≤ m))) H
      rw [e]
      exact k
    · rw [decide_eq_false h0]
      refine iteF ?_
      have e : decide (l ≤ n ∧ n ≤ m) = false := by simp [h0]
      rw [e] at k
      exact k
theorem sc_is_sequence : FnScope ["value"] ["value"] (defScope s_is_sequence) := ⟨rfl, rfl, rfl, by decide +kernel, rfl, by decide +kernel, by decide +kernel⟩
def spIsSequence (K : PySem.W.Frag) : Sp := fun vs H Q _ => ∃ a : Addr, vs = [.ref a] ∧ ((∃ xs, H a = some (.lst xs)) ∨ ∃ xs, H a = some (.tup xs)) ∧ ∀ H', Same H H' → Q (.bl true) H'
theorem ok_is_sequence (T : Top K mg "is_sequence" s_is_sequence ["value"]) (B : Bl mg) : Def P w K mg base 1 "is_sequence" s_is_sequence ["value"] (spIsSequence K) := by
  refine T.ok sc_is_sequence (fun vs H Q E h => ?_) (fun f cdv A outer s H vs Q E hr h => ?_)
  · obtain ⟨a, rfl, _⟩ := h
    rfl
  · obtain ⟨a, rfl, ha, k⟩ := h
    refine ⟨_, pss_one (ps_ret (pe_callB call_isiT (by rfl) B.isinstance (by decide +kernel) (pa_cons (pv 0) (pa_cons (pe_tup (pa_cons (pe_bltn (v := .ty "list") (by rfl) B.list PyProof.Rows.boot_list rfl)
      (pa_cons (pe_bltn (v := .ty "tuple") (by rfl) B.tuple PyProof.Rows.boot_tuple rfl) pa_nil))) pa_nil)))), ?_⟩
    refine ⟨_, rfl, (by show 2 ≤ sizeLine; decide), fun t ht => ?_⟩
    have sm : Same H (upd H t (.tup [.ty "list", .ty "tuple"])) := fun b o e => by rw [upd_ne (ne_of_none e ht)]; exact e
    rcases ha with ⟨xs, ha⟩ | ⟨xs, ha⟩
    · refine ⟨.ref a, t, [.ty "list", .ty "tuple"], .type "list", [.type "list", .type "tuple"], true, rfl, upd_same, .cons (.ty _) (.cons (.ty _) .nil), .base (.lst (sm _ _ ha)), ?_, k _ sm⟩
      exact kitAny_cons (kit_ty (by decide +kernel : kitB "list" "list" = some true)) (fun z => nomatch z) fun _ => rfl
    · refine ⟨.ref a, t, [.ty "list", .ty "tuple"], .type "tuple", [.type "list", .type "tuple"], true, rfl, upd_same, .cons (.ty _) (.cons (.ty _) .nil), .base (.tup (sm _ _ ha)), ?_, k _ sm⟩
      exact kitAny_cons (kit_ty (by decide +kernel : kitB "tuple" "list" = some false)) (fun _ => kitAny_cons (kit_ty (by decide +kernel : kitB "tuple" "tuple" = some true)) (fun z => nomatch z) fun _ => rfl) fun z => nomatch z
end
end Hou
set_option Elab.async false
set_option linter.all false
set_option maxRecDepth 100000
set_option maxHeartbeats 2000000
set_option autoImplicit false
/-! enumerate(a tuple) -/
namespace Hou
open PySem PySem.Spec PyProof.Rows L2
section
open PySem.Sem (wp)
open AutoSeq1 (wpAny_loadPart')
theorem meets_enumerate_newT (l : Addr) (items : Array Value) (n : Nat) (dct : Option Addr) (sl : Array (Option Value)) :
    Meets (Builtin.«enumerate.__new__» ⟨[.type "enumerate", .ref l], []⟩) (fun _ R s => s.heap.get? l = some { cls := .type "tuple", dict := dct, data := .seq items n, slots := sl } ∧
      R (.ok (.ret (.ref (s.heap.push { cls := .type "tuple_iterator", data := .fields #[.ref l, .int 0 0] }).objs.size)))
        { s with heap := (s.heap.push { cls := .type "tuple_iterator", data := .fields #[.ref l, .int 0 0] }).push { cls := .type "enumerate", data := .fields #[.none, .bool false, .ref s.heap.objs.size, rawInt 0, .none, .none] } }) :=
  .of_wp fun prog w A R s h => by
    obtain ⟨hp, g, d, tk, os⟩ := s; obtain ⟨hl, h⟩ := h
    have hsub := sub_enumerate
    have hL : Heap.IsTuple (Shared.heap ⟨hp, g, d, tk, os⟩) l items := ⟨_, hl, rfl, n, rfl⟩
    wp_walk using wpAny_loadPart' hl
    refine wpAny_stack_any fun st => wpAny_pure ?_
    split
    · rename_i c _ _ _ _ _
      cases (c == Value.type "enumerate")
      · wp_walk using wpAny_loadPart' hl, wpAny_pyIter_tuple hL
        exact ⟨_, rfl, h⟩
      · wp_walk using wpAny_loadPart' hl, wpAny_pyIter_tuple hL
        exact ⟨_, rfl, h⟩
    · wp_walk using wpAny_loadPart' hl, wpAny_pyIter_tuple hL
      exact ⟨_, rfl, h⟩
end
section
variable {prog : Program} {w : World} {A : Around} {E : Value → Shared → Prop} {s : Shared}
theorem call_enumerate_tuple {l : Addr} {items : Array Value} {Q : Value → Shared → Prop} (hL : s.heap.IsTuple l items)
    (h : ∀ h', IsEnum h' (s.heap.objs.size + 1) s.heap.objs.size 0 .none → h'.IsTupleIter s.heap.objs.size l 0 → h'.objs.size = s.heap.objs.size + 2 →
      (∀ b o, s.heap.get? b = some o → h'.get? b = some o) → Q (.ref (s.heap.objs.size + 1)) { s with heap := h' }) :
    wpAny (model prog w) A (call (.type "enumerate") [.ref l]) Q E s := by
  obtain ⟨⟨c, dct, dt, sl⟩, hl, hc, n, hd⟩ := hL
  replace hc : c = .type "tuple" := hc
  replace hd : dt = .seq items n := hd
  subst hc hd
  refine callType_new F.called_enumerate (by decide) (F.typeCall_enumerate_1 _) (F.newCall_enumerate_1 _) (fun obj => F.args_object_init_2 obj _) F.entry_enumerate_new
    (meets_enumerate_newT l items n dct sl) ⟨hl, ?_⟩
  have hz : (s.heap.push { cls := .type "tuple_iterator", data := .fields #[.ref l, .int 0 0] }).objs.size = s.heap.objs.size + 1 := Heap.size_push ..
  show _ ∧ _
  rw [hz]
  have he : IsEnum ((s.heap.push { cls := .type "tuple_iterator", data := .fields #[.ref l, .int 0 0] }).push
      { cls := .type "enumerate", data := .fields #[.none, .bool false, .ref s.heap.objs.size, rawInt 0, .none, .none] }) (s.heap.objs.size + 1) s.heap.objs.size 0 .none := by
    have := Heap.get?_push_size (s.heap.push { cls := .type "tuple_iterator", data := .fields #[.ref l, .int 0 0] })
      (o := { cls := .type "enumerate", data := .fields #[.none, .bool false, .ref s.heap.objs.size, rawInt 0, .none, .none] }) rfl
    rw [hz] at this; exact this
  refine ⟨⟨_, he, rfl⟩, h _ he ⟨_, Heap.get?_push_of_some _ (Heap.get?_push_size _ rfl), rfl, rfl⟩ (by rw [Heap.size_push, hz]) fun b o x => Heap.get?_push_of_some _ (Heap.get?_push_of_some _ x)⟩
theorem draws_tup (hh : A.handled = none) (it t : Addr) (items : Array Value) : Draws prog w A it [it, t] items.size (fun i x => items[i]? = some x) (fun i h => h.IsTupleIter it t i ∧ h.IsTuple t items) where
  live := fun i h st => let ⟨⟨o, ho, _⟩, _⟩ := st; ⟨o, ho⟩
  frame := fun i h h' st k => ⟨st.1.at fun o q => k it (by simp) o q, by
    obtain ⟨o, ho, r⟩ := st.2
    exact ⟨o, k t (by simp) _ ho, r⟩⟩
  item := fun i s Q E hi st hQ => by
    obtain ⟨x, hx⟩ : ∃ x, items[i]? = some x := ⟨items[i], by simp [hi]⟩
    refine RZ.nextOf_tuple_item st.1 st.2 hx fun h' h1 sb => ?_
    have hne : t ≠ it := fun z => by
      obtain ⟨o, ho, hc, hd⟩ := st.1
      obtain ⟨o2, ho2, hc2, n, hd2⟩ := st.2
      rw [z] at ho2
      rw [ho] at ho2
      cases ho2
      rw [hd] at hd2
      cases hd2
    refine hQ x h' s.toks hx ⟨h1, ?_⟩ sb
    obtain ⟨o, ho, r⟩ := st.2
    exact ⟨o, (sb.2 t hne).trans ho, r⟩
  done := fun s Q E st hE => RZ.nextOf_tuple_end hh st.1 st.2 (by simp) hE
end
/-- the tuple at a as it stands at each turn, each item in a new pair -/
def IteT (K : PySem.W.Frag) (a : Addr) : It :=
  ⟨fun i H => ∃ (xs : List V) (x : V), SqT K H a xs ∧ xs[i]? = some x, fun i H v H' => ∃ T x, v = .ref T ∧ H T = none ∧ H' = upd H T (.tup [.int (i : Nat), x]) ∧ ∀ xs, SqT K H a xs → xs[i]? = some x, fun i H => ∃ xs : List V, SqT K H a xs ∧ xs.length ≤ i⟩
theorem turn_enumT {P : Program} {w : World} {K : PySem.W.Frag} {elts : List Expr} {kk : Nat} {tpos : Pos} (a e it : Addr) :
    Turn P w K (.Tuple elts kk tpos) (IteT K a) [e, it] e (fun i h => (∃ old, IsEnum h e it ((i : Nat) : Int) old) ∧ h.IsTupleIter it a i ∧ e ≠ it) where
  mem := by simp
  obj := fun i h st b hb => by
    obtain ⟨⟨old, he⟩, ⟨o, ho, hc, hd⟩, _⟩ := st
    have e' : b = e ∨ b = it := by simpa using hb
    rcases e' with z | z
    · rw [z]; exact ⟨_, he, fun v q => nomatch q⟩
    · rw [z]; exact ⟨o, ho, fun v q => by rw [hd] at q; cases q⟩
  keep := fun i h h' st k => let ⟨⟨old, he⟩, hi, hne⟩ := st; ⟨⟨old, k e (by simp) _ he⟩, hi.at fun o q => k it (by simp) o q, hne⟩
  item := by
    intro X hP hw hK hc i pins s σ H E I hf st hg
    subst hP hw hK
    obtain ⟨⟨old, he⟩, hit, hne⟩ := st
    obtain ⟨xs, x, hq, hx⟩ := hg
    obtain ⟨its, rv, p, hz⟩ := I.tuple hq
    obtain ⟨u, hu, ru⟩ := rv.get hx
    have hel : e < s.heap.objs.size := Heap.lt_size he
    have hil : it < s.heap.objs.size := by obtain ⟨_, q, _⟩ := hit; exact Heap.lt_size q
    have hat : e ≠ a := fun z => by
      obtain ⟨o2, ho2, hc2, n, hd2⟩ := p
      rw [← z, he] at ho2
      cases ho2
      cases hd2
    have hlt : i < its.toArray.size := by
      have := (List.getElem?_eq_some_iff.mp hu).1
      simpa using this
    have D : Draws X.prog X.w X.A.in1 it [it, a] its.toArray.size (fun i x => its.toArray[i]? = some x) (fun i h => h.IsTupleIter it a i ∧ h.IsTuple a its.toArray) := draws_tup (show X.A.in1.handled = none from I.ok.hd hc) it a its.toArray
    refine wpAny_pyNext_enum_itemD D he ⟨hit, p⟩ hlt hne (by simp [hne, hat]) fun x' h' tk hx' ho hit' hT hsz hk => ?_
    obtain rfl : u = x' := by
      have e1 : its.toArray[i]? = some u := by simpa using hu
      rw [e1] at hx'
      exact Option.some.inj hx'
    refine ⟨_, rfl, wpAny_letOwnedTupleGo_enum (s := { s with heap := h', toks := tk + 1 }) ho fun h'' he' sb => ?_⟩
    have hT2 : h''.get? s.heap.objs.size = some { cls := .type "tuple", data := .seq #[.int i tk, u] } := (sb.2 _ (Nat.ne_of_gt hel)).trans hT
    have new : ObjOk X.prog X.w (upd H s.heap.objs.size (.tup [.int (i : Nat), x])) h'' s.heap.objs.size (.tup [.int (i : Nat), x]) :=
      ⟨by show 2 ≤ sizeLine; decide, [.int i tk, u], .cons ⟨_, rfl⟩ (.cons ru .nil), ⟨_, hT2, rfl, _, rfl⟩⟩
    have I1 : Inv X pins σ (upd H s.heap.objs.size (.tup [.int (i : Nat), x])) { s with heap := h'', toks := tk + 1 } :=
      I.turnedNew (ch := [e, it]) (fun b ob hb q => (sb.2 b (fun z => hb (by simp [z]))).trans (hk b ob (fun z => hb (by simp [z])) (fun z => hb (by simp [z])) q)) hf (Nat.le_refl _) new
    refine ⟨.ref s.heap.objs.size, _, I1, rfl, ⟨_, x, rfl, I.hok.fresh (Nat.le_refl _), rfl, fun ys hy => by rw [I.tuple_inj hy hq]; exact hx⟩, ⟨⟨u, ?_⟩, hit'.1.at fun o q => (sb.2 it (Ne.symm hne)).trans q, hne⟩, fun b hb => ?_⟩
    · have e1 : ((i + 1 : Nat) : Int) = (i : Int) + 1 := by omega
      rw [e1]; exact he'
    · have hb' : b < s.heap.objs.size := by
        have e' : b = e ∨ b = it := by simpa using hb
        rcases e' with z | z
        · rw [z]; exact hel
        · rw [z]; exact hil
      rw [upd_ne (Nat.ne_of_lt hb')]
      exact (hf b hb).1
  done := by
    intro X hP hw hK hc i pins s σ H E I hf st hg
    subst hP hw hK
    obtain ⟨⟨old, he⟩, hit, hne⟩ := st
    obtain ⟨xs, hq, hx⟩ := hg
    obtain ⟨its, rv, p, hz⟩ := I.tuple hq
    obtain ⟨f0, f1, f2, f3, f4, f5⟩ := hf it (by simp)
    have hl := rv.length
    have hT : (s : Shared).TypeIs (.ref e) "enumerate" := ⟨_, he, rfl⟩
    unfold pyNext
    refine wpAny_bind (wpAny_attempt (wpAny_callSpecial?_slot (name := Str.ofString "__next__") hT F.slot_enumerate_next
      (wpAny_call_entry F.slot_enumerate_next hT F.entry_enumerate_next ?_ (F.args_enumerate_next_1 _))))
    show wpAny _ _ (field (.ref e) 2 >>= _) _ _ _
    refine wpAny_bind (wpAny_field he rfl (x := .ref it) rfl ?_)
    refine wpAny_bind (RZ.nextOf_tuple_end (I.ok.hd hc) hit p (by simp; omega) fun h' x eb hx' => ?_)
    obtain ⟨o, ho, hc'⟩ := hx'
    refine wpAny_bind (wpAny_isInstance (T := "StopIteration") (b := true) ⟨o, ho, hc'⟩ isSubtype_stop ?_)
    exact wpAny_pure ⟨rfl, I.turned (t' := s.toks) (fun b o hb q => eb b o hb q) f0 f1 f3 f4 f5⟩
  self := fun A i s Q E st h => let ⟨⟨_, he⟩, _⟩ := st; wpAny_pyIter_enum he h
def iEnumT (K : PySem.W.Frag) (ta : TA) : TI := fun σ H R => ta σ H fun vs H1 => ∃ a xs, vs = [.ref a] ∧ SqT K H1 a xs ∧ R (IteT K a) H1
theorem pi_enumT {X : Cx} {e : Expr} {ta : TA} {p pos tpos : Pos} {elts : List Expr} {kk : Nat} (hg : Gl X "enumerate") (hm : X.mg "enumerate" = none) (ha : PA X [e] ta) (hs : starEach [e] X.env = [(false, eval e X.env)] := by rfl) :
    PI X (.Tuple elts kk tpos) (.Call (.Name "enumerate" p) [e] [] pos) (iEnumT X.K ta) := by
  refine ⟨fun pins s σ H R I h => ?_⟩
  refine Call_ (ld_blt I hg hm boot_enumerate (PyProof.Rows.callWith_type1 (thn (ha.run pos pins s σ H _ I h) fun us s1 ⟨vs, H1, I1, r1, q1⟩ => ?_) hs rfl))
  obtain ⟨a, xs, ex, hq, q⟩ := q1
  subst ex
  cases r1 with
  | cons r rr =>
    cases rr
    cases r
    obtain ⟨its, rv, p', hz⟩ := I1.tuple hq
    refine call_enumerate_tuple (show s1.heap.IsTuple a its.toArray from p') fun h' he hit hsz hk => wpAny_pyIter_enum he ?_
    have I2 : Inv X pins σ H1 { s1 with heap := h' } := I1.kept (t' := s1.toks) hk
    refine ⟨s1.heap.objs.size + 1, [s1.heap.objs.size + 1, s1.heap.objs.size], _, _, H1, rfl, I2, turn_enumT a (s1.heap.objs.size + 1) s1.heap.objs.size, ⟨⟨.none, he⟩, hit, Nat.succ_ne_self _⟩, fun b hb => ?_, q⟩
    have e' : b = s1.heap.objs.size + 1 ∨ b = s1.heap.objs.size := by simpa using hb
    have hle : s1.heap.objs.size ≤ b := by
      rcases e' with z | z
      · rw [z]; exact Nat.le_add_right _ _
      · rw [z]; exact Nat.le_refl _
    exact I1.fpOk hle (I1.hok.fresh hle)
theorem walk_enumT {K : PySem.W.Frag} {a : Addr} {xs : List V} : Walk (IteT K a) xs.length (fun H => SqT K H a xs) (YPair (fun i => some (.int (i : Nat))) (fun i => xs[i]?)) := by
  refine ⟨fun i _ hi q => ⟨xs, xs[i], q, by simp [hi]⟩, fun _ q => ⟨xs, q, Nat.le_refl _⟩, fun i H v H' _ q y => ?_⟩
  obtain ⟨T, x, h1, h2, h3, h4⟩ := y
  exact ⟨T, .int (i : Nat), x, h1, h2, h3, rfl, h4 xs q⟩
end Hou
set_option Elab.async false
set_option linter.all false
set_option maxRecDepth 100000
set_option autoImplicit false
namespace Hou
open PySem PySem.Spec PyProof.Rows L2
theorem iteD {p A B : Prop} [Decidable p] (h1 : p → A) (h2 : ¬ p → B) : if decide p = true then A else B := by
  by_cases h : p
  · rw [if_pos (decide_eq_true h)]
    exact h1 h
  · rw [if_neg (by rw [decide_eq_false h]; exact Bool.false_ne_true)]
    exact h2 h
theorem iteDN {p A B : Prop} [Decidable p] (h1 : ¬ p → A) (h2 : p → B) : if (!decide p) = true then A else B := by
  by_cases h : p
  · rw [decide_eq_true h]
    exact h2 h
  · rw [decide_eq_false h]
    exact h1 h
/-! ### short tactics: a reading's next questions -/
local macro_rules | `(tactic| walk_at "hq") => `(tactic| first
  | assumption | exact SqL.of (by assumption) | exact SqT.of (by assumption) | exact .inl (by assumption) | exact .inr (by assumption) | exact .inl (SqL.of (by assumption)) | exact .inr (SqT.of (by assumption))
  | exact SqL.of upd_same | exact SqT.of upd_same)
local macro_rules | `(tactic| walk_at "at") => `(tactic| first | assumption | exact atI_nat (j := 0) rfl | exact atI_nat (j := 1) rfl)
local macro_rules | `(tactic| walk_at "sd") => `(tactic| first
  | exact .inl ⟨by decide, by decide⟩ | exact .inr ⟨by decide, by decide⟩ | exact ⟨by decide, by decide, by decide⟩ | (show ((_ : Int) ≠ 0); first | decide | assumption | omega)
  | (show ((_ : Int) ≠ 0 ∧ _); refine ⟨by first | decide | assumption | omega, by first | decide | omega⟩) | (show (_ ≤ sizeLine); first | (simp only [List.length_cons, List.length_nil]; decide) | assumption) | decide | omega)
local macro_rules | `(tactic| walk_at "rd") => `(tactic| first
  | refine ⟨_, rfl, ?_⟩ | refine ⟨_, _, rfl, rfl, ?_⟩ | refine .inl ⟨_, rfl, ?_⟩ | refine .inr ⟨_, rfl, ?_⟩
  | refine ⟨_, _, _, _, rfl, rfl, (by walk_at "hq"), (by walk_at "at"), ?_⟩ | refine ⟨_, _, rfl, (by walk_at "hq"), ?_⟩ | refine ⟨(by walk_at "sd"), ?_⟩)

/-! ### frames -/
/-- what nobody changes: tuples, webs -/
def Im (CW : Addr) : HO → Prop
  | .tup _ => True
  | .ins C _ _ => C = CW
  | _ => False
/-- from H to H' at most the objects of M have changed, and what is of Im stays -/
structure Fr (CW : Addr) (M : List Addr) (H H' : Hp) : Prop where
  im : ∀ a o, Im CW o → H a = some o → H' a = some o
  ot : ∀ a o, a ∉ M → H a = some o → H' a = some o
  al : ∀ a, H' a = none → H a = none
section
variable {CW : Addr} {M M' : List Addr} {H H0 H1 H2 : Hp} {p a : Addr} {o u : HO} {xs : List V}
theorem Fr.refl : Fr CW M H H := ⟨fun _ _ _ h => h, fun _ _ _ h => h, fun _ h => h⟩
theorem Fr.trans (f : Fr CW M H H1) (g : Fr CW M H1 H2) : Fr CW M H H2 :=
  ⟨fun a o i h => g.im a o i (f.im a o i h), fun a o i h => g.ot a o i (f.ot a o i h), fun a h => f.al a (g.al a h)⟩
theorem Fr.mono (f : Fr CW M H H1) (h : ∀ a, a ∈ M → a ∈ M') : Fr CW M' H H1 := ⟨f.im, fun a o i e => f.ot a o (fun z => i (h a z)) e, f.al⟩
theorem Fr.nil (f : Fr CW [] H H1) : Fr CW M H H1 := f.mono (fun a z => by simp at z)
theorem Fr.same (f : Fr CW [] H H1) : Same H H1 := fun a o e => f.ot a o (by simp) e
theorem Fr.ofSame (f : Same H H1) : Fr CW M H H1 := ⟨fun a o _ e => f a o e, fun a o _ e => f a o e, fun a e => f.free e⟩
theorem upd_none {b : Addr} (h : upd H p o b = none) : b ≠ p ∧ H b = none := by
  by_cases e : b = p
  · rw [e, upd_same] at h
    cases h
  · rw [upd_ne e] at h
    exact ⟨e, h⟩
/-- an object that H0 does not know is made or changed -/
theorem Fr.loc (f : Fr CW M H0 H) (h0 : H0 p = none) : Fr CW M H0 (upd H p o) :=
  ⟨fun a u i e => by rw [upd_ne (ne_of_none e h0)]; exact f.im a u i e, fun a u i e => by rw [upd_ne (ne_of_none e h0)]; exact f.ot a u i e, fun a e => f.al a (upd_none e).2⟩
theorem Fr.new (f : Fr CW M H0 H) (h : H p = none) : Fr CW M H0 (upd H p o) := f.loc (f.al p h)
/-- an object of M is changed -/
theorem Fr.put (f : Fr CW M H0 H) (hm : p ∈ M) (h0 : ∀ u, H0 p = some u → ¬ Im CW u) : Fr CW M H0 (upd H p o) :=
  ⟨fun a v i e => by
    have hne : a ≠ p := fun z => by
      rw [z] at e
      exact h0 v e i
    rw [upd_ne hne]
    exact f.im a v i e, fun a u i e => by
    have hne : a ≠ p := fun z => i (by rw [z]; exact hm)
    rw [upd_ne hne]
    exact f.ot a u i e, fun a e => f.al a (upd_none e).2⟩
theorem Fr.tup (f : Fr CW M H H1) (h : H a = some (.tup xs)) : H1 a = some (.tup xs) := f.im a _ trivial h
theorem nIm_lst (h : H p = some (.lst xs)) : ∀ u, H p = some u → ¬ Im CW u := fun u e i => by
  rw [h] at e
  cases e
  exact i
theorem ne_lt {b : Addr} {ys : List V} (h : H a = some (.tup xs)) (h2 : H b = some (.lst ys)) : a ≠ b := ne_of h h2 (by intro z; cases z)
end
/-- a source of draws stands at b -/
def Bx (H : Hp) (b : Addr) : Prop := ∃ g s : Int, H b = some (.lst [.int g, .int s])
theorem Bx.nim {CW : Addr} {H : Hp} {b : Addr} (h : Bx H b) : ∀ u, H b = some u → ¬ Im CW u := let ⟨_, _, e⟩ := h; nIm_lst e
section
variable {P : Program} {w : World} {K : PySem.W.Frag} {mg : Str → Option Value} {base : Heap} {CW : Addr}
abbrev s_law_box : Stmt := top 41
abbrev N_law_box : List Str := ["_law_script", "_law_k", "_law_cell", "_law_great"]
theorem sc_law_box : FnScope N_law_box ["_law_script", "_law_k"] (defScope s_law_box) := ⟨rfl, rfl, rfl, by decide +kernel, rfl, by decide +kernel, by decide +kernel⟩
def spBox (K : PySem.W.Frag) : Sp := fun vs H Q _ => ∃ (a : Addr) (ns : List Int) (k : Nat), vs = [.ref a, .int (k : Nat)] ∧ SqL K H a (ns.map V.int) ∧ k ≤ 100 ∧ ∀ b g s, H b = none → Q (.ref b) (upd H b (.lst [.int g, .int s]))
theorem ok_box (T : Top K mg "_law_box" s_law_box ["_law_script", "_law_k"]) (B : Bl mg) : Def P w K mg base 1 "_law_box" s_law_box ["_law_script", "_law_k"] (spBox K) := by
  refine T.ok sc_law_box (fun vs H Q E h => ?_) (fun f cdv A outer s H vs Q E hr h => ?_)
  · obtain ⟨a, ns, k, rfl, _⟩ := h
    rfl
  · obtain ⟨a, ns, k, rfl, hS, hk, q⟩ := h
    refine ⟨_, (pss_cons (ps_set (i := 2) sc_law_box.nd rfl (Or.inl rfl) (pe_op op_add (pe_op op_mul pe_int (pv 1)) pe_int))
       (pss_cons (ps_if (pt_cmpR op_lt (pv 1) (pe_callB call_len_seq (by rfl) B.len (by decide +kernel) (pa_cons (pv 0) pa_nil)) (nomark _)) (pss_one (ps_set (i := 2) sc_law_box.nd rfl (Or.inl rfl) (pe_callB call_abs (by rfl) B.abs (by decide +kernel) (pa_cons (pe_callTy call_int1 (by rfl) B.int (by decide +kernel) (pa_cons (pe_ix ix_list (pv 0) (pv 1) (fun _ _ => rfl)) pa_nil)) pa_nil)))) (pss_one (ps_if (pt_cmpR op_gt (pe_callB call_len_seq (by rfl) B.len (by decide +kernel) (pa_cons (pv 0) pa_nil)) pe_int (nomark _)) (pss_one (ps_set (i := 2) sc_law_box.nd rfl (Or.inl rfl) (pe_op op_add (pv 2) (pe_op op_mul (pe_op op_modN (pe_callTy call_int1 (by rfl) B.int (by decide +kernel) (pa_cons (pe_callB call_abs (by rfl) B.abs (by decide +kernel) (pa_cons (pe_callTy call_int1 (by rfl) B.int (by decide +kernel) (pa_cons (pe_ix ix_list (pv 0) (pe_op op_modN (pe_callTy call_int1 (by rfl) B.int (by decide +kernel) (pa_cons (pv 1) pa_nil)) (pe_callB call_len_seq (by rfl) B.len (by decide +kernel) (pa_cons (pv 0) pa_nil))) (fun _ _ => rfl)) pa_nil)) pa_nil)) pa_nil)) pe_int) pe_int)))) pss_nil)))
       (pss_cons (ps_set (i := 3) sc_law_box.nd rfl (Or.inl rfl) (pe_ifExp (pt_cmpR op_ge (pv 2) (pe_op op_pow pe_int pe_int) (nomark _)) (pv 2) pe_int))
       (pss_one (ps_ret (pe_lst (pa_cons (pv 3) (pa_cons (pe_op op_add (pe_op op_modN (pe_callTy call_int1 (by rfl) B.int (by decide +kernel) (pa_cons (pe_op op_add (pe_op op_mul (pe_op op_modN (pe_callTy call_int1 (by rfl) B.int (by decide +kernel) (pa_cons (pv 2) pa_nil)) pe_int) pe_int) (pe_op op_mul pe_int (pv 1))) pa_nil)) pe_int) pe_int) pa_nil)))))))), ?_⟩
    have at_ : ∀ i : Nat, i < ns.length → ∃ z : Int, atI (ns.map V.int) (i : Int) = some (.int z) := fun i hi => ⟨ns[i], atI_nat (by simp [hi])⟩
    have hl : (ns.map V.int).length = ns.length := List.length_map _
    repeat walk_at "rd"
    refine iteD (fun h1 => ?_) (fun h1 => ?_)
    · rw [hl] at h1
      obtain ⟨z, ez⟩ := at_ k (by omega)
      repeat walk_at "rd"
      refine iteD (fun h2 => ?_) (fun h2 => ?_)
      all_goals
        repeat walk_at "rd"
        intro p hp
        exact q _ _ _ hp
    · repeat walk_at "rd"
      refine iteD (fun h2 => ?_) (fun h2 => ?_)
      · rw [hl] at h2
        have hm := Int.emod_nonneg (k : Int) (show ((ns.length : Nat) : Int) ≠ 0 by omega)
        have hm2 := Int.emod_lt_of_pos (k : Int) (show (0 : Int) < ((ns.length : Nat) : Int) by omega)
        obtain ⟨z, ez⟩ := at_ ((k : Int) % (ns.length : Int)).toNat (by omega)
        have em : (((k : Int) % (ns.length : Int)).toNat : Int) = (k : Int).fmod (((ns.map V.int).length : Nat) : Int) := by
          rw [hl, Int.fmod_eq_emod_of_nonneg _ (by omega)]
          omega
        rw [em] at ez
        have hn0 : (((ns.map V.int).length : Nat) : Int) ≠ 0 := by rw [hl]; omega
        repeat walk_at "rd"
        refine iteD (fun h2 => ?_) (fun h2 => ?_)
        all_goals
          repeat walk_at "rd"
          intro p hp
          exact q _ _ _ hp
      · repeat walk_at "rd"
        refine iteD (fun h2 => ?_) (fun h2 => ?_)
        all_goals
          repeat walk_at "rd"
          intro p hp
          exact q _ _ _ hp
abbrev s_law_take : Stmt := top 42
abbrev N_law_take : List Str := ["_law_box_here", "_law_many", "_law_digit", "_law_raw"]
theorem sc_law_take : FnScope N_law_take ["_law_box_here", "_law_many"] (defScope s_law_take) := ⟨rfl, rfl, rfl, by decide +kernel, rfl, by decide +kernel, by decide +kernel⟩
def spTake (CW : Addr) : Sp := fun vs H Q _ => ∃ (b : Addr) (m : Nat), vs = [.ref b, .int (m : Nat)] ∧ Bx H b ∧ 0 < m ∧ m < 1073741824 ∧ ∀ (d : Nat) H', d < m → Fr CW [b] H H' → Bx H' b → Q (.int (d : Nat)) H'
theorem ok_take (T : Top K mg "_law_take" s_law_take ["_law_box_here", "_law_many"]) (B : Bl mg) : Def P w K mg base 1 "_law_take" s_law_take ["_law_box_here", "_law_many"] (spTake CW) := by
  refine T.ok sc_law_take (fun vs H Q E h => ?_) (fun f cdv A outer s H vs Q E hr h => ?_)
  · obtain ⟨b, m, rfl, _⟩ := h
    rfl
  · obtain ⟨b, m, rfl, ⟨g, z, hb⟩, h0, h1, k⟩ := h
    refine ⟨_, (pss_cons (ps_if (pt_cmpR op_gt (pe_ix ix_list (pv 0) pe_int (fun _ _ => rfl)) pe_int (nomark _)) (pss_cons (ps_set (i := 2) sc_law_take.nd rfl (Or.inl rfl) (pe_op op_modN (pe_callTy call_int1 (by rfl) B.int (by decide +kernel) (pa_cons (pe_ix ix_list (pv 0) pe_int (fun _ _ => rfl)) pa_nil)) (pv 1)))
       (pss_cons (ps_asg (pe_op op_fdivN (pe_ix ix_list (pv 0) pe_int (fun _ _ => rfl)) (pv 1)) (pg_sub (pv 0) pe_int set_list))
       (pss_one (ps_ret (pv 2))))) pss_nil)
       (pss_cons (ps_set (i := 3) sc_law_take.nd rfl (Or.inl rfl) (pe_op op_modN (pe_callTy call_int1 (by rfl) B.int (by decide +kernel) (pa_cons (pe_op op_add (pe_op op_mul (pe_ix ix_list (pv 0) pe_int (fun _ _ => rfl)) pe_int) pe_int) pa_nil)) pe_int))
       (pss_cons (ps_asg (pe_op op_add (pe_op op_modN (pe_callTy call_int1 (by rfl) B.int (by decide +kernel) (pa_cons (pe_op op_add (pe_op op_mul (pv 3) pe_int) pe_int) pa_nil)) pe_int) pe_int) (pg_sub (pv 0) pe_int set_list))
       (pss_one (ps_ret (pe_op op_modN (pe_callTy call_int1 (by rfl) B.int (by decide +kernel) (pa_cons (pe_op op_fdivN (pe_op op_add (pe_op op_mul (pv 3) pe_int) (pe_ix ix_list (pv 0) pe_int (fun _ _ => rfl))) pe_int) pa_nil)) (pv 1))))))), ?_⟩
    have hm : (m : Int) ≠ 0 := by omega
    have rng : ∀ x : Int, ∃ d : Nat, x.fmod (m : Int) = (d : Int) ∧ d < m := fun x => by
      rw [Int.fmod_eq_emod_of_nonneg x (by omega)]
      have a1 := Int.emod_nonneg x hm
      have a2 := Int.emod_lt_of_pos x (show (0 : Int) < m by omega)
      exact ⟨(x % (m : Int)).toNat, by omega, by omega⟩
    have fr : ∀ o, Fr CW [b] H (upd H b o) := fun o => Fr.refl.put (by simp) (nIm_lst hb)
    refine ⟨_, rfl, b, _, _, _, rfl, rfl, SqL.of hb, atI_nat (j := 0) rfl, _, _, rfl, rfl, _, rfl, ?_⟩
    refine iteD (fun hg => ?_) (fun hg => ?_)
    · refine ⟨_, rfl, b, _, _, _, rfl, rfl, SqL.of hb, atI_nat (j := 0) rfl, .inl ⟨_, rfl, _, rfl, _, _, rfl, rfl, hm, ?_⟩⟩
      refine ⟨_, rfl, b, _, _, _, rfl, rfl, SqL.of hb, atI_nat (j := 0) rfl, _, rfl, _, _, rfl, rfl, ⟨hm, by omega⟩, ?_⟩
      refine ⟨_, rfl, b, _, _, 0, rfl, rfl, hb, rfl, ?_⟩
      refine ⟨_, rfl, ?_⟩
      obtain ⟨d, ed, hd⟩ := rng g
      show Q (V.int (g.fmod (m : Int))) _
      rw [ed]
      exact k d _ hd (fr _) ⟨_, _, upd_same⟩
    · refine ⟨_, rfl, b, _, _, _, rfl, rfl, SqL.of hb, atI_nat (j := 1) rfl, _, _, rfl, rfl, .inr ⟨by decide, by decide⟩, _, _, rfl, rfl, .inl ⟨_, rfl, _, _, rfl, rfl, (show (2147483399 : Int) ≠ 0 by decide), ?_⟩⟩
      refine ⟨_, rfl, _, _, rfl, rfl, .inr ⟨by decide, by decide⟩, _, _, rfl, rfl, .inl ⟨_, rfl, _, _, rfl, rfl, (show (2147483587 : Int) ≠ 0 by decide), _, _, rfl, rfl, ?_⟩⟩
      refine ⟨_, rfl, b, _, _, 1, rfl, rfl, hb, rfl, ?_⟩
      refine ⟨_, rfl, _, _, rfl, rfl, .inr ⟨by decide, by decide⟩, _, rfl, b, _, _, _, rfl, rfl, SqL.of upd_same, atI_nat (j := 1) rfl, _, _, rfl, rfl, _, _, rfl, rfl, ⟨by decide, by decide⟩, .inl ⟨_, rfl, _, rfl, _, _, rfl, rfl, hm, ?_⟩⟩
      obtain ⟨d, ed, hd⟩ := rng (Int.fdiv ((Int.fmod (z * 40692 + 83) 2147483399) * 2147483629 + (Int.fmod ((Int.fmod (z * 40692 + 83) 2147483399) * 39373 + 19) 2147483587 + 1)) 8179)
      show Q (V.int (Int.fmod _ (m : Int))) _
      rw [ed]
      exact k d _ hd (fr _) ⟨_, _, upd_same⟩
end
end Hou
set_option Elab.async false
set_option linter.all false
set_option maxRecDepth 100000
set_option autoImplicit false
/-! comprehensions over anything that is walked, the frame kept -/
namespace Hou
open PySem PySem.Spec PyProof.Rows L2
theorem filterMap_succ {α : Type} (r : Nat → Option α) (i : Nat) : (List.range (i + 1)).filterMap r = (List.range i).filterMap r ++ (r i).toList := by
  rw [List.range_succ, List.filterMap_append]
  cases h : r i <;> simp [h]
theorem filterMap_len {α : Type} (r : Nat → Option α) (i : Nat) : ((List.range i).filterMap r).length ≤ i := by
  have := List.length_filterMap_le r (List.range i)
  rwa [List.length_range] at this
theorem lc_fr {J : It} {n : Nat} {G : Hp → Prop} {Y : Nat → Hp → V → Hp → Prop} (w : Walk J n G Y) {g : TG} {tt : TT} {te : TE} {vs : List Nat} {σ : L2.St} {H1 : Hp} {Qd : Addr → Hp → Prop} {CW : Addr} {M : List Addr} (r : Nat → Option V)
    (hG : ∀ H2, Fr CW M H1 H2 → G H2) (hY : ∀ i H x H', Y i H x H' → Fr CW M H H') (hM : ∀ m, m ∈ M → H1 m ≠ none) (hn : n ≤ 1000)
    (hs : ∀ i x H2 H3, i < n → Fr CW M H1 H2 → Y i H2 x H3 → ∀ (N1 : V → Hp → Prop) (N0 : Hp → Prop), (∀ y H5, Fr CW M H3 H5 → r i = some y → N1 y H5) → (∀ H4, Fr CW M H3 H4 → r i = none → N0 H4) →
      g x (wipe σ vs) H3 fun σ2 H4 => wipe σ2 vs = wipe σ vs ∧ tt σ2 H4 fun b H5 => if b = true then te σ2 H5 N1 else N0 H5)
    (hd : ∀ D H2, H1 D = none → Fr CW M H1 H2 → H2 D = some (.lst ((List.range n).filterMap r)) → Qd D H2) :
    ∀ D, H1 D = none → ∃ W : Nat → Nat → Hp → Prop, (∃ m, W 0 m (upd H1 D (.lst []))) ∧ ∀ i m H, W i m H →
      (J.stop i H ∧ Qd D H) ∨ (J.go i H ∧ ∃ Nx : Hp → Prop, (∀ H', Nx H' → ∃ m', m' < m ∧ W (i + 1) m' H') ∧ ∀ x H', J.yld i H x H' → g x (wipe σ vs) H' fun σ2 H2 => wipe σ2 vs = wipe σ vs ∧ tt σ2 H2 fun b H3 =>
        if b = true then te σ2 H3 fun y H4 => ∃ acc, H4 D = some (.lst acc) ∧ acc.length < sizeLine ∧ Nx (upd H4 D (.lst (acc ++ [y]))) else Nx H3) := by
  intro D hD
  have hDM : D ∉ M := fun z => hM D z hD
  refine lc_it w (fun i H2 => Fr CW M H1 H2 ∧ H2 D = some (.lst ((List.range i).filterMap r))) ⟨Fr.refl.new hD, upd_same⟩ (fun i H2 _ p => hG H2 p.1) ?_ fun H2 p => hd D H2 hD p.1 p.2
  intro i x H2 H3 hi p y
  have f3 := hY i H2 x H3 y
  refine hs i x H2 H3 hi p.1 y _ _ (fun v H5 f5 e => ?_) fun H4 f4 e => ?_
  · have hl : H5 D = some (.lst ((List.range i).filterMap r)) := f5.ot _ _ hDM (f3.ot _ _ hDM p.2)
    refine ⟨_, hl, small1000 (Nat.le_trans (filterMap_len r i) (by omega)), ?_, ?_⟩
    · exact ((p.1.trans f3).trans f5).loc hD
    · rw [upd_same, filterMap_succ, e]
      rfl
  · refine ⟨(p.1.trans f3).trans f4, ?_⟩
    rw [filterMap_succ, e]
    exact (f4.ot _ _ hDM (f3.ot _ _ hDM p.2)).trans (by simp)
theorem YAt.fr {CW : Addr} {M : List Addr} {xs : List V} : ∀ i H x H', YAt xs i H x H' → Fr CW M H H' := fun i H x H' h => by
  obtain ⟨rfl, _⟩ := h
  exact Fr.refl
theorem YFn.fr {CW : Addr} {M : List Addr} {f : Nat → V} : ∀ i H x H', YFn f i H x H' → Fr CW M H H' := fun i H x H' h => by
  obtain ⟨rfl, _⟩ := h
  exact Fr.refl
theorem YPair.fr {CW : Addr} {M : List Addr} {xs ys : Nat → Option V} : ∀ i H x H', YPair xs ys i H x H' → Fr CW M H H' := fun i H v H' h => by
  obtain ⟨T, x, y, _, hT, rfl, _⟩ := h
  exact Fr.refl.new hT
theorem fm_congr {α β : Type} {f g : α → Option β} : ∀ {l : List α}, (∀ x, x ∈ l → f x = g x) → l.filterMap f = l.filterMap g
  | [], _ => rfl
  | a :: l, h => by
    have ih := fm_congr (l := l) fun x hx => h x (List.mem_cons_of_mem _ hx)
    rw [List.filterMap_cons, List.filterMap_cons, h a List.mem_cons_self, ih]
theorem fm_some {α β : Type} (g : α → β) : ∀ l : List α, l.filterMap (fun x => some (g x)) = l.map g
  | [] => rfl
  | a :: l => by rw [List.filterMap_cons, List.map_cons, fm_some g l]
theorem range_filterMap {α β : Type} (xs : List α) (g : α → Option β) : ∀ k, (List.range k).filterMap (fun i => (xs[i]?).bind g) = (xs.take k).filterMap g
  | 0 => rfl
  | k + 1 => by
    rw [filterMap_succ, range_filterMap xs g k, List.take_succ, List.filterMap_append]
    cases h : xs[k]? with
    | none => simp
    | some x => cases h2 : g x <;> simp [h2]
/-- what a comprehension over xs gives -/
theorem comp_eq {α β : Type} (xs : List α) (g : α → Option β) (r : Nat → Option β) (h : ∀ i x, xs[i]? = some x → r i = g x) : (List.range xs.length).filterMap r = xs.filterMap g := by
  have e : (List.range xs.length).filterMap r = (List.range xs.length).filterMap (fun i => (xs[i]?).bind g) := by
    refine fm_congr fun i hi => ?_
    have hi' := List.mem_range.mp hi
    have e1 : xs[i]? = some xs[i] := by simp [hi']
    rw [h i _ e1, e1]
    rfl
  rw [e, range_filterMap, List.take_length]
theorem comp_map {α β : Type} (xs : List α) (g : α → β) (r : Nat → Option β) (h : ∀ i x, xs[i]? = some x → r i = some (g x)) : (List.range xs.length).filterMap r = xs.map g := by
  rw [comp_eq xs (fun x => some (g x)) r h, fm_some]
/-! ### the rules with the written part named (within a comprehension it must not hang on the block) -/
section
variable {X : Cx} {K : PySem.W.Frag} {e : Expr} {ta : TE} {pos : Pos} {f : Str}
def rLenSeq (K : PySem.W.Frag) : List V → Hp → VK → Prop := fun xs H Q => ∃ p ys, xs = [.ref p] ∧ (SqL K H p ys ∨ SqT K H p ys) ∧ Q (.int ys.length) H
def rListOf (K : PySem.W.Frag) : List V → Hp → VK → Prop := fun xs H Q => ∃ p ys, xs = [.ref p] ∧ (SqL K H p ys ∨ SqT K H p ys) ∧ ∀ l, H l = none → Q (.ref l) (upd H l (.lst ys))
def rTupleOf (K : PySem.W.Frag) : List V → Hp → VK → Prop := fun xs H Q => ∃ p ys, xs = [.ref p] ∧ ((SqL K H p ys ∧ ∀ l, H l = none → Q (.ref l) (upd H l (.tup ys))) ∨ (SqT K H p ys ∧ Q (.ref p) H))
theorem ix_tupK (h : X.K = K) : IxR X (rIxT K) := by subst h; exact ix_tup
theorem ix_listK (h : X.K = K) : IxR X (rIxL K) := by subst h; exact ix_list
theorem op_in_seqK (h : X.K = K) : OpR X (compareOp .In) (rIn K false) := by subst h; exact op_in_seq
theorem op_notIn_seqK (h : X.K = K) : OpR X (compareOp .NotIn) (rIn K true) := by subst h; exact op_notIn_seq
theorem call_lenK (h : X.K = K) : CallR X (.builtin "len") (rLenSeq K) := by subst h; exact call_len_seq
theorem call_listK (h : X.K = K) : CallR X (.type "list") (rListOf K) := by subst h; exact call_list_of
theorem call_tupleK (h : X.K = K) : CallR X (.type "tuple") (rTupleOf K) := by subst h; exact call_tuple_of
theorem cr_sumK (h : X.K = K) (hc : X.calm = true) : CallR X (.builtin "sum") (rSum K) := by subst h; exact cr_sum hc
theorem cr_allK (h : X.K = K) (hc : X.calm = true) : CallR X (.builtin "all") (rAll K) := by subst h; exact cr_all hc
theorem cr_sortedK (h : X.K = K) : CallR X (.builtin "sorted") (rSorted K) := by subst h; exact cr_sorted
theorem sl_tupAK (h : X.K = K) : SlR X (rSlA K) := by subst h; exact sl_tupA
theorem sl_listK (h : X.K = K) : SlR X (rSlL K) := by subst h; exact sl_list
theorem op_catAK (h : X.K = K) : OpR X (binaryOp .Add) (rCatA K) := by subst h; exact op_catA
theorem op_inDK (h : X.K = K) (hu : X.A.units + 65 < cLine) : OpR X (compareOp .In) (rInD K) := by subst h; exact op_inD hu
theorem op_notInDK (h : X.K = K) (hu : X.A.units + 65 < cLine) : OpR X (compareOp .NotIn) (rNotInD K) := by subst h; exact op_notInD hu
theorem op_eqDK (h : X.K = K) (hu : X.A.units + 64 < cLine) : OpR X (compareOp .Eq) (rEqD K) := by subst h; exact op_eqD hu
theorem op_neDK (h : X.K = K) (hu : X.A.units + 64 < cLine) : OpR X (compareOp .NotEq) (rNeD K) := by subst h; exact op_neD hu
theorem pe_fldK (h : X.K = K) (he : PE X e ta) (hb : attributeBase e f X.env (eval e X.env) = eval e X.env := by rfl) : PE X (.Attribute e f pos) (tFld K ta f) := by subst h; exact pe_fld he hb
theorem hu65 {A : Around} {k : Nat} (hr : Room k A) : A.units + 65 < cLine := by have := hr.un; omega
end
/-- whole numbers from 0 on, as values -/
abbrev nv (i : Nat) : V := V.int (i : Nat)
theorem eqV_nat (a b : Nat) : eqV (nv a) (nv b) = decide (a = b) := by
  show ((a : Int) == (b : Int)) = decide (a = b)
  by_cases h : a = b
  · subst h; simp
  · rw [decide_eq_false h]
    exact beq_false_of_ne fun e => h (by omega)
theorem inV_nats (a : Nat) : ∀ l : List Nat, inV (nv a) (l.map nv) = decide (a ∈ l)
  | [] => rfl
  | b :: l => by
    have ih := inV_nats a l
    unfold inV at ih ⊢
    rw [List.map_cons, List.any_cons, ih, eqV_nat]
    by_cases h : b = a
    · subst h; simp
    · simp [h, Ne.symm h]
theorem flat_nats (l : List Nat) : (l.map nv).all flatV = true := by
  induction l with
  | nil => rfl
  | cons a l ih => rw [List.map_cons, List.all_cons, ih]; rfl
theorem flat_ints (l : List Int) : (l.map V.int).all flatV = true := by
  induction l with
  | nil => rfl
  | cons a l ih => rw [List.map_cons, List.all_cons, ih]; rfl
theorem at_nat {l : List Nat} {i x : Nat} (h : l[i]? = some x) : atI (l.map nv) ((i : Nat) : Int) = some (nv x) := atI_nat (by rw [List.getElem?_map, h]; rfl)
theorem at_int {l : List Int} {i : Nat} {x : Int} (h : l[i]? = some x) : atI (l.map V.int) ((i : Nat) : Int) = some (.int x) := atI_nat (by rw [List.getElem?_map, h]; rfl)
/-! ### tuples cut and put together, whatever is new and whatever not -/
section
variable {K : PySem.W.Frag} {CW : Addr} {H : Hp} {a b : Addr} {xs ys : List V} {Q : VK} {lo hi : Option Int}
theorem slA_fr (ha : H a = some (.tup xs)) (k : ∀ p H', Fr CW [] H H' → H' p = some (.tup (cutV xs lo hi)) → Q (.ref p) H') : rSlA K (.ref a) lo hi H Q := by
  refine ⟨a, xs, rfl, SqT.of ha, fun w => k a H Fr.refl ?_, fun _ p hp => k p _ (Fr.refl.new hp) upd_same⟩
  unfold cutV
  rw [w.1, w.2]
  simpa using ha
theorem catA_fr (ha : H a = some (.tup xs)) (hb : H b = some (.tup ys)) (hl : xs.length + ys.length ≤ 1000) (k : ∀ p H', Fr CW [] H H' → H' p = some (.tup (xs ++ ys)) → Q (.ref p) H') : rCatA K (.ref a) (.ref b) H Q := by
  refine ⟨a, b, xs, ys, rfl, rfl, SqT.of ha, SqT.of hb, Nat.le_of_lt (small1000 hl), fun e => ?_, fun _ e => ?_, fun _ _ p hp => k p _ (Fr.refl.new hp) upd_same⟩
  · exact k b H Fr.refl (by rw [e]; exact hb)
  · exact k a H Fr.refl (by rw [e, List.append_nil]; exact ha)
theorem cut_take (xs : List V) (k : Nat) : cutV xs none (some ((k : Nat) : Int)) = xs.take k := by
  unfold cutV
  rw [HT.sIx_none, HT.sIx_nat, List.drop_zero, Nat.sub_zero]
  by_cases h : k ≤ xs.length
  · rw [Nat.min_eq_left h]
  · rw [Nat.min_eq_right (by omega), List.take_length, List.take_of_length_le (by omega)]
theorem cut_drop (xs : List V) (k : Nat) : cutV xs (some ((k : Nat) : Int)) none = xs.drop k := by
  unfold cutV
  rw [HT.sIx_none, HT.sIx_nat]
  by_cases h : k ≤ xs.length
  · rw [Nat.min_eq_left h, List.take_of_length_le (by simp)]
  · rw [Nat.min_eq_right (by omega), List.drop_length, List.drop_eq_nil_of_le (by omega)]
    simp
theorem put_cut {xs : List V} {i : Nat} {v : V} (h : i < xs.length) : (xs.take i ++ [v]) ++ xs.drop (i + 1) = xs.set i v := by
  rw [List.set_eq_take_append_cons_drop, if_pos h, List.append_assoc]
  rfl
end
/-- zip of two tuples -/
theorem walk_zipT {K : PySem.W.Frag} {a b : Addr} {xs ys : List V} {n : Nat} (hn : n = min xs.length ys.length) : Walk (RZ.ItzT K a b) n (fun H => SqT K H a xs ∧ SqT K H b ys) (YPair (fun i => xs[i]?) (fun i => ys[i]?)) := by
  subst hn
  refine ⟨fun i _ hi q => ?_, fun _ q => ⟨xs, ys, q.1, q.2, by omega⟩, fun i H v H' _ q y => ?_⟩
  · have h1 : i < xs.length := by omega
    have h2 : i < ys.length := by omega
    exact ⟨xs, ys, xs[i], ys[i], q.1, q.2, by simp [h1], by simp [h2]⟩
  · obtain ⟨T, x, z, h1, h2, h3, h4, h5⟩ := y
    exact ⟨T, x, z, h1, h2, h3, h4 xs q.1, h5 ys q.2⟩
end Hou
set_option Elab.async false
set_option linter.all false
set_option maxRecDepth 100000
set_option autoImplicit false
namespace Hou
open PySem PySem.Spec PyProof.Rows L2
/-! ### short tactics: a reading's next questions -/
local macro_rules | `(tactic| walk_at "hq") => `(tactic| first
  | assumption | exact SqL.of (by assumption) | exact SqT.of (by assumption) | exact .inl (by assumption) | exact .inr (by assumption) | exact .inl (SqL.of (by assumption)) | exact .inr (SqT.of (by assumption))
  | exact SqL.of upd_same | exact SqT.of upd_same)
local macro_rules | `(tactic| walk_at "at") => `(tactic| first | assumption | exact atI_nat (j := 0) rfl | exact atI_nat (j := 1) rfl)
local macro_rules | `(tactic| walk_at "sd") => `(tactic| first
  | rfl | exact .inl ⟨by decide, by decide⟩ | exact .inr ⟨by decide, by decide⟩ | exact ⟨by decide, by decide, by decide⟩ | (show ((_ : Int) ≠ 0); first | decide | assumption | omega)
  | (show ((_ : Int) ≠ 0 ∧ _); refine ⟨by first | decide | assumption | omega, by first | decide | omega⟩) | (show (_ ≤ sizeLine); first | (simp only [List.length_cons, List.length_nil]; decide) | assumption) | decide | omega)
local macro_rules | `(tactic| walk_at "rd") => `(tactic| first
  | refine ⟨_, rfl, ?_⟩ | refine ⟨_, _, rfl, rfl, ?_⟩ | refine .inl ⟨_, rfl, ?_⟩ | refine .inr ⟨_, rfl, ?_⟩
  | refine ⟨_, _, _, _, rfl, rfl, (by walk_at "hq"), (by walk_at "at"), ?_⟩ | refine ⟨_, _, rfl, (by walk_at "hq"), ?_⟩ | refine ⟨(by walk_at "sd"), ?_⟩)

/-! ### webs -/
/-- the pairs of ts stand as tuples ps -/
def PsAt (H : Hp) (ps : List V) (ts : List (Nat × Nat)) : Prop := ps.length = ts.length ∧ ∀ (i : Nat) (t : Nat × Nat), ts[i]? = some t → ∃ a, ps[i]? = some (.ref a) ∧ H a = some (.tup [.int (t.1 : Nat), .int (t.2 : Nat)])
def TsAt (H : Hp) (a : Addr) (ts : List (Nat × Nat)) : Prop := ∃ ps, H a = some (.tup ps) ∧ PsAt H ps ts
def webF (t : Addr) (n : Nat) : List (Str × V) := [("ties", .ref t), ("houses", .int (n : Nat))]
def WebAt (CW : Addr) (H : Hp) (w : Addr) (n : Nat) (ts : List (Nat × Nat)) : Prop := ∃ dx t ps, H w = some (.ins CW dx (webF t n)) ∧ H t = some (.tup ps) ∧ PsAt H ps ts
structure WebOk (n : Nat) (ts : List (Nat × Nat)) : Prop where
  n1 : 1 ≤ n
  n12 : n ≤ 12
  len : ts.length ≤ 20
  ok : ∀ t ∈ ts, t.1 < n ∧ t.2 < n ∧ t.1 ≠ t.2
section
variable {CW : Addr} {M : List Addr} {H H' : Hp} {a w : Addr} {n : Nat} {ps : List V} {ts : List (Nat × Nat)}
theorem PsAt.fr (h : PsAt H ps ts) (f : Fr CW M H H') : PsAt H' ps ts := ⟨h.1, fun i t e => let ⟨a, e1, e2⟩ := h.2 i t e; ⟨a, e1, f.tup e2⟩⟩
theorem TsAt.fr (h : TsAt H a ts) (f : Fr CW M H H') : TsAt H' a ts := let ⟨ps, e, k⟩ := h; ⟨ps, f.tup e, k.fr f⟩
theorem WebAt.fr (h : WebAt CW H w n ts) (f : Fr CW M H H') : WebAt CW H' w n ts := let ⟨dx, t, ps, e1, e2, e3⟩ := h; ⟨dx, t, ps, f.im _ _ (show CW = CW from rfl) e1, f.tup e2, e3.fr f⟩
theorem webF_ties {t : Addr} : (webF t n).lookup ("ties" : Str) = some (.ref t) := rfl
theorem webF_houses {t : Addr} : (webF t n).lookup ("houses" : Str) = some (.int (n : Nat)) := rfl
theorem PsAt.get (h : PsAt H ps ts) {i : Nat} {v : V} (e : ps[i]? = some v) : ∃ (a : Addr) (t : Nat × Nat), v = .ref a ∧ ts[i]? = some t ∧ H a = some (.tup [.int (t.1 : Nat), .int (t.2 : Nat)]) := by
  have hi := (List.getElem?_eq_some_iff.mp e).1
  rw [h.1] at hi
  obtain ⟨a, e1, e2⟩ := h.2 i ts[i] (by simp [hi])
  rw [e1] at e
  cases e
  exact ⟨a, ts[i], rfl, by simp [hi], e2⟩
end
structure TxW (K : PySem.W.Frag) (mg : Str → Option Value) (CW : Addr) : Prop where
  cl : Cls K CW
  nT : NoAttr K CW "ties"
  nH : NoAttr K CW "houses"
  MOST_HOUSES : ∃ t, mg "MOST_HOUSES" = some (.int 12 t)
  MOST_TIES : ∃ t, mg "MOST_TIES" = some (.int 20 t)
section
variable {P : Program} {w : World} {K : PySem.W.Frag} {mg : Str → Option Value} {base : Heap} {CW : Addr}
theorem allTrue (n : Nat) : (List.replicate n true).all id = true := by
  induction n with
  | zero => rfl
  | succ n ih => rw [List.replicate_succ, List.all_cons, ih]; rfl
abbrev s_is_pair : Stmt := top 15
abbrev N_is_pair : List Str := ["value", "houses", "house"]
theorem sc_is_pair : FnScope N_is_pair ["value", "houses"] (defScope s_is_pair) := ⟨rfl, rfl, rfl, by decide +kernel, rfl, by decide +kernel, by decide +kernel⟩
def spIsPair (CW : Addr) : Sp := fun vs H Q _ => ∃ (a : Addr) (x y n : Nat), vs = [.ref a, .int (n : Nat)] ∧ H a = some (.tup [.int (x : Nat), .int (y : Nat)]) ∧ x < n ∧ y < n ∧ x ≠ y ∧ ∀ H', Fr CW [] H H' → Q (.bl true) H'
theorem ok_is_pair (T : Top K mg "is_pair" s_is_pair ["value", "houses"]) (B : Bl mg) (D_is_sequence : Def P w K mg base 1 "is_sequence" s_is_sequence ["value"] (spIsSequence K))
    (D_is_below : Def P w K mg base 3 "is_below" s_is_below ["value", "most"] spIsBelow) : Def P w K mg base 4 "is_pair" s_is_pair ["value", "houses"] (spIsPair CW) := by
  refine T.ok sc_is_pair (fun vs H Q E h => ?_) (fun f cdv A outer s H vs Q E hr h => ?_)
  · obtain ⟨a, x, y, n, rfl, _⟩ := h
    rfl
  · obtain ⟨a, x, y, n, rfl, ha, hx, hy, hne, k⟩ := h
    refine ⟨_, (pss_cons (ps_if (PW.pt (pw_or (pt_not (pt_val (pe_def D_is_sequence (hr.mono (by decide)) rfl (pa_cons (pv 0) pa_nil)))) (pw_or (pt_cmpR op_ne (pe_callB (id := "len") (call_lenK (K := K) rfl) (by rfl) B.len (by decide +kernel) (pa_cons (pv 0) pa_nil)) pe_int (nomark _)) (pw_or1 (pt_not (pt_val (pe_callB (id := "all") (cr_allK (K := K) rfl rfl) (by rfl) B.all (by decide +kernel) (pa_cons (pe_lc (own := [("house", 2)]) (g := gName 2) (tt := tYes) rfl sc_is_pair.nd (pi_tup (pv 0)) (blkOk_by (N := N_is_pair) (sc := defScope s_is_pair) (by decide +kernel)) (fun _ _ _ _ _ => pg_name (i := 2) sc_is_pair.nd rfl (Or.inl rfl)) (fun _ _ _ _ _ => pts_nil) (fun _ _ _ _ _ => (pe_def D_is_below (hr.mono (by decide)) rfl (pa_cons (pv 2) (pa_cons (pv 1) pa_nil))))) pa_nil)))))))) (pss_one (ps_ret pe_bl)) pss_nil)
       (pss_one (ps_ret (pe_cmpR op_ne (pe_ix (ix_tupK (K := K) rfl) (pv 0) pe_int (fun _ _ => rfl)) (pe_ix (ix_tupK (K := K) rfl) (pv 0) pe_int (fun _ _ => rfl)) (nomark _))))), ?_⟩
    refine ⟨_, rfl, a, rfl, .inr ⟨_, ha⟩, fun H1 s1 => ⟨true, rfl, ?_⟩⟩
    refine iteF ?_
    refine ⟨_, rfl, a, _, rfl, .inr (SqT.of (s1 _ _ ha)), rfl, _, rfl, ?_⟩
    refine iteF ?_
    refine ⟨_, rfl, a, rfl, ⟨_, SqT.of (s1 _ _ ha)⟩, lc_fr (CW := CW) (M := []) (walk_tup (K := K) (a := a) (xs := [V.int (x : Nat), V.int (y : Nat)])) (fun _ => some (V.bl true)) (fun H2 f => SqT.of (f.tup (s1 _ _ ha))) YAt.fr (by simp) (by show 2 ≤ 1000; decide) ?_ ?_⟩
    · rintro i v H2 H3 hi f2 ⟨rfl, hv⟩ N1 N0 n1 n0
      obtain ⟨z, rfl, hz⟩ : ∃ z : Nat, v = .int (z : Nat) ∧ z < n := by
        match i, hv with
        | 0, hv => exact ⟨x, by cases hv; rfl, hx⟩
        | 1, hv => exact ⟨y, by cases hv; rfl, hy⟩
      refine ⟨rfl, ?_⟩
      refine ⟨_, rfl, _, rfl, _, _, rfl, ?_⟩
      rw [decide_eq_true (show (0 : Int) ≤ ((z : Nat) : Int) ∧ ((z : Nat) : Int) < ((n : Nat) : Int) by omega)]
      exact n1 _ _ Fr.refl rfl
    · intro D H2 hD f2 hl
      have f := (Fr.ofSame s1).trans f2
      refine ⟨D, [true, true], rfl, SqL.of hl, true, rfl, ?_⟩
      refine iteF ?_
      have ha2 := SqT.of (K := K) (f.tup ha)
      repeat walk_at "rd"
      show Q (V.bl (!decide (V.int (x : Nat) = V.int (y : Nat)))) H2
      rw [decide_eq_false (fun z => hne (by cases z; rfl))]
      exact k _ f
abbrev s_check_ties : Stmt := top 16
abbrev N_check_ties : List Str := ["houses", "ties", "at", "tie"]
theorem sc_check_ties : FnScope N_check_ties ["houses", "ties"] (defScope s_check_ties) := ⟨rfl, rfl, rfl, by decide +kernel, rfl, by decide +kernel, by decide +kernel⟩
def spCheckTies (CW : Addr) : Sp := fun vs H Q _ => ∃ (n : Nat) (a : Addr) (ts : List (Nat × Nat)), vs = [.int (n : Nat), .ref a] ∧ TsAt H a ts ∧ WebOk n ts ∧ ∀ H' p, Fr CW [] H H' → TsAt H' p ts → Q (.ref p) H'
theorem ok_check_ties (T : Top K mg "check_ties" s_check_ties ["houses", "ties"]) (B : Bl mg) (W : TxW K mg CW) (D_is_within : Def P w K mg base 2 "is_within" s_is_within ["value", "least", "most"] spIsWithin)
    (D_is_sequence : Def P w K mg base 1 "is_sequence" s_is_sequence ["value"] (spIsSequence K)) (D_is_pair : Def P w K mg base 4 "is_pair" s_is_pair ["value", "houses"] (spIsPair CW)) :
    Def P w K mg base 5 "check_ties" s_check_ties ["houses", "ties"] (spCheckTies CW) := by
  refine T.ok sc_check_ties (fun vs H Q E h => ?_) (fun f cdv A outer s H vs Q E hr h => ?_)
  · obtain ⟨n, a, ts, rfl, _⟩ := h
    rfl
  · obtain ⟨n, a, ts, rfl, ⟨ps, ha, hp⟩, ok, k⟩ := h
    obtain ⟨_, G_MOST_HOUSES⟩ := W.MOST_HOUSES
    obtain ⟨_, G_MOST_TIES⟩ := W.MOST_TIES
    have hl : ps.length ≤ 20 := by rw [hp.1]; exact ok.len
    have n1 := ok.n1
    have n12 := ok.n12
    refine ⟨_, (pss_cons (ps_if (PW.pt (pw_or (pt_not (pt_val (pe_def D_is_within (hr.mono (by decide)) rfl (pa_cons (pv 0) (pa_cons pe_int (pa_cons (pe_glob (v := .int 12) rfl G_MOST_HOUSES ⟨_, rfl⟩) pa_nil)))))) (pw_or (pt_not (pt_val (pe_def D_is_sequence (hr.mono (by decide)) rfl (pa_cons (pv 1) pa_nil)))) (pw_or1 (pt_cmpR op_gt (pe_callB (id := "len") (call_lenK (K := K) rfl) (by rfl) B.len (by decide +kernel) (pa_cons (pv 1) pa_nil)) (pe_glob (v := .int 20) rfl G_MOST_TIES ⟨_, rfl⟩) (nomark _)))))) (pss_one ps_never) pss_nil)
       (pss_cons (ps_for PassesOwn.never rfl (pi_enumT rfl B.enumerate (pa_cons (pv 1) pa_nil)) (pg_tup rfl (pgs_cons (pg_name (i := 2) sc_check_ties.nd rfl (Or.inl rfl)) (pgs_cons (pg_name (i := 3) sc_check_ties.nd rfl (Or.inl rfl)) pgs_nil)))
       (pss_one (ps_if (pt_not (pt_val (pe_def D_is_pair (hr.mono (by decide)) rfl (pa_cons (pv 3) (pa_cons (pv 0) pa_nil))))) (pss_one ps_never) pss_nil)))
       (pss_one (ps_ret (pe_callTy (T := "tuple") (call_tupleK (K := K) rfl) (by rfl) B.tuple (by decide +kernel) (pa_cons (pe_lc (own := [("tie", 3)]) (g := gName 3) (tt := tYes) rfl sc_check_ties.nd (pi_tup (pv 1)) (blkOk_by (N := N_check_ties) (sc := defScope s_check_ties) (by decide +kernel)) (fun _ _ _ _ _ => pg_name (i := 3) sc_check_ties.nd rfl (Or.inl rfl)) (fun _ _ _ _ _ => pts_nil) (fun _ _ _ _ _ => (pe_callTy (T := "tuple") (call_tupleK (K := K) rfl) (by rfl) B.tuple (by decide +kernel) (pa_cons (pv 3) pa_nil)))) pa_nil)))))), ?_⟩
    refine ⟨_, rfl, (n : Int), 1, 12, rfl, _, rfl, ?_⟩
    rw [decide_eq_true (show (1 : Int) ≤ ((n : Nat) : Int) ∧ ((n : Nat) : Int) ≤ 12 by omega)]
    refine iteF ?_
    refine ⟨_, rfl, a, rfl, .inr ⟨_, ha⟩, fun H1 s1 => ⟨true, rfl, ?_⟩⟩
    refine iteF ?_
    have f1 : Fr CW [] H H1 := Fr.ofSame s1
    have ha1 := f1.tup ha
    repeat walk_at "rd"
    refine iteD (fun z => absurd z (by omega)) (fun _ => ?_)
    refine ⟨_, rfl, a, ps, rfl, SqT.of ha1, for_it (walk_enumT (K := K) (a := a) (xs := ps)) (fun i σ H2 => (∃ v1 v2, σ = [some (.int (n : Nat)), some (.ref a), v1, v2]) ∧ Fr CW [] H H2) ⟨⟨none, none, rfl⟩, f1⟩ (fun i σ H2 _ h2 => SqT.of (h2.2.tup ha)) ?_ ?_⟩
    · rintro i v σ H2 H3 hi ⟨⟨v1, v2, rfl⟩, f2⟩ ⟨T', x, y, rfl, hT, rfl, e1, e2⟩
      cases e1
      have f3 : Fr CW [] H (upd H2 T' (.tup [.int (i : Nat), y])) := f2.new hT
      obtain ⟨q, t, rfl, et, hq⟩ := hp.get e2
      obtain ⟨o1, o2, o3⟩ := ok.ok t (List.mem_of_getElem? et)
      refine ⟨T', _, rfl, SqT.of upd_same, rfl, _, _, rfl, _, _, rfl, rfl, ?_⟩
      refine ⟨_, rfl, _, rfl, q, t.1, t.2, n, rfl, f3.tup hq, o1, o2, o3, fun H4 f4 => ⟨true, rfl, ?_⟩⟩
      exact iteF ⟨⟨_, _, rfl⟩, f3.trans f4⟩
    · rintro σ H2 ⟨⟨v1, v2, rfl⟩, f2⟩
      refine ⟨_, rfl, a, rfl, ⟨_, SqT.of (f2.tup ha)⟩, lc_fr (CW := CW) (M := []) (walk_tup (K := K) (a := a) (xs := ps)) (fun i => ps[i]?) (fun H3 f => SqT.of (f.tup (f2.tup ha))) YAt.fr (by simp) (by omega) ?_ ?_⟩
      · rintro i v H3 H4 hi f3 ⟨rfl, hv⟩ N1 N0 n1 n0
        obtain ⟨q, t, rfl, et, hq⟩ := hp.get hv
        have hq4 := (f2.trans f3).tup hq
        refine ⟨rfl, ?_⟩
        exact ⟨_, rfl, q, _, rfl, .inr ⟨SqT.of hq4, n1 _ _ Fr.refl hv⟩⟩
      · intro D H3 hD f3 hl3
        refine ⟨D, _, rfl, .inl ⟨SqL.of hl3, fun q hq => k _ q ((f2.trans f3).new hq) ?_⟩⟩
        have e : (List.range ps.length).filterMap (fun i => ps[i]?) = ps := by
          rw [comp_map ps id _ (fun i x h => h), List.map_id]
        rw [e]
        exact ⟨ps, upd_same, hp.fr ((f2.trans f3).new hq)⟩
end
end Hou
set_option Elab.async false
set_option linter.all false
set_option maxRecDepth 100000
set_option autoImplicit false
namespace Hou
open PySem PySem.Spec PyProof.Rows L2
/-! ### short tactics: a reading's next questions -/
local macro_rules | `(tactic| walk_at "hq") => `(tactic| first
  | assumption | exact SqL.of (by assumption) | exact SqT.of (by assumption) | exact .inl (by assumption) | exact .inr (by assumption) | exact .inl (SqL.of (by assumption)) | exact .inr (SqT.of (by assumption))
  | exact SqL.of upd_same | exact SqT.of upd_same)
local macro_rules | `(tactic| walk_at "at") => `(tactic| first | assumption | exact atI_nat (j := 0) rfl | exact atI_nat (j := 1) rfl)
local macro_rules | `(tactic| walk_at "sd") => `(tactic| first
  | rfl | exact .inl ⟨by decide, by decide⟩ | exact .inr ⟨by decide, by decide⟩ | exact ⟨by decide, by decide, by decide⟩ | (show ((_ : Int) ≠ 0); first | decide | assumption | omega)
  | (show ((_ : Int) ≠ 0 ∧ _); refine ⟨by first | decide | assumption | omega, by first | decide | omega⟩) | (show (_ ≤ sizeLine); first | (simp only [List.length_cons, List.length_nil]; decide) | assumption) | decide | omega)
local macro_rules | `(tactic| walk_at "rd") => `(tactic| first
  | refine ⟨_, rfl, ?_⟩ | refine ⟨_, _, rfl, rfl, ?_⟩ | refine .inl ⟨_, rfl, ?_⟩ | refine .inr ⟨_, rfl, ?_⟩
  | refine ⟨_, _, _, _, rfl, rfl, (by walk_at "hq"), (by walk_at "at"), ?_⟩ | refine ⟨_, _, rfl, (by walk_at "hq"), ?_⟩ | refine ⟨(by walk_at "sd"), ?_⟩)

theorem putF_web {t : Addr} {n : Nat} : putF "houses" (.int (n : Nat)) (putF "ties" (.ref t) []) = webF t n := by
  show (if ("ties" : Str) = "houses" then _ else (("ties" : Str), V.ref t) :: putF "houses" (V.int (n : Nat)) []) = _
  rw [if_neg (by decide +kernel)]
  rfl
/-- which ties a house has -/
def tiesAt (ts : List (Nat × Nat)) (h : Nat) : List Nat := (List.range ts.length).filter fun i => match ts[i]? with | some t => t.1 == h || t.2 == h | none => false
section
variable {P : Program} {w : World} {K : PySem.W.Frag} {mg : Str → Option Value} {base : Heap} {CW : Addr}
abbrev s_Web_init : Stmt := inClass (top 17) 0
abbrev N_Web_init : List Str := ["self", "houses", "ties"]
theorem sc_Web_init : FnScope N_Web_init ["self", "houses", "ties"] (defScope s_Web_init) := ⟨rfl, rfl, rfl, by decide +kernel, rfl, by decide +kernel, by decide +kernel⟩
def spWebInit (CW : Addr) : Sp := fun vs H Q _ => ∃ (H0 : Hp) (x dx : Addr) (n : Nat) (a : Addr) (ts : List (Nat × Nat)), vs = [.ref x, .int (n : Nat), .ref a] ∧ Fr CW [] H0 H ∧ H0 x = none ∧ H x = some (.ins CW dx []) ∧ TsAt H a ts ∧ WebOk n ts ∧
  ∀ H', Fr CW [] H0 H' → WebAt CW H' x n ts → Q .non H'
theorem ok_Web_init (T : TopI K mg CW "Web" "Web.__init__" s_Web_init ["self", "houses", "ties"]) (W : TxW K mg CW) (D_check_ties : Def P w K mg base 5 "check_ties" s_check_ties ["houses", "ties"] (spCheckTies CW)) :
    IDef P w K mg base 6 CW "Web" ["self", "houses", "ties"] (spWebInit CW) := by
  refine T.ok sc_Web_init (fun vs H Q E h => ?_) (fun f cdv A outer s H vs Q E hr h => ?_)
  · obtain ⟨H0, x, dx, n, a, ts, rfl, _⟩ := h
    rfl
  · obtain ⟨H0, x, dx, n, a, ts, rfl, f0, hx0, hx, ha, ok, k⟩ := h
    refine ⟨_, (pss_cons (ps_fld (pv 0) (pe_def D_check_ties (hr.mono (by decide)) rfl (pa_cons (pv 1) (pa_cons (pv 2) pa_nil))) rfl)
       (pss_one (ps_fld (pv 0) (pv 1) rfl))), ?_⟩
    refine ⟨_, rfl, _, rfl, n, a, ts, rfl, ha, ok, fun H1 p f1 hp => ?_⟩
    have hx1 := f1.im x (.ins CW dx []) (show CW = CW from rfl) hx
    refine ⟨_, rfl, x, CW, dx, _, rfl, hx1, W.cl, W.nT, (by show 0 < 1000; decide), ?_⟩
    refine ⟨_, rfl, _, rfl, x, CW, dx, _, rfl, upd_same, W.cl, W.nH, (by show 1 < 1000; decide), ?_⟩
    have f2 := (f0.trans f1).loc (o := .ins CW dx (putF "ties" (.ref p) [])) hx0
    have f3 := f2.loc (o := .ins CW dx (putF "houses" (.int (n : Nat)) (putF "ties" (.ref p) []))) hx0
    obtain ⟨ps, e1, e2⟩ := hp
    have g : ∀ (H' : Hp) (o : HO), H' p = some (.tup ps) → PsAt H' ps ts → p ≠ x → (∀ q t, ps[q]? = some (V.ref t) → t ≠ x) → upd H' x o p = some (.tup ps) ∧ PsAt (upd H' x o) ps ts := fun H' o e1 e2 hpx hq =>
      ⟨by rw [upd_ne hpx]; exact e1, e2.1, fun i t ei => let ⟨b, b1, b2⟩ := e2.2 i t ei; ⟨b, b1, by rw [upd_ne (hq _ _ b1)]; exact b2⟩⟩
    have hpx : p ≠ x := ne_of e1 hx1 (by intro z; cases z)
    have hqx : ∀ q t, ps[q]? = some (V.ref t) → t ≠ x := fun q t eq => by
      obtain ⟨b, z, eb, et, hb⟩ := e2.get eq
      cases eb
      exact ne_of hb hx1 (by intro z; cases z)
    obtain ⟨g1, g2⟩ := g _ (.ins CW dx (putF "ties" (.ref p) [])) e1 e2 hpx hqx
    obtain ⟨g3, g4⟩ := g _ (.ins CW dx (putF "houses" (.int (n : Nat)) (putF "ties" (.ref p) []))) g1 g2 hpx hqx
    exact k _ f3 ⟨dx, p, ps, by rw [upd_same, putF_web], g3, g4⟩
abbrev s_need_house : Stmt := top 18
abbrev N_need_house : List Str := ["web", "house"]
theorem sc_need_house : FnScope N_need_house ["web", "house"] (defScope s_need_house) := ⟨rfl, rfl, rfl, by decide +kernel, rfl, by decide +kernel, by decide +kernel⟩
def spNeedHouse (CW : Addr) : Sp := fun vs H Q _ => ∃ (w n h : Nat) (ts : List (Nat × Nat)), vs = [.ref w, .int (h : Nat)] ∧ WebAt CW H w n ts ∧ h < n ∧ Q (.int (h : Nat)) H
theorem ok_need_house (T : Top K mg "need_house" s_need_house ["web", "house"]) (W : TxW K mg CW) (D_is_below : Def P w K mg base 3 "is_below" s_is_below ["value", "most"] spIsBelow) :
    Def P w K mg base 4 "need_house" s_need_house ["web", "house"] (spNeedHouse CW) := by
  refine T.ok sc_need_house (fun vs H Q E h => ?_) (fun f cdv A outer s H vs Q E hr h => ?_)
  · obtain ⟨w, n, h, ts, rfl, _⟩ := h
    rfl
  · obtain ⟨w, n, h, ts, rfl, ⟨dx, t, ps, hw, ht, hp⟩, hh, k⟩ := h
    refine ⟨_, (pss_cons (ps_if (pt_not (pt_val (pe_def D_is_below (hr.mono (by decide)) rfl (pa_cons (pv 1) (pa_cons (pe_fldK (K := K) rfl (pv 0) rfl) pa_nil))))) (pss_one ps_never) pss_nil)
       (pss_one (ps_ret (pv 1)))), ?_⟩
    refine ⟨_, rfl, _, rfl, w, CW, dx, _, _, rfl, hw, W.cl, W.nH, webF_houses, _, _, rfl, _, rfl, ?_⟩
    rw [decide_eq_true (show (0 : Int) ≤ ((h : Nat) : Int) ∧ ((h : Nat) : Int) < ((n : Nat) : Int) by omega)]
    exact iteF ⟨_, rfl, k⟩
abbrev s_need_tie : Stmt := top 19
abbrev N_need_tie : List Str := ["web", "tie"]
theorem sc_need_tie : FnScope N_need_tie ["web", "tie"] (defScope s_need_tie) := ⟨rfl, rfl, rfl, by decide +kernel, rfl, by decide +kernel, by decide +kernel⟩
def spNeedTie (CW : Addr) : Sp := fun vs H Q _ => ∃ (w n t : Nat) (ts : List (Nat × Nat)), vs = [.ref w, .int (t : Nat)] ∧ WebAt CW H w n ts ∧ t < ts.length ∧ Q (.int (t : Nat)) H
theorem ok_need_tie (T : Top K mg "need_tie" s_need_tie ["web", "tie"]) (B : Bl mg) (W : TxW K mg CW) (D_is_below : Def P w K mg base 3 "is_below" s_is_below ["value", "most"] spIsBelow) :
    Def P w K mg base 4 "need_tie" s_need_tie ["web", "tie"] (spNeedTie CW) := by
  refine T.ok sc_need_tie (fun vs H Q E h => ?_) (fun f cdv A outer s H vs Q E hr h => ?_)
  · obtain ⟨w, n, t, ts, rfl, _⟩ := h
    rfl
  · obtain ⟨w, n, t, ts, rfl, ⟨dx, tt, ps, hw, ht, hp⟩, hh, k⟩ := h
    refine ⟨_, (pss_cons (ps_if (pt_not (pt_val (pe_def D_is_below (hr.mono (by decide)) rfl (pa_cons (pv 1) (pa_cons (pe_callB (id := "len") (call_lenK (K := K) rfl) (by rfl) B.len (by decide +kernel) (pa_cons (pe_fldK (K := K) rfl (pv 0) rfl) pa_nil)) pa_nil))))) (pss_one ps_never) pss_nil)
       (pss_one (ps_ret (pv 1)))), ?_⟩
    refine ⟨_, rfl, _, rfl, w, CW, dx, _, _, rfl, hw, W.cl, W.nT, webF_ties, tt, ps, rfl, .inr (SqT.of ht), _, _, rfl, _, rfl, ?_⟩
    rw [hp.1, decide_eq_true (show (0 : Int) ≤ ((t : Nat) : Int) ∧ ((t : Nat) : Int) < ((ts.length : Nat) : Int) by omega)]
    exact iteF ⟨_, rfl, k⟩
abbrev s_other_end : Stmt := top 20
abbrev N_other_end : List Str := ["web", "tie", "house", "here", "there"]
theorem sc_other_end : FnScope N_other_end ["web", "tie", "house"] (defScope s_other_end) := ⟨rfl, rfl, rfl, by decide +kernel, rfl, by decide +kernel, by decide +kernel⟩
def spOtherEnd (CW : Addr) : Sp := fun vs H Q _ => ∃ (w n t h : Nat) (ts : List (Nat × Nat)) (p : Nat × Nat), vs = [.ref w, .int (t : Nat), .int (h : Nat)] ∧ WebAt CW H w n ts ∧ ts[t]? = some p ∧ Q (.int ((if p.1 = h then p.2 else p.1 : Nat) : Nat)) H
theorem ok_other_end (T : Top K mg "other_end" s_other_end ["web", "tie", "house"]) (W : TxW K mg CW) : Def P w K mg base 1 "other_end" s_other_end ["web", "tie", "house"] (spOtherEnd CW) := by
  refine T.ok sc_other_end (fun vs H Q E h => ?_) (fun f cdv A outer s H vs Q E hr h => ?_)
  · obtain ⟨w, n, t, h, ts, p, rfl, _⟩ := h
    rfl
  · obtain ⟨w, n, t, h, ts, p, rfl, ⟨dx, tt, ps, hw, ht, hp⟩, hh, k⟩ := h
    obtain ⟨q, e1, e2⟩ := hp.2 t p hh
    refine ⟨_, (pss_cons (ps_asg (pe_ix (ix_tupK (K := K) rfl) (pe_fldK (K := K) rfl (pv 0) rfl) (pv 1) (fun _ _ => rfl)) (pg_tup rfl (pgs_cons (pg_name (i := 3) sc_other_end.nd rfl (Or.inl rfl)) (pgs_cons (pg_name (i := 4) sc_other_end.nd rfl (Or.inl rfl)) pgs_nil))))
       (pss_one (ps_ret (pe_ifExp (pt_cmpR op_eq (pv 3) (pv 2) (nomark _)) (pv 4) (pv 3))))), ?_⟩
    refine ⟨_, rfl, w, CW, dx, _, _, rfl, hw, W.cl, W.nT, webF_ties, _, rfl, tt, ps, _, _, rfl, rfl, SqT.of ht, atI_nat e1, ?_⟩
    refine ⟨q, _, rfl, SqT.of e2, rfl, _, _, rfl, _, _, rfl, rfl, ?_⟩
    refine ⟨_, rfl, _, rfl, rfl, _, rfl, ?_⟩
    refine iteD (fun z => ?_) (fun z => ?_)
    · have e : p.1 = h := by
        cases z
        rfl
      rw [if_pos e] at k
      exact ⟨_, rfl, k⟩
    · have e : ¬ p.1 = h := fun e => z (by rw [e])
      rw [if_neg e] at k
      exact ⟨_, rfl, k⟩
abbrev s_ties_at : Stmt := top 21
abbrev N_ties_at : List Str := ["web", "house", "tie", "pair"]
theorem sc_ties_at : FnScope N_ties_at ["web", "house"] (defScope s_ties_at) := ⟨rfl, rfl, rfl, by decide +kernel, rfl, by decide +kernel, by decide +kernel⟩
def spTiesAt (CW : Addr) : Sp := fun vs H Q _ => ∃ (w n h : Nat) (ts : List (Nat × Nat)), vs = [.ref w, .int (h : Nat)] ∧ WebAt CW H w n ts ∧ ts.length ≤ 100 ∧ ∀ H' p, Fr CW [] H H' → H p = none → H' p = some (.lst ((tiesAt ts h).map fun i : Nat => V.int (i : Nat))) → Q (.ref p) H'
theorem ok_ties_at (T : Top K mg "ties_at" s_ties_at ["web", "house"]) (B : Bl mg) (W : TxW K mg CW) : Def P w K mg base 1 "ties_at" s_ties_at ["web", "house"] (spTiesAt CW) := by
  refine T.ok sc_ties_at (fun vs H Q E h => ?_) (fun f cdv A outer s H vs Q E hr h => ?_)
  · obtain ⟨w, n, h, ts, rfl, _⟩ := h
    rfl
  · obtain ⟨w, n, h, ts, rfl, ⟨dx, tt, ps, hw, ht, hp⟩, hl, k⟩ := h
    refine ⟨_, (pss_one (ps_ret (pe_lc (own := [("tie", 2), ("pair", 3)]) (g := gTup K 2 (gCons (gName 2) (gCons (gName 3) gNil))) rfl sc_ties_at.nd (pi_enumT rfl B.enumerate (pa_cons (pe_fldK (K := K) rfl (pv 0) rfl) pa_nil)) (blkOk_by (N := N_ties_at) (sc := defScope s_ties_at) (by decide +kernel)) (fun _ _ _ _ _ => pg_tup rfl (pgs_cons (pg_name (i := 2) sc_ties_at.nd rfl (Or.inl rfl)) (pgs_cons (pg_name (i := 3) sc_ties_at.nd rfl (Or.inl rfl)) pgs_nil))) (fun _ _ _ _ _ => (pts_one (pt_cmpR (op_in_seqK (K := K) rfl) (pv 1) (pv 3) (by rfl)))) (fun _ _ _ _ _ => (pv 2))))), ?_⟩
    refine ⟨_, rfl, w, CW, dx, _, _, rfl, hw, W.cl, W.nT, webF_ties, tt, ps, rfl, SqT.of ht, lc_fr (CW := CW) (M := []) (walk_enumT (K := K) (a := tt) (xs := ps))
      (fun i => match ts[i]? with | some t => if t.1 = h ∨ t.2 = h then some (V.int (i : Nat)) else none | none => none) (fun H3 f => SqT.of (f.tup ht)) YPair.fr (by simp) (by rw [hp.1]; omega) ?_ ?_⟩
    · rintro i v H2 H3 hi f2 ⟨T', x, y, rfl, hT, rfl, e1, e2⟩ N1 N0 n1 n0
      cases e1
      obtain ⟨q, t, rfl, et, hq⟩ := hp.get e2
      have f3 : Fr CW [] H (upd H2 T' (.tup [.int (i : Nat), .ref q])) := f2.new hT
      refine ⟨T', _, rfl, SqT.of upd_same, rfl, _, _, rfl, _, _, rfl, rfl, ?_⟩
      refine ⟨rfl, ?_⟩
      refine ⟨_, rfl, _, rfl, q, _, rfl, .inr (SqT.of (f3.tup hq)), rfl, rfl, _, rfl, ?_⟩
      have ein : inV (V.int (h : Nat)) [V.int (t.1 : Nat), V.int (t.2 : Nat)] = decide (t.1 = h ∨ t.2 = h) := by
        have q := inV_nats h [t.1, t.2]
        refine Eq.trans q ?_
        simp [eq_comm]
      show if inV _ _ = true then _ else _
      rw [ein]
      refine iteD (fun z => ?_) (fun z => ?_)
      · exact ⟨_, rfl, n1 _ _ Fr.refl (by simp only [et]; rw [if_pos z])⟩
      · exact n0 _ Fr.refl (by simp only [et]; rw [if_neg z])
    · intro D H2 hD f2 hl2
      refine k H2 D f2 hD ?_
      rw [hl2, hp.1]
      congr 2
      unfold tiesAt
      rw [← fm_some (fun i : Nat => V.int (i : Nat)), List.filterMap_filter]
      refine fm_congr fun i hi => ?_
      have hi' := List.mem_range.mp hi
      have e1 : ts[i]? = some ts[i] := by simp [hi']
      simp only [e1, Bool.or_eq_true, beq_iff_eq]
end
end Hou
set_option autoImplicit false
/-! the mathematics: parts of a web -/
namespace Hou
def Closed (ts : List (Nat × Nat)) (S : Nat → Prop) : Prop := ∀ t ∈ ts, S t.1 ↔ S t.2
/-- c: the houses that ties join with h, ascending -/
structure IsComp (ts : List (Nat × Nat)) (h : Nat) (c : List Nat) : Prop where
  asc : c.Pairwise (· < ·)
  mem : h ∈ c
  cl : Closed ts (· ∈ c)
  least : ∀ S : Nat → Prop, S h → Closed ts S → ∀ x ∈ c, S x
theorem asc_ext : ∀ {l l' : List Nat}, l.Pairwise (· < ·) → l'.Pairwise (· < ·) → (∀ x, x ∈ l ↔ x ∈ l') → l = l'
  | [], [], _, _, _ => rfl
  | [], b :: l', _, _, h => absurd ((h b).mpr List.mem_cons_self) (by simp)
  | a :: l, [], _, _, h => absurd ((h a).mp List.mem_cons_self) (by simp)
  | a :: l, b :: l', p, p', h => by
    obtain ⟨pa, pl⟩ := List.pairwise_cons.mp p
    obtain ⟨pb, pl'⟩ := List.pairwise_cons.mp p'
    have e : a = b := by
      have h1 := (h a).mp List.mem_cons_self
      have h2 := (h b).mpr List.mem_cons_self
      rcases List.mem_cons.mp h1 with e | h1
      · exact e
      · rcases List.mem_cons.mp h2 with e | h2
        · exact e.symm
        · have := pa b h2
          have := pb a h1
          omega
    subst e
    congr 1
    refine asc_ext pl pl' fun x => ⟨fun hx => ?_, fun hx => ?_⟩
    · rcases List.mem_cons.mp ((h x).mp (List.mem_cons_of_mem _ hx)) with e | q
      · subst e
        exact absurd (pa x hx) (Nat.lt_irrefl _)
      · exact q
    · rcases List.mem_cons.mp ((h x).mpr (List.mem_cons_of_mem _ hx)) with e | q
      · subst e
        exact absurd (pb x hx) (Nat.lt_irrefl _)
      · exact q
theorem IsComp.unique {ts : List (Nat × Nat)} {h : Nat} {c c' : List Nat} (a : IsComp ts h c) (b : IsComp ts h c') : c = c' :=
  asc_ext a.asc b.asc fun x => ⟨fun hx => a.least (· ∈ c') b.mem b.cl x hx, fun hx => b.least (· ∈ c) a.mem a.cl x hx⟩
/-- a list without doubles below n has at most n items -/
theorem nodup_len : ∀ (n : Nat) (l : List Nat), l.Nodup → (∀ x ∈ l, x < n) → l.length ≤ n
  | 0, l, _, h => by
    cases l with
    | nil => exact Nat.le_refl _
    | cons a l => exact absurd (h a List.mem_cons_self) (Nat.not_lt_zero _)
  | n + 1, l, d, h => by
    have h1 := nodup_len n (l.erase n) (d.erase n) fun x hx => by
      have h2 := h x (List.mem_of_mem_erase hx)
      have h3 : x ≠ n := fun e => by
        subst e
        exact (List.Nodup.not_mem_erase d) hx
      omega
    by_cases hn : n ∈ l
    · rw [List.length_erase_of_mem hn] at h1
      omega
    · rw [List.erase_of_not_mem hn] at h1
      omega
/-- the search: F is found, W waits, Ex is looked at just now -/
structure Srch (n : Nat) (ts : List (Nat × Nat)) (h : Nat) (F W : List Nat) (Ex : Nat → Prop) : Prop where
  nd : F.Nodup
  lt : ∀ x ∈ F, x < n
  mem : h ∈ F
  sub : ∀ x ∈ W, x ∈ F
  least : ∀ S : Nat → Prop, S h → Closed ts S → ∀ x ∈ F, S x
  done : ∀ x ∈ F, x ∉ W → ¬ Ex x → ∀ t ∈ ts, (t.1 = x → t.2 ∈ F) ∧ (t.2 = x → t.1 ∈ F)
theorem Srch.start {n : Nat} {ts : List (Nat × Nat)} {h : Nat} (hh : h < n) : Srch n ts h [h] [h] (fun _ => False) :=
  ⟨by simp, fun x hx => by rw [List.mem_singleton.mp hx]; exact hh, by simp, fun x hx => hx, fun S s _ x hx => by rw [List.mem_singleton.mp hx]; exact s, fun x hx hw => absurd hx hw⟩
theorem Srch.len {n : Nat} {ts : List (Nat × Nat)} {h : Nat} {F W : List Nat} {Ex : Nat → Prop} (s : Srch n ts h F W Ex) : F.length ≤ n := nodup_len n F s.nd s.lt
/-- one is taken up -/
theorem Srch.take {n : Nat} {ts : List (Nat × Nat)} {h x : Nat} {F W W' : List Nat} (s : Srch n ts h F W fun _ => False) (hx : x ∈ W) (hs : ∀ y, y ∈ W' → y ∈ W) (ho : ∀ y ∈ W, y = x ∨ y ∈ W') : Srch n ts h F W' (fun y => y = x) :=
  ⟨s.nd, s.lt, s.mem, fun y hy => s.sub y (hs y hy), s.least, fun y hy hw he => s.done y hy (fun q => (ho y q).elim he hw) id⟩
/-- a new one is found at a tie -/
theorem Srch.add {n : Nat} {ts : List (Nat × Nat)} {h x y : Nat} {F W : List Nat} {t : Nat × Nat} {Ex : Nat → Prop} (s : Srch n ts h F W Ex) (hx : x ∈ F) (ht : t ∈ ts) (he : (t.1 = x ∧ t.2 = y) ∨ (t.2 = x ∧ t.1 = y)) (hy : y < n) (hn : y ∉ F) : Srch n ts h (F ++ [y]) (W ++ [y]) Ex :=
  ⟨List.nodup_append.mpr ⟨s.nd, by simp, fun a ha b hb => by rw [List.mem_singleton.mp hb]; exact fun e => hn (e ▸ ha)⟩,
   fun z hz => (List.mem_append.mp hz).elim (s.lt z) fun q => by rw [List.mem_singleton.mp q]; exact hy, List.mem_append_left _ s.mem,
   fun z hz => (List.mem_append.mp hz).elim (fun q => List.mem_append_left _ (s.sub z q)) (fun q => List.mem_append_right _ q),
   fun S sh sc z hz => (List.mem_append.mp hz).elim (s.least S sh sc z) fun q => by
     rw [List.mem_singleton.mp q]
     have sx := s.least S sh sc x hx
     have k := sc t ht
     rcases he with ⟨e1, e2⟩ | ⟨e1, e2⟩
     · rw [e1, e2] at k
       exact k.mp sx
     · rw [e1, e2] at k
       exact k.mpr sx,
   fun z hz hw hex t' ht' => by
     rcases List.mem_append.mp hz with q | q
     · have k := s.done z q (fun h2 => hw (List.mem_append_left _ h2)) hex t' ht'
       exact ⟨fun e => List.mem_append_left _ (k.1 e), fun e => List.mem_append_left _ (k.2 e)⟩
     · exact absurd (List.mem_append_right _ q) hw⟩
/-- all ties of the one that was taken up are looked at -/
theorem Srch.close {n : Nat} {ts : List (Nat × Nat)} {h x : Nat} {F W : List Nat} (s : Srch n ts h F W fun y => y = x) (hall : ∀ t ∈ ts, (t.1 = x → t.2 ∈ F) ∧ (t.2 = x → t.1 ∈ F)) : Srch n ts h F W fun _ => False :=
  ⟨s.nd, s.lt, s.mem, s.sub, s.least, fun y hy hw _ t ht => by
    by_cases e : y = x
    · subst e
      exact hall t ht
    · exact s.done y hy hw e t ht⟩
theorem Srch.end {n : Nat} {ts : List (Nat × Nat)} {h : Nat} {F c : List Nat} (s : Srch n ts h F [] fun _ => False) (hm : ∀ x, x ∈ c ↔ x ∈ F) (ha : c.Pairwise (· < ·)) : IsComp ts h c :=
  ⟨ha, (hm h).mpr s.mem, fun t ht => ⟨fun h1 => (hm _).mpr ((s.done t.1 ((hm _).mp h1) (by simp) id t ht).1 rfl), fun h2 => (hm _).mpr ((s.done t.2 ((hm _).mp h2) (by simp) id t ht).2 rfl)⟩,
   fun S sh sc x hx => s.least S sh sc x ((hm x).mp hx)⟩
/-- sorted, without doubles -/
theorem strict_of {l : List Int} (h : l.Pairwise (· ≤ ·)) (d : l.Nodup) : l.Pairwise (· < ·) := by
  induction l with
  | nil => exact List.Pairwise.nil
  | cons a l ih =>
    obtain ⟨h1, h2⟩ := List.pairwise_cons.mp h
    obtain ⟨d1, d2⟩ := List.nodup_cons.mp d
    exact List.pairwise_cons.mpr ⟨fun b hb => by
      have := h1 b hb
      have : a ≠ b := fun e => d1 (e ▸ hb)
      omega, ih h2 d2⟩
theorem nat_of_perm {l : List Nat} {ns : List Int} (p : ns.Perm (l.map fun i : Nat => (i : Int))) : ∃ c : List Nat, ns = c.map (fun i : Nat => (i : Int)) ∧ c.Perm l := by
  refine ⟨ns.map Int.toNat, ?_, ?_⟩
  · rw [List.map_map]
    have : ∀ x ∈ ns, x = ((fun i : Nat => (i : Int)) ∘ Int.toNat) x := fun x hx => by
      obtain ⟨i, _, e⟩ := List.mem_map.mp (p.mem_iff.mp hx)
      subst e
      simp
    exact (List.map_id _).symm.trans (List.map_congr_left fun x hx => this x hx)
  · have q := p.map Int.toNat
    rw [List.map_map] at q
    have e : (Int.toNat ∘ fun i : Nat => (i : Int)) = id := by
      funext i
      simp
    rwa [e, List.map_id] at q
/-- what sorted gives of found houses -/
theorem sorted_found {F : List Nat} {ns : List Int} (d : F.Nodup) (p : ns.Perm (F.map fun i : Nat => (i : Int))) (h : ns.Pairwise (· ≤ ·)) : ∃ c : List Nat, ns = c.map (fun i : Nat => (i : Int)) ∧ (∀ x, x ∈ c ↔ x ∈ F) ∧ c.Pairwise (· < ·) := by
  obtain ⟨c, e, q⟩ := nat_of_perm p
  refine ⟨c, e, fun x => q.mem_iff, ?_⟩
  have dc : c.Nodup := (q.nodup_iff).mpr d
  have dn : ns.Nodup := by
    rw [e]
    exact List.Pairwise.map _ (fun a b hab => fun e => hab (by omega)) dc
  have s := strict_of h dn
  rw [e] at s
  have s2 := List.pairwise_map.mp s
  exact s2.imp fun h => by omega
end Hou
set_option Elab.async false
set_option linter.all false
set_option maxRecDepth 100000
set_option autoImplicit false
namespace Hou
open PySem PySem.Spec PyProof.Rows L2
/-! ### short tactics: a reading's next questions -/
local macro_rules | `(tactic| walk_at "hq") => `(tactic| first
  | assumption | exact SqL.of (by assumption) | exact SqT.of (by assumption) | exact .inl (by assumption) | exact .inr (by assumption) | exact .inl (SqL.of (by assumption)) | exact .inr (SqT.of (by assumption))
  | exact SqL.of upd_same | exact SqT.of upd_same)
local macro_rules | `(tactic| walk_at "at") => `(tactic| first | assumption | exact atI_nat (j := 0) rfl | exact atI_nat (j := 1) rfl)
local macro_rules | `(tactic| walk_at "sd") => `(tactic| first
  | rfl | exact .inl ⟨by decide, by decide⟩ | exact .inr ⟨by decide, by decide⟩ | exact ⟨by decide, by decide, by decide⟩ | (show ((_ : Int) ≠ 0); first | decide | assumption | omega)
  | (show ((_ : Int) ≠ 0 ∧ _); refine ⟨by first | decide | assumption | omega, by first | decide | omega⟩) | (show (_ ≤ sizeLine); first | (simp only [List.length_cons, List.length_nil]; decide) | assumption) | decide | omega)
local macro_rules | `(tactic| walk_at "rd") => `(tactic| first
  | refine ⟨_, rfl, ?_⟩ | refine ⟨_, _, rfl, rfl, ?_⟩ | refine .inl ⟨_, rfl, ?_⟩ | refine .inr ⟨_, rfl, ?_⟩
  | refine ⟨_, _, _, _, rfl, rfl, (by walk_at "hq"), (by walk_at "at"), ?_⟩ | refine ⟨_, _, rfl, (by walk_at "hq"), ?_⟩ | refine ⟨(by walk_at "sd"), ?_⟩)

/-! ### dicts of houses -/
def keyN (x : Nat) : Key := Sum.inl (x : Int)
def dctN (F : List Nat) : List (Key × V) := F.map fun x => (keyN x, V.bl true)
theorem keyN_inj {x y : Nat} : keyN x = keyN y ↔ x = y := by
  unfold keyN
  constructor
  · intro h
    have := Sum.inl.inj h
    omega
  · intro h
    rw [h]
theorem valV_dct (x : Nat) : ∀ F : List Nat, valV (dctN F) (keyN x) = if x ∈ F then some (V.bl true) else none
  | [] => rfl
  | y :: F => by
    have ih := valV_dct x F
    unfold dctN at ih ⊢
    rw [List.map_cons]
    by_cases e : y = x
    · rw [valV_pos (show ((keyN y, V.bl true) : Key × V).1 = keyN x from keyN_inj.mpr e), if_pos (by rw [e]; exact List.mem_cons_self)]
    · rw [valV_neg (show ¬ ((keyN y, V.bl true) : Key × V).1 = keyN x from fun q => e (keyN_inj.mp q)), ih]
      by_cases h : x ∈ F
      · rw [if_pos h, if_pos (List.mem_cons_of_mem _ h)]
      · rw [if_neg h, if_neg (fun q => (List.mem_cons.mp q).elim (fun z => e z.symm) h)]
theorem put_dct {x : Nat} {F : List Nat} (h : x ∉ F) : putK (dctN F) (keyN x) (V.bl true) = dctN (F ++ [x]) := by
  rw [putK_new _ (by rw [valV_dct, if_neg h])]
  unfold dctN
  rw [List.map_append]
  rfl
theorem dct_len (F : List Nat) : (dctN F).length = F.length := List.length_map _
theorem tiesAt_mem {ts : List (Nat × Nat)} {h i : Nat} : i ∈ tiesAt ts h ↔ ∃ t, ts[i]? = some t ∧ (t.1 = h ∨ t.2 = h) := by
  unfold tiesAt
  rw [List.mem_filter, List.mem_range]
  constructor
  · rintro ⟨hi, h2⟩
    have e : ts[i]? = some ts[i] := by simp [hi]
    rw [e] at h2
    exact ⟨_, e, by simpa using h2⟩
  · rintro ⟨t, e, h2⟩
    refine ⟨(List.getElem?_eq_some_iff.mp e).1, ?_⟩
    rw [e]
    simpa using h2
theorem tiesAt_len (ts : List (Nat × Nat)) (h : Nat) : (tiesAt ts h).length ≤ ts.length := by
  have := List.length_filter_le (fun i => match ts[i]? with | some t => t.1 == h || t.2 == h | none => false) (List.range ts.length)
  rw [List.length_range] at this
  exact this
section
variable {P : Program} {w : World} {K : PySem.W.Frag} {mg : Str → Option Value} {base : Heap} {CW : Addr}
abbrev s_joined_houses : Stmt := top 22
abbrev N_joined_houses : List Str := ["web", "house", "found", "waiting", "here", "tie", "there"]
theorem sc_joined_houses : FnScope N_joined_houses ["web", "house"] (defScope s_joined_houses) := ⟨rfl, rfl, rfl, by decide +kernel, rfl, by decide +kernel, by decide +kernel⟩
def spJoined (CW : Addr) : Sp := fun vs H Q _ => ∃ (w n h : Nat) (ts : List (Nat × Nat)), vs = [.ref w, .int (h : Nat)] ∧ WebAt CW H w n ts ∧ WebOk n ts ∧ h < n ∧
  ∀ H' p c, Fr CW [] H H' → IsComp ts h c → (∀ x ∈ c, x < n) → H' p = some (.tup (c.map nv)) → Q (.ref p) H'
theorem ok_joined_houses (T : Top K mg "joined_houses" s_joined_houses ["web", "house"]) (B : Bl mg) (D_ties_at : Def P w K mg base 1 "ties_at" s_ties_at ["web", "house"] (spTiesAt CW))
    (D_other_end : Def P w K mg base 1 "other_end" s_other_end ["web", "tie", "house"] (spOtherEnd CW)) : Def P w K mg base 2 "joined_houses" s_joined_houses ["web", "house"] (spJoined CW) := by
  refine T.ok sc_joined_houses (fun vs H Q E h => ?_) (fun f cdv A outer s H vs Q E hr h => ?_)
  · obtain ⟨w, n, h, ts, rfl, _⟩ := h
    rfl
  · obtain ⟨w, n, h, ts, rfl, hw, ok, hh, k⟩ := h
    have l20 := ok.len
    have n12 := ok.n12
    refine ⟨_, (pss_cons (ps_set (i := 2) sc_joined_houses.nd rfl (Or.inl rfl) (pe_disp (pps_cons (pv 1) pe_bl pps_nil) (by rfl) (by rfl) (fun z => by cases z) (by decide)))
       (pss_cons (ps_set (i := 3) sc_joined_houses.nd rfl (Or.inl rfl) (pe_lst (pa_cons (pv 1) pa_nil)))
       (pss_cons (ps_while PassesOwn.never (pt_cmpR op_gt (pe_callB (id := "len") (call_lenK (K := K) rfl) (by rfl) B.len (by decide +kernel) (pa_cons (pv 3) pa_nil)) pe_int (nomark _))
       (pss_cons (ps_set (i := 4) sc_joined_houses.nd rfl (Or.inl rfl) (pe_bm0 PySem.F.plainAttrs_list PySem.F.slot_list_pop PySem.F.type_list_pop mt_pop (pv 3)))
       (pss_one (ps_for PassesOwn.never rfl (pi_list (pe_def D_ties_at (hr.mono (by decide)) rfl (pa_cons (pv 0) (pa_cons (pv 4) pa_nil)))) (pg_name (i := 5) sc_joined_houses.nd rfl (Or.inl rfl))
       (pss_cons (ps_set (i := 6) sc_joined_houses.nd rfl (Or.inl rfl) (pe_def D_other_end (hr.mono (by decide)) rfl (pa_cons (pv 0) (pa_cons (pv 5) (pa_cons (pv 4) pa_nil)))))
       (pss_one (ps_if (pt_cmp (pc_dnotin (hu_of hr) (pv 6) (pv 2))) (pss_cons (ps_dput (hu_of hr) (pv 2) (pv 6) pe_bl rfl)
       (pss_one (ps_expr (pe_bm PySem.F.plainAttrs_list PySem.F.slot_list_append PySem.F.type_list_append mt_append (pv 3) (pa_cons (pv 6) pa_nil))))) pss_nil)))))))
       (pss_one (ps_ret (pe_callTy (T := "tuple") (call_tupleK (K := K) rfl) (by rfl) B.tuple (by decide +kernel) (pa_cons (pe_callB (id := "sorted") (cr_sortedK (K := K) rfl) (by rfl) B.sorted (by decide +kernel) (pa_cons (pe_callTy (T := "list") (call_list_dK rfl) (by rfl) B.list (by decide +kernel) (pa_cons (pv 2) pa_nil)) pa_nil)) pa_nil))))))), ?_⟩
    intro d hd
    refine ⟨_, rfl, upd_same, [(keyN h, V.bl true)], rfl, (by show 1 ≤ 15; decide), ?_⟩
    have f1 : Fr CW [] H (upd H d (.dK [])) := Fr.refl.new hd
    have f2 : Fr CW [] H (upd (upd H d (.dK [])) d (.dK (mergeK [] [(keyN h, V.bl true)]))) := f1.loc hd
    refine ⟨_, rfl, by show 1 ≤ sizeLine; decide, fun q hq => ?_⟩
    have hq0 := f2.al _ hq
    have f3 := f2.new (o := .lst [V.int (h : Nat)]) hq
    have ndq : d ≠ q := fun z => by
      rw [z, upd_same] at hq
      cases hq
    refine while_by (fun σ H2 => ∃ (F W : List Nat) (v1 v2 v3 : Option V), σ = [some (.ref w), some (.int (h : Nat)), some (.ref d), some (.ref q), v1, v2, v3] ∧ Fr CW [] H H2 ∧ H2 d = some (.dK (dctN F)) ∧ H2 q = some (.lst (W.map nv)) ∧
        Srch n ts h F W (fun _ => False) ∧ W.length ≤ F.length)
      (fun σ H2 => match H2 q, H2 d with | some (.lst l), some (.dK kv) => l.length + 2 * (n - kv.length) | _, _ => 0) ?_ ?_ ?_
    · exact ⟨[h], [h], none, none, none, rfl, f3, by rw [upd_ne ndq, upd_same]; rfl, upd_same, Srch.start hh, Nat.le_refl _⟩
    · rintro σ H2 ⟨F, W, v1, v2, v3, rfl, f4, hD, hW, sr, hle⟩
      have hlen := sr.len
      refine ⟨_, rfl, q, _, rfl, .inl (SqL.of hW), _, _, rfl, rfl, _, rfl, ?_⟩
      refine iteD (fun hpos => ?_) (fun hno => ?_)
      · have hWne : W ≠ [] := fun e => by
          subst e
          exact absurd hpos (by simp)
        obtain ⟨W', x, rfl⟩ : ∃ W' x, W = W' ++ [x] := ⟨W.dropLast, W.getLast hWne, (List.dropLast_concat_getLast hWne).symm⟩
        have hxF : x ∈ F := sr.sub x (by simp)
        have hxn : x < n := sr.lt x hxF
        have eW : (W' ++ [x]).map nv = W'.map nv ++ [nv x] := by simp
        rw [eW] at hW
        refine ⟨_, rfl, .inl ⟨rfl, _, SqL.of hW⟩, q, _, nv x, rfl, rfl, hW, by simp, ?_⟩
        rw [List.dropLast_concat]
        have f5 : Fr CW [] H (upd H2 q (.lst (W'.map nv))) := f4.loc hq0
        have hD5 : upd H2 q (.lst (W'.map nv)) d = some (.dK (dctN F)) := by rw [upd_ne ndq]; exact hD
        refine ⟨_, rfl, _, rfl, w, n, x, ts, rfl, hw.fr f5, by omega, fun H6 p f6 hp0 hp => ?_⟩
        have f7 := f5.trans f6
        have hpq : p ≠ q := fun z => by rw [z, upd_same] at hp0; cases hp0
        have hpd : p ≠ d := fun z => by rw [z, hD5] at hp0; cases hp0
        have hp00 : H p = none := f5.al _ hp0
        have sr' := sr.take (x := x) (W' := W') (by simp) (fun y hy => by simp [hy]) (fun y hy => by
          rcases List.mem_append.mp hy with z | z
          · exact .inr z
          · exact .inl (List.mem_singleton.mp z))
        refine ⟨p, rfl, ⟨_, SqL.of hp⟩, for_list (K := K) (a := p) (xs := (tiesAt ts x).map fun i : Nat => V.int (i : Nat)) (fun i σ H8 => ∃ (F8 W8 : List Nat) (v2 v3 : Option V), σ = [some (.ref w), some (.int (h : Nat)), some (.ref d), some (.ref q), some (nv x), v2, v3] ∧ Fr CW [] H H8 ∧ H8 p = some (.lst ((tiesAt ts x).map fun i : Nat => V.int (i : Nat))) ∧
            H8 d = some (.dK (dctN F8)) ∧ H8 q = some (.lst (W8.map nv)) ∧ Srch n ts h F8 W8 (fun y => y = x) ∧ W8.length ≤ F8.length ∧ W8.length + 2 * (n - F8.length) ≤ W'.length + 2 * (n - F.length) ∧ x ∈ F8 ∧
            ∀ j t, j < i → (tiesAt ts x)[j]? = some t → ∀ pr, ts[t]? = some pr → (pr.1 = x → pr.2 ∈ F8) ∧ (pr.2 = x → pr.1 ∈ F8))
          ⟨F, W', v2, v3, rfl, f7, hp, f6.ot _ _ (by simp) hD5, f6.ot _ _ (by simp) upd_same, sr', by simp at hle; omega, Nat.le_refl _, hxF, fun j t hj => absurd hj (Nat.not_lt_zero _)⟩ (fun i σ H8 _ h8 => ?_) ?_ ?_⟩
        · obtain ⟨_, _, _, _, _, _, h8, _⟩ := h8
          exact SqL.of h8
        · rintro i v σ H8 hi ⟨F8, W8, v2, v3, rfl, f8, hp8, hd8, hq8, s8, hle8, hm8, hx8, hall⟩
          obtain ⟨t, et, rfl⟩ : ∃ t, (tiesAt ts x)[i]? = some t ∧ v = V.int (t : Nat) := by
            rw [List.getElem?_map] at hi
            obtain ⟨t, e1, e2⟩ := Option.map_eq_some_iff.mp hi
            exact ⟨t, e1, e2.symm⟩
          obtain ⟨pr, ep, hpr⟩ := tiesAt_mem.mp (List.mem_of_getElem? et)
          have htm := List.mem_of_getElem? ep
          obtain ⟨o1, o2, o3⟩ := ok.ok pr htm
          refine ⟨_, rfl, _, rfl, _, rfl, w, n, t, x, ts, pr, rfl, hw.fr f8, ep, ?_⟩
          have hlen8 := s8.len
          generalize hy : (if pr.1 = x then pr.2 else pr.1) = y
          have hyn : y < n := by rw [← hy]; split <;> assumption
          have hyy : (pr.1 = x ∧ pr.2 = y) ∨ (pr.2 = x ∧ pr.1 = y) := by
            by_cases e : pr.1 = x
            · rw [if_pos e] at hy
              exact .inl ⟨e, hy⟩
            · rw [if_neg e] at hy
              exact .inr ⟨hpr.resolve_left e, hy⟩
          have both : y ∈ F8 → (pr.1 = x → pr.2 ∈ F8) ∧ (pr.2 = x → pr.1 ∈ F8) := fun hyF => by
            rcases hyy with ⟨e1, e2⟩ | ⟨e1, e2⟩
            · exact ⟨fun _ => e2 ▸ hyF, fun e => absurd (e1.trans e.symm) o3⟩
            · exact ⟨fun e => absurd (e.trans e1.symm) o3, fun _ => e2 ▸ hyF⟩
          refine ⟨_, rfl, _, rfl, d, _, rfl, DGet.k (k := keyN y) hd8, _, rfl, ?_⟩
          rw [valV_dct]
          by_cases hyF : y ∈ F8
          · rw [if_pos hyF]
            refine iteF ?_
            refine ⟨F8, W8, _, _, rfl, f8, hp8, hd8, hq8, s8, hle8, hm8, hx8, fun j t' hj ej pr' ep' => ?_⟩
            by_cases e : j < i
            · exact hall j t' e ej pr' ep'
            · obtain rfl : j = i := by omega
              rw [et] at ej
              cases ej
              rw [ep] at ep'
              cases ep'
              exact both hyF
          · rw [if_neg hyF]
            refine iteT ?_
            refine ⟨_, rfl, _, rfl, d, _, rfl, DPut.k (k := keyN y) hd8 (by rw [dct_len]; exact small1000 (by omega)), ?_⟩
            rw [put_dct hyF]
            have f9 : Fr CW [] H (upd H8 d (.dK (dctN (F8 ++ [y])))) := f8.loc hd
            have hq9 : upd H8 d (.dK (dctN (F8 ++ [y]))) q = some (.lst (W8.map nv)) := by rw [upd_ne ndq.symm]; exact hq8
            have hl8 : (F8 ++ [y]).length ≤ n := (s8.add hx8 htm hyy hyn hyF).len
            refine ⟨_, rfl, .inl ⟨rfl, _, SqL.of hq9⟩, _, rfl, q, _, _, rfl, rfl, hq9, by rw [List.length_map]; exact small1000 (by omega), ?_⟩
            have e10 : W8.map nv ++ [nv y] = (W8 ++ [y]).map nv := by simp
            show ∃ F8 W8, _
            refine ⟨F8 ++ [y], W8 ++ [y], _, _, rfl, f9.loc hq0, by rw [upd_ne hpq, upd_ne hpd]; exact hp8, by rw [upd_ne ndq, upd_same], by rw [upd_same]; exact congrArg _ (congrArg _ e10), s8.add hx8 htm hyy hyn hyF, by simp; omega, ?_, List.mem_append_left _ hx8, fun j t' hj ej pr' ep' => ?_⟩
            · simp only [List.length_append, List.length_singleton] at hl8 ⊢
              omega
            · by_cases e : j < i
              · have k1 := hall j t' e ej pr' ep'
                exact ⟨fun z => List.mem_append_left _ (k1.1 z), fun z => List.mem_append_left _ (k1.2 z)⟩
              · obtain rfl : j = i := by omega
                rw [et] at ej
                cases ej
                rw [ep] at ep'
                cases ep'
                rcases hyy with ⟨e1, e2⟩ | ⟨e1, e2⟩
                · exact ⟨fun _ => by rw [e2]; simp, fun e => absurd (e1.trans e.symm) o3⟩
                · exact ⟨fun e => absurd (e.trans e1.symm) o3, fun _ => by rw [e2]; simp⟩
        · rintro σ H8 ⟨F8, W8, v2, v3, rfl, f8, hp8, hd8, hq8, s8, hle8, hm8, hx8, hall⟩
          refine ⟨⟨F8, W8, _, _, _, rfl, f8, hd8, hq8, s8.close fun t ht => ?_, hle8⟩, ?_⟩
          · obtain ⟨i, hi⟩ := List.getElem?_of_mem ht
            have two : (t.1 = x ∨ t.2 = x) → (t.1 = x → t.2 ∈ F8) ∧ (t.2 = x → t.1 ∈ F8) := fun hx2 => by
              obtain ⟨j, hj⟩ := List.getElem?_of_mem (tiesAt_mem.mpr ⟨t, hi, hx2⟩)
              refine hall j i ?_ hj t hi
              rw [List.length_map]
              exact (List.getElem?_eq_some_iff.mp hj).1
            exact ⟨fun e => (two (.inl e)).1 e, fun e => (two (.inr e)).2 e⟩
          · simp only [hq8, hd8, hW, hD, List.length_map, dct_len, List.length_append, List.length_singleton]
            omega
      · have hWe : W = [] := by
          cases W with
          | nil => rfl
          | cons a l => exact absurd (show (0 : Int) < (((a :: l).map nv).length : Nat) by simp) hno
        subst hWe
        refine ⟨_, rfl, d, _, rfl, hD, fun l hl => ?_⟩
        have f5 := f4.new (o := .lst ((dctN F).map fun kv => kV kv.1)) hl
        have ek : (dctN F).map (fun kv => kV kv.1) = (F.map fun i : Nat => (i : Int)).map V.int := by
          unfold dctN
          rw [List.map_map, List.map_map]
          rfl
        rw [ek] at f5 ⊢
        refine ⟨l, _, rfl, SqL.of upd_same, by rw [List.length_map]; omega, fun ns p pm srt hp => ?_⟩
        obtain ⟨c, ec, hc, asc⟩ := sorted_found sr.nd pm srt
        refine ⟨p, _, rfl, .inl ⟨SqL.of upd_same, fun r hr2 => ?_⟩⟩
        refine k _ r c ((f5.new hp).new hr2) (sr.end hc asc) (fun x hx => sr.lt x ((hc x).mp hx)) ?_
        rw [upd_same, ec, List.map_map]
        exact rfl
    · intro σ H Q Q' hq h
      obtain ⟨v, e1, p, ys, e2, e3, i, j, e4, e5, kk, e6, q⟩ := h
      exact ⟨v, e1, p, ys, e2, e3, i, j, e4, e5, kk, e6, hq _ _ q⟩
end
end Hou
set_option Elab.async false
set_option linter.all false
set_option maxRecDepth 100000
set_option autoImplicit false
namespace Hou
open PySem PySem.Spec PyProof.Rows L2
/-! ### short tactics: a reading's next questions -/
local macro_rules | `(tactic| walk_at "hq") => `(tactic| first
  | assumption | exact SqL.of (by assumption) | exact SqT.of (by assumption) | exact .inl (by assumption) | exact .inr (by assumption) | exact .inl (SqL.of (by assumption)) | exact .inr (SqT.of (by assumption))
  | exact SqL.of upd_same | exact SqT.of upd_same)
local macro_rules | `(tactic| walk_at "at") => `(tactic| first | assumption | exact atI_nat (j := 0) rfl | exact atI_nat (j := 1) rfl)
local macro_rules | `(tactic| walk_at "sd") => `(tactic| first
  | rfl | exact .inl ⟨by decide, by decide⟩ | exact .inr ⟨by decide, by decide⟩ | exact ⟨by decide, by decide, by decide⟩ | (show ((_ : Int) ≠ 0); first | decide | assumption | omega)
  | (show ((_ : Int) ≠ 0 ∧ _); refine ⟨by first | decide | assumption | omega, by first | decide | omega⟩) | (show (_ ≤ sizeLine); first | (simp only [List.length_cons, List.length_nil]; decide) | assumption) | decide | omega)
local macro_rules | `(tactic| walk_at "rd") => `(tactic| first
  | refine ⟨_, rfl, ?_⟩ | refine ⟨_, _, rfl, rfl, ?_⟩ | refine .inl ⟨_, rfl, ?_⟩ | refine .inr ⟨_, rfl, ?_⟩
  | refine ⟨_, _, _, _, rfl, rfl, (by walk_at "hq"), (by walk_at "at"), ?_⟩ | refine ⟨_, _, rfl, (by walk_at "hq"), ?_⟩ | refine ⟨(by walk_at "sd"), ?_⟩)

/-! ### counters: numbers whole or by a modulus -/
def wrapI (x : Int) (m : Nat) : Int := if 0 < m then x % (m : Int) else x
structure TxC (K : PySem.W.Frag) (mg : Str → Option Value) (CC : Addr) : Prop where
  cl : Cls K CC
  nW : NoAttr K CC "web"
  nM : NoAttr K CC "modulus"
  nS : NoAttr K CC "states"
  nA : NoAttr K CC "archives"
  MOST_WRAP : ∃ t, mg "MOST_WRAP" = some (.int 1000000 t)
  MOST_NUMBER : ∃ t, mg "MOST_NUMBER" = some (.int 1000000000000000000 t)
/-- what a counter may show -/
def Cnt (m : Nat) (x : Int) : Prop := if 0 < m then 0 ≤ x ∧ x < m else -1000000000000000000 ≤ x ∧ x ≤ 1000000000000000000
def ModOk (m : Nat) : Prop := m ≠ 1 ∧ m ≤ 1000000
section
variable {P : Program} {w : World} {K : PySem.W.Frag} {mg : Str → Option Value} {base : Heap} {CW CC : Addr}
abbrev s_part_of : Stmt := top 23
abbrev N_part_of : List Str := ["web", "house"]
theorem sc_part_of : FnScope N_part_of ["web", "house"] (defScope s_part_of) := ⟨rfl, rfl, rfl, by decide +kernel, rfl, by decide +kernel, by decide +kernel⟩
theorem ok_part_of (T : Top K mg "part_of" s_part_of ["web", "house"]) (D_joined_houses : Def P w K mg base 2 "joined_houses" s_joined_houses ["web", "house"] (spJoined CW))
    (D_need_house : Def P w K mg base 4 "need_house" s_need_house ["web", "house"] (spNeedHouse CW)) : Def P w K mg base 5 "part_of" s_part_of ["web", "house"] (spJoined CW) := by
  refine T.ok sc_part_of (fun vs H Q E h => ?_) (fun f cdv A outer s H vs Q E hr h => ?_)
  · obtain ⟨w, n, h, ts, rfl, _⟩ := h
    rfl
  · obtain ⟨w, n, h, ts, rfl, hw, ok, hh, k⟩ := h
    refine ⟨_, (pss_one (ps_ret (pe_def D_joined_houses (hr.mono (by decide)) rfl (pa_cons (pv 0) (pa_cons (pe_def D_need_house (hr.mono (by decide)) rfl (pa_cons (pv 0) (pa_cons (pv 1) pa_nil))) pa_nil))))), ?_⟩
    exact ⟨_, rfl, _, rfl, _, rfl, w, n, h, ts, rfl, hw, hh, w, n, h, ts, rfl, hw, ok, hh, k⟩
abbrev s_check_modulus : Stmt := top 30
abbrev N_check_modulus : List Str := ["value"]
theorem sc_check_modulus : FnScope N_check_modulus ["value"] (defScope s_check_modulus) := ⟨rfl, rfl, rfl, by decide +kernel, rfl, by decide +kernel, by decide +kernel⟩
def spCheckMod : Sp := fun vs H Q _ => ∃ m : Nat, vs = [.int (m : Nat)] ∧ ModOk m ∧ Q (.int (m : Nat)) H
theorem ok_check_modulus (T : Top K mg "check_modulus" s_check_modulus ["value"]) (C : TxC K mg CC) (D_is_integer : Def P w K mg base 1 "is_integer" s_is_integer ["value"] spIsInteger) :
    Def P w K mg base 2 "check_modulus" s_check_modulus ["value"] spCheckMod := by
  refine T.ok sc_check_modulus (fun vs H Q E h => ?_) (fun f cdv A outer s H vs Q E hr h => ?_)
  · obtain ⟨m, rfl, _⟩ := h
    rfl
  · obtain ⟨m, rfl, ⟨h1, h2⟩, k⟩ := h
    obtain ⟨_, G_MOST_WRAP⟩ := C.MOST_WRAP
    refine ⟨_, (pss_cons (ps_if (PW.pt (pw_or (pt_not (pt_val (pe_def D_is_integer (hr.mono (by decide)) rfl (pa_cons (pv 0) pa_nil)))) (pw_or1 (PW.pt (pw_and (pt_cmpR op_ne (pv 0) pe_int (nomark _)) (pw_and1 (pt_not (pt_chain op_le op_le pe_int (pv 0) (pe_glob (v := .int 1000000) rfl G_MOST_WRAP ⟨_, rfl⟩))))))))) (pss_one ps_never) pss_nil)
       (pss_one (ps_ret (pv 0)))), ?_⟩
    refine ⟨_, rfl, (m : Int), rfl, true, rfl, ?_⟩
    refine iteF ?_
    refine ⟨_, rfl, rfl, _, rfl, ?_⟩
    refine iteDN (fun h0 => ?_) (fun h0 => ?_)
    · have h0' : m ≠ 0 := fun z => h0 (by rw [z]; rfl)
      refine ⟨_, rfl, _, _, rfl, rfl, _, rfl, ?_⟩
      rw [decide_eq_true (show (2 : Int) ≤ ((m : Nat) : Int) by omega)]
      refine iteT ⟨_, _, rfl, rfl, _, rfl, ?_⟩
      rw [decide_eq_true (show ((m : Nat) : Int) ≤ 1000000 by omega)]
      exact iteF ⟨_, rfl, k⟩
    · exact ⟨_, rfl, k⟩
abbrev s_is_counter : Stmt := top 31
abbrev N_is_counter : List Str := ["value", "modulus"]
theorem sc_is_counter : FnScope N_is_counter ["value", "modulus"] (defScope s_is_counter) := ⟨rfl, rfl, rfl, by decide +kernel, rfl, by decide +kernel, by decide +kernel⟩
def spIsCounter : Sp := fun vs H Q _ => ∃ (x : Int) (m : Nat), vs = [.int x, .int (m : Nat)] ∧ Cnt m x ∧ Q (.bl true) H
theorem ok_is_counter (T : Top K mg "is_counter" s_is_counter ["value", "modulus"]) (C : TxC K mg CC) (D_is_within : Def P w K mg base 2 "is_within" s_is_within ["value", "least", "most"] spIsWithin) :
    Def P w K mg base 3 "is_counter" s_is_counter ["value", "modulus"] spIsCounter := by
  refine T.ok sc_is_counter (fun vs H Q E h => ?_) (fun f cdv A outer s H vs Q E hr h => ?_)
  · obtain ⟨x, m, rfl, _⟩ := h
    rfl
  · obtain ⟨x, m, rfl, hc, k⟩ := h
    obtain ⟨_, G_MOST_NUMBER⟩ := C.MOST_NUMBER
    refine ⟨_, (pss_one (ps_ret (pe_ifExp (pt_cmpR op_gt (pv 1) pe_int (nomark _)) (pe_def D_is_within (hr.mono (by decide)) rfl (pa_cons (pv 0) (pa_cons pe_int (pa_cons (pe_op op_sub (pv 1) pe_int) pa_nil)))) (pe_def D_is_within (hr.mono (by decide)) rfl (pa_cons (pv 0) (pa_cons (pe_un un_neg (pe_glob (v := .int 1000000000000000000) rfl G_MOST_NUMBER ⟨_, rfl⟩)) (pa_cons (pe_glob (v := .int 1000000000000000000) rfl G_MOST_NUMBER ⟨_, rfl⟩) pa_nil))))))), ?_⟩
    repeat walk_at "rd"
    unfold Cnt at hc
    refine iteD (fun h0 => ?_) (fun h0 => ?_)
    · rw [if_pos (by omega)] at hc
      refine ⟨_, rfl, _, rfl, _, _, rfl, rfl, x, 0, (m : Int) - 1, rfl, ?_⟩
      rw [decide_eq_true (by omega)]
      exact k
    · rw [if_neg (by omega)] at hc
      refine ⟨_, rfl, _, rfl, x, -1000000000000000000, 1000000000000000000, rfl, ?_⟩
      rw [decide_eq_true (by omega)]
      exact k
abbrev s_check_numbers : Stmt := top 32
abbrev N_check_numbers : List Str := ["value", "many", "modulus", "number"]
theorem sc_check_numbers : FnScope N_check_numbers ["value", "many", "modulus"] (defScope s_check_numbers) := ⟨rfl, rfl, rfl, by decide +kernel, rfl, by decide +kernel, by decide +kernel⟩
def spCheckNumbers (CW : Addr) : Sp := fun vs H Q _ => ∃ (a : Addr) (xs : List Int) (m : Nat), vs = [.ref a, .int (xs.length : Nat), .int (m : Nat)] ∧ H a = some (.lst (xs.map V.int)) ∧ xs.length ≤ 100 ∧ (∀ x ∈ xs, Cnt m x) ∧ ∀ H' p, Fr CW [] H H' → H' p = some (.tup (xs.map V.int)) → Q (.ref p) H'
theorem ok_check_numbers (T : Top K mg "check_numbers" s_check_numbers ["value", "many", "modulus"]) (B : Bl mg) (D_is_sequence : Def P w K mg base 1 "is_sequence" s_is_sequence ["value"] (spIsSequence K))
    (D_is_counter : Def P w K mg base 3 "is_counter" s_is_counter ["value", "modulus"] spIsCounter) : Def P w K mg base 4 "check_numbers" s_check_numbers ["value", "many", "modulus"] (spCheckNumbers CW) := by
  refine T.ok sc_check_numbers (fun vs H Q E h => ?_) (fun f cdv A outer s H vs Q E hr h => ?_)
  · obtain ⟨a, xs, m, rfl, _⟩ := h
    rfl
  · obtain ⟨a, xs, m, rfl, ha, hl, hc, k⟩ := h
    refine ⟨_, (pss_cons (ps_if (PW.pt (pw_or (pt_not (pt_val (pe_def D_is_sequence (hr.mono (by decide)) rfl (pa_cons (pv 0) pa_nil)))) (pw_or (pt_cmpR op_ne (pe_callB (id := "len") (call_lenK (K := K) rfl) (by rfl) B.len (by decide +kernel) (pa_cons (pv 0) pa_nil)) (pv 1) (nomark _)) (pw_or1 (pt_not (pt_val (pe_callB (id := "all") (cr_allK (K := K) rfl rfl) (by rfl) B.all (by decide +kernel) (pa_cons (pe_lc (own := [("number", 3)]) (g := gName 3) (tt := tYes) rfl sc_check_numbers.nd (pi_list (pv 0)) (blkOk_by (N := N_check_numbers) (sc := defScope s_check_numbers) (by decide +kernel)) (fun _ _ _ _ _ => pg_name (i := 3) sc_check_numbers.nd rfl (Or.inl rfl)) (fun _ _ _ _ _ => pts_nil) (fun _ _ _ _ _ => (pe_def D_is_counter (hr.mono (by decide)) rfl (pa_cons (pv 3) (pa_cons (pv 2) pa_nil))))) pa_nil)))))))) (pss_one ps_never) pss_nil)
       (pss_one (ps_ret (pe_callTy (T := "tuple") (call_tupleK (K := K) rfl) (by rfl) B.tuple (by decide +kernel) (pa_cons (pv 0) pa_nil))))), ?_⟩
    refine ⟨_, rfl, a, rfl, .inl ⟨_, ha⟩, fun H1 s1 => ⟨true, rfl, ?_⟩⟩
    refine iteF ?_
    have f1 : Fr CW [] H H1 := Fr.ofSame s1
    have ha1 := s1 _ _ ha
    refine ⟨_, rfl, a, _, rfl, .inl (SqL.of ha1), _, rfl, rfl, _, rfl, ?_⟩
    rw [List.length_map]
    rw [show (decide (V.int (xs.length : Nat) = V.int (xs.length : Nat))) = true from decide_eq_true rfl]
    refine iteF ?_
    refine ⟨_, rfl, a, rfl, ⟨_, SqL.of ha1⟩, lc_fr (CW := CW) (M := []) (walk_list (K := K) (a := a) (xs := xs.map V.int)) (fun _ => some (V.bl true)) (fun H2 f => SqL.of (f.ot _ _ (by simp) ha1)) YAt.fr (by simp) (by rw [List.length_map]; omega) ?_ ?_⟩
    · rintro i v H2 H3 hi f2 ⟨rfl, hv⟩ N1 N0 n1 n0
      rw [List.getElem?_map] at hv
      obtain ⟨x, ex, rfl⟩ := Option.map_eq_some_iff.mp hv
      refine ⟨rfl, ?_⟩
      exact ⟨_, rfl, _, rfl, x, m, rfl, hc x (List.mem_of_getElem? ex), n1 _ _ Fr.refl rfl⟩
    · intro D H2 hD f2 hl2
      have e : (List.range (xs.map V.int).length).filterMap (fun _ => some (V.bl true)) = (List.replicate xs.length true).map V.bl := by
        rw [fm_some, List.length_map, List.map_replicate, List.map_const', List.length_range]
      rw [e] at hl2
      refine ⟨D, _, rfl, SqL.of hl2, true, by rw [allTrue], ?_⟩
      refine iteF ?_
      exact ⟨_, rfl, a, _, rfl, .inl ⟨SqL.of (f2.ot _ _ (by simp) ha1), fun p hp => k _ p ((f1.trans f2).new hp) upd_same⟩⟩
abbrev s_counted_as : Stmt := top 33
abbrev N_counted_as : List Str := ["number", "modulus"]
theorem sc_counted_as : FnScope N_counted_as ["number", "modulus"] (defScope s_counted_as) := ⟨rfl, rfl, rfl, by decide +kernel, rfl, by decide +kernel, by decide +kernel⟩
def spCountedAs : Sp := fun vs H Q _ => ∃ (x : Int) (m : Nat), vs = [.int x, .int (m : Nat)] ∧ Q (.int (wrapI x m)) H
theorem ok_counted_as (T : Top K mg "counted_as" s_counted_as ["number", "modulus"]) : Def P w K mg base 1 "counted_as" s_counted_as ["number", "modulus"] spCountedAs := by
  refine T.ok sc_counted_as (fun vs H Q E h => ?_) (fun f cdv A outer s H vs Q E hr h => ?_)
  · obtain ⟨x, m, rfl, _⟩ := h
    rfl
  · obtain ⟨x, m, rfl, k⟩ := h
    unfold wrapI at k
    refine ⟨_, (pss_one (ps_ret (pe_ifExp (pt_cmpR op_gt (pv 1) pe_int (nomark _)) (pe_op op_modN (pv 0) (pv 1)) (pv 0)))), ?_⟩
    refine ⟨_, rfl, _, _, rfl, rfl, _, rfl, ?_⟩
    refine iteD (fun h0 => ?_) (fun h0 => ?_)
    · rw [if_pos (by omega)] at k
      refine ⟨_, rfl, _, rfl, _, _, rfl, rfl, (show ((m : Nat) : Int) ≠ 0 by omega), ?_⟩
      show Q (V.int (x.fmod (m : Int))) H
      rw [Int.fmod_eq_emod_of_nonneg _ (by omega)]
      exact k
    · rw [if_neg (by omega)] at k
      exact ⟨_, rfl, k⟩
abbrev s_law_wrapped : Stmt := top 48
abbrev N_law_wrapped : List Str := ["_law_number_here", "_law_modulus"]
theorem sc_law_wrapped : FnScope N_law_wrapped ["_law_number_here", "_law_modulus"] (defScope s_law_wrapped) := ⟨rfl, rfl, rfl, by decide +kernel, rfl, by decide +kernel, by decide +kernel⟩
theorem ok_wrapped (T : Top K mg "_law_wrapped" s_law_wrapped ["_law_number_here", "_law_modulus"]) (B : Bl mg) : Def P w K mg base 1 "_law_wrapped" s_law_wrapped ["_law_number_here", "_law_modulus"] spCountedAs := by
  refine T.ok sc_law_wrapped (fun vs H Q E h => ?_) (fun f cdv A outer s H vs Q E hr h => ?_)
  · obtain ⟨x, m, rfl, _⟩ := h
    rfl
  · obtain ⟨x, m, rfl, k⟩ := h
    unfold wrapI at k
    refine ⟨_, (pss_one (ps_ret (pe_ifExp (pt_cmpR op_gt (pv 1) pe_int (nomark _)) (pe_op op_modN (pe_callTy (T := "int") call_int1 (by rfl) B.int (by decide +kernel) (pa_cons (pv 0) pa_nil)) (pv 1)) (pv 0)))), ?_⟩
    refine ⟨_, rfl, _, _, rfl, rfl, _, rfl, ?_⟩
    refine iteD (fun h0 => ?_) (fun h0 => ?_)
    · rw [if_pos (by omega)] at k
      refine ⟨_, rfl, .inl ⟨_, rfl, _, rfl, _, _, rfl, rfl, (show ((m : Nat) : Int) ≠ 0 by omega), ?_⟩⟩
      show Q (V.int (x.fmod (m : Int))) H
      rw [Int.fmod_eq_emod_of_nonneg _ (by omega)]
      exact k
    · rw [if_neg (by omega)] at k
      exact ⟨_, rfl, k⟩
end
end Hou
set_option Elab.async false
set_option linter.all false
set_option maxRecDepth 100000
set_option autoImplicit false
namespace Hou
open PySem PySem.Spec PyProof.Rows L2
/-! ### short tactics: a reading's next questions -/
local macro_rules | `(tactic| walk_at "hq") => `(tactic| first
  | assumption | exact SqL.of (by assumption) | exact SqT.of (by assumption) | exact .inl (by assumption) | exact .inr (by assumption) | exact .inl (SqL.of (by assumption)) | exact .inr (SqT.of (by assumption))
  | exact SqL.of upd_same | exact SqT.of upd_same)
local macro_rules | `(tactic| walk_at "at") => `(tactic| first | assumption | exact atI_nat (j := 0) rfl | exact atI_nat (j := 1) rfl)
local macro_rules | `(tactic| walk_at "sd") => `(tactic| first
  | rfl | exact .inl ⟨by decide, by decide⟩ | exact .inr ⟨by decide, by decide⟩ | exact ⟨by decide, by decide, by decide⟩ | (show ((_ : Int) ≠ 0); first | decide | assumption | omega)
  | (show ((_ : Int) ≠ 0 ∧ _); refine ⟨by first | decide | assumption | omega, by first | decide | omega⟩) | (show (_ ≤ sizeLine); first | (simp only [List.length_cons, List.length_nil]; decide) | assumption) | decide | omega)
local macro_rules | `(tactic| walk_at "rd") => `(tactic| first
  | refine ⟨_, rfl, ?_⟩ | refine ⟨_, _, rfl, rfl, ?_⟩ | refine .inl ⟨_, rfl, ?_⟩ | refine .inr ⟨_, rfl, ?_⟩
  | refine ⟨_, _, _, _, rfl, rfl, (by walk_at "hq"), (by walk_at "at"), ?_⟩ | refine ⟨_, _, rfl, (by walk_at "hq"), ?_⟩ | refine ⟨(by walk_at "sd"), ?_⟩)

/-- the houses of c less the ties of them -/
def tieSum (ts : List (Nat × Nat)) (as : List Int) (c : List Nat) : Int := ((List.range ts.length).filterMap fun i => match ts[i]? with | some t => if t.1 ∈ c then some (as.getD i 0) else none | none => none).sum
def bookI (ts : List (Nat × Nat)) (xs as : List Int) (c : List Nat) : Int := (c.map fun h => xs.getD h 0).sum - tieSum ts as c
def netF (w : Addr) (m : Nat) (s a : Addr) : List (Str × V) := [("web", .ref w), ("modulus", .int (m : Nat)), ("states", .ref s), ("archives", .ref a)]
/-- a net stands at c: its web, modulus, states, archives -/
def NetAt (CW CC : Addr) (H : Hp) (c w : Addr) (n : Nat) (ts : List (Nat × Nat)) (m : Nat) (xs as : List Int) : Prop :=
  ∃ dx s a, H c = some (.ins CC dx (netF w m s a)) ∧ WebAt CW H w n ts ∧ H s = some (.tup (xs.map V.int)) ∧ H a = some (.tup (as.map V.int))
theorem NetAt.fr {CW CC : Addr} {M : List Addr} {H H' : Hp} {c w : Addr} {n : Nat} {ts : List (Nat × Nat)} {m : Nat} {xs as : List Int} (h : NetAt CW CC H c w n ts m xs as) (f : Fr CW M H H') (hc : c ∉ M) : NetAt CW CC H' c w n ts m xs as :=
  let ⟨dx, s, a, e1, e2, e3, e4⟩ := h; ⟨dx, s, a, f.ot _ _ hc e1, e2.fr f, f.tup e3, f.tup e4⟩
theorem putF_net {w s a : Addr} {m : Nat} : putF "archives" (.ref a) (putF "states" (.ref s) (putF "modulus" (.int (m : Nat)) (putF "web" (.ref w) []))) = netF w m s a := by
  have h1 : ¬ (("web" : Str) = "modulus") := by decide +kernel
  have h2 : ¬ (("web" : Str) = "states") := by decide +kernel
  have h3 : ¬ (("modulus" : Str) = "states") := by decide +kernel
  have h4 : ¬ (("web" : Str) = "archives") := by decide +kernel
  have h5 : ¬ (("modulus" : Str) = "archives") := by decide +kernel
  have h6 : ¬ (("states" : Str) = "archives") := by decide +kernel
  simp only [putF, if_neg h1, if_neg h2, if_neg h3, if_neg h4, if_neg h5, if_neg h6]
  rfl
theorem putF_st {w s s' a : Addr} {m : Nat} : putF "states" (.ref s') (netF w m s a) = netF w m s' a := by
  have h2 : ¬ (("web" : Str) = "states") := by decide +kernel
  have h3 : ¬ (("modulus" : Str) = "states") := by decide +kernel
  unfold netF
  simp only [putF, if_neg h2, if_neg h3, if_true]
theorem putF_ar {w s a' a : Addr} {m : Nat} : putF "archives" (.ref a') (netF w m s a) = netF w m s a' := by
  have h4 : ¬ (("web" : Str) = "archives") := by decide +kernel
  have h5 : ¬ (("modulus" : Str) = "archives") := by decide +kernel
  have h6 : ¬ (("states" : Str) = "archives") := by decide +kernel
  unfold netF
  simp only [putF, if_neg h4, if_neg h5, if_neg h6, if_true]
section
variable {P : Program} {w : World} {K : PySem.W.Frag} {mg : Str → Option Value} {base : Heap} {CW CC : Addr}
theorem netF_web {w s a : Addr} {m : Nat} : (netF w m s a).lookup ("web" : Str) = some (.ref w) := rfl
theorem netF_mod {w s a : Addr} {m : Nat} : (netF w m s a).lookup ("modulus" : Str) = some (.int (m : Nat)) := rfl
theorem netF_st {w s a : Addr} {m : Nat} : (netF w m s a).lookup ("states" : Str) = some (.ref s) := rfl
theorem netF_ar {w s a : Addr} {m : Nat} : (netF w m s a).lookup ("archives" : Str) = some (.ref a) := rfl
abbrev s_book_of : Stmt := top 34
abbrev N_book_of : List Str := ["web", "modulus", "states", "archives", "part", "houses", "ties", "house", "archive", "first", "other"]
theorem sc_book_of : FnScope N_book_of ["web", "modulus", "states", "archives", "part"] (defScope s_book_of) := ⟨rfl, rfl, rfl, by decide +kernel, rfl, by decide +kernel, by decide +kernel⟩
def spBookOf (CW : Addr) : Sp := fun vs H Q _ => ∃ (w m s a p : Addr) (n : Nat) (ts : List (Nat × Nat)) (xs as : List Int) (c : List Nat), vs = [.ref w, .int (m : Nat), .ref s, .ref a, .ref p] ∧ WebAt CW H w n ts ∧ WebOk n ts ∧ H s = some (.tup (xs.map V.int)) ∧ H a = some (.tup (as.map V.int)) ∧
  H p = some (.tup (c.map nv)) ∧ xs.length = n ∧ as.length = ts.length ∧ c.length ≤ 100 ∧ (∀ x ∈ c, x < n) ∧ ∀ H', Fr CW [] H H' → Q (.int (wrapI (bookI ts xs as c) m)) H'
theorem ok_book_of (T : Top K mg "book_of" s_book_of ["web", "modulus", "states", "archives", "part"]) (B : Bl mg) (W : TxW K mg CW) (D_counted_as : Def P w K mg base 1 "counted_as" s_counted_as ["number", "modulus"] spCountedAs) :
    Def P w K mg base 2 "book_of" s_book_of ["web", "modulus", "states", "archives", "part"] (spBookOf CW) := by
  refine T.ok sc_book_of (fun vs H Q E h => ?_) (fun f cdv A outer s H vs Q E hr h => ?_)
  · obtain ⟨w, m, s, a, p, n, ts, xs, as, c, rfl, _⟩ := h
    rfl
  · obtain ⟨w, m, s, a, p, n, ts, xs, as, c, rfl, hw, ok, hs, ha, hp, lx, la, lc, hc, k⟩ := h
    have l20 := ok.len
    refine ⟨_, (pss_cons (ps_set (i := 5) sc_book_of.nd rfl (Or.inl rfl) (pe_callB (id := "sum") (cr_sumK (K := K) rfl rfl) (by rfl) B.sum (by decide +kernel) (pa_cons (pe_lc (own := [("house", 7)]) (g := gName 7) (tt := tYes) rfl sc_book_of.nd (pi_tup (pv 4)) (blkOk_by (N := N_book_of) (sc := defScope s_book_of) (by decide +kernel)) (fun _ _ _ _ _ => pg_name (i := 7) sc_book_of.nd rfl (Or.inl rfl)) (fun _ _ _ _ _ => pts_nil) (fun _ _ _ _ _ => (pe_ix (ix_tupK (K := K) rfl) (pv 2) (pv 7) (fun _ _ => rfl)))) pa_nil)))
       (pss_cons (ps_set (i := 6) sc_book_of.nd rfl (Or.inl rfl) (pe_callB (id := "sum") (cr_sumK (K := K) rfl rfl) (by rfl) B.sum (by decide +kernel) (pa_cons (pe_lc (own := [("first", 9), ("other", 10), ("archive", 8)]) (g := gTup K 2 (gCons (gTup K 2 (gCons (gName 9) (gCons (gName 10) gNil))) (gCons (gName 8) gNil))) rfl sc_book_of.nd (RZ.pi_zipA rfl B.zip (pa_cons (pe_fldK (K := K) rfl (pv 0) rfl) (pa_cons (pv 3) pa_nil))) (blkOk_by (N := N_book_of) (sc := defScope s_book_of) (by decide +kernel)) (fun _ _ _ _ _ => pg_tup rfl (pgs_cons (pg_tup rfl (pgs_cons (pg_name (i := 9) sc_book_of.nd rfl (Or.inl rfl)) (pgs_cons (pg_name (i := 10) sc_book_of.nd rfl (Or.inl rfl)) pgs_nil))) (pgs_cons (pg_name (i := 8) sc_book_of.nd rfl (Or.inl rfl)) pgs_nil))) (fun _ _ _ _ _ => (pts_one (pt_cmpR (op_in_seqK (K := K) rfl) (pv 9) (pv 4) (by rfl)))) (fun _ _ _ _ _ => (pv 8))) pa_nil)))
       (pss_one (ps_ret (pe_def D_counted_as (hr.mono (by decide)) rfl (pa_cons (pe_op op_sub (pv 5) (pv 6)) (pa_cons (pv 1) pa_nil))))))), ?_⟩
    refine ⟨_, rfl, p, rfl, ⟨_, SqT.of hp⟩, lc_fr (CW := CW) (M := []) (walk_tup (K := K) (a := p) (xs := c.map nv)) (fun i => (c[i]?).map fun h => V.int (xs.getD h 0)) (fun H2 f => SqT.of (f.tup hp)) YAt.fr (by simp) (by rw [List.length_map]; omega) ?_ ?_⟩
    · rintro i v H2 H3 hi f2 ⟨rfl, hv⟩ N1 N0 n1 n0
      rw [List.getElem?_map] at hv
      obtain ⟨x, ex, rfl⟩ := Option.map_eq_some_iff.mp hv
      have hx := hc x (List.mem_of_getElem? ex)
      refine ⟨rfl, ?_⟩
      refine ⟨_, rfl, _, rfl, s, _, _, _, rfl, rfl, SqT.of (f2.tup hs), at_int (show xs[x]? = some (xs.getD x 0) by rw [List.getD_eq_getElem?_getD]; simp [lx, hx]), n1 _ _ Fr.refl (by rw [ex]; rfl)⟩
    · intro D H2 hD f2 hl2
      have e : (List.range (c.map nv).length).filterMap (fun i => (c[i]?).map fun h => V.int (xs.getD h 0)) = (c.map fun h => xs.getD h 0).map V.int := by
        rw [List.length_map, comp_map c (fun h => V.int (xs.getD h 0)) _ (fun i x hx => by rw [hx]; rfl), List.map_map]
        rfl
      rw [e] at hl2
      refine ⟨D, _, rfl, SqL.of hl2, ?_⟩
      obtain ⟨dx, tt, ps, hw2, ht2, hp2⟩ := hw.fr f2
      refine ⟨_, rfl, w, CW, dx, _, _, rfl, hw2, W.cl, W.nT, webF_ties, _, rfl, tt, a, ps, _, rfl, .inr ⟨SqT.of ht2, SqT.of (f2.tup ha), ?_⟩⟩
      refine lc_fr (CW := CW) (M := []) (walk_zipT (K := K) (a := tt) (b := a) (xs := ps) (ys := as.map V.int) (n := ts.length) (by rw [hp2.1, List.length_map, la, Nat.min_self]))
        (fun i => match ts[i]? with | some t => if t.1 ∈ c then some (V.int (as.getD i 0)) else none | none => none) (fun H3 f => ⟨SqT.of (f.tup ht2), SqT.of ((f2.trans f).tup ha)⟩) YPair.fr (by simp) (by omega) ?_ ?_
      · rintro i v H3 H4 hi f3 ⟨T', x, y, rfl, hT, rfl, e1, e2⟩ N1 N0 n1 n0
        obtain ⟨q, t, rfl, et, hq⟩ := hp2.get e1
        obtain ⟨z, ez, rfl⟩ : ∃ z, as[i]? = some z ∧ y = V.int z := by
          have e2 : (as.map V.int)[i]? = some y := e2
          rw [List.getElem?_map] at e2
          obtain ⟨z, ez, rfl⟩ := Option.map_eq_some_iff.mp e2
          exact ⟨z, ez, rfl⟩
        have f4 : Fr CW [] H2 (upd H3 T' (.tup [.ref q, .int z])) := f3.new hT
        refine ⟨T', _, rfl, SqT.of upd_same, rfl, _, _, rfl, ?_⟩
        refine ⟨q, _, rfl, SqT.of (f4.tup hq), rfl, _, _, rfl, _, _, rfl, rfl, _, _, rfl, rfl, ?_⟩
        refine ⟨rfl, ?_⟩
        refine ⟨_, rfl, _, rfl, p, _, rfl, .inr (SqT.of ((f2.trans f4).tup hp)), rfl, flat_nats c, _, rfl, ?_⟩
        show if inV (nv t.1) (c.map nv) = true then _ else _
        rw [inV_nats]
        refine iteD (fun hz => ?_) (fun hz => ?_)
        · exact ⟨_, rfl, n1 _ _ Fr.refl (by simp only [et]; rw [if_pos hz, List.getD_eq_getElem?_getD, ez]; rfl)⟩
        · exact n0 _ Fr.refl (by simp only [et]; rw [if_neg hz])
      · intro D2 H3 hD2 f3 hl3
        have e3 : (List.range ts.length).filterMap (fun i => match ts[i]? with | some t => if t.1 ∈ c then some (V.int (as.getD i 0)) else none | none => none) =
            ((List.range ts.length).filterMap fun i => match ts[i]? with | some t => if t.1 ∈ c then some (as.getD i 0) else none | none => none).map V.int := by
          rw [List.map_filterMap]
          refine fm_congr fun i _ => ?_
          cases ts[i]? with
          | none => rfl
          | some t =>
            dsimp only
            split <;> rfl
        rw [e3] at hl3
        refine ⟨D2, _, rfl, SqL.of hl3, ?_⟩
        exact ⟨_, rfl, _, rfl, _, _, rfl, rfl, _, rfl, _, m, rfl, k _ (f2.trans f3)⟩
end
end Hou
set_option Elab.async false
set_option linter.all false
set_option maxRecDepth 100000
set_option autoImplicit false
namespace Hou
open PySem PySem.Spec PyProof.Rows L2
/-! ### short tactics: a reading's next questions -/
local macro_rules | `(tactic| walk_at "hq") => `(tactic| first
  | assumption | exact SqL.of (by assumption) | exact SqT.of (by assumption) | exact .inl (by assumption) | exact .inr (by assumption) | exact .inl (SqL.of (by assumption)) | exact .inr (SqT.of (by assumption))
  | exact SqL.of upd_same | exact SqT.of upd_same)
local macro_rules | `(tactic| walk_at "at") => `(tactic| first | assumption | exact atI_nat (j := 0) rfl | exact atI_nat (j := 1) rfl)
local macro_rules | `(tactic| walk_at "sd") => `(tactic| first
  | rfl | exact .inl ⟨by decide, by decide⟩ | exact .inr ⟨by decide, by decide⟩ | exact ⟨by decide, by decide, by decide⟩ | (show ((_ : Int) ≠ 0); first | decide | assumption | omega)
  | (show ((_ : Int) ≠ 0 ∧ _); refine ⟨by first | decide | assumption | omega, by first | decide | omega⟩) | (show (_ ≤ sizeLine); first | (simp only [List.length_cons, List.length_nil]; decide) | assumption) | decide | omega)
local macro_rules | `(tactic| walk_at "rd") => `(tactic| first
  | refine ⟨_, rfl, ?_⟩ | refine ⟨_, _, rfl, rfl, ?_⟩ | refine .inl ⟨_, rfl, ?_⟩ | refine .inr ⟨_, rfl, ?_⟩
  | refine ⟨_, _, _, _, rfl, rfl, (by walk_at "hq"), (by walk_at "at"), ?_⟩ | refine ⟨_, _, rfl, (by walk_at "hq"), ?_⟩ | refine ⟨(by walk_at "sd"), ?_⟩)

/-- a meeting over the tie t of (a, b) -/
def metV (t : Nat × Nat) (xs as : List Int) (i m : Nat) : Int := wrapI (xs.getD t.1 0 + xs.getD t.2 0 - as.getD i 0) m
def metX (t : Nat × Nat) (xs : List Int) (v : Int) : List Int := (xs.set t.1 v).set t.2 v
section
variable {P : Program} {w : World} {K : PySem.W.Frag} {mg : Str → Option Value} {base : Heap} {CW CC : Addr}
theorem getD_at {xs : List Int} {i : Nat} (h : i < xs.length) : xs[i]? = some (xs.getD i 0) := by
  rw [List.getD_eq_getElem?_getD]
  simp [h]
theorem atD {xs : List Int} {i : Nat} (h : i < xs.length) : atI (xs.map V.int) ((i : Nat) : Int) = some (.int (xs.getD i 0)) := at_int (getD_at h)
abbrev s_CounterNet_init : Stmt := inClass (top 35) 0
abbrev N_CounterNet_init : List Str := ["self", "web", "modulus", "states", "archives"]
theorem sc_CounterNet_init : FnScope N_CounterNet_init ["self", "web", "modulus", "states", "archives"] (defScope s_CounterNet_init) := ⟨rfl, rfl, rfl, by decide +kernel, rfl, by decide +kernel, by decide +kernel⟩
def spNetInit (CW CC : Addr) : Sp := fun vs H Q _ => ∃ (H0 : Hp) (x dx w s a : Addr) (n m : Nat) (ts : List (Nat × Nat)) (xs as : List Int), vs = [.ref x, .ref w, .int (m : Nat), .ref s, .ref a] ∧ Fr CW [] H0 H ∧ H0 x = none ∧ H x = some (.ins CC dx []) ∧ WebAt CW H0 w n ts ∧ WebOk n ts ∧ ModOk m ∧
  H s = some (.lst (xs.map V.int)) ∧ H a = some (.lst (as.map V.int)) ∧ xs.length = n ∧ as.length = ts.length ∧ (∀ z ∈ xs, Cnt m z) ∧ (∀ z ∈ as, Cnt m z) ∧
  ∀ H', Fr CW [] H0 H' → NetAt CW CC H' x w n ts m xs as → Q .non H'
theorem ok_CounterNet_init (T : TopI K mg CC "CounterNet" "CounterNet.__init__" s_CounterNet_init ["self", "web", "modulus", "states", "archives"]) (B : Bl mg) (W : TxW K mg CW) (C : TxC K mg CC)
    (D_check_modulus : Def P w K mg base 2 "check_modulus" s_check_modulus ["value"] spCheckMod)
    (D_check_numbers : Def P w K mg base 4 "check_numbers" s_check_numbers ["value", "many", "modulus"] (spCheckNumbers CW)) :
    IDef P w K mg base 5 CC "CounterNet" ["self", "web", "modulus", "states", "archives"] (spNetInit CW CC) := by
  refine T.ok sc_CounterNet_init (fun vs H Q E h => ?_) (fun f cdv A outer s H vs Q E hr h => ?_)
  · obtain ⟨H0, x, dx, w, s, a, n, m, ts, xs, as, rfl, _⟩ := h
    rfl
  · obtain ⟨H0, x, dx, w, sa, aa, n, m, ts, xs, as, rfl, f0, hx0, hx, hw, ok, mk, hs, ha, lx, la, cx, ca, k⟩ := h
    have l20 := ok.len
    have n12 := ok.n12
    refine ⟨_, (pss_cons (ps_fld (pv 0) (pv 1) rfl)
       (pss_cons (ps_fld (pv 0) (pe_def D_check_modulus (hr.mono (by decide)) rfl (pa_cons (pv 2) pa_nil)) rfl)
       (pss_cons (ps_fld (pv 0) (pe_def D_check_numbers (hr.mono (by decide)) rfl (pa_cons (pv 3) (pa_cons (pe_fldK (K := K) rfl (pv 1) rfl) (pa_cons (pv 2) pa_nil)))) rfl)
       (pss_one (ps_fld (pv 0) (pe_def D_check_numbers (hr.mono (by decide)) rfl (pa_cons (pv 4) (pa_cons (pe_callB (id := "len") (call_lenK (K := K) rfl) (by rfl) B.len (by decide +kernel) (pa_cons (pe_fldK (K := K) rfl (pv 1) rfl) pa_nil)) (pa_cons (pv 2) pa_nil)))) rfl))))), ?_⟩
    have nxs : sa ≠ x := ne_of hs hx (by intro z; cases z)
    have nxa : aa ≠ x := ne_of ha hx (by intro z; cases z)
    refine ⟨_, rfl, _, rfl, x, CC, dx, _, rfl, hx, C.cl, C.nW, (by show 0 < 1000; decide), ?_⟩
    refine ⟨_, rfl, m, rfl, mk, _, rfl, x, CC, dx, _, rfl, upd_same, C.cl, C.nM, (by show 1 < 1000; decide), ?_⟩
    generalize eH : upd (upd H x (.ins CC dx (putF "web" (.ref w) []))) x (.ins CC dx (putF "modulus" (.int (m : Nat)) (putF "web" (.ref w) []))) = H1
    have f1 : Fr CW [] H0 H1 := by rw [← eH]; exact (f0.loc hx0).loc hx0
    have hx1 : H1 x = some (.ins CC dx (putF "modulus" (.int (m : Nat)) (putF "web" (.ref w) []))) := by rw [← eH, upd_same]
    have hs1 : H1 sa = some (.lst (xs.map V.int)) := by rw [← eH, upd_ne nxs, upd_ne nxs]; exact hs
    have ha1 : H1 aa = some (.lst (as.map V.int)) := by rw [← eH, upd_ne nxa, upd_ne nxa]; exact ha
    obtain ⟨dw, tt, ps, hw1, ht1, hp1⟩ := hw.fr f1
    refine ⟨_, rfl, _, rfl, w, CW, dw, _, _, rfl, hw1, W.cl, W.nH, webF_houses, _, rfl, sa, xs, m, by rw [lx]; rfl, hs1, by omega, cx, fun H2 p f2 hp => ?_⟩
    have hx2 := f2.ot _ _ (by simp) hx1
    refine ⟨_, rfl, x, CC, dx, _, rfl, hx2, C.cl, C.nS, (by show 2 < 1000; decide), ?_⟩
    generalize eH3 : upd H2 x (.ins CC dx (putF "states" (.ref p) (putF "modulus" (.int (m : Nat)) (putF "web" (.ref w) [])))) = H3
    have f3 : Fr CW [] H0 H3 := by rw [← eH3]; exact (f1.trans f2).loc hx0
    have hx3 : H3 x = some (.ins CC dx (putF "states" (.ref p) (putF "modulus" (.int (m : Nat)) (putF "web" (.ref w) [])))) := by rw [← eH3, upd_same]
    have npx : p ≠ x := ne_of hp hx2 (by intro z; cases z)
    have hp3 : H3 p = some (.tup (xs.map V.int)) := by rw [← eH3, upd_ne npx]; exact hp
    have ha3 : H3 aa = some (.lst (as.map V.int)) := by rw [← eH3, upd_ne nxa]; exact f2.ot _ _ (by simp) ha1
    obtain ⟨dw3, tt3, ps3, hw3, ht3, hps3⟩ := hw.fr f3
    refine ⟨_, rfl, _, rfl, w, CW, dw3, _, _, rfl, hw3, W.cl, W.nT, webF_ties, tt3, ps3, rfl, .inr (SqT.of ht3), _, rfl, aa, as, m, by rw [hps3.1, la]; rfl, ha3, by omega, ca, fun H4 q f4 hq => ?_⟩
    have hx4 := f4.ot _ _ (by simp) hx3
    refine ⟨_, rfl, x, CC, dx, _, rfl, hx4, C.cl, C.nA, (by show 3 < 1000; decide), ?_⟩
    have nqx : q ≠ x := ne_of hq hx4 (by intro z; cases z)
    have f5 := (f3.trans f4).loc (o := .ins CC dx (putF "archives" (.ref q) (putF "states" (.ref p) (putF "modulus" (.int (m : Nat)) (putF "web" (.ref w) []))))) hx0
    exact k _ f5 ⟨dx, p, q, by rw [upd_same, putF_net], hw.fr f5, by rw [upd_ne npx]; exact f4.tup hp3, by rw [upd_ne nqx]; exact hq⟩
abbrev s_CounterNet_do : Stmt := inClass (top 35) 1
abbrev N_CounterNet_do : List Str := ["self", "house", "amount", "at", "state"]
theorem sc_CounterNet_do : FnScope N_CounterNet_do ["self", "house", "amount"] (defScope s_CounterNet_do) := ⟨rfl, rfl, rfl, by decide +kernel, rfl, by decide +kernel, by decide +kernel⟩
def spNetDo (CW CC : Addr) : Sp := fun vs H Q _ => ∃ (c w : Addr) (n m h : Nat) (ts : List (Nat × Nat)) (xs as : List Int) (v : Int), vs = [.ref c, .int (h : Nat), .int v] ∧ NetAt CW CC H c w n ts m xs as ∧ xs.length = n ∧ n ≤ 12 ∧ h < n ∧ -1000000000000000000 ≤ v ∧ v ≤ 1000000000000000000 ∧
  ∀ H', Fr CW [c] H H' → NetAt CW CC H' c w n ts m (xs.set h (wrapI (xs.getD h 0 + v) m)) as → Q (.int (wrapI (xs.getD h 0 + v) m)) H'
theorem ok_CounterNet_do (hne : CC ≠ CW) (T : TopM K CC "do" "CounterNet.do" s_CounterNet_do ["self", "house", "amount"]) (C : TxC K mg CC)
    (D_need_house : Def P w K mg base 4 "need_house" s_need_house ["web", "house"] (spNeedHouse CW)) (D_is_within : Def P w K mg base 2 "is_within" s_is_within ["value", "least", "most"] spIsWithin)
    (D_counted_as : Def P w K mg base 1 "counted_as" s_counted_as ["number", "modulus"] spCountedAs) :
    MDef P w K mg base 5 CC "do" "CounterNet.do" s_CounterNet_do ["self", "house", "amount"] (spNetDo CW CC) := by
  refine T.ok C.cl sc_CounterNet_do (fun vs H Q E h => ?_) (fun f cdv A outer s H vs Q E hr h => ?_)
  · obtain ⟨c, w, n, m, h, ts, xs, as, v, rfl, _⟩ := h
    rfl
  · obtain ⟨c, w, n, m, h, ts, xs, as, v, rfl, ⟨dx, sa, aa, hc, hw, hs, ha⟩, lx, n12, hh, v1, v2, k⟩ := h
    obtain ⟨_, G_MOST_NUMBER⟩ := C.MOST_NUMBER
    refine ⟨_, (pss_cons (ps_set (i := 3) sc_CounterNet_do.nd rfl (Or.inl rfl) (pe_def D_need_house (hr.mono (by decide)) rfl (pa_cons (pe_fldK (K := K) rfl (pv 0) rfl) (pa_cons (pv 1) pa_nil))))
       (pss_cons (ps_if (pt_not (pt_val (pe_def D_is_within (hr.mono (by decide)) rfl (pa_cons (pv 2) (pa_cons (pe_un un_neg (pe_glob (v := .int 1000000000000000000) rfl G_MOST_NUMBER ⟨_, rfl⟩)) (pa_cons (pe_glob (v := .int 1000000000000000000) rfl G_MOST_NUMBER ⟨_, rfl⟩) pa_nil)))))) (pss_one ps_never) pss_nil)
       (pss_cons (ps_set (i := 4) sc_CounterNet_do.nd rfl (Or.inl rfl) (pe_def D_counted_as (hr.mono (by decide)) rfl (pa_cons (pe_op op_add (pe_ix (ix_tupK (K := K) rfl) (pe_fldK (K := K) rfl (pv 0) rfl) (pv 3) (fun _ _ => rfl)) (pv 2)) (pa_cons (pe_fldK (K := K) rfl (pv 0) rfl) pa_nil))))
       (pss_cons (ps_fld (pv 0) (pe_op (op_catAK (K := K) rfl) (pe_op (op_catAK (K := K) rfl) (pe_slice (sl_tupAK (K := K) rfl) (pe_fldK (K := K) rfl (pv 0) rfl) po_none (po_some (pv 3))) (pe_tup (pa_cons (pv 4) pa_nil))) (pe_slice (sl_tupAK (K := K) rfl) (pe_fldK (K := K) rfl (pv 0) rfl) (po_some (pe_op op_add (pv 3) pe_int)) po_none)) rfl)
       (pss_one (ps_ret (pv 4))))))), ?_⟩
    refine ⟨_, rfl, c, CC, dx, _, _, rfl, hc, C.cl, C.nW, netF_web, _, rfl, w, n, h, ts, rfl, hw, hh, ?_⟩
    refine ⟨_, rfl, _, rfl, v, -1000000000000000000, 1000000000000000000, rfl, _, rfl, ?_⟩
    rw [decide_eq_true (show (-1000000000000000000 : Int) ≤ v ∧ v ≤ 1000000000000000000 from ⟨v1, v2⟩)]
    refine iteF ?_
    refine ⟨_, rfl, c, CC, dx, _, _, rfl, hc, C.cl, C.nS, netF_st, _, rfl, sa, _, _, _, rfl, rfl, SqT.of hs, atD (by omega), _, rfl, _, _, rfl, rfl, _, rfl, c, CC, dx, _, _, rfl, hc, C.cl, C.nM, netF_mod, _, m, rfl, ?_⟩
    refine ⟨_, rfl, c, CC, dx, _, _, rfl, hc, C.cl, C.nS, netF_st, _, rfl, _, rfl, slA_fr (CW := CW) hs fun p1 H1 f1 hp1 => ?_⟩
    rw [cut_take] at hp1
    refine ⟨_, rfl, (by show 1 ≤ sizeLine; decide), fun p2 hp2 => ?_⟩
    have f2 := f1.new (o := .tup [V.int (wrapI (xs.getD h 0 + v) m)]) hp2
    have hp12 : upd H1 p2 (.tup [V.int (wrapI (xs.getD h 0 + v) m)]) p1 = some (.tup ((xs.map V.int).take h)) := by rw [upd_ne (ne_of_none hp1 hp2)]; exact hp1
    refine catA_fr (CW := CW) hp12 upd_same (by rw [List.length_take, List.length_map]; show min h xs.length + 1 ≤ 1000; omega) fun p3 H3 f3 hp3 => ?_
    have f23 := f2.trans f3
    have hc3 := f23.ot _ _ (by simp) hc
    refine ⟨_, rfl, c, CC, dx, _, _, rfl, hc3, C.cl, C.nS, netF_st, _, rfl, _, _, rfl, rfl, _, rfl, ?_⟩
    unfold tNoPart
    refine slA_fr (CW := CW) (f23.tup hs) fun p4 H4 f4 hp4 => ?_
    rw [show ((h : Int) + 1) = ((h + 1 : Nat) : Int) by omega, cut_drop] at hp4
    refine catA_fr (CW := CW) (f4.tup hp3) hp4 (by simp; omega) fun p5 H5 f5 hp5 => ?_
    rw [put_cut (by rw [List.length_map]; omega), ← List.map_set] at hp5
    have f5' := (f23.trans f4).trans f5
    have hc5 := f5'.ot _ _ (by simp) hc
    have npc : p5 ≠ c := ne_of hp5 hc5 (by intro z; cases z)
    refine ⟨_, rfl, c, CC, dx, _, rfl, hc5, C.cl, C.nS, (by show 4 < 1000; decide), ?_⟩
    have f6 : Fr CW [c] H (upd H5 c (.ins CC dx (putF "states" (.ref p5) (netF w m sa aa)))) := f5'.nil.put (by simp) (fun u e i => by
      rw [hc] at e
      cases e
      exact hne i)
    refine ⟨_, rfl, k _ f6 ⟨dx, p5, aa, by rw [upd_same, putF_st], hw.fr f6, by rw [upd_ne npc]; exact hp5, f6.tup ha⟩⟩
abbrev s_CounterNet_meet : Stmt := inClass (top 35) 2
abbrev N_CounterNet_meet : List Str := ["self", "tie", "one", "other", "state", "house", "old"]
theorem sc_CounterNet_meet : FnScope N_CounterNet_meet ["self", "tie"] (defScope s_CounterNet_meet) := ⟨rfl, rfl, rfl, by decide +kernel, rfl, by decide +kernel, by decide +kernel⟩
def spNetMeet (CW CC : Addr) : Sp := fun vs H Q _ => ∃ (c w : Addr) (n m i : Nat) (ts : List (Nat × Nat)) (t : Nat × Nat) (xs as : List Int), vs = [.ref c, .int (i : Nat)] ∧ NetAt CW CC H c w n ts m xs as ∧ WebOk n ts ∧ xs.length = n ∧ as.length = ts.length ∧ ts[i]? = some t ∧
  ∀ H', Fr CW [c] H H' → NetAt CW CC H' c w n ts m (metX t xs (metV t xs as i m)) (as.set i (metV t xs as i m)) → Q (.int (metV t xs as i m)) H'
theorem metX_get (t : Nat × Nat) (xs : List Int) (v : Int) (i : Nat) : (metX t xs v)[i]? = (xs[i]?).map fun x => if i = t.1 ∨ i = t.2 then v else x := by
  unfold metX
  rw [List.getElem?_set, List.getElem?_set, List.length_set]
  by_cases h2 : t.2 = i
  · subst h2
    by_cases hl : t.2 < xs.length
    · simp [hl]
    · simp [hl]
  · rw [if_neg h2]
    by_cases h1 : t.1 = i
    · subst h1
      by_cases hl : t.1 < xs.length
      · simp [hl]
      · simp [hl]
    · rw [if_neg h1]
      have e : ¬ (i = t.1 ∨ i = t.2) := fun z => z.elim (fun z => h1 z.symm) fun z => h2 z.symm
      simp only [if_neg e]
      cases xs[i]? <;> rfl
theorem ok_CounterNet_meet (hne : CC ≠ CW) (T : TopM K CC "meet" "CounterNet.meet" s_CounterNet_meet ["self", "tie"]) (B : Bl mg) (W : TxW K mg CW) (C : TxC K mg CC)
    (D_need_tie : Def P w K mg base 4 "need_tie" s_need_tie ["web", "tie"] (spNeedTie CW)) (D_counted_as : Def P w K mg base 1 "counted_as" s_counted_as ["number", "modulus"] spCountedAs) :
    MDef P w K mg base 5 CC "meet" "CounterNet.meet" s_CounterNet_meet ["self", "tie"] (spNetMeet CW CC) := by
  refine T.ok C.cl sc_CounterNet_meet (fun vs H Q E h => ?_) (fun f cdv A outer s H vs Q E hr h => ?_)
  · obtain ⟨c, w, n, m, i, ts, t, xs, as, rfl, _⟩ := h
    rfl
  · obtain ⟨c, w, n, m, i, ts, t, xs, as, rfl, ⟨dx, sa, aa, hc, hw, hs, ha⟩, ok, lx, la, ht, k⟩ := h
    have l20 := ok.len
    have n12 := ok.n12
    have hi := (List.getElem?_eq_some_iff.mp ht).1
    obtain ⟨o1, o2, o3⟩ := ok.ok t (List.mem_of_getElem? ht)
    obtain ⟨dw, tt, ps, hww, htt, hps⟩ := id hw
    obtain ⟨q, eq1, eq2⟩ := hps.2 i t ht
    refine ⟨_, (pss_cons (ps_asg (pe_ix (ix_tupK (K := K) rfl) (pe_fldK (K := K) rfl (pe_fldK (K := K) rfl (pv 0) rfl) rfl) (pe_def D_need_tie (hr.mono (by decide)) rfl (pa_cons (pe_fldK (K := K) rfl (pv 0) rfl) (pa_cons (pv 1) pa_nil))) (fun _ _ => rfl)) (pg_tup rfl (pgs_cons (pg_name (i := 2) sc_CounterNet_meet.nd rfl (Or.inr rfl)) (pgs_cons (pg_name (i := 3) sc_CounterNet_meet.nd rfl (Or.inr rfl)) pgs_nil))))
       (pss_cons (ps_set (i := 4) sc_CounterNet_meet.nd rfl (Or.inr rfl) (pe_def D_counted_as (hr.mono (by decide)) rfl (pa_cons (pe_op op_sub (pe_op op_add (pe_ix (ix_tupK (K := K) rfl) (pe_fldK (K := K) rfl (pv 0) rfl) (pv 2) (fun _ _ => rfl)) (pe_ix (ix_tupK (K := K) rfl) (pe_fldK (K := K) rfl (pv 0) rfl) (pv 3) (fun _ _ => rfl))) (pe_ix (ix_tupK (K := K) rfl) (pe_fldK (K := K) rfl (pv 0) rfl) (pv 1) (fun _ _ => rfl))) (pa_cons (pe_fldK (K := K) rfl (pv 0) rfl) pa_nil))))
       (pss_cons (ps_fld (pv 0) (pe_callTy (T := "tuple") (call_tupleK (K := K) rfl) (by rfl) B.tuple (by decide +kernel) (pa_cons (pe_lc (own := [("house", 5), ("old", 6)]) (g := gTup K 2 (gCons (gName 5) (gCons (gName 6) gNil))) (tt := tYes) rfl sc_CounterNet_meet.nd (pi_enumT rfl B.enumerate (pa_cons (pe_fldK (K := K) rfl (pv 0) rfl) pa_nil)) (blkOk_by (N := N_CounterNet_meet) (sc := defScope s_CounterNet_meet) (by decide +kernel)) (fun _ _ _ _ _ => pg_tup rfl (pgs_cons (pg_name (i := 5) sc_CounterNet_meet.nd rfl (Or.inl rfl)) (pgs_cons (pg_name (i := 6) sc_CounterNet_meet.nd rfl (Or.inl rfl)) pgs_nil))) (fun _ _ _ _ _ => pts_nil) (fun _ _ _ _ _ => (pe_ifExp (pt_cmpR (op_in_seqK (K := K) rfl) (pv 5) (pe_tup (pa_cons (pv 2) (pa_cons (pv 3) pa_nil))) (by rfl)) (pv 4) (pv 6)))) pa_nil)) rfl)
       (pss_cons (ps_fld (pv 0) (pe_op (op_catAK (K := K) rfl) (pe_op (op_catAK (K := K) rfl) (pe_slice (sl_tupAK (K := K) rfl) (pe_fldK (K := K) rfl (pv 0) rfl) po_none (po_some (pv 1))) (pe_tup (pa_cons (pv 4) pa_nil))) (pe_slice (sl_tupAK (K := K) rfl) (pe_fldK (K := K) rfl (pv 0) rfl) (po_some (pe_op op_add (pv 1) pe_int)) po_none)) rfl)
       (pss_one (ps_ret (pv 4))))))), ?_⟩
    refine ⟨_, rfl, c, CC, dx, _, _, rfl, hc, C.cl, C.nW, netF_web, w, CW, dw, _, _, rfl, hww, W.cl, W.nT, webF_ties, _, rfl, c, CC, dx, _, _, rfl, hc, C.cl, C.nW, netF_web, _, rfl, w, n, i, ts, rfl, hw, hi, tt, ps, _, _, rfl, rfl, SqT.of htt, atI_nat eq1, ?_⟩
    refine ⟨q, _, rfl, SqT.of eq2, rfl, _, _, rfl, _, _, rfl, rfl, ?_⟩
    refine ⟨_, rfl, c, CC, dx, _, _, rfl, hc, C.cl, C.nS, netF_st, _, rfl, sa, _, _, _, rfl, rfl, SqT.of hs, atD (i := t.1) (by omega), _, rfl, c, CC, dx, _, _, rfl, hc, C.cl, C.nS, netF_st, _, rfl, sa, _, _, _, rfl, rfl, SqT.of hs, atD (i := t.2) (by omega), _, _, rfl, rfl,
      _, rfl, c, CC, dx, _, _, rfl, hc, C.cl, C.nA, netF_ar, _, rfl, aa, _, _, _, rfl, rfl, SqT.of ha, atD (i := i) (by omega), _, _, rfl, rfl, _, rfl, c, CC, dx, _, _, rfl, hc, C.cl, C.nM, netF_mod, _, m, rfl, ?_⟩
    refine ⟨_, rfl, c, CC, dx, _, _, rfl, hc, C.cl, C.nS, netF_st, sa, _, rfl, SqT.of hs, lc_fr (CW := CW) (M := []) (walk_enumT (K := K) (a := sa) (xs := xs.map V.int)) (fun j => (xs[j]?).map fun x => V.int (if j = t.1 ∨ j = t.2 then metV t xs as i m else x)) (fun H2 f => SqT.of (f.tup hs)) YPair.fr (by simp) (by rw [List.length_map]; omega) ?_ ?_⟩
    · rintro j v H2 H3 hj f2 ⟨T', x, y, rfl, hT, rfl, e1, e2⟩ N1 N0 n1 n0
      cases e1
      have e2 : (xs.map V.int)[j]? = some y := e2
      rw [List.getElem?_map] at e2
      obtain ⟨x, ex, rfl⟩ := Option.map_eq_some_iff.mp e2
      refine ⟨T', _, rfl, SqT.of upd_same, rfl, _, _, rfl, _, _, rfl, rfl, ?_⟩
      refine ⟨rfl, ?_⟩
      refine ⟨_, rfl, _, rfl, _, rfl, (by show 2 ≤ sizeLine; decide), fun p hp => ?_⟩
      refine ⟨p, _, rfl, .inr (SqT.of upd_same), rfl, rfl, _, rfl, ?_⟩
      have ein : inV (nv j) [nv t.1, nv t.2] = decide (j = t.1 ∨ j = t.2) := by
        rw [show [nv t.1, nv t.2] = ([t.1, t.2] : List Nat).map nv from rfl, inV_nats]
        simp
      show if inV (nv j) [nv t.1, nv t.2] = true then _ else _
      rw [ein]
      have f5 : Fr CW [] (upd H2 T' (.tup [nv j, .int x])) (upd (upd H2 T' (.tup [nv j, .int x])) p (.tup [nv t.1, nv t.2])) := Fr.refl.new hp
      refine iteD (fun hz => ?_) (fun hz => ?_)
      · exact ⟨_, rfl, n1 _ _ f5 (by rw [ex, Option.map_some, if_pos hz]; rfl)⟩
      · exact ⟨_, rfl, n1 _ _ f5 (by rw [ex, Option.map_some, if_neg hz])⟩
    · intro D H2 hD f2 hl2
      have e : (List.range (xs.map V.int).length).filterMap (fun j => (xs[j]?).map fun x => V.int (if j = t.1 ∨ j = t.2 then metV t xs as i m else x)) = (metX t xs (metV t xs as i m)).map V.int := by
        have e0 : (List.range (xs.map V.int).length) = List.range (metX t xs (metV t xs as i m)).length := by
          unfold metX
          rw [List.length_map, List.length_set, List.length_set]
        rw [e0]
        refine comp_map (metX t xs (metV t xs as i m)) V.int _ fun j x hx => ?_
        rw [metX_get] at hx
        obtain ⟨y, ey, rfl⟩ := Option.map_eq_some_iff.mp hx
        rw [ey]
        rfl
      rw [e] at hl2
      refine ⟨D, _, rfl, .inl ⟨SqL.of hl2, fun p hp => ?_⟩⟩
      have f3 := f2.new (o := .tup ((metX t xs (metV t xs as i m)).map V.int)) hp
      have hc3 := f3.ot _ _ (by simp) hc
      have npc : p ≠ c := ne_of (H := upd H2 p (.tup ((metX t xs (metV t xs as i m)).map V.int))) upd_same hc3 (by intro z; cases z)
      refine ⟨_, rfl, c, CC, dx, _, rfl, hc3, C.cl, C.nS, (by show 4 < 1000; decide), ?_⟩
      have nIm : ∀ u, H c = some u → ¬ Im CW u := fun u e i => by
        rw [hc] at e
        cases e
        exact hne i
      rw [putF_st]
      have f4 := (f3.nil (M := [c])).put (o := .ins CC dx (netF w m p aa)) (by simp) nIm
      have hp4 : upd (upd H2 p (.tup ((metX t xs (metV t xs as i m)).map V.int))) c (.ins CC dx (netF w m p aa)) p = some (.tup ((metX t xs (metV t xs as i m)).map V.int)) := by rw [upd_ne npc, upd_same]
      have hc4 : upd (upd H2 p (.tup ((metX t xs (metV t xs as i m)).map V.int))) c (.ins CC dx (netF w m p aa)) c = some (.ins CC dx (netF w m p aa)) := upd_same
      generalize upd (upd H2 p (.tup ((metX t xs (metV t xs as i m)).map V.int))) c (.ins CC dx (netF w m p aa)) = H4 at f4 hp4 hc4 ⊢
      have ha4 := f4.tup ha
      refine ⟨_, rfl, c, CC, dx, _, _, rfl, hc4, C.cl, C.nA, netF_ar, _, rfl, _, rfl, slA_fr (CW := CW) ha4 fun p1 H5 f5 hp1 => ?_⟩
      rw [cut_take] at hp1
      refine ⟨_, rfl, (by show 1 ≤ sizeLine; decide), fun p2 hp2 => ?_⟩
      have f6 := f5.new (o := .tup [V.int (metV t xs as i m)]) hp2
      have hp12 : upd H5 p2 (.tup [V.int (metV t xs as i m)]) p1 = some (.tup ((as.map V.int).take i)) := by rw [upd_ne (ne_of_none hp1 hp2)]; exact hp1
      refine catA_fr (CW := CW) hp12 upd_same (by rw [List.length_take, List.length_map]; show min i as.length + 1 ≤ 1000; omega) fun p3 H7 f7 hp3 => ?_
      have f67 := f6.trans f7
      have hc7 := f67.ot _ _ (by simp) hc4
      refine ⟨_, rfl, c, CC, dx, _, _, rfl, hc7, C.cl, C.nA, netF_ar, _, rfl, _, _, rfl, rfl, _, rfl, ?_⟩
      unfold tNoPart
      refine slA_fr (CW := CW) (f67.tup ha4) fun p4 H8 f8 hp4' => ?_
      rw [show ((i : Int) + 1) = ((i + 1 : Nat) : Int) by omega, cut_drop] at hp4'
      refine catA_fr (CW := CW) (f8.tup hp3) hp4' (by simp; omega) fun p5 H9 f9 hp5 => ?_
      rw [put_cut (by rw [List.length_map]; omega), ← List.map_set] at hp5
      have f9' := (f67.trans f8).trans f9
      have hc9 := f9'.ot _ _ (by simp) hc4
      have np5 : p5 ≠ c := ne_of hp5 hc9 (by intro z; cases z)
      refine ⟨_, rfl, c, CC, dx, _, rfl, hc9, C.cl, C.nA, (by show 4 < 1000; decide), ?_⟩
      have f10 : Fr CW [c] H (upd H9 c (.ins CC dx (putF "archives" (.ref p5) (netF w m p aa)))) := (f4.trans f9'.nil).put (by simp) nIm
      refine ⟨_, rfl, k _ f10 ⟨dx, p, p5, by rw [upd_same, putF_ar], hw.fr f10, by rw [upd_ne npc]; exact f9'.tup hp4, by rw [upd_ne np5]; exact hp5⟩⟩
end
end Hou
set_option Elab.async false
set_option linter.all false
set_option maxRecDepth 100000
set_option autoImplicit false
namespace Hou
open PySem PySem.Spec PyProof.Rows L2
/-! ### dicts keyed by tuples: a comprehension -/
theorem d_dictSetT {X : Cx} {pins : List (Addr × Obj)} {σ : L2.St} {H : Hp} {s : Shared} {E : Value → Shared → Prop} {D b : Addr} {kvs : List (List Key × V)} {k : List Key} {v : V} {u r : Value} {Q : Unit → Shared → Prop} (hu : X.A.units + 1 < cLine) (I : Inv X pins σ H s) (hD : H D = some (.dT kvs))
    (hz : kvs.length < sizeLine) (hb : H b = some (.tup (k.map kV))) (ry : L2.RelV (.ref b) u) (rv : L2.RelV v r) (h : ∀ s', Inv X pins σ (upd H D (.dT (putK kvs k v))) s' → Q () s') : wpAny (model X.prog X.w) X.A (dictSet D u r) Q E s := by
  cases (show u = Value.ref b from ry)
  obtain ⟨z, hd, xs, rel, dd⟩ := dt_of I.hok hD
  have hl0 : xs.length ≤ sizeLine := by rw [← Paired.length rel]; exact z
  have hl1 : (putK kvs k v).length ≤ sizeLine := by have := length_putK kvs k v; omega
  refine wpAny_dictSet_heap (hsz := hl0) (show X.A.units < cLine by omega) (key_of I.hok hb) dd fun h' dd' hs => h _ ?_
  obtain ⟨q, es, ep, hq, h2, h3, h4, _, h5⟩ := dd'
  refine d_write I (by rw [hD]; exact True.intro) hs ⟨q, hq⟩ ⟨hl1, hd, _, (rel.put k hb rv).keeps fun c ys ec => ?_, q, es, ep, hq, h2, h3, h4, h5⟩
  rw [upd_ne (ne_of ec hD (fun z => nomatch z))]
  exact ec
section
variable {X : Cx}
/-- a dict comprehension whose keys are tuples of whole numbers or texts; it follows the library's rule for plain keys (HandS.DictComp) -/
def tDcT (wi : TI) (g : TG) (tt : TT) (tk tv : TE) (vs : List Nat) : TE := fun σ H Q => wi σ H fun J H1 => ∀ D, H1 D = none → ∃ W : Nat → Nat → Hp → Prop, (∃ m, W 0 m (upd H1 D (.dT []))) ∧ ∀ i m H, W i m H →
  (J.stop i H ∧ Q (.ref D) H) ∨ (J.go i H ∧ ∃ Nx : Hp → Prop, (∀ H', Nx H' → ∃ m', m' < m ∧ W (i + 1) m' H') ∧ ∀ x H', J.yld i H x H' → g x (wipe σ vs) H' fun σ2 H2 => wipe σ2 vs = wipe σ vs ∧ tt σ2 H2 fun b H3 =>
    if b = true then tk σ2 H3 fun y H4 => tv σ2 H4 fun z H5 => ∃ kvs k b, y = .ref b ∧ H5 b = some (.tup (k.map kV)) ∧ H5 D = some (.dT kvs) ∧ kvs.length < sizeLine ∧ Nx (upd H5 D (.dT (putK kvs k z))) else Nx H3)
theorem dcT_core {pins : List (Addr × Obj)} {s : Shared} {σ : L2.St} {H : Hp} {Q : VK} {kx vx tg iter : Expr} {ifs : List Expr} {scope : Scope} {own : List (Str × Nat)} {pos pos' : Pos} {wi : TI} {g : TG} {tt : TT} {tk tv : TE} {use : Option (Value → Sem Unit)} {Qf : Value → Shared → Prop}
    (hu : X.A.units + 1 < cLine) (hc : X.calm = true) (hN : X.N.Nodup) (I : Inv X pins σ H s) (hi : PI X tg iter wi) (ok : BlkOk X.N X.env.scope scope own)
    (hg : ∀ (s : Shared) (H : Hp) (C : Addr) (cl : List (Str × Addr)) (fp : List Addr), PG (X.blk s H scope (compEnvC scope cl C X.env) fp) tg g) (ht : ∀ (s : Shared) (H : Hp) (C : Addr) (cl : List (Str × Addr)) (fp : List Addr), PTs (X.blk s H scope (compEnvC scope cl C X.env) fp) ifs tt)
    (hk : ∀ (s : Shared) (H : Hp) (C : Addr) (cl : List (Str × Addr)) (fp : List Addr), PE (X.blk s H scope (compEnvC scope cl C X.env) fp) kx tk)
    (he : ∀ (s : Shared) (H : Hp) (C : Addr) (cl : List (Str × Addr)) (fp : List Addr), PE (X.blk s H scope (compEnvC scope cl C X.env) fp) vx tv) (hs : ∀ x, foldedSetIterable iter X.env x = pure x)
    (h : tDcT wi g tt tk tv (own.map (·.2)) σ H Q)
    (hRR : ∀ D C s' m H', Inv X pins σ H' s' → Q (.ref D) H' → s'.heap.Ns C m → FpOk X pins H' C → compPost (model X.prog X.w) X.A X.xe use Qf (.ref D) C (.ok .next) s') :
    wpAny (model X.prog X.w) X.A (comprehension (.DictComp kx vx [⟨tg, iter, ifs, 0⟩] scope pos) scope X.env pos' newDict false (eval iter X.env) use) Qf X.xe s := by
  have hfree : ∀ y ∈ scope.names, y.2 = .free → ∃ c, X.env.cells.lookup y.1 = some c := fun y hy e => by
    rcases ok.free y hy e with k | k
    · exact I.ok.has _ (.inl k)
    · exact I.ok.has _ (.inr k)
  refine wpAny_comprehension_free (use := use) rfl hs (closure_ok hfree) ok.kind (fun y hy e => by rw [ok.uniq y hy, e])
    (thn (hi.run pins s σ H _ I h) fun xv s1 hx => thn hx fun itv s2 h2 => ?_)
  obtain ⟨it, fp, tn, J, H2, e, I2, T, st2, f2, q⟩ := h2
  subst e
  refine wpAny_newObj_type (newEnv_comp ?_)
  generalize hD : s2.heap.objs.size = D
  have hDn : H2 D = none := I2.hok.fresh (Nat.le_of_eq hD)
  obtain ⟨W, ⟨m0, w0⟩, turn⟩ := q D hDn
  -- the new list
  generalize hs3 : ({ s2 with heap := s2.heap.push { cls := .type "dict", data := .dict #[] } } : Shared) = s3
  have I3 : Inv X pins σ (upd H2 D (.dT [])) s3 := by
    rw [← hs3]
    refine I2.laid (t' := s2.toks) (fun b o e => Heap.get?_push_of_some _ e) (Nat.le_of_eq hD) ?_
    rw [← hD]
    exact dt_empty s2.heap I2.big
  have h3 : s3.heap = s2.heap.push { cls := .type "dict", data := .dict #[] } := by rw [← hs3]
  have sz : ∀ b ∈ fp, b < s2.heap.objs.size := fun b hb => by
    obtain ⟨o, e, _⟩ := T.obj _ _ st2 b hb
    exact Heap.lt_size e
  have f3 : ∀ b ∈ fp, FpOk X pins (upd H2 D (.dT [])) b ∧ b < s3.heap.objs.size := fun b hb => by
    have hlt := sz b hb
    refine ⟨⟨?_, (f2 b hb).2⟩, by rw [h3, Heap.size_push]; exact Nat.lt_succ_of_lt hlt⟩
    rw [upd_ne (by rw [← hD]; exact Nat.ne_of_lt hlt)]
    exact (f2 b hb).1
  have st3 : tn 0 s3.heap := T.keep _ _ _ st2 fun b _ o e => by rw [h3]; exact Heap.get?_push_of_some _ e
  have I4 := block_start I3 ok hN f3
  have pg := hg s3 (upd H2 D (.dT [])) s3.heap.objs.size (cellsFrom (s3.heap.objs.size + 1) scope.names (cloFrom X.env.cells scope.names [])) fp
  have pt := ht s3 (upd H2 D (.dT [])) s3.heap.objs.size (cellsFrom (s3.heap.objs.size + 1) scope.names (cloFrom X.env.cells scope.names [])) fp
  have pk := hk s3 (upd H2 D (.dT [])) s3.heap.objs.size (cellsFrom (s3.heap.objs.size + 1) scope.names (cloFrom X.env.cells scope.names [])) fp
  have pe := he s3 (upd H2 D (.dT [])) s3.heap.objs.size (cellsFrom (s3.heap.objs.size + 1) scope.names (cloFrom X.env.cells scope.names [])) fp
  show codeAny _ _ (.compStart (.DictComp kx vx [⟨tg, iter, ifs, 0⟩] scope pos) 0 (.ref it) (.ref D) (compEnvC scope (cellsFrom (s3.heap.objs.size + 1) scope.names (cloFrom X.env.cells scope.names [])) s3.heap.objs.size X.env)) (compPost (model X.prog X.w) X.A X.xe use Qf (.ref D) s3.heap.objs.size) { s3 with heap := pushCells (s3.heap.push { cls := .type "dict", data := .dict #[] }) scope.names }
  have nfp : ∀ b ∈ fp, (upd H2 D (.dT [])) b = none := fun b hb => (f3 b hb).1.1
  generalize hce : compEnvC scope (cellsFrom (s3.heap.objs.size + 1) scope.names (cloFrom X.env.cells scope.names [])) s3.heap.objs.size X.env = ce at I4 pg pt pk pe ⊢
  have cL : ce.locals = s3.heap.objs.size := by subst hce; rfl
  generalize hH3 : upd H2 D (.dT []) = H3 at I3 I4 pg pt pk pe w0 nfp f3
  generalize hs4 : ({ s3 with heap := pushCells (s3.heap.push { cls := .type "dict", data := .dict #[] }) scope.names } : Shared) = s4 at I4 ⊢
  have st4 : tn 0 s4.heap := T.keep _ _ _ st3 fun b _ o e => by rw [← hs4]; exact pushCells_keeps _ _ _ _ (Heap.get?_push_of_some _ e)
  have stat : ∀ {σ' : L2.St} {H' : Hp} {s' : Shared}, Inv (X.blk s3 H3 scope ce fp) [] σ' H' s' → (∀ b ∈ fp, H' b = none) → ∀ b ∈ fp, FpOk (X.blk s3 H3 scope ce fp) [] H' b := fun {σ' H' s'} I' hn b hb =>
    ⟨hn b hb, (I'.ok.exf b hb).1, I'.ok.exfs b hb, .inl hb, fun x c e => (I'.ok.exf b hb).2 x c e, fun p hp => absurd (show p ∈ ([] : List (Addr × Obj)) ++ [] from hp) (by simp)⟩
  have loop : codeAny (model X.prog X.w) X.A (.compLoop (.DictComp kx vx [⟨tg, iter, ifs, 0⟩] scope pos) 0 (.ref it) (.ref D) ce) (compPost (model X.prog X.w) X.A X.xe use Qf (.ref D) s3.heap.objs.size) s4 := by
    refine compLoop_anyD (fun n s' => ∃ i H', Inv (X.blk s3 H3 scope ce fp) [] (wipe σ (own.map (·.2))) H' s' ∧ tn i s'.heap ∧ (∀ b ∈ fp, H' b = none) ∧ W i n H') ?_ m0 ⟨0, H3, I4, st4, nfp, w0⟩
    rintro n s5 ⟨i, H5, I5, st5, n5, w5⟩
    rcases turn i n H5 w5 with ⟨stop, qq⟩ | ⟨go, Nx, hNx, step⟩
    · have td := T.done (X.blk s3 H3 scope ce fp) rfl rfl rfl hc i [] s5 _ H5 (fun _ _ => False) I5 (stat I5 n5) st5 stop
      refine thnF td fun r s6 ⟨hr, I6⟩ => ?_
      subst hr
      -- back in the def's context
      have I7 : Inv X pins σ H5 s6 := I3.call' (ch := fp) I6.os I6.base I6.hok I6.bare fun b hb => ⟨(f3 b hb).1.2.2.2.1, (f3 b hb).1.2.1, (f3 b hb).1.2.2.2.2.1, (f3 b hb).1.2.2.2.2.2⟩
      have nC : H5 s3.heap.objs.size = none := by
        have z : H5 ce.locals = none := I6.free
        rw [cL] at z
        exact z
      obtain ⟨m, hn, _⟩ := I6.loc
      have hn : s6.heap.Ns ce.locals m := hn
      rw [cL] at hn
      exact hRR D s3.heap.objs.size s6 m H5 I7 qq hn (I3.fpOk (Nat.le_refl _) nC)
    · have ti := T.item (X.blk s3 H3 scope ce fp) rfl rfl rfl hc i [] s5 _ H5 (fun _ _ => False) I5 (stat I5 n5) st5 go
      refine thnF ti fun r s6 ⟨u, hr, h6⟩ => ?_
      subst hr
      refine thnF h6 fun _ s7 ⟨x, H7, I7, r7, y7, st7, n7⟩ => ?_
      have I7' := I7.pinned (stat I7 n7) (T.obj _ _ st7)
      refine thnF (pg.run _ s7 _ H7 x u _ I7' r7 (step x H7 y7)) fun _ s8 ⟨σ8, H8, I8, hw8, q8⟩ => ?_
      refine thnF (pt.run _ s8 σ8 H8 _ I8 q8) fun b s9 ⟨H9, I9, q9⟩ => ?_
      -- the turn's end
      have fin : ∀ {s' : Shared} {H' : Hp}, Inv (X.blk s3 H3 scope ce fp) ([] ++ pinsAt fp s7.heap) σ8 H' s' → Nx H' → ∃ m, m < n ∧ ∃ i H', Inv (X.blk s3 H3 scope ce fp) [] (wipe σ (own.map (·.2))) H' s' ∧ tn i s'.heap ∧ (∀ b ∈ fp, H' b = none) ∧ W i m H' := fun {s' H'} I' nx => by
        obtain ⟨m', hm, w'⟩ := hNx H' nx
        have pin' : ∀ b ∈ fp, ∀ o, s7.heap.get? b = some o → s'.heap.get? b = some o ∧ H' b = none := fun b hb o e =>
          let z := I'.pin (b, o) (List.mem_append_right _ (List.mem_append_right _ (mem_pinsAt hb e)))
          ⟨z.1, z.2.1⟩
        have hl : (wipe σ (own.map (·.2))).length = σ8.length := by rw [← hw8, wipe_length]
        refine ⟨m', hm, i + 1, H', (I'.unpinned (pins := [])).weak hl (fun j v e => ?_), T.keep _ _ _ st7 fun b hb o e => (pin' b hb o e).1, fun b hb => ?_, w'⟩
        · rw [← hw8] at e
          exact (wipe_some e).1
        · obtain ⟨o, e, _⟩ := T.obj _ _ st7 b hb
          exact (pin' b hb o e).2
      cases b with
      | false =>
        simp only [Bool.false_eq_true, if_false] at q9 ⊢
        exact fin I9 q9
      | true =>
        simp only [if_true] at q9 ⊢
        refine thnF (pk.run _ s9 σ8 H9 _ I9 q9) fun z s10 ⟨yk, H10, I10, r10, q10⟩ => ?_
        refine thnF (pe.run _ s10 σ8 H10 _ I10 q10) fun z2 s11 ⟨yv, H11, I11, r11, kvs, k, kb, ek, hkb, hD11, hz11, nx⟩ => ?_
        subst ek
        exact d_dictSetT (X := X.blk s3 H3 scope ce fp) hu I11 hD11 hz11 hkb r10 r11 fun s12 I12 => fin I12 nx
  exact codeAny_compStart_dict loop (T.self X.A 0 _ _ _ st4 loop)
/-- as a value -/
theorem pe_dcT {kx vx tg iter : Expr} {ifs : List Expr} {scope : Scope} {own : List (Str × Nat)} {pos : Pos} {wi : TI} {g : TG} {tt : TT} {tk tv : TE} (hu : X.A.units + 1 < cLine) (hc : X.calm = true) (hN : X.N.Nodup) (hi : PI X tg iter wi) (ok : BlkOk X.N X.env.scope scope own)
    (hg : ∀ (s : Shared) (H : Hp) (C : Addr) (cl : List (Str × Addr)) (fp : List Addr), PG (X.blk s H scope (compEnvC scope cl C X.env) fp) tg g) (ht : ∀ (s : Shared) (H : Hp) (C : Addr) (cl : List (Str × Addr)) (fp : List Addr), PTs (X.blk s H scope (compEnvC scope cl C X.env) fp) ifs tt)
    (hk : ∀ (s : Shared) (H : Hp) (C : Addr) (cl : List (Str × Addr)) (fp : List Addr), PE (X.blk s H scope (compEnvC scope cl C X.env) fp) kx tk)
    (he : ∀ (s : Shared) (H : Hp) (C : Addr) (cl : List (Str × Addr)) (fp : List Addr), PE (X.blk s H scope (compEnvC scope cl C X.env) fp) vx tv) (hs : ∀ x, foldedSetIterable iter X.env x = pure x := by intro _; rfl) :
    PE X (.DictComp kx vx [⟨tg, iter, ifs, 0⟩] scope pos) (tDcT wi g tt tk tv (own.map (·.2))) := by
  refine ⟨fun pins s σ H Q I h => ?_⟩
  rw [arm_eval_DictComp]
  refine dcT_core hu hc hN I hi ok hg ht hk he hs h fun D C s' m H' I' q hn f => ⟨m, hn, fun h'' sb => ?_⟩
  obtain ⟨f0, f1, f2, f3, f4, f5⟩ := f
  exact ⟨.ref D, H', I'.turned (t' := s'.toks) (fun b o hb e => (sb.2 b hb).trans e) f0 f1 f3 f4 f5, rfl, q⟩
end
/-! ### sorted of tuples of whole numbers, of any lengths from one on: some order of them -/
theorem keysC {shape : Nat → Bool} (hs : ∀ i, shape i = false) : ∀ (i : Nat) (l : List Int) (us : List Value), Vals (l.map V.int) us → ∃ r, tupItems shape i us = some r
  | i, [], us, r => by cases r; exact ⟨[], by simp [tupItems]⟩
  | i, x :: l, us, r => by
    cases r with
    | cons a b =>
      obtain ⟨t, rfl⟩ := a
      obtain ⟨r', e⟩ := keysC hs (i + 1) l _ b
      exact ⟨Sum.inl x :: r', by simp [tupItems, hs, e]⟩
/-- sorted of a list of tuples of whole numbers: a new list of the same tuples, in some order -/
def rSortedTs (K : PySem.W.Frag) : List V → Hp → VK → Prop := fun vs H Q => ∃ (a : Addr) (bs : List Addr), vs = [V.ref a] ∧ SqL K H a (bs.map V.ref) ∧ (∀ b ∈ bs, ∃ l : List Int, l ≠ [] ∧ H b = some (.tup (l.map V.int))) ∧
  ∀ (bs' : List Addr) (p : Addr), bs'.Perm bs → H p = none → Q (.ref p) (upd H p (.lst (bs'.map V.ref)))
theorem refs_of : ∀ {bs : List Addr} {us : List Value}, Vals (bs.map V.ref) us → us = bs.map Value.ref
  | [], _, r => by cases r; rfl
  | b :: bs, _, r => by
    cases r with
    | cons x y =>
      cases x
      rw [refs_of y]
      rfl
theorem vals_refs : ∀ bs : List Addr, Vals (bs.map V.ref) (bs.map Value.ref)
  | [] => .nil
  | b :: bs => .cons rfl (vals_refs bs)
section
variable {X : Cx}
theorem tups_of {pins : List (Addr × Obj)} {σ : L2.St} {H : Hp} {s : Shared} (I : L2.Inv X pins σ H s) : ∀ bs : List Addr, (∀ b ∈ bs, ∃ l : List Int, l ≠ [] ∧ H b = some (.tup (l.map V.int))) →
    (∃ fs, PyProof.Rows.TupsOf s.heap (fun _ => false) (bs.map Value.ref) fs) ∧ ∀ v ∈ bs.map Value.ref, ∃ l, PyProof.Rows.G.tupKeyC s.heap (fun _ => false) v = some l
  | [], _ => ⟨⟨[], .nil⟩, fun v hv => absurd hv (by simp)⟩
  | b :: bs, h => by
    obtain ⟨⟨fs, t⟩, k⟩ := tups_of I bs fun x hx => h x (List.mem_cons_of_mem _ hx)
    obtain ⟨l, hl, hb⟩ := h b List.mem_cons_self
    obtain ⟨_, its, r, o, ho, hc, n, hd⟩ := I.hok _ _ hb
    obtain ⟨r', e'⟩ := keysC (shape := fun _ => false) (fun _ => rfl) 0 l _ r
    have hk : ∃ l, PyProof.Rows.G.tupKeyC s.heap (fun _ => false) (.ref b) = some l := by
      refine ⟨r', ?_⟩
      unfold PyProof.Rows.G.tupKeyC
      rw [if_pos (by simp [PyProof.Rows.G.isTupObj, ho, hc])]
      simp only [tupKey, ho, hd]
      exact e'
    cases l with
    | nil => exact absurd rfl hl
    | cons x l =>
      cases r with
      | cons r1 r2 =>
        obtain ⟨t1, rfl⟩ := r1
        refine ⟨⟨_, .cons (f := .int x t1) ⟨b, o, _, n, rfl, ho, hc, hd, ?_, fun _ => ⟨x, t1, rfl⟩, fun z => nomatch z⟩ t⟩, fun v hv => ?_⟩
        · simp
        · rcases List.mem_cons.mp hv with e | hv
          · rw [e]
            exact hk
          · exact k v hv
theorem cr_sortedTs : CallR X (.builtin "sorted") (rSortedTs X.K) := by
  intro pins s σ H vs us Q I r h
  obtain ⟨a, bs, rfl, hs, hb, q⟩ := h
  obtain ⟨its, rv, hl, hz⟩ := I.list hs
  rw [Vals.ref1 r]
  obtain rfl := refs_of rv
  obtain ⟨⟨fs, t⟩, k⟩ := tups_of I bs hb
  refine PyProof.Rows.G.sorted_tups (shape := fun _ => false) hl.isList t k (by rw [← rv.length]; exact hz) fun st' p1 _ _ => ?_
  have hp : ((arrOf st').map (·.2)).toList.Perm (bs.map Value.ref) := by
    have q1 := (Array.Perm.toList p1).map (·.2)
    rw [pairsOf_toList] at q1
    rw [Array.toList_map]
    refine q1.trans ?_
    rw [show (fun x : Keyed => x.2) = Prod.snd from rfl, List.map_snd_zip (Nat.le_refl _)]
  obtain ⟨bs', e, pb⟩ : ∃ bs' : List Addr, ((arrOf st').map (·.2)).toList = bs'.map Value.ref ∧ bs'.Perm bs := by
    have hall : ∀ u ∈ ((arrOf st').map (·.2)).toList, ∃ b, u = Value.ref b := fun u hu => by
      obtain ⟨b, _, e⟩ := List.mem_map.mp (hp.mem_iff.mp hu)
      exact ⟨b, e.symm⟩
    generalize ((arrOf st').map (·.2)).toList = out at hp hall
    let g : Value → Addr := fun v => match v with | .ref b => b | _ => 0
    have e1 : out = (out.map g).map Value.ref := by
      rw [List.map_map]
      refine (List.map_id _).symm.trans (List.map_congr_left fun x hx => ?_)
      obtain ⟨b, rfl⟩ := hall x hx
      rfl
    refine ⟨out.map g, e1, ?_⟩
    have q2 := hp.map g
    rw [List.map_map] at q2
    have e2 : (g ∘ Value.ref) = id := by
      funext b
      rfl
    rwa [e2, List.map_id] at q2
  obtain ⟨ep, he'⟩ := PyProof.Rows.sortedAll_at s.heap (bs.map Value.ref) ((arrOf st').map (·.2))
  have hlen : (bs'.map V.ref).length ≤ sizeLine := by
    rw [List.length_map, pb.length_eq]
    rw [List.length_map] at hz
    exact hz
  have hat : (sortedAll s.heap (bs.map Value.ref) ((arrOf st').map (·.2))).get? (s.heap.objs.size + 1) = some (seqObj "list" (bs'.map Value.ref).toArray ep) := by
    rw [← e]
    exact he'
  exact ⟨.ref _, upd H (s.heap.objs.size + 1) (.lst (bs'.map V.ref)), I.laid (t' := s.toks) (fun _ _ => PyProof.Rows.sortedAll_old) (Nat.le_succ _) ⟨hlen, bs'.map Value.ref, ep, vals_refs bs', hat⟩, rfl, q _ _ pb (I.hok.fresh (Nat.le_succ _))⟩
end
end Hou
set_option Elab.async false
set_option linter.all false
set_option maxRecDepth 100000
set_option autoImplicit false
/-! defs that are called while no repr is under way: what HandS says of a def, with that known (adapted from HandS.Call's rule for a def) -/
namespace Hou
open PySem PySem.Spec PyProof.Rows L2
structure FnG (P : Program) (w : World) (K : PySem.W.Frag) (mg : Str → Option Value) (base : Heap) (k : Nat) (f : Addr) (fd : FuncData) (ps : List Str) (sp : Sp) : Prop where
  len : ∀ vs H Q E, sp vs H Q E → vs.length = ps.length
  run : ∀ (A : Around) (outer : List Env) (s : Shared) (H : Hp) (args : Args) (us : List Value) (vs : List V) (Q : VK) (E : XK), Room k A → A.guards = some [] → Env0 P w K mg base A outer s H → BindsTo s fd args (ps.zip us) → Vals vs us → sp vs H Q E →
    codeAny (model P w) A (.call (.ref f) args) (CR CX0 outer P w H s Q E) s
structure GDef (P : Program) (w : World) (K : PySem.W.Frag) (mg : Str → Option Value) (base : Heap) (k : Nat) (x : Str) (st : Stmt) (ps : List Str) (sp : Sp) : Prop where
  ex : ∃ (f : Addr) (fd : FuncData), FnG P w K mg base k f fd ps sp ∧ Fun K x x st f fd ∧ mg x = some (.ref f) ∧ Binds K fd ps []
section
variable {P : Program} {w : World} {K : PySem.W.Frag} {mg : Str → Option Value} {base : Heap} {k : Nat} {x q m : Str} {st : Stmt} {C : Addr} {N ps : List Str} {sp : Sp}
theorem fnG_of {f : Addr} {fd : FuncData} (F : Fun K x q st f fd) (S : FnScope N ps (defScope st)) (len : ∀ vs H Q E, sp vs H Q E → vs.length = ps.length)
    (hbody : ∀ (cdv : Value) (A : Around) (outer : List Env) (s : Shared) (H : Hp) (vs : List V) (Q : VK) (E : XK), Room k (A.deeper (envOfC q (defScope st) s.heap.objs.size f cdv)) → A.guards = some [] → sp vs H Q E →
      ∃ t, PSs (cxOf CX0 P w K mg base N q (defScope st) f cdv A outer s H E) (defBody st) t ∧ t { nx := fun _ H' => Q .non H', rt := Q } (start N vs) H) : FnG P w K mg base (k + 1) f fd ps sp := by
  obtain ⟨oc, od, kV, doc, pm, an, cdv, ct, osl, rfl, lk, hcd⟩ := F.ex
  refine ⟨len, fun A outer s H args us vs Q E hr hg e0 hb r hsp => ?_⟩
  have hl := len _ _ _ _ hsp
  have KX : K.In s.heap := e0.mod.kin.keeps fun b o e => (e0.bs b o e).1
  have lim : s.heap.NoLimit := e0.mod.nolimit.keeps fun b o e => (e0.bs b o e).1
  have hkind : ∀ y ∈ ps.zip us, (defScope st).names.lookup y.1 = some .local ∨ ((defScope st).names.lookup y.1 = some .cell ∧ ((cellsFrom (s.heap.objs.size + 1) (defScope st).names []).lookup y.1).isSome = true) := fun ⟨n, v⟩ hy =>
    (S.par n (List.of_mem_zip hy).1).elim (fun q => .inl q) fun q => .inr ⟨q, PySem.W.cellsFrom_some _ _ _ (.inl q)⟩
  refine codeAny_call_function hr.depth (KX _ _ lk) rfl S.co S.gen rfl (PySem.W.codeRec_of KX hcd) (hb _ _ _ _ ?_)
  refine wpAny_newFunctionEnv_cells S.kind hkind fun env he s1 x1 => ?_
  subst he
  refine ⟨lim.keeps x1.toInCall.keep, codeAny_func ?_⟩
  obtain ⟨t, ht, hq⟩ := hbody cdv A outer s H vs Q E (hr.deeper _) hg hsp
  have I := inv_start (CX := CX0) (E := E) S hr.hd e0 hl r x1
  refine wpAny_mono (ht.run [] s1 (start N vs) H _ I hq) (fun fl s' hs => ?_) fun e s' hs => hs
  cases fl with
  | ret u => exact let ⟨v, _, H', J, rv, z⟩ := hs; ⟨v, H', J.os, J.bare, J.base, J.hok, rv, z⟩
  | next => exact let ⟨_, H', J, z⟩ := hs; ⟨V.non, H', J.os, J.bare, J.base, J.hok, rfl, z⟩
  | brk => exact let ⟨_, _, _, z⟩ := hs; False.elim z
  | cont => exact let ⟨_, _, _, z⟩ := hs; False.elim z
theorem Top.okG (T : Top K mg x st ps) (S : FnScope N ps (defScope st)) (len : ∀ vs H Q E, sp vs H Q E → vs.length = ps.length)
    (hbody : ∀ (f : Addr) (cdv : Value) (A : Around) (outer : List Env) (s : Shared) (H : Hp) (vs : List V) (Q : VK) (E : XK), Room k (A.deeper (envOfC x (defScope st) s.heap.objs.size f cdv)) → A.guards = some [] → sp vs H Q E →
      ∃ t, PSs (cxOf CX0 P w K mg base N x (defScope st) f cdv A outer s H E).nox (defBody st) t ∧ t { nx := fun _ H' => Q .non H', rt := Q } (start N vs) H) : GDef P w K mg base (k + 1) x st ps sp := by
  obtain ⟨f, fd, F, h, b⟩ := T.ex
  exact ⟨f, fd, fnG_of F S len fun cdv A outer s H vs Q E hr hg hsp => let ⟨t, p, z⟩ := hbody f cdv A outer s H vs Q E hr hg hsp; ⟨t, p.nox, z⟩, F, h, b⟩
end
section
variable {X : Cx} {k : Nat} {ps : List Str} {st : Stmt} {sp : Sp} {x : Str} {p pos : Pos} {e : Expr} {es : List Expr} {t : TA}
theorem pe_defG (D : GDef X.prog X.w X.K X.mg X.base k x st ps sp) (hr : Room k X.A) (hgd : X.A.guards = some []) (hg : Gl X x) (ha : PA X (e :: es) t) (hdb : (x == ("__debug__" : Str)) = false := by decide)
    (he : starEach (e :: es) X.env = (false, eval e X.env) :: starEach es X.env := by rfl) (hpl : (backTo pos (starEach es X.env)).any (·.1) = false := by rfl) :
    PE X (.Call (.Name x p) (e :: es) [] pos) (tCall sp [] E0 t) := by
  obtain ⟨f, fd, F, G, hm, hb⟩ := D.ex
  refine ⟨fun pins s σ H Q I h => wpAny_Call_Name_kw (ld_glob I hg hm ?_ hdb)⟩
  refine PySem.W.callWith_K (h₀ := X.base) I.ok.mod.kin G.kp (thn (ha.run pos pins s σ H _ I h) fun us s1 ⟨vs, H1, I1, r, q⟩ => ⟨I1.kIn, ?_⟩) he hpl
  have q' : sp vs H1 Q E0 := by rw [← List.append_nil vs]; exact q
  have b := hb s1 us I1.kIn (by rw [List.append_nil, ← r.length]; exact F.len _ _ _ _ q')
  rw [List.append_nil] at b
  refine wpAny_call (codeAny_mono (F.run X.A X.stack s1 H1 ⟨us, []⟩ us vs Q E0 hr hgd I1.env0 b r q') fun r s' hq => ?_)
  cases r with
  | error e => exact pass0 pins σ H1 s1 e s' I1 hq
  | ok fl =>
    cases fl with
    | ret u => exact I1.after hq
    | next => exact False.elim hq
    | brk => exact False.elim hq
    | cont => exact False.elim hq
end
/-! ### repr of tuples of numbers and of tuples of numbers -/
abbrev IT := Int ⊕ List Int
def dI : IT → PyData
  | .inl i => .int i
  | .inr l => .tuple (l.map .int)
def shT (l : List IT) : Str := (PyData.tuple (l.map dI)).shown
def big : Nat := 10 ^ 500
def okI (i : Int) : Prop := i.natAbs < big
def okIT : IT → Prop
  | .inl i => okI i
  | .inr l => l.length ≤ 20 ∧ ∀ i ∈ l, okI i
inductive ItAt (H : Hp) : V → IT → Prop
  | int (i : Int) : ItAt H (.int i) (.inl i)
  | tup {a : Addr} {l : List Int} : H a = some (.tup (l.map V.int)) → ItAt H (.ref a) (.inr l)
inductive ItsAt (H : Hp) : List V → List IT → Prop
  | nil : ItsAt H [] []
  | cons {v : V} {vs : List V} {d : IT} {ds : List IT} : ItAt H v d → ItsAt H vs ds → ItsAt H (v :: vs) (d :: ds)
theorem big_log {i : Int} (h : okI i) : i.natAbs.log2 < 1920 := by
  by_cases e : i.natAbs = 0
  · rw [e]; decide
  · exact (Nat.log2_lt e).mpr (Nat.lt_trans h (by unfold big; decide +kernel))
theorem sh_int {i : Int} (h : okI i) : (PyData.int i).shown.length ≤ 501 := by
  have e := int_text_length_le10 (k := 500) (by decide) h
  show (Str.ofString (toString i)).length ≤ 501
  rw [PySem.ofString_length]; exact e
theorem sum_le {α : Type} (f : α → Nat) (B : Nat) : ∀ l : List α, (∀ x ∈ l, f x ≤ B) → (l.map f).sum ≤ B * l.length
  | [], _ => Nat.zero_le _
  | a :: l, h => by
    have h1 := h a List.mem_cons_self
    have h2 := sum_le f B l fun x hx => h x (List.mem_cons_of_mem _ hx)
    rw [List.map_cons, List.sum_cons, List.length_cons, Nat.mul_succ]
    omega
theorem shAll (l : List PyData) : PyData.shownAll l = l.map PyData.shown := by
  induction l with
  | nil => rfl
  | cons a l ih => rw [PyData.shownAll, ih]; rfl
theorem sh_tup (l : List PyData) (B : Nat) (h : ∀ d ∈ l, d.shown.length ≤ B) : (PyData.tuple l).shown.length ≤ (B + 2) * l.length + 3 := by
  have e : (PyData.tuple l).shown = tupleText (l.map PyData.shown) := by rw [PyData.shown, shAll]
  have h1 := PySem.tupleText_len_le (l.map PyData.shown)
  rw [e]
  rw [List.map_map, List.length_map] at h1
  have h2 := sum_le (fun d : PyData => d.shown.length) B l h
  have h3 : ((fun x : Str => x.length) ∘ PyData.shown) = fun d : PyData => d.shown.length := rfl
  rw [h3] at h1
  rw [Nat.add_mul]
  omega
theorem sh_it : ∀ {d : IT}, okIT d → (dI d).shown.length ≤ 10063
  | .inl i, h => Nat.le_trans (sh_int h) (by decide)
  | .inr l, h => by
    have h1 := sh_tup (l.map .int) 501 fun d hd => by
      obtain ⟨i, hi, rfl⟩ := List.mem_map.mp hd
      exact sh_int (h.2 i hi)
    rw [List.length_map] at h1
    have h2 := h.1
    show (PyData.tuple (l.map .int)).shown.length ≤ _
    omega
theorem sh_len {l : List IT} (hl : l.length ≤ 3) (h : ∀ d ∈ l, okIT d) : (shT l).length ≤ sizeLine := by
  have h1 := sh_tup (l.map dI) 10063 fun d hd => by
    obtain ⟨i, hi, rfl⟩ := List.mem_map.mp hd
    exact sh_it (h i hi)
  rw [List.length_map] at h1
  refine Nat.le_trans h1 ?_
  have : sizeLine = 16777216 := rfl
  omega
theorem showAll (l : List PyData) : PyData.showableAll l = l.all PyData.showable := by
  induction l with
  | nil => rfl
  | cons a l ih => rw [PyData.showableAll, ih]; rfl
theorem show_it : ∀ {d : IT}, okIT d → (dI d).showable = true
  | .inl i, h => by
    show decide (i.natAbs.log2 < 1920) = true
    exact decide_eq_true (big_log h)
  | .inr l, h => by
    show PyData.showableAll (l.map .int) = true
    rw [showAll, List.all_eq_true]
    intro d hd
    obtain ⟨i, hi, rfl⟩ := List.mem_map.mp hd
    exact decide_eq_true (big_log (h.2 i hi))
theorem show_its {l : List IT} (h : ∀ d ∈ l, okIT d) : (PyData.tuple (l.map dI)).showable = true := by
  show PyData.showableAll (l.map dI) = true
  rw [showAll, List.all_eq_true]
  intro d hd
  obtain ⟨i, hi, rfl⟩ := List.mem_map.mp hd
  exact show_it (h i hi)
theorem ints_dict : ∀ l : List Int, PyData.hasDictAll (l.map .int) = false
  | [] => rfl
  | i :: l => by rw [List.map_cons, PyData.hasDictAll, ints_dict l]; rfl
theorem its_dict : ∀ l : List IT, PyData.hasDictAll (l.map dI) = false
  | [] => rfl
  | .inl i :: l => by rw [List.map_cons, PyData.hasDictAll, its_dict l]; rfl
  | .inr k :: l => by rw [List.map_cons, PyData.hasDictAll, its_dict l]; show (PyData.hasDictAll (k.map .int) || false) = false; rw [ints_dict]; rfl
theorem ints_depth : ∀ l : List Int, PyData.depthAll (l.map .int) = 0
  | [] => rfl
  | i :: l => by rw [List.map_cons, PyData.depthAll, ints_depth l]; rfl
theorem its_depth : ∀ l : List IT, PyData.depthAll (l.map dI) ≤ 1
  | [] => Nat.zero_le _
  | .inl i :: l => by
    have := its_depth l
    rw [List.map_cons, PyData.depthAll]
    show max 0 _ ≤ 1
    omega
  | .inr k :: l => by
    have := its_depth l
    rw [List.map_cons, PyData.depthAll]
    show max (PyData.depthAll (k.map .int) + 1) _ ≤ 1
    rw [ints_depth]
    omega
theorem dps_ints {K : PySem.W.Frag} {H : Hp} : ∀ l : List Int, DpAll K H (l.map V.int) (l.map .int)
  | [] => .nil
  | i :: l => .cons (.int i) (dps_ints l)
theorem ItsAt.dps {K : PySem.W.Frag} {H : Hp} : ∀ {vs : List V} {l : List IT}, ItsAt H vs l → DpAll K H vs (l.map dI)
  | _, _, .nil => .nil
  | _, _, .cons (.int i) r => .cons (.int i) r.dps
  | _, _, .cons (.tup h) r => .cons (.tup (SqT.of h) (dps_ints _)) r.dps
def rReprT : List V → Hp → VK → Prop := fun xs H Q => ∃ (a : Addr) (vs : List V) (l : List IT), xs = [.ref a] ∧ H a = some (.tup vs) ∧ ItsAt H vs l ∧ l.length ≤ 3 ∧ (∀ d ∈ l, okIT d) ∧ Q (.str (shT l)) H
theorem cr_reprT {X : Cx} {k : Nat} (hr : Room k X.A) (hg : X.A.guards = some []) : CallR X (.builtin "repr") rReprT := by
  intro pins s σ H xs us Q I r h
  obtain ⟨a, vs, l, rfl, ha, hi, hl, hok, q⟩ := h
  obtain ⟨u, rfl, ru⟩ := vals1 r
  obtain rfl : u = Value.ref a := ru
  obtain ⟨as, r1⟩ := Dp.reads I (.tuple (l.map dI)) (.ref a) (.ref a) (.tup (SqT.of ha) hi.dps) rfl
  have hu := hr.units
  have hd := its_depth l
  refine repr_of_reads' r1 (show_its hok) (PyData.noDict_hsm (its_dict l)) hg ?_ (fun _ _ e => e) (fun h' u tk hk => ⟨.str _, H, I.kept hk, ⟨u, rfl⟩, q⟩) (sh_len hl hok)
  show X.A.units + (PyData.depthAll (l.map dI) + 1 + 1) < cLine
  omega
/-- repr of a truth value -/
theorem cr_reprB {X : Cx} : CallR X (.builtin "repr") (fun xs H Q => ∃ b, xs = [.bl b] ∧ Q (.str (if b then "True" else "False")) H) := by
  intro pins s σ H xs us Q I r h
  obtain ⟨b, rfl, q⟩ := h
  obtain ⟨u, rfl, ru⟩ := vals1 r
  cases ru
  exact PySem.P.repr_of_bool ⟨.str _, H, I.tok _, ⟨_, rfl⟩, q⟩
/-! ### a tuple not in a tuple -/
def rNotInT (K : PySem.W.Frag) : R2 := fun x y H Q => ∃ d ds, Dp K H x d ∧ Dp K H y (.tuple ds) ∧ SeqAt.shaped d = true ∧ SeqAt.shaped (.tuple ds) = true ∧ Q (.bl (!ds.any fun z => PyData.eqv z d)) H
theorem op_notInT {X : Cx} (hu : X.A.units + 65 < cLine) : OpR X (compareOp .NotIn) (rNotInT X.K) := by
  intro pins s σ H x y v u Q I rx ry h
  obtain ⟨d, ds, hd, he, sd, se, q⟩ := h
  obtain ⟨as, r1⟩ := Dp.reads I d x v hd rx
  obtain ⟨bs, r2⟩ := Dp.reads I (.tuple ds) y u he ry
  exact SeqAt.notIn_tuple_reads r2 r1 (SeqAt.canLay_of_shaped se) (SeqAt.canLay_of_shaped sd) (room_in_shaped sd hu) ⟨.bl _, H, I, rfl, q⟩
end Hou
set_option Elab.async false
set_option linter.all false
set_option maxRecDepth 100000
set_option autoImplicit false
set_option maxHeartbeats 2000000
/-! x != x by an own __eq__ (the class has no __ne__ of its own) -/
namespace Hou
open PySem PySem.Spec PyProof.Rows L2
section
variable {prog : Program} {w : World} {A : Around} {E : Value → Shared → Prop} {s : Shared} {K : PySem.W.Frag} {x C f : Addr} {ox : Obj} {od : Option Obj}
theorem ifBound_objNe {M : Model} {args : List Value} {Q : Option Value → Shared → Prop} (X : K.In s.heap) (I : PySem.W.InstAt s.heap x ox C od) (hs : PySem.W.findIn K (.ref C) "__ne__" = some (some (.builtin "object.__ne__")))
    (h : wpAny M A (call (.builtin "object.__ne__") (.ref x :: args)) (fun v => Q (some v)) E s) : wpAny M A (callSpecialIfBound? (.ref x) "__ne__" args) Q E s := by
  simp only [callSpecialIfBound?, bindSpecialIfBound?]
  refine wpAny_holding (wpAny_bind (wpAny_bind (wpAny_bind (I.type.here ((PySem.W.looks_findIn X hs).here ?_)))))
  refine wpAny_bind (wpAny_askSetting (wpAny_ite ?_))
  have fin : wpAny M A (call (.builtin "object.__ne__") ([.ref x] ++ args) >>= fun v => pure (some v)) Q E s := wpAny_bind (wpAny_mono h (fun v s' h' => wpAny_pure h') fun _ _ h' => h')
  split
  · exact wpAny_bind (wpAny_of_eq (F.cmp_object.ne.bind _) (wpAny_pure (by exact fin)))
  · exact wpAny_tryCatch (wpAny_bind (wpAny_of_eq (F.cmp_object.ne.bind _) (wpAny_pure (by exact fin))))
theorem call_objNe {Q : Value → Shared → Prop} (hu : A.units + 1 < cLine) (X : K.In s.heap) (I : PySem.W.InstAt s.heap x ox C od) (hm : PySem.W.mroIn K C (.type "object") = some true)
    (hs : PySem.W.findIn K (.ref C) "__eq__" = some (some (.ref f))) (hf : PySem.W.isFn K (.ref f) = true)
    (h : wpAny (model prog w) A.in1 (call (.ref f) [.ref x, .ref x]) (fun v s' => v = .bool true ∧ Q (.bool false) s') E s) :
    wpAny (model prog w) A (call (.builtin "object.__ne__") [.ref x, .ref x]) Q E s := by
  refine wpAny_call (codeAny_call_builtin F.cmp_object.ne.plain F.cmpEntry_ne (PySem.W.check_slot F.cmpKind_ne F.cmpSplit_ne (I.type.andThen (PySem.W.looks_mroIn X hm)) (F.cmpArgs_ne _ _) ?_))
  unfold Builtin.«object.__ne__»
  have k : ∀ {Q' : Option Value → Shared → Prop}, (∀ s', Q (.bool false) s' → Q' (some (.bool true)) s') → wpAny (model prog w) A.in1 (callSpecialIfBound? (.ref x) "__eq__" [.ref x]) Q' E s := fun {Q'} z =>
    PySem.W.ifBound_K X I hs hf (wpAny_mono h (fun v s' y => by rw [y.1]; exact z s' y.2) fun _ _ z => z)
  have hu1 : A.in1.units < cLine := hu
  repeat (first | with_reducible refine wpAny_cRoomFor hu1 ?_ | (with_reducible refine k ?_; intro s' z) | wp_step)
  exact z
theorem rc_neSelf {Q : Value → Shared → Prop} (hu : A.units + 1 < cLine) (X : K.In s.heap) (I : PySem.W.InstAt s.heap x ox C od) (hm : PySem.W.mroIn K C (.type "object") = some true)
    (hs : PySem.W.findIn K (.ref C) "__eq__" = some (some (.ref f))) (hn : PySem.W.findIn K (.ref C) "__ne__" = some (some (.builtin "object.__ne__"))) (hf : PySem.W.isFn K (.ref f) = true)
    (h : wpAny (model prog w) A.in1 (call (.ref f) [.ref x, .ref x]) (fun v s' => v = .bool true ∧ Q (.bool false) s') E s) :
    wpAny (model prog w) A (richCompare .NotEq (.ref x) (.ref x)) Q E s := by
  have one : wpAny (model prog w) A (tryCompare (.ref x) "__ne__" (.ref x)) (fun r s' => r = some (.bool false) ∧ Q (.bool false) s') E s := by
    unfold tryCompare
    refine wpAny_bind (ifBound_objNe X I hn (call_objNe hu X I hm hs hf (wpAny_mono h (fun v s' z => ⟨z.1, ?_⟩) fun _ _ z => z)))
    exact wpAny_pure ⟨rfl, z.2⟩
  have hu0 : A.units < cLine := by omega
  simp only [richCompare, cmpInfo_NotEq, oneThing_ref]
  refine wpAny_holding (wpAny_bind (wpAny_cRoomFor hu0 ?_))
  refine wpAny_bind (I.type.here (wpAny_bind (I.type.here ?_)))
  split
  · rename_i q
    simp at q
  · refine wpAny_bind (wpAny_pure ?_)
    simp only [Bool.false_eq_true, if_false]
    refine wpAny_bind (m := tryCompare (.ref x) _ (.ref x)) (wpAny_mono one (fun r s1 z => ?_) fun _ _ e => e)
    obtain ⟨z1, z2⟩ := z
    subst z1
    exact wpAny_pure z2
end
section
variable {X : Cx} {k : Nat} {C : Addr} {q : Str} {st : Stmt} {ps : List Str} {sp : Sp}
/-- x != x, x an instance of C with C's own == (sp: what it promises) -/
def rNeSelf (C : Addr) (sp : Sp) : R2 := fun x y H Q => ∃ a dx fs, x = .ref a ∧ y = .ref a ∧ H a = some (.ins C dx fs) ∧ sp [.ref a, .ref a] H (fun v H' => v = .bl true ∧ Q (.bl false) H') E0
theorem op_neSelf (D : MDef X.prog X.w X.K X.mg X.base k C "__eq__" q st ps sp) (hr : Room (k + 1) X.A) (hm : PySem.W.mroIn X.K C (.type "object") = some true)
    (hn : PySem.W.findIn X.K (.ref C) "__ne__" = some (some (.builtin "object.__ne__"))) : OpR X (compareOp .NotEq) (rNeSelf C sp) := by
  obtain ⟨f, fd, F, G, M, hb⟩ := D.ex
  intro pins s σ H x y v u Q I rx ry h
  obtain ⟨a, dx, fs, rfl, rfl, ha, z⟩ := h
  cases rx
  cases ry
  obtain ⟨mA, J, _⟩ := ins_get I.hok ha
  obtain ⟨od, J, _⟩ := J.look
  have hu := hr.units
  have hl := F.len _ _ _ _ z
  have r2 : Vals [V.ref a, V.ref a] [Value.ref a, Value.ref a] := .cons rfl (.cons rfl .nil)
  refine rc_neSelf (by omega) I.kIn J hm M.at_ hn M.fn ?_
  refine wpAny_call (codeAny_mono (F.run X.A.in1 X.stack s H ⟨[.ref a, .ref a], []⟩ [.ref a, .ref a] [.ref a, .ref a] _ E0 hr.in1 I.env0.in1 (by
    have := hb s [.ref a, .ref a] I.kIn (by simpa using hl)
    simpa using this) r2 z) fun r s' hq => ?_)
  cases r with
  | error e => exact pass0 pins σ H s e s' I hq
  | ok fl =>
    cases fl with
    | ret w =>
      obtain ⟨z, H', I', rz, ez, ex⟩ := I.after hq
      subst ez
      cases rz
      exact ⟨rfl, .bl false, H', I', rfl, ex⟩
    | next => exact False.elim hq
    | brk => exact False.elim hq
    | cont => exact False.elim hq
end
end Hou
set_option Elab.async false
set_option linter.all false
set_option maxRecDepth 100000
set_option autoImplicit false
namespace Hou
open PySem PySem.Spec PyProof.Rows L2
/-! ### short tactics: a reading's next questions -/
local macro_rules | `(tactic| walk_at "hq") => `(tactic| first
  | assumption | exact SqL.of (by assumption) | exact SqT.of (by assumption) | exact .inl (by assumption) | exact .inr (by assumption) | exact .inl (SqL.of (by assumption)) | exact .inr (SqT.of (by assumption))
  | exact SqL.of upd_same | exact SqT.of upd_same)
local macro_rules | `(tactic| walk_at "at") => `(tactic| first | assumption | exact atI_nat (j := 0) rfl | exact atI_nat (j := 1) rfl)
local macro_rules | `(tactic| walk_at "sd") => `(tactic| first
  | rfl | exact .inl ⟨by decide, by decide⟩ | exact .inr ⟨by decide, by decide⟩ | exact ⟨by decide, by decide, by decide⟩ | (show ((_ : Int) ≠ 0); first | decide | assumption | omega)
  | (show ((_ : Int) ≠ 0 ∧ _); refine ⟨by first | decide | assumption | omega, by first | decide | omega⟩) | (show (_ ≤ sizeLine); first | (simp only [List.length_cons, List.length_nil]; decide) | assumption) | decide | omega)
local macro_rules | `(tactic| walk_at "rd") => `(tactic| first
  | refine ⟨_, rfl, ?_⟩ | refine ⟨_, _, rfl, rfl, ?_⟩ | refine .inl ⟨_, rfl, ?_⟩ | refine .inr ⟨_, rfl, ?_⟩
  | refine ⟨_, _, _, _, rfl, rfl, (by walk_at "hq"), (by walk_at "at"), ?_⟩ | refine ⟨_, _, rfl, (by walk_at "hq"), ?_⟩ | refine ⟨(by walk_at "sd"), ?_⟩)

/-- what the text says of the class of webs for == and != -/
structure TxE (K : PySem.W.Frag) (mg : Str → Option Value) (CW : Addr) : Prop extends TxW K mg CW where
  mro : PySem.W.mroIn K CW (.type "object") = some true
  nNe : PySem.W.findIn K (.ref CW) "__ne__" = some (some (.builtin "object.__ne__"))
  gWeb : mg "Web" = some (.ref CW)
  isOwn : ∀ {H : Hp} {a dx : Addr} {fs : List (Str × V)}, H a = some (.ins CW dx fs) → TyX K H (.ref a) (.ref CW)
  kit : PySem.W.kitOne K (.ref CW) (.ref CW) = some true
/-! ### data of tuples of numbers and of tuples of numbers -/
theorem lay_ints : ∀ l : List Int, PyData.canLayAll0 (l.map .int) = true
  | [] => rfl
  | i :: l => by rw [List.map_cons, PyData.canLayAll0, lay_ints l]; rfl
theorem lay_it : ∀ d : IT, (dI d).canLay0 = true
  | .inl _ => rfl
  | .inr l => lay_ints l
theorem lay_its : ∀ l : List IT, PyData.canLayAll0 (l.map dI) = true
  | [] => rfl
  | d :: l => by rw [List.map_cons, PyData.canLayAll0, lay_its l, lay_it d]; rfl
theorem shaped_it (d : IT) : SeqAt.shaped (dI d) = true := by
  refine Bool.and_eq_true_iff.mpr ⟨lay_it d, decide_eq_true ?_⟩
  cases d with
  | inl i => exact Nat.zero_le _
  | inr l =>
    show PyData.depthAll (l.map .int) + 1 ≤ 64
    rw [ints_depth]
    decide
theorem shaped_its (l : List IT) : SeqAt.shaped (.tuple (l.map dI)) = true := by
  refine Bool.and_eq_true_iff.mpr ⟨lay_its l, decide_eq_true ?_⟩
  have := its_depth l
  show PyData.depthAll (l.map dI) + 1 ≤ 64
  omega
theorem shaped_lits (l : List IT) : SeqAt.shaped (.list (l.map dI)) = true := by
  refine Bool.and_eq_true_iff.mpr ⟨lay_its l, decide_eq_true ?_⟩
  have := its_depth l
  show PyData.depthAll (l.map dI) + 1 ≤ 64
  omega
theorem eqv_its (l : List IT) : PyData.eqv (.tuple (l.map dI)) (.tuple (l.map dI)) = true := SeqAt.eqv_refl _ (lay_its l)
theorem eqv_it (d : IT) : PyData.eqv (dI d) (dI d) = true := SeqAt.eqv_refl _ (lay_it d)
def cIT (c : List Nat) : IT := .inr (c.map fun x : Nat => (x : Int))
def pIT (t : Nat × Nat) : IT := .inr [(t.1 : Int), (t.2 : Int)]
section
variable {P : Program} {w : World} {K : PySem.W.Frag} {mg : Str → Option Value} {base : Heap} {CW CC : Addr}
theorem PsAt.its {H : Hp} : ∀ {ps : List V} {ts : List (Nat × Nat)}, PsAt H ps ts → ItsAt H ps (ts.map pIT)
  | [], [], _ => .nil
  | [], _ :: _, h => by
    have := h.1
    simp at this
  | _ :: _, [], h => by
    have := h.1
    simp at this
  | p :: ps, t :: ts, h => by
    obtain ⟨a, e1, e2⟩ := h.2 0 t rfl
    cases e1
    refine .cons (.tup e2) (PsAt.its ⟨by have := h.1; simpa using this, fun i t' e => ?_⟩)
    obtain ⟨a', e1', e2'⟩ := h.2 (i + 1) t' e
    exact ⟨a', e1', e2'⟩
theorem its_refs {H : Hp} : ∀ {bs : List Addr} {cs : List (List Nat)}, bs.length = cs.length → (∀ (i : Nat) (b : Addr) (c : List Nat), bs[i]? = some b → cs[i]? = some c → H b = some (.tup (c.map nv))) → ItsAt H (bs.map V.ref) (cs.map cIT)
  | [], [], _, _ => .nil
  | [], _ :: _, h, _ => by simp at h
  | _ :: _, [], h, _ => by simp at h
  | b :: bs, c :: cs, h, k => by
    have e : H b = some (.tup ((c.map fun x : Nat => (x : Int)).map V.int)) := by
      rw [k 0 b c rfl rfl, List.map_map]
      rfl
    exact .cons (.tup e) (its_refs (by simpa using h) fun i b' c' e1 e2 => k (i + 1) b' c' e1 e2)
abbrev s_Web_eq : Stmt := inClass (top 17) 1
abbrev N_Web_eq : List Str := ["self", "other"]
theorem sc_Web_eq : FnScope N_Web_eq ["self", "other"] (defScope s_Web_eq) := ⟨rfl, rfl, rfl, by decide +kernel, rfl, by decide +kernel, by decide +kernel⟩
def spWebEq (CW : Addr) : Sp := fun vs H Q _ => ∃ (w : Addr) (n : Nat) (ts : List (Nat × Nat)), vs = [.ref w, .ref w] ∧ WebAt CW H w n ts ∧ Q (.bl true) H
theorem ok_Web_eq (T : TopM K CW "__eq__" "Web.__eq__" s_Web_eq ["self", "other"]) (B : Bl mg) (W : TxE K mg CW) : MDef P w K mg base 1 CW "__eq__" "Web.__eq__" s_Web_eq ["self", "other"] (spWebEq CW) := by
  refine T.ok W.cl sc_Web_eq (fun vs H Q E h => ?_) (fun f cdv A outer s H vs Q E hr h => ?_)
  · obtain ⟨w, n, ts, rfl, _⟩ := h
    rfl
  · obtain ⟨w, n, ts, rfl, ⟨dx, t, ps, hw, ht, hp⟩, k⟩ := h
    have G_Web := W.gWeb
    refine ⟨_, (pss_one (ps_ret (pe_and (pe_callB (id := "isinstance") call_isi (by rfl) B.isinstance (by decide +kernel) (pa_cons (pv 1) (pa_cons (pe_glob (v := .ref _) rfl G_Web rfl) pa_nil))) (pe_and (pe_cmpR op_eq (pe_fldK (K := K) rfl (pv 0) rfl) (pe_fldK (K := K) rfl (pv 1) rfl) (nomark _)) (pe_one (pe_cmpR (op_eqDK (K := K) rfl hr.units) (pe_fldK (K := K) rfl (pv 0) rfl) (pe_fldK (K := K) rfl (pv 1) rfl) (nomark _))))))), ?_⟩
    refine ⟨_, rfl, .ref w, .ref CW, .ref CW, .ref CW, true, rfl, .own CW, W.isOwn hw, W.kit, true, rfl, iteT ?_⟩
    refine ⟨_, rfl, w, CW, dx, _, _, rfl, hw, W.cl, W.nH, webF_houses, _, rfl, w, CW, dx, _, _, rfl, hw, W.cl, W.nH, webF_houses, rfl, _, rfl, ?_⟩
    rw [show (decide (V.int (n : Nat) = V.int (n : Nat))) = true from decide_eq_true rfl]
    refine iteT ?_
    refine ⟨_, rfl, w, CW, dx, _, _, rfl, hw, W.cl, W.nT, webF_ties, _, rfl, w, CW, dx, _, _, rfl, hw, W.cl, W.nT, webF_ties, .tuple ((ts.map pIT).map dI), .tuple ((ts.map pIT).map dI), .tup (SqT.of ht) hp.its.dps, .tup (SqT.of ht) hp.its.dps, shaped_its _, shaped_its _, ?_⟩
    rw [eqv_its]
    exact k
abbrev s_CounterNet_book : Stmt := inClass (top 35) 3
abbrev N_CounterNet_book : List Str := ["self", "house"]
theorem sc_CounterNet_book : FnScope N_CounterNet_book ["self", "house"] (defScope s_CounterNet_book) := ⟨rfl, rfl, rfl, by decide +kernel, rfl, by decide +kernel, by decide +kernel⟩
def spNetBook (CW CC : Addr) : Sp := fun vs H Q _ => ∃ (c w : Addr) (n m h : Nat) (ts : List (Nat × Nat)) (xs as : List Int), vs = [.ref c, .int (h : Nat)] ∧ NetAt CW CC H c w n ts m xs as ∧ WebOk n ts ∧ xs.length = n ∧ as.length = ts.length ∧ h < n ∧
  ∀ H' p, Fr CW [] H H' → IsComp ts h p → Q (.int (wrapI (bookI ts xs as p) m)) H'
theorem ok_CounterNet_book (T : TopM K CC "book" "CounterNet.book" s_CounterNet_book ["self", "house"]) (W : TxW K mg CW) (C : TxC K mg CC)
    (D_book_of : Def P w K mg base 2 "book_of" s_book_of ["web", "modulus", "states", "archives", "part"] (spBookOf CW)) (D_part_of : Def P w K mg base 5 "part_of" s_part_of ["web", "house"] (spJoined CW)) :
    MDef P w K mg base 6 CC "book" "CounterNet.book" s_CounterNet_book ["self", "house"] (spNetBook CW CC) := by
  refine T.ok C.cl sc_CounterNet_book (fun vs H Q E h => ?_) (fun f cdv A outer s H vs Q E hr h => ?_)
  · obtain ⟨c, w, n, m, h, ts, xs, as, rfl, _⟩ := h
    rfl
  · obtain ⟨c, w, n, m, h, ts, xs, as, rfl, ⟨dx, sa, aa, hc, hw, hs, ha⟩, ok, lx, la, hh, k⟩ := h
    have n12 := ok.n12
    refine ⟨_, (pss_one (ps_ret (pe_def D_book_of (hr.mono (by decide)) rfl (pa_cons (pe_fldK (K := K) rfl (pv 0) rfl) (pa_cons (pe_fldK (K := K) rfl (pv 0) rfl) (pa_cons (pe_fldK (K := K) rfl (pv 0) rfl) (pa_cons (pe_fldK (K := K) rfl (pv 0) rfl) (pa_cons (pe_def D_part_of (hr.mono (by decide)) rfl (pa_cons (pe_fldK (K := K) rfl (pv 0) rfl) (pa_cons (pv 1) pa_nil))) pa_nil)))))))), ?_⟩
    refine ⟨_, rfl, c, CC, dx, _, _, rfl, hc, C.cl, C.nW, netF_web, _, rfl, c, CC, dx, _, _, rfl, hc, C.cl, C.nM, netF_mod, _, rfl, c, CC, dx, _, _, rfl, hc, C.cl, C.nS, netF_st, _, rfl, c, CC, dx, _, _, rfl, hc, C.cl, C.nA, netF_ar,
      _, rfl, c, CC, dx, _, _, rfl, hc, C.cl, C.nW, netF_web, _, rfl, w, n, h, ts, rfl, hw, ok, hh, fun H1 p q f1 hq hqn hp => ?_⟩
    have ql : q.length ≤ n := nodup_len n q (hq.asc.imp fun h => by omega) hqn
    exact ⟨w, m, sa, aa, p, n, ts, xs, as, q, rfl, hw.fr f1, ok, f1.tup hs, f1.tup ha, hp, lx, la, by omega, hqn, fun H2 f2 => k H2 q (f1.trans f2) hq⟩
end
end Hou
set_option Elab.async false
set_option linter.all false
set_option maxRecDepth 100000
set_option autoImplicit false
namespace Hou
open PySem PySem.Spec PyProof.Rows L2
/-! ### short tactics: a reading's next questions -/
local macro_rules | `(tactic| walk_at "hq") => `(tactic| first
  | assumption | exact SqL.of (by assumption) | exact SqT.of (by assumption) | exact .inl (by assumption) | exact .inr (by assumption) | exact .inl (SqL.of (by assumption)) | exact .inr (SqT.of (by assumption))
  | exact SqL.of upd_same | exact SqT.of upd_same)
local macro_rules | `(tactic| walk_at "at") => `(tactic| first | assumption | exact atI_nat (j := 0) rfl | exact atI_nat (j := 1) rfl)
local macro_rules | `(tactic| walk_at "sd") => `(tactic| first
  | rfl | exact .inl ⟨by decide, by decide⟩ | exact .inr ⟨by decide, by decide⟩ | exact ⟨by decide, by decide, by decide⟩ | (show ((_ : Int) ≠ 0); first | decide | assumption | omega)
  | (show ((_ : Int) ≠ 0 ∧ _); refine ⟨by first | decide | assumption | omega, by first | decide | omega⟩) | (show (_ ≤ sizeLine); first | (simp only [List.length_cons, List.length_nil]; decide) | assumption) | decide | omega)
local macro_rules | `(tactic| walk_at "rd") => `(tactic| first
  | refine ⟨_, rfl, ?_⟩ | refine ⟨_, _, rfl, rfl, ?_⟩ | refine .inl ⟨_, rfl, ?_⟩ | refine .inr ⟨_, rfl, ?_⟩
  | refine ⟨_, _, _, _, rfl, rfl, (by walk_at "hq"), (by walk_at "at"), ?_⟩ | refine ⟨_, _, rfl, (by walk_at "hq"), ?_⟩ | refine ⟨(by walk_at "sd"), ?_⟩)

theorem fm_len {α β γ : Type} {f : α → Option β} {g : α → Option γ} : ∀ {l : List α}, (∀ x, x ∈ l → (f x).isSome = (g x).isSome) → (l.filterMap f).length = (l.filterMap g).length
  | [], _ => rfl
  | a :: l, h => by
    have ih := fm_len (l := l) fun x hx => h x (List.mem_cons_of_mem _ hx)
    have h0 := h a List.mem_cons_self
    rw [List.filterMap_cons, List.filterMap_cons]
    cases hf : f a <;> cases hg : g a <;> rw [hf, hg] at h0 <;> simp at h0 ⊢ <;> exact ih
/-- how many ties start in c -/
def tiesIn (ts : List (Nat × Nat)) (c : List Nat) : Nat := (ts.filter fun t => decide (t.1 ∈ c)).length
theorem tiesIn_eq {β : Type} (ts : List (Nat × Nat)) (c : List Nat) (f : Nat → Nat × Nat → β) : ((List.range ts.length).filterMap fun i => match ts[i]? with | some t => if t.1 ∈ c then some (f i t) else none | none => none).length = tiesIn ts c := by
  unfold tiesIn
  rw [← List.filterMap_eq_filter]
  have e := range_filterMap ts (Option.guard fun t => decide (t.1 ∈ c)) ts.length
  rw [List.take_length] at e
  rw [← e]
  refine fm_len fun i _ => ?_
  cases h : ts[i]? with
  | none => simp
  | some t =>
    simp only [Option.bind_some, Option.guard_apply]
    by_cases hc : t.1 ∈ c
    · simp [hc]
    · simp [hc]
/-- the keys of a dict behind an entry -/
def addK {κ : Type} [DecidableEq κ] (ks : List κ) (k : κ) : List κ := if k ∈ ks then ks else ks ++ [k]
theorem putK_keys {κ : Type} [DecidableEq κ] (kvs : List (κ × V)) (k : κ) (v : V) : (putK kvs k v).map Prod.fst = addK (kvs.map Prod.fst) k := by
  unfold putK addK
  by_cases h : k ∈ kvs.map Prod.fst
  · have h1 : (kvs.any fun kv => decide (kv.1 = k)) = true := by
      obtain ⟨p, hp, e⟩ := List.mem_map.mp h
      exact List.any_eq_true.mpr ⟨p, hp, decide_eq_true e⟩
    rw [if_pos h1, if_pos h, List.map_map]
    refine List.map_congr_left fun p hp => ?_
    show (if p.1 = k then (p.1, v) else p).1 = p.1
    split <;> rfl
  · have h1 : ¬ (kvs.any fun kv => decide (kv.1 = k)) = true := fun z => by
      obtain ⟨p, hp, e⟩ := List.any_eq_true.mp z
      exact h (List.mem_map.mpr ⟨p, hp, of_decide_eq_true e⟩)
    rw [if_neg h1, if_neg h, List.map_append]
    rfl
theorem kV_nats (c : List Nat) : (c.map keyN).map kV = c.map nv := by
  rw [List.map_map]
  rfl
theorem keyN_map : ∀ {a b : List Nat}, a.map keyN = b.map keyN → a = b
  | [], [], _ => rfl
  | [], _ :: _, h => by simp at h
  | _ :: _, [], h => by simp at h
  | x :: a, y :: b, h => by
    rw [List.map_cons, List.map_cons] at h
    obtain ⟨h1, h2⟩ := List.cons.inj h
    rw [keyN_inj.mp h1, keyN_map h2]
theorem paired_get {α β : Type} {F : α → β → Prop} : ∀ {l : List α} {m : List β}, Paired F l m → ∀ {i : Nat} {b : β}, m[i]? = some b → ∃ a, l[i]? = some a ∧ F a b
  | _, _, .nil, i, b, h => by simp at h
  | _, _, .cons x y, 0, b, h => by
    cases h
    exact ⟨_, rfl, x⟩
  | _, _, .cons x y, i + 1, b, h => paired_get y (i := i) h
theorem perm_lift {α γ : Type} {f : γ → α} : ∀ {m : List α} {l : List γ}, m.Perm (l.map f) → ∃ zs : List γ, m = zs.map f ∧ zs.Perm l
  | [], l, p => by
    have e := List.map_eq_nil_iff.mp p.symm.eq_nil
    subst e
    exact ⟨[], rfl, List.Perm.refl _⟩
  | a :: m, l, p => by
    obtain ⟨x, hx, e⟩ := List.mem_map.mp (p.mem_iff.mp List.mem_cons_self)
    obtain ⟨s, t, rfl⟩ := List.append_of_mem hx
    subst e
    rw [List.map_append, List.map_cons] at p
    have q := (p.trans List.perm_middle).cons_inv
    rw [← List.map_append] at q
    obtain ⟨zs, e, pz⟩ := perm_lift q
    exact ⟨x :: zs, by rw [e]; rfl, (pz.cons x).trans List.perm_middle.symm⟩
/-- a list that goes along with another one that is put in another order -/
theorem perm_along {α β : Type} {R : α → β → Prop} : ∀ {bs bs' : List α} {cs : List β}, bs.length = cs.length → (∀ (i : Nat) b c, bs[i]? = some b → cs[i]? = some c → R b c) → bs'.Perm bs →
    ∃ cs' : List β, cs'.Perm cs ∧ bs'.length = cs'.length ∧ ∀ (i : Nat) b c, bs'[i]? = some b → cs'[i]? = some c → R b c := by
  intro bs bs' cs hl hr pm
  have z : bs'.Perm ((bs.zip cs).map Prod.fst) := by
    rw [List.map_fst_zip (by omega)]
    exact pm
  obtain ⟨zs, e, pz⟩ : ∃ zs : List (α × β), bs' = zs.map Prod.fst ∧ zs.Perm (bs.zip cs) := perm_lift z
  refine ⟨zs.map Prod.snd, ?_, ?_, fun i b c e1 e2 => ?_⟩
  · have := pz.map Prod.snd
    rwa [List.map_snd_zip (by omega)] at this
  · rw [e, List.length_map, List.length_map]
  · rw [e, List.getElem?_map] at e1
    rw [List.getElem?_map] at e2
    obtain ⟨x, hx, rfl⟩ := Option.map_eq_some_iff.mp e1
    rw [hx] at e2
    cases e2
    have hm := pz.mem_iff.mp (List.mem_of_getElem? hx)
    obtain ⟨j, hj⟩ := List.getElem?_of_mem hm
    obtain ⟨b', c', e3, e4, e5⟩ : ∃ b' c', bs[j]? = some b' ∧ cs[j]? = some c' ∧ x = (b', c') := by
      rw [List.getElem?_zip_eq_some] at hj
      exact ⟨x.1, x.2, hj.1, hj.2, rfl⟩
    rw [e5]
    exact hr j b' c' e3 e4
section
variable {P : Program} {w : World} {K : PySem.W.Frag} {mg : Str → Option Value} {base : Heap} {CW CC : Addr}
/-- a dict comprehension over anything that is walked; Pk says which keys there are -/
theorem dcT_fr {J : It} {n : Nat} {G : Hp → Prop} {Y : Nat → Hp → V → Hp → Prop} (w : Walk J n G Y) {g : TG} {tt : TT} {tk tv : TE} {vs : List Nat} {σ : L2.St} {H1 : Hp} {Qd : Addr → Hp → Prop} (Pk : Nat → List (List Key) → Prop)
    (hG : ∀ H2, Fr CW [] H1 H2 → G H2) (hY : ∀ i H x H', Y i H x H' → Fr CW [] H H') (hn : n ≤ 1000) (h0 : Pk 0 [])
    (hs : ∀ i x H2 H3, i < n → Fr CW [] H1 H2 → Y i H2 x H3 → ∀ (N1 : V → V → Hp → Prop) (N0 : Hp → Prop), (∀ k b z H5, Fr CW [] H3 H5 → H5 b = some (.tup (k.map kV)) → (∀ ks, Pk i ks → Pk (i + 1) (addK ks k)) → N1 (.ref b) z H5) →
      g x (wipe σ vs) H3 fun σ2 H4 => wipe σ2 vs = wipe σ vs ∧ tt σ2 H4 fun b H5 => if b = true then tk σ2 H5 fun y H6 => tv σ2 H6 fun z H7 => N1 y z H7 else N0 H5)
    (hd : ∀ D H2 kvs, H1 D = none → Fr CW [] H1 H2 → H2 D = some (.dT kvs) → kvs.length ≤ n → Pk n (kvs.map Prod.fst) → Qd D H2) :
    ∀ D, H1 D = none → ∃ W : Nat → Nat → Hp → Prop, (∃ m, W 0 m (upd H1 D (.dT []))) ∧ ∀ i m H, W i m H →
      (J.stop i H ∧ Qd D H) ∨ (J.go i H ∧ ∃ Nx : Hp → Prop, (∀ H', Nx H' → ∃ m', m' < m ∧ W (i + 1) m' H') ∧ ∀ x H', J.yld i H x H' → g x (wipe σ vs) H' fun σ2 H2 => wipe σ2 vs = wipe σ vs ∧ tt σ2 H2 fun b H3 =>
        if b = true then tk σ2 H3 fun y H4 => tv σ2 H4 fun z H5 => ∃ kvs k b, y = .ref b ∧ H5 b = some (.tup (k.map kV)) ∧ H5 D = some (.dT kvs) ∧ kvs.length < sizeLine ∧ Nx (upd H5 D (.dT (putK kvs k z))) else Nx H3) := by
  intro D hD
  refine ⟨fun i m H2 => m = n - i ∧ i ≤ n ∧ Fr CW [] H1 H2 ∧ ∃ kvs, H2 D = some (.dT kvs) ∧ kvs.length ≤ i ∧ Pk i (kvs.map Prod.fst), ⟨n, by simp, Nat.zero_le _, Fr.refl.new hD, [], upd_same, Nat.le_refl _, h0⟩, ?_⟩
  rintro i m H2 ⟨rfl, hi, f2, kvs, hk, hl, pk⟩
  have q := hG H2 f2
  by_cases hlt : i < n
  · refine .inr ⟨w.goes i H2 hlt q, fun H' => i + 1 ≤ n ∧ Fr CW [] H1 H' ∧ ∃ kvs, H' D = some (.dT kvs) ∧ kvs.length ≤ i + 1 ∧ Pk (i + 1) (kvs.map Prod.fst), fun H' p => ⟨n - (i + 1), by omega, rfl, p⟩, fun x H3 y => ?_⟩
    have y' := w.yields i H2 x H3 hlt q y
    have f3 := hY i H2 x H3 y'
    refine hs i x H2 H3 hlt f2 y' _ _ fun k b z H5 f5 hb step => ?_
    have hk5 : H5 D = some (.dT kvs) := f5.ot _ _ (by simp) (f3.ot _ _ (by simp) hk)
    refine ⟨kvs, k, b, rfl, hb, hk5, small1000 (by omega), hlt, ((f2.trans f3).trans f5).loc hD, _, upd_same, ?_, ?_⟩
    · have := length_putK kvs k z
      omega
    · rw [putK_keys]
      exact step _ pk
  · have e : i = n := by omega
    subst e
    exact .inl ⟨w.stops H2 q, hd D H2 kvs hD f2 hk hl pk⟩
abbrev s_rings_in : Stmt := top 25
abbrev N_rings_in : List Str := ["web", "part", "pair"]
theorem sc_rings_in : FnScope N_rings_in ["web", "part"] (defScope s_rings_in) := ⟨rfl, rfl, rfl, by decide +kernel, rfl, by decide +kernel, by decide +kernel⟩
def spRingsIn (CW : Addr) : Sp := fun vs H Q _ => ∃ (w p : Addr) (n : Nat) (ts : List (Nat × Nat)) (c : List Nat), vs = [.ref w, .ref p] ∧ WebAt CW H w n ts ∧ WebOk n ts ∧ H p = some (.tup (c.map nv)) ∧ ∀ H', Fr CW [] H H' → Q (.int ((tiesIn ts c : Nat) - (c.length : Nat) + 1)) H'
theorem ok_rings_in (T : Top K mg "rings_in" s_rings_in ["web", "part"]) (B : Bl mg) (W : TxW K mg CW) : Def P w K mg base 1 "rings_in" s_rings_in ["web", "part"] (spRingsIn CW) := by
  refine T.ok sc_rings_in (fun vs H Q E h => ?_) (fun f cdv A outer s H vs Q E hr h => ?_)
  · obtain ⟨w, p, n, ts, c, rfl, _⟩ := h
    rfl
  · obtain ⟨w, p, n, ts, c, rfl, ⟨dx, t, ps, hw, ht, hp⟩, ok, hc, k⟩ := h
    have l20 := ok.len
    refine ⟨_, (pss_one (ps_ret (pe_op op_add (pe_op op_sub (pe_callB (id := "len") (call_lenK (K := K) rfl) (by rfl) B.len (by decide +kernel) (pa_cons (pe_lc (own := [("pair", 2)]) (g := gName 2) rfl sc_rings_in.nd (pi_tup (pe_fldK (K := K) rfl (pv 0) rfl)) (blkOk_by (N := N_rings_in) (sc := defScope s_rings_in) (by decide +kernel)) (fun _ _ _ _ _ => pg_name (i := 2) sc_rings_in.nd rfl (Or.inl rfl)) (fun _ _ _ _ _ => (pts_one (pt_cmpR (op_in_seqK (K := K) rfl) (pe_ix (ix_tupK (K := K) rfl) (pv 2) pe_int (fun _ _ => rfl)) (pv 1) (by rfl)))) (fun _ _ _ _ _ => (pv 2))) pa_nil)) (pe_callB (id := "len") (call_lenK (K := K) rfl) (by rfl) B.len (by decide +kernel) (pa_cons (pv 1) pa_nil))) pe_int))), ?_⟩
    refine ⟨_, rfl, w, CW, dx, _, _, rfl, hw, W.cl, W.nT, webF_ties, t, rfl, ⟨_, SqT.of ht⟩, lc_fr (CW := CW) (M := []) (walk_tup (K := K) (a := t) (xs := ps)) (fun i => match ts[i]? with | some t => if t.1 ∈ c then some (ps.getD i .non) else none | none => none) (fun H2 f => SqT.of (f.tup ht)) YAt.fr (by simp) (by rw [hp.1]; omega) ?_ ?_⟩
    · rintro i v H2 H3 hi f2 ⟨rfl, hv⟩ N1 N0 n1 n0
      obtain ⟨a, t, rfl, et, ha⟩ := hp.get hv
      refine ⟨rfl, ?_⟩
      refine ⟨_, rfl, a, _, _, _, rfl, rfl, SqT.of (f2.tup ha), atI_nat (j := 0) rfl, ?_⟩
      refine ⟨_, rfl, p, _, rfl, .inr (SqT.of (f2.tup hc)), rfl, flat_nats c, _, rfl, ?_⟩
      show if inV (nv t.1) (c.map nv) = true then _ else _
      rw [inV_nats]
      refine iteD (fun hz => ?_) (fun hz => ?_)
      · exact ⟨_, rfl, n1 _ _ Fr.refl (by simp only [et]; rw [if_pos hz, List.getD_eq_getElem?_getD, hv]; rfl)⟩
      · exact n0 _ Fr.refl (by simp only [et]; rw [if_neg hz])
    · intro D H2 hD f2 hl
      rw [hp.1] at hl
      refine ⟨D, _, rfl, .inl (SqL.of hl), ?_⟩
      rw [tiesIn_eq ts c fun i _ => ps.getD i .non]
      refine ⟨_, rfl, p, _, rfl, .inr (SqT.of (f2.tup hc)), _, _, rfl, rfl, _, _, rfl, rfl, ?_⟩
      rw [List.length_map]
      exact k _ f2
abbrev s_parts_of : Stmt := top 24
abbrev N_parts_of : List Str := ["web", "house"]
theorem sc_parts_of : FnScope N_parts_of ["web"] (defScope s_parts_of) := ⟨rfl, rfl, rfl, by decide +kernel, rfl, by decide +kernel, by decide +kernel⟩
def spParts (CW : Addr) : Sp := fun vs H Q _ => ∃ (w : Addr) (n : Nat) (ts : List (Nat × Nat)), vs = [.ref w] ∧ WebAt CW H w n ts ∧ WebOk n ts ∧
  ∀ H' p vs (cs : List (List Nat)), Fr CW [] H H' → H' p = some (.tup vs) → ItsAt H' vs (cs.map cIT) → (∀ h c, h < n → IsComp ts h c → c ∈ cs) → Q (.ref p) H'
theorem ok_parts_of (T : Top K mg "parts_of" s_parts_of ["web"]) (B : Bl mg) (W : TxW K mg CW) (D_joined_houses : Def P w K mg base 2 "joined_houses" s_joined_houses ["web", "house"] (spJoined CW)) :
    Def P w K mg base 3 "parts_of" s_parts_of ["web"] (spParts CW) := by
  refine T.ok sc_parts_of (fun vs H Q E h => ?_) (fun f cdv A outer s H vs Q E hr h => ?_)
  · obtain ⟨w, n, ts, rfl, _⟩ := h
    rfl
  · obtain ⟨w, n, ts, rfl, hww, ok, k⟩ := h
    obtain ⟨dx, t, ps, hw, ht, hp⟩ := id hww
    have l20 := ok.len
    have n12 := ok.n12
    refine ⟨_, (pss_one (ps_ret (pe_callTy (T := "tuple") (call_tupleK (K := K) rfl) (by rfl) B.tuple (by decide +kernel) (pa_cons (pe_callB (id := "sorted") cr_sortedTs (by rfl) B.sorted (by decide +kernel) (pa_cons (pe_callTy (T := "list") (call_list_dT rfl) (by rfl) B.list (by decide +kernel) (pa_cons (pe_dcT (own := [("house", 1)]) (g := gName 1) (tt := tYes) (hu_of hr) rfl sc_parts_of.nd (pi_range1 (by rfl) B.range (pa_cons (pe_fldK (K := K) rfl (pv 0) rfl) pa_nil)) (blkOk_by (N := N_parts_of) (sc := defScope s_parts_of) (by decide +kernel)) (fun _ _ _ _ _ => pg_name (i := 1) sc_parts_of.nd rfl (Or.inl rfl)) (fun _ _ _ _ _ => pts_nil) (fun _ _ _ _ _ => (pe_def D_joined_houses (hr.mono (by decide)) rfl (pa_cons (pv 0) (pa_cons (pv 1) pa_nil)))) (fun _ _ _ _ _ => pe_bl)) pa_nil)) pa_nil)) pa_nil)))), ?_⟩
    refine ⟨_, rfl, w, CW, dx, _, _, rfl, hw, W.cl, W.nH, webF_houses, ?_⟩
    refine ⟨(n : Int), rfl, by omega, by omega, dcT_fr (CW := CW) (walk_range (lo := 0) (n := n)) (fun i ks => ∃ cs : List (List Nat), ks = cs.map (List.map keyN) ∧ (∀ c ∈ cs, c ≠ []) ∧ ∀ h c, h < i → IsComp ts h c → c ∈ cs) (fun _ _ => trivial) YFn.fr (by omega) ⟨[], rfl, by simp, fun h c hh => absurd hh (Nat.not_lt_zero _)⟩ ?_ ?_⟩
    · rintro i v H2 H3 hi f2 ⟨rfl, rfl⟩ N1 N0 n1
      refine ⟨rfl, ?_⟩
      refine ⟨_, rfl, _, rfl, w, n, i, ts, by simp [nv], hww.fr f2, ok, hi, fun H4 q c f4 hc hcn hq => n1 (c.map keyN) q _ H4 f4 (by rw [kV_nats]; exact hq) ?_⟩
      rintro ks ⟨cs, rfl, h1, h2⟩
      unfold addK
      split
      · rename_i hin
        obtain ⟨c', hc', e⟩ := List.mem_map.mp hin
        have e' : c' = c := keyN_map e
        subst e'
        exact ⟨cs, rfl, h1, fun h x hh hx => by
          by_cases z : h < i
          · exact h2 h x z hx
          · obtain rfl : h = i := by omega
            rw [hx.unique hc]
            exact hc'⟩
      · refine ⟨cs ++ [c], by simp, fun x hx => ?_, fun h x hh hx => ?_⟩
        · rcases List.mem_append.mp hx with z | z
          · exact h1 x z
          · rw [List.mem_singleton.mp z]
            exact fun e => by
              have := hc.mem
              rw [e] at this
              simp at this
        · by_cases z : h < i
          · exact List.mem_append_left _ (h2 h x z hx)
          · obtain rfl : h = i := by omega
            rw [hx.unique hc]
            simp
    · rintro D H2 kvs hD f2 hD2 hl ⟨cs, ek, h1, h2⟩
      refine ⟨D, kvs, rfl, .inl hD2, fun p bs hp0 hbs => ?_⟩
      have f3 := f2.new (o := .lst (bs.map V.ref)) hp0
      have hbl : bs.length = cs.length := by
        rw [← Paired.length hbs, ← List.length_map (as := kvs) (f := Prod.fst), ek, List.length_map]
      have hbc : ∀ (i : Nat) (b : Addr) (c : List Nat), bs[i]? = some b → cs[i]? = some c → H2 b = some (.tup (c.map nv)) := fun i b c e1 e2 => by
        obtain ⟨kv, e3, e4⟩ := paired_get hbs e1
        have e5 : (kvs.map Prod.fst)[i]? = some (c.map keyN) := by rw [ek, List.getElem?_map, e2]; rfl
        rw [List.getElem?_map, e3] at e5
        have e6 : kv.1 = c.map keyN := Option.some.inj e5
        rw [e6, kV_nats] at e4
        exact e4
      refine ⟨p, bs, rfl, SqL.of upd_same, fun b hb => ?_, fun bs' q pm hq0 => ?_⟩
      · obtain ⟨i, hi, rfl⟩ := List.getElem_of_mem hb
        have hi2 : i < cs.length := by omega
        have e := hbc i bs[i] cs[i] (by simp [hi]) (by simp [hi2])
        refine ⟨cs[i].map fun x : Nat => (x : Int), fun z => h1 _ (List.getElem_mem hi2) (List.map_eq_nil_iff.mp z), ?_⟩
        rw [upd_ne (ne_of_none e hp0), e, List.map_map]
        rfl
      · have f4 := f3.new (o := .lst (bs'.map V.ref)) hq0
        refine ⟨q, _, rfl, .inl ⟨SqL.of upd_same, fun r hr0 => ?_⟩⟩
        have f5 := f4.new (o := .tup (bs'.map V.ref)) hr0
        obtain ⟨cs', pc, hl', hbc'⟩ := perm_along hbl hbc pm
        have f25 : Fr CW [] H2 (upd (upd (upd H2 p (.lst (bs.map V.ref))) q (.lst (bs'.map V.ref))) r (.tup (bs'.map V.ref))) := ((Fr.refl.new hp0).new hq0).new hr0
        exact k _ r _ cs' f5 upd_same (its_refs hl' fun i b c e1 e2 => f25.tup (hbc' i b c e1 e2)) fun h c hh hc => pc.mem_iff.mpr (h2 h c hh hc)
abbrev s_rings_of : Stmt := top 26
abbrev N_rings_of : List Str := ["web", "part", "one"]
theorem sc_rings_of : FnScope N_rings_of ["web", "part"] (defScope s_rings_of) := ⟨rfl, rfl, rfl, by decide +kernel, rfl, by decide +kernel, by decide +kernel⟩
def spRingsOf (CW : Addr) : Sp := fun vs H Q _ => ∃ (w p : Addr) (n h : Nat) (ts : List (Nat × Nat)) (c : List Nat), vs = [.ref w, .ref p] ∧ WebAt CW H w n ts ∧ WebOk n ts ∧ H p = some (.tup (c.map nv)) ∧ h < n ∧ IsComp ts h c ∧ (∀ x ∈ c, x < n) ∧ ∀ H', Fr CW [] H H' → Q (.int ((tiesIn ts c : Nat) - (c.length : Nat) + 1)) H'
theorem ok_rings_of (T : Top K mg "rings_of" s_rings_of ["web", "part"]) (B : Bl mg) (W : TxW K mg CW) (D_is_sequence : Def P w K mg base 1 "is_sequence" s_is_sequence ["value"] (spIsSequence K))
    (D_is_below : Def P w K mg base 3 "is_below" s_is_below ["value", "most"] spIsBelow) (D_parts_of : Def P w K mg base 3 "parts_of" s_parts_of ["web"] (spParts CW)) (D_rings_in : Def P w K mg base 1 "rings_in" s_rings_in ["web", "part"] (spRingsIn CW)) :
    Def P w K mg base 4 "rings_of" s_rings_of ["web", "part"] (spRingsOf CW) := by
  refine T.ok sc_rings_of (fun vs H Q E h => ?_) (fun f cdv A outer s H vs Q E hr h => ?_)
  · obtain ⟨w, p, n, h, ts, c, rfl, _⟩ := h
    rfl
  · obtain ⟨w, p, n, h, ts, c, rfl, hww, ok, hp, hh, hc, hcn, k⟩ := h
    have n12 := ok.n12
    have cl : c.length ≤ n := nodup_len n c (hc.asc.imp fun h => by omega) hcn
    refine ⟨_, (pss_cons (ps_if (PW.pt (pw_or (pt_not (pt_val (pe_def D_is_sequence (hr.mono (by decide)) rfl (pa_cons (pv 1) pa_nil)))) (pw_or1 (pt_not (pt_val (pe_callB (id := "all") (cr_allK (K := K) rfl rfl) (by rfl) B.all (by decide +kernel) (pa_cons (pe_lc (own := [("one", 2)]) (g := gName 2) (tt := tYes) rfl sc_rings_of.nd (pi_tup (pv 1)) (blkOk_by (N := N_rings_of) (sc := defScope s_rings_of) (by decide +kernel)) (fun _ _ _ _ _ => pg_name (i := 2) sc_rings_of.nd rfl (Or.inl rfl)) (fun _ _ _ _ _ => pts_nil) (fun _ _ _ _ _ => (pe_def D_is_below (hr.mono (by decide)) rfl (pa_cons (pv 2) (pa_cons (pe_fldK (K := K) rfl (pv 0) rfl) pa_nil))))) pa_nil))))))) (pss_one ps_never) pss_nil)
       (pss_cons (ps_if (pt_cmpR (op_notInT (hu65 hr)) (pe_callTy (T := "tuple") (call_tupleK (K := K) rfl) (by rfl) B.tuple (by decide +kernel) (pa_cons (pv 1) pa_nil)) (pe_def D_parts_of (hr.mono (by decide)) rfl (pa_cons (pv 0) pa_nil)) (by rfl)) (pss_one ps_never) pss_nil)
       (pss_one (ps_ret (pe_def D_rings_in (hr.mono (by decide)) rfl (pa_cons (pv 0) (pa_cons (pe_callTy (T := "tuple") (call_tupleK (K := K) rfl) (by rfl) B.tuple (by decide +kernel) (pa_cons (pv 1) pa_nil)) pa_nil))))))), ?_⟩
    refine ⟨_, rfl, p, rfl, .inr ⟨_, hp⟩, fun H1 s1 => ⟨true, rfl, ?_⟩⟩
    refine iteF ?_
    have f1 : Fr CW [] H H1 := Fr.ofSame s1
    refine ⟨_, rfl, p, rfl, ⟨_, SqT.of (f1.tup hp)⟩, lc_fr (CW := CW) (M := []) (walk_tup (K := K) (a := p) (xs := c.map nv)) (fun _ => some (V.bl true)) (fun H2 f => SqT.of (f.tup (f1.tup hp))) YAt.fr (by simp) (by rw [List.length_map]; omega) ?_ ?_⟩
    · rintro i v H2 H3 hi f2 ⟨rfl, hv⟩ N1 N0 n1 n0
      rw [List.getElem?_map] at hv
      obtain ⟨x, ex, rfl⟩ := Option.map_eq_some_iff.mp hv
      have hx := hcn x (List.mem_of_getElem? ex)
      obtain ⟨dx, tt, ps, hw2, ht2, hp2⟩ := hww.fr (f1.trans f2)
      refine ⟨rfl, ?_⟩
      refine ⟨_, rfl, _, rfl, w, CW, dx, _, _, rfl, hw2, W.cl, W.nH, webF_houses, _, _, rfl, ?_⟩
      rw [decide_eq_true (show (0 : Int) ≤ ((x : Nat) : Int) ∧ ((x : Nat) : Int) < ((n : Nat) : Int) by omega)]
      exact n1 _ _ Fr.refl rfl
    · intro D H2 hD f2 hl2
      have e : (List.range (c.map nv).length).filterMap (fun _ => some (V.bl true)) = (List.replicate c.length true).map V.bl := by
        rw [fm_some, List.length_map, List.map_replicate, List.map_const', List.length_range]
      rw [e] at hl2
      refine ⟨D, _, rfl, SqL.of hl2, true, by rw [allTrue], ?_⟩
      refine iteF ?_
      have f3 := f1.trans f2
      refine ⟨_, rfl, p, _, rfl, .inr ⟨SqT.of (f3.tup hp), ?_⟩⟩
      refine ⟨_, rfl, w, n, ts, rfl, hww.fr f3, ok, fun H4 q vs cs f4 hq hits hcs => ?_⟩
      have f5 := f3.trans f4
      have hpi : H4 p = some (.tup ((c.map fun x : Nat => (x : Int)).map V.int)) := by
        rw [f5.tup hp, List.map_map]
        rfl
      refine ⟨dI (cIT c), (cs.map cIT).map dI, .tup (SqT.of hpi) (dps_ints _), .tup (SqT.of hq) hits.dps, shaped_it _, shaped_its _, _, rfl, ?_⟩
      have hin : ((cs.map cIT).map dI).any (fun z => PyData.eqv z (dI (cIT c))) = true :=
        List.any_eq_true.mpr ⟨dI (cIT c), List.mem_map.mpr ⟨_, List.mem_map.mpr ⟨c, hcs h c hh hc, rfl⟩, rfl⟩, eqv_it _⟩
      rw [hin]
      refine iteF ?_
      refine ⟨_, rfl, _, rfl, p, _, rfl, .inr ⟨SqT.of (f5.tup hp), ?_⟩⟩
      exact ⟨w, p, n, ts, c, rfl, hww.fr f5, ok, f5.tup hp, fun H6 f6 => k _ (f5.trans f6)⟩
end
end Hou
set_option Elab.async false
set_option linter.all false
set_option maxRecDepth 100000
set_option autoImplicit false
/-! the mathematics: meetings along a tree, there and back -/
namespace Hou
theorem wrap_idem (x : Int) (m : Nat) : wrapI (wrapI x m) m = wrapI x m := by
  unfold wrapI
  split
  · exact Int.emod_emod_of_dvd _ (Int.dvd_refl _)
  · rfl
theorem wrap_add (a b : Int) (m : Nat) : wrapI (a + wrapI b m) m = wrapI (a + b) m := by
  unfold wrapI
  split
  · exact Int.add_emod_emod _ _ _
  · rfl
abbrev SA := (Nat → Int) × (Nat → Int)
def fmeet (ts : List (Nat × Nat)) (m : Nat) (s : SA) (i : Nat) : SA :=
  match ts[i]? with
  | some t => let v := wrapI (s.1 t.1 + s.1 t.2 - s.2 i) m; (fun x => if x = t.1 ∨ x = t.2 then v else s.1 x, fun j => if j = i then v else s.2 j)
  | none => s
def frun (ts : List (Nat × Nat)) (m : Nat) (s : SA) (l : List Nat) : SA := l.foldl (fmeet ts m) s
def Nrm (m : Nat) (s : SA) : Prop := (∀ x, wrapI (s.1 x) m = s.1 x) ∧ ∀ i, wrapI (s.2 i) m = s.2 i
theorem Nrm.meet {ts : List (Nat × Nat)} {m : Nat} {s : SA} (h : Nrm m s) (i : Nat) : Nrm m (fmeet ts m s i) := by
  unfold fmeet
  cases ts[i]? with
  | none => exact h
  | some t =>
    refine ⟨fun x => ?_, fun j => ?_⟩
    · dsimp only
      split
      · exact wrap_idem _ _
      · exact h.1 x
    · dsimp only
      split
      · exact wrap_idem _ _
      · exact h.2 j
theorem Nrm.run {ts : List (Nat × Nat)} {m : Nat} : ∀ {l : List Nat} {s : SA}, Nrm m s → Nrm m (frun ts m s l)
  | [], _, h => h
  | i :: l, _, h => Nrm.run (l := l) (h.meet i)
/-- a tree of ties from h on: (tie, new house) one after the other -/
inductive Tree (ts : List (Nat × Nat)) (h : Nat) : List (Nat × Nat) → Prop
  | nil : Tree ts h []
  | snoc {L : List (Nat × Nat)} {i y p : Nat} {t : Nat × Nat} : Tree ts h L → ts[i]? = some t → ((t.1 = p ∧ t.2 = y) ∨ (t.2 = p ∧ t.1 = y)) → p ∈ h :: L.map Prod.snd → y ∉ h :: L.map Prod.snd → Tree ts h (L ++ [(i, y)])
abbrev hs (h : Nat) (L : List (Nat × Nat)) : List Nat := h :: L.map Prod.snd
theorem hs_snoc (h : Nat) (L : List (Nat × Nat)) (e : Nat × Nat) : hs h (L ++ [e]) = hs h L ++ [e.2] := by simp [hs]
theorem Tree.nodup {ts : List (Nat × Nat)} {h : Nat} {L : List (Nat × Nat)} (T : Tree ts h L) : (hs h L).Nodup := by
  induction T with
  | nil => simp [hs]
  | @snoc L i y p t _ _ _ _ hy ih =>
    rw [hs_snoc]
    exact List.nodup_append.mpr ⟨ih, by simp, fun a ha b hb => by
      rw [List.mem_singleton.mp hb]
      exact fun e => hy (by rw [← (show a = y from e)]; exact ha)⟩
/-- both ends of a tie of the tree are in it -/
theorem Tree.ends {ts : List (Nat × Nat)} {h : Nat} {L : List (Nat × Nat)} (T : Tree ts h L) : ∀ i ∈ L.map Prod.fst, ∃ t, ts[i]? = some t ∧ t.1 ∈ hs h L ∧ t.2 ∈ hs h L := by
  induction T with
  | nil => intro i hi; simp at hi
  | @snoc L i y p t _ ht he hp hy ih =>
    intro j hj
    rw [hs_snoc]
    rw [List.map_append, List.mem_append] at hj
    rcases hj with hj | hj
    · obtain ⟨t', e, h1, h2⟩ := ih j hj
      exact ⟨t', e, List.mem_append_left _ h1, List.mem_append_left _ h2⟩
    · have e : j = i := by simpa using hj
      subst e
      refine ⟨t, ht, ?_, ?_⟩
      · rcases he with ⟨e1, e2⟩ | ⟨e1, e2⟩
        · rw [e1]; exact List.mem_append_left _ hp
        · rw [e2]; simp
      · rcases he with ⟨e1, e2⟩ | ⟨e1, e2⟩
        · rw [e2]; simp
        · rw [e1]; exact List.mem_append_left _ hp
/-- the new tie is no tie of the tree -/
theorem Tree.fresh {ts : List (Nat × Nat)} {h : Nat} {L : List (Nat × Nat)} (T : Tree ts h L) {i y p : Nat} {t : Nat × Nat} (ht : ts[i]? = some t) (he : (t.1 = p ∧ t.2 = y) ∨ (t.2 = p ∧ t.1 = y)) (hy : y ∉ hs h L) : i ∉ L.map Prod.fst := by
  intro hi
  obtain ⟨t', e, h1, h2⟩ := T.ends i hi
  rw [ht] at e
  cases e
  rcases he with ⟨_, e2⟩ | ⟨_, e2⟩
  · exact hy (e2 ▸ h2)
  · exact hy (e2 ▸ h1)
theorem Tree.nodupT {ts : List (Nat × Nat)} {h : Nat} {L : List (Nat × Nat)} (T : Tree ts h L) : (L.map Prod.fst).Nodup := by
  induction T with
  | nil => simp
  | @snoc L i y p t T ht he hp hy ih =>
    have hf := T.fresh ht he hy
    rw [List.map_append]
    exact List.nodup_append.mpr ⟨ih, by simp, fun a ha b hb => by
      have : b = i := by simpa using hb
      rw [this]
      exact fun e => hf (e ▸ ha)⟩
def sumF (f : Nat → Int) (l : List Nat) : Int := (l.map f).sum
theorem sumF_cons (f : Nat → Int) (a : Nat) (l : List Nat) : sumF f (a :: l) = f a + sumF f l := by simp [sumF]
theorem sumF_append (f : Nat → Int) (a b : List Nat) : sumF f (a ++ b) = sumF f a + sumF f b := by simp [sumF]
theorem sumF_congr {f g : Nat → Int} {l : List Nat} (h : ∀ x ∈ l, f x = g x) : sumF f l = sumF g l := by
  unfold sumF
  rw [List.map_congr_left h]
theorem sumF_upd {f g : Nat → Int} {p : Nat} (hg : ∀ x, x ≠ p → g x = f x) : ∀ {l : List Nat}, l.Nodup → p ∈ l → sumF g l = sumF f l - f p + g p
  | [], _, h => by simp at h
  | a :: l, d, h => by
    obtain ⟨d1, d2⟩ := List.nodup_cons.mp d
    rw [sumF_cons, sumF_cons]
    by_cases e : a = p
    · subst e
      rw [sumF_congr (f := g) (g := f) fun x hx => hg x fun z => d1 (z ▸ hx)]
      omega
    · have hp : p ∈ l := (List.mem_cons.mp h).resolve_left fun z => e z.symm
      rw [sumF_upd hg d2 hp, hg a e]
      omega
theorem perm_sum {a b : List Int} (p : a.Perm b) : a.sum = b.sum := by
  induction p with
  | nil => rfl
  | cons x _ ih => rw [List.sum_cons, List.sum_cons, ih]
  | swap x y l => simp only [List.sum_cons]; omega
  | trans _ _ h1 h2 => exact h1.trans h2
theorem sumF_perm {f : Nat → Int} {a b : List Nat} (p : a.Perm b) : sumF f a = sumF f b := by
  unfold sumF
  exact perm_sum (p.map f)
/-- the book of a tree -/
def bkT (h : Nat) (L : List (Nat × Nat)) (s : SA) : Int := sumF s.1 (hs h L) - sumF s.2 (L.map Prod.fst)
structure Up (h : Nat) (L : List (Nat × Nat)) (m : Nat) (s s' : SA) : Prop where
  oS : ∀ x, x ∉ hs h L → s'.1 x = s.1 x
  oA : ∀ i, i ∉ L.map Prod.fst → s'.2 i = s.2 i
  top : s'.1 h = wrapI (bkT h L s) m
  eq : ∀ e ∈ L, s'.1 e.2 = s'.2 e.1
  head : ∀ e, L.head? = some e → s'.2 e.1 = s'.1 h
theorem Tree.up {ts : List (Nat × Nat)} {h m : Nat} {L : List (Nat × Nat)} (T : Tree ts h L) : ∀ s, Nrm m s → Up h L m s (frun ts m s (L.map Prod.fst).reverse) := by
  induction T with
  | nil =>
    intro s hn
    refine ⟨fun _ _ => rfl, fun _ _ => rfl, ?_, by simp, by simp⟩
    show s.1 h = wrapI (bkT h [] s) m
    have e : bkT h [] s = s.1 h := by simp [bkT, hs, sumF]
    rw [e, hn.1]
  | @snoc L i y p t T ht he hp hy ih =>
    intro s hn
    have hf := T.fresh ht he hy
    have er : ((L ++ [(i, y)]).map Prod.fst).reverse = i :: (L.map Prod.fst).reverse := by simp
    rw [er]
    show Up h _ m s (frun ts m (fmeet ts m s i) (L.map Prod.fst).reverse)
    have u := ih (fmeet ts m s i) (hn.meet i)
    generalize hs' : frun ts m (fmeet ts m s i) (L.map Prod.fst).reverse = s' at u
    have hpy : p ≠ y := fun e => hy (e ▸ hp)
    -- what the first meeting does
    have g : ∃ v, v = wrapI (s.1 p + s.1 y - s.2 i) m ∧ (∀ x, (fmeet ts m s i).1 x = if x = p ∨ x = y then v else s.1 x) ∧ (∀ j, (fmeet ts m s i).2 j = if j = i then v else s.2 j) := by
      refine ⟨_, rfl, ?_⟩
      unfold fmeet
      rw [ht]
      rcases he with ⟨e1, e2⟩ | ⟨e1, e2⟩
      · subst e1; subst e2
        exact ⟨fun x => rfl, fun j => rfl⟩
      · subst e1; subst e2
        refine ⟨fun x => ?_, fun j => ?_⟩
        · dsimp only
          rw [Int.add_comm (s.1 t.1)]
          simp only [or_comm]
        · dsimp only
          rw [Int.add_comm (s.1 t.1)]
    obtain ⟨v, ev, g1, g2⟩ := g
    generalize fmeet ts m s i = s1 at u g1 g2
    have hyS : s1.1 y = v := by rw [g1, if_pos (.inr rfl)]
    have hpS : s1.1 p = v := by rw [g1, if_pos (.inl rfl)]
    have hiA : s1.2 i = v := by rw [g2, if_pos rfl]
    refine ⟨fun x hx => ?_, fun j hj => ?_, ?_, fun e hem => ?_, fun e hh => ?_⟩
    · rw [hs_snoc, List.mem_append] at hx
      have h1 : x ∉ hs h L := fun z => hx (.inl z)
      have h2 : x ≠ y := fun z => hx (.inr (by simp [z]))
      have h3 : x ≠ p := fun z => h1 (z ▸ hp)
      rw [u.oS x h1, g1, if_neg (fun z => z.elim h3 h2)]
    · rw [List.map_append, List.mem_append] at hj
      have h1 : j ∉ L.map Prod.fst := fun z => hj (.inl z)
      have h2 : j ≠ i := fun z => hj (.inr (by simp [z]))
      rw [u.oA j h1, g2, if_neg h2]
    · rw [u.top]
      have e1 : sumF s1.1 (hs h L) = sumF s.1 (hs h L) - s.1 p + v := by
        rw [← hpS]
        have eq1 : ∀ x ∈ hs h L, s1.1 x = (fun x => if x = p then v else s.1 x) x := fun x hx => by
          rw [g1]
          by_cases z : x = p
          · simp [z]
          · have : x ≠ y := fun q => hy (q ▸ hx)
            simp [z, this]
        rw [sumF_congr eq1, sumF_upd (f := s.1) (g := fun x => if x = p then v else s.1 x) (p := p) (fun x hx => by simp [hx]) T.nodup hp]
        simp [hpS]
      have e2 : sumF s1.2 (L.map Prod.fst) = sumF s.2 (L.map Prod.fst) := sumF_congr fun j hj => by
        have hji : j ≠ i := fun z => hf (by rw [← z]; exact hj)
        rw [g2, if_neg hji]
      have e3 : bkT h (L ++ [(i, y)]) s = sumF s.1 (hs h L) + s.1 y - (sumF s.2 (L.map Prod.fst) + s.2 i) := by
        unfold bkT
        rw [hs_snoc, List.map_append, sumF_append, sumF_append]
        simp [sumF]
      have e4 : bkT h L s1 = (sumF s.1 (hs h L) - s.1 p - sumF s.2 (L.map Prod.fst)) + v := by
        unfold bkT
        rw [e1, e2]
        omega
      rw [e4, ev, wrap_add, e3]
      congr 1
      omega
    · rcases List.mem_append.mp hem with z | z
      · exact u.eq e z
      · rw [List.mem_singleton.mp z]
        show s'.1 y = s'.2 i
        rw [u.oS y hy, u.oA i hf, hyS, hiA]
    · cases L with
      | nil =>
        have e' : e = (i, y) := by simpa using hh.symm
        subst e'
        have hph : p = h := by simpa [hs] using hp
        show s'.2 i = s'.1 h
        have e1 : bkT h [] s1 = s1.1 h := by simp [bkT, hs, sumF]
        rw [u.oA i hf, hiA, u.top, e1, ← hph, hpS, ev, wrap_idem]
      | cons a L =>
        exact u.head e (by simpa using hh)
/-- back: all is the book -/
structure Dn (h : Nat) (L : List (Nat × Nat)) (B : Int) (s s' : SA) : Prop where
  oS : ∀ x, x ∉ hs h L → s'.1 x = s.1 x
  oA : ∀ i, i ∉ L.map Prod.fst → s'.2 i = s.2 i
  eS : ∀ x ∈ hs h L, s'.1 x = B
  eA : ∀ i ∈ L.map Prod.fst, s'.2 i = B
theorem frun_snoc (ts : List (Nat × Nat)) (m : Nat) (s : SA) (l : List Nat) (i : Nat) : frun ts m s (l ++ [i]) = fmeet ts m (frun ts m s l) i := by
  unfold frun
  rw [List.foldl_append]
  rfl
theorem Tree.dn {ts : List (Nat × Nat)} {h m : Nat} {B : Int} {L : List (Nat × Nat)} (T : Tree ts h L) (hB : wrapI B m = B) : ∀ s : SA, s.1 h = B → (∀ e ∈ L, s.1 e.2 = s.2 e.1) → Dn h L B s (frun ts m s (L.map Prod.fst)) := by
  induction T with
  | nil =>
    intro s h1 _
    exact ⟨fun _ _ => rfl, fun _ _ => rfl, fun x hx => by rw [show x = h by simpa [hs] using hx]; exact h1, by simp⟩
  | @snoc L i y p t T ht he hp hy ih =>
    intro s h1 h2
    have hf := T.fresh ht he hy
    have d := ih s h1 fun e hem => h2 e (List.mem_append_left _ hem)
    rw [List.map_append]
    show Dn h _ B s (frun ts m s (L.map Prod.fst ++ [i]))
    rw [frun_snoc]
    generalize frun ts m s (L.map Prod.fst) = s1 at d
    have hyi : s1.1 y = s1.2 i := by
      rw [d.oS y hy, d.oA i hf]
      exact h2 (i, y) (by simp)
    have g : (∀ x, (fmeet ts m s1 i).1 x = if x = p ∨ x = y then B else s1.1 x) ∧ (∀ j, (fmeet ts m s1 i).2 j = if j = i then B else s1.2 j) := by
      have hpB := d.eS p hp
      unfold fmeet
      rw [ht]
      rcases he with ⟨e1, e2⟩ | ⟨e1, e2⟩
      · have ev : wrapI (s1.1 t.1 + s1.1 t.2 - s1.2 i) m = B := by
          rw [e1, e2, hpB, hyi, ← hB]
          congr 1
          omega
        dsimp only
        rw [ev, e1, e2]
        exact ⟨fun x => rfl, fun j => rfl⟩
      · have ev : wrapI (s1.1 t.1 + s1.1 t.2 - s1.2 i) m = B := by
          rw [e1, e2, hpB, hyi, ← hB]
          congr 1
          omega
        dsimp only
        rw [ev, e1, e2]
        refine ⟨fun x => ?_, fun j => rfl⟩
        simp only [or_comm]
    obtain ⟨g1, g2⟩ := g
    refine ⟨fun x hx => ?_, fun j hj => ?_, fun x hx => ?_, fun j hj => ?_⟩
    · rw [hs_snoc, List.mem_append] at hx
      have h1 : x ∉ hs h L := fun z => hx (.inl z)
      have h2 : x ≠ y := fun z => hx (.inr (by simp [z]))
      have h3 : x ≠ p := fun z => h1 (by rw [z]; exact hp)
      rw [g1, if_neg (fun z => z.elim h3 h2), d.oS x h1]
    · rw [List.map_append, List.mem_append] at hj
      have h1 : j ∉ L.map Prod.fst := fun z => hj (.inl z)
      have h2 : j ≠ i := fun z => hj (.inr (by simp [z]))
      rw [g2, if_neg h2, d.oA j h1]
    · rw [hs_snoc, List.mem_append] at hx
      rw [g1]
      split
      · rfl
      · rename_i q
        refine d.eS x (hx.resolve_right fun z => q (.inr (by simpa using z)))
    · rw [List.map_append, List.mem_append] at hj
      rw [g2]
      split
      · rfl
      · rename_i q
        exact d.eA j (hj.resolve_right fun z => q (by simpa using z))
/-- a meeting at rest changes nothing -/
theorem fmeet_rest {ts : List (Nat × Nat)} {m i : Nat} {t : Nat × Nat} {s : SA} (ht : ts[i]? = some t) (h1 : s.1 t.1 = s.2 i) (h2 : s.1 t.2 = s.2 i) (hn : wrapI (s.2 i) m = s.2 i) : fmeet ts m s i = s := by
  unfold fmeet
  rw [ht]
  have ev : wrapI (s.1 t.1 + s.1 t.2 - s.2 i) m = s.2 i := by
    rw [h1, h2]
    refine Eq.trans ?_ hn
    congr 1
    omega
  dsimp only
  rw [ev]
  refine Prod.ext (funext fun x => ?_) (funext fun j => ?_)
  · dsimp only
    split
    · rename_i z
      rcases z with z | z
      · rw [z, h1]
      · rw [z, h2]
    · rfl
  · dsimp only
    split
    · rename_i z
      rw [z]
    · rfl
/-- what a sweep meets -/
def orderOf (L : List (Nat × Nat)) : List Nat := (L.map Prod.fst).reverse ++ (L.map Prod.fst).drop 1
theorem Tree.first {ts : List (Nat × Nat)} {h : Nat} {L : List (Nat × Nat)} (T : Tree ts h L) : ∀ e, L.head? = some e → ∃ t, ts[e.1]? = some t ∧ ((t.1 = h ∧ t.2 = e.2) ∨ (t.2 = h ∧ t.1 = e.2)) := by
  induction T with
  | nil => intro e he; simp at he
  | @snoc L i y p t T ht he hp hy ih =>
    intro e hh
    cases L with
    | nil =>
      have e' : e = (i, y) := by simpa using hh.symm
      subst e'
      have hph : p = h := by simpa [hs] using hp
      subst hph
      exact ⟨t, ht, he⟩
    | cons a L => exact ih e (by simpa using hh)
theorem Tree.sweep {ts : List (Nat × Nat)} {h m : Nat} {L : List (Nat × Nat)} (T : Tree ts h L) (s : SA) (hn : Nrm m s) : Dn h L (wrapI (bkT h L s) m) s (frun ts m s (orderOf L)) := by
  have u := T.up s hn
  have n1 : Nrm m (frun ts m s (L.map Prod.fst).reverse) := hn.run
  have e0 : frun ts m s (orderOf L) = frun ts m (frun ts m s (L.map Prod.fst).reverse) ((L.map Prod.fst).drop 1) := by
    unfold frun orderOf
    rw [List.foldl_append]
  rw [e0]
  generalize frun ts m s (L.map Prod.fst).reverse = s1 at u n1
  have d := T.dn (m := m) (wrap_idem (bkT h L s) m) s1 u.top u.eq
  have e1 : frun ts m s1 ((L.map Prod.fst).drop 1) = frun ts m s1 (L.map Prod.fst) := by
    cases hL : L with
    | nil => rfl
    | cons a L' =>
      obtain ⟨t, ht, ho⟩ := T.first a (by rw [hL]; rfl)
      have h1 := u.head a (by rw [hL]; rfl)
      have h2 := u.eq a (by rw [hL]; exact List.mem_cons_self)
      have e2 : fmeet ts m s1 a.1 = s1 := by
        rcases ho with ⟨o1, o2⟩ | ⟨o1, o2⟩
        · exact fmeet_rest ht (by rw [o1, h1]) (by rw [o2, h2]) (n1.2 _)
        · exact fmeet_rest ht (by rw [o2, h2]) (by rw [o1, h1]) (n1.2 _)
      show frun ts m s1 (L'.map Prod.fst) = frun ts m (fmeet ts m s1 a.1) (L'.map Prod.fst)
      rw [e2]
  rw [e1]
  exact ⟨fun x hx => (d.oS x hx).trans (u.oS x hx), fun i hi => (d.oA i hi).trans (u.oA i hi), d.eS, d.eA⟩
end Hou
set_option Elab.async false
set_option linter.all false
set_option maxRecDepth 100000
set_option autoImplicit false
/-! the mathematics: lists of numbers, sums, bounds, forests -/
namespace Hou
theorem nodup_sub_len : ∀ {a b : List Nat}, a.Nodup → (∀ x ∈ a, x ∈ b) → a.length ≤ b.length
  | [], _, _, _ => Nat.zero_le _
  | x :: a, b, d, h => by
    obtain ⟨d1, d2⟩ := List.nodup_cons.mp d
    have hx := h x List.mem_cons_self
    have h2 := nodup_sub_len (a := a) (b := b.erase x) d2 fun y hy => (List.mem_erase_of_ne (fun e => d1 (by rw [← e]; exact hy))).mpr (h y (List.mem_cons_of_mem _ hy))
    rw [List.length_erase_of_mem hx] at h2
    have : 0 < b.length := List.length_pos_of_mem hx
    rw [List.length_cons]
    omega
theorem perm_of_len {a b : List Nat} (da : a.Nodup) (db : b.Nodup) (h : ∀ x ∈ a, x ∈ b) (hl : b.length ≤ a.length) : a.Perm b := by
  refine (List.perm_ext_iff_of_nodup da db).mpr fun x => ⟨h x, fun hx => ?_⟩
  refine Classical.byContradiction fun hn => ?_
  have h2 := nodup_sub_len (a := a) (b := b.erase x) da fun y hy => (List.mem_erase_of_ne (fun e => hn (by rw [← e]; exact hy))).mpr (h y hy)
  rw [List.length_erase_of_mem hx] at h2
  have : 0 < b.length := List.length_pos_of_mem hx
  omega
/-- the ties of c -/
def ownT (ts : List (Nat × Nat)) (c : List Nat) : List Nat := (List.range ts.length).filter fun i => match ts[i]? with | some t => decide (t.1 ∈ c) | none => false
theorem ownT_mem {ts : List (Nat × Nat)} {c : List Nat} {i : Nat} : i ∈ ownT ts c ↔ ∃ t, ts[i]? = some t ∧ t.1 ∈ c := by
  unfold ownT
  rw [List.mem_filter, List.mem_range]
  constructor
  · rintro ⟨hi, h2⟩
    have e : ts[i]? = some ts[i] := by simp [hi]
    rw [e] at h2
    exact ⟨_, e, by simpa using h2⟩
  · rintro ⟨t, e, h2⟩
    refine ⟨(List.getElem?_eq_some_iff.mp e).1, ?_⟩
    rw [e]
    simpa using h2
theorem ownT_nodup (ts : List (Nat × Nat)) (c : List Nat) : (ownT ts c).Nodup := List.nodup_range.filter _
theorem ownT_len (ts : List (Nat × Nat)) (c : List Nat) : (ownT ts c).length = tiesIn ts c := by
  rw [← tiesIn_eq ts c fun i _ => i]
  unfold ownT
  rw [← List.filterMap_eq_filter]
  refine fm_len fun i hi => ?_
  have hi' := List.mem_range.mp hi
  have e : ts[i]? = some ts[i] := by simp [hi']
  simp only [Option.guard_apply, e]
  by_cases h : ts[i].1 ∈ c
  · simp [h]
  · simp [h]
theorem tieSum_own (ts : List (Nat × Nat)) (as : List Int) (c : List Nat) : tieSum ts as c = sumF (fun i => as.getD i 0) (ownT ts c) := by
  unfold tieSum sumF ownT
  rw [← fm_some (fun i => as.getD i 0), List.filterMap_filter]
  congr 1
  refine fm_congr fun i hi => ?_
  have hi' := List.mem_range.mp hi
  have e : ts[i]? = some ts[i] := by simp [hi']
  simp only [e, decide_eq_true_eq]
def fS (xs as : List Int) : SA := (fun i => xs.getD i 0, fun i => as.getD i 0)
/-- L is all of c -/
structure Full (ts : List (Nat × Nat)) (h : Nat) (c : List Nat) (L : List (Nat × Nat)) : Prop where
  tr : Tree ts h L
  mem : ∀ x, x ∈ c ↔ x ∈ hs h L
  few : tiesIn ts c + 1 ≤ c.length
  nd : c.Nodup
section
variable {ts : List (Nat × Nat)} {h : Nat} {c : List Nat} {L : List (Nat × Nat)}
theorem Full.perm (F : Full ts h c L) : c.Perm (hs h L) := (List.perm_ext_iff_of_nodup F.nd F.tr.nodup).mpr F.mem
theorem Full.len (F : Full ts h c L) : c.length = L.length + 1 := by
  rw [F.perm.length_eq]
  simp [hs]
theorem Full.own (F : Full ts h c L) : (L.map Prod.fst).Perm (ownT ts c) := by
  refine perm_of_len F.tr.nodupT (ownT_nodup ts c) (fun i hi => ?_) ?_
  · obtain ⟨t, e, h1, _⟩ := F.tr.ends i hi
    exact ownT_mem.mpr ⟨t, e, (F.mem _).mpr h1⟩
  · have h1 := F.few
    have h2 := F.len
    rw [ownT_len, List.length_map]
    omega
theorem Full.book (F : Full ts h c L) (xs as : List Int) : bookI ts xs as c = bkT h L (fS xs as) := by
  unfold bookI bkT
  rw [tieSum_own, sumF_perm F.own.symm]
  congr 1
  exact sumF_perm (f := fun i => xs.getD i 0) F.perm
theorem Full.order_len (F : Full ts h c L) : ((orderOf L).length : Int) = (if (2 * (c.length : Int) - 3) > 0 then 2 * (c.length : Int) - 3 else 0) := by
  have h2 := F.len
  unfold orderOf
  rw [List.length_append, List.length_reverse, List.length_drop, List.length_map, h2]
  split <;> omega
theorem order_sub (L : List (Nat × Nat)) : ∀ i ∈ orderOf L, i ∈ L.map Prod.fst := fun i hi => by
  unfold orderOf at hi
  rcases List.mem_append.mp hi with z | z
  · exact List.mem_reverse.mp z
  · exact List.mem_of_mem_drop z
end
/-! ### bounds -/
def Bd (k : Nat) : Nat := 10 ^ 18 * 3 ^ k
theorem Bd_succ (k : Nat) : Bd (k + 1) = 3 * Bd k := by
  unfold Bd
  rw [Nat.pow_succ]
  omega
theorem Bd_zero : Bd 0 = 1000000000000000000 := rfl
theorem Bd_le {j k : Nat} (h : j ≤ k) : Bd j ≤ Bd k := by
  unfold Bd
  exact Nat.mul_le_mul_left _ (Nat.pow_le_pow_right (by decide) h)
theorem Bd_big {k : Nat} (h : k ≤ 300) : 40 * Bd k < big := by
  refine Nat.lt_of_le_of_lt (Nat.mul_le_mul_left 40 (Bd_le h)) ?_
  unfold Bd big
  decide +kernel
/-- a number that a counter holds behind k steps -/
def Okv (m k : Nat) (x : Int) : Prop := wrapI x m = x ∧ x.natAbs ≤ Bd k
theorem Okv.mono {m j k : Nat} {x : Int} (h : Okv m j x) (hk : j ≤ k) : Okv m k x := ⟨h.1, Nat.le_trans h.2 (Bd_le hk)⟩
theorem okI_of {m k : Nat} {x : Int} (h : Okv m k x) (hk : k ≤ 300) : okI x := by
  have := Bd_big hk
  have := h.2
  unfold okI
  omega
theorem wrap_abs {x : Int} {m b : Nat} (hm : m ≤ 1000000) (hb : 1000000 ≤ b) (h : x.natAbs ≤ b) : (wrapI x m).natAbs ≤ b := by
  unfold wrapI
  split
  · rename_i h0
    have h1 := Int.emod_nonneg x (show (m : Int) ≠ 0 by omega)
    have h2 := Int.emod_lt_of_pos x (show (0 : Int) < (m : Int) by omega)
    omega
  · exact h
theorem Okv.of_cnt {m : Nat} {x : Int} (hm : ModOk m) (h : Cnt m x) : Okv m 0 x := by
  unfold Cnt at h
  have h2 := hm.2
  refine ⟨?_, ?_⟩
  · unfold wrapI
    split
    · rename_i h0
      rw [if_pos h0] at h
      exact Int.emod_eq_of_lt h.1 h.2
    · rfl
  · rw [Bd_zero]
    split at h <;> omega
structure SOk (n : Nat) (ts : List (Nat × Nat)) (m k : Nat) (xs as : List Int) : Prop where
  lx : xs.length = n
  la : as.length = ts.length
  ox : ∀ x ∈ xs, Okv m k x
  oa : ∀ x ∈ as, Okv m k x
  mo : ModOk m
theorem getD_mem {xs : List Int} {i : Nat} (h : i < xs.length) : xs.getD i 0 ∈ xs := by
  rw [List.getD_eq_getElem?_getD]
  simp [h]
theorem wrap_zero (m : Nat) : wrapI 0 m = 0 := by
  unfold wrapI
  split
  · exact Int.zero_emod _
  · rfl
section
variable {n m k : Nat} {ts : List (Nat × Nat)} {xs as : List Int}
theorem SOk.mono {j : Nat} (s : SOk n ts m j xs as) (h : j ≤ k) : SOk n ts m k xs as := ⟨s.lx, s.la, fun x hx => (s.ox x hx).mono h, fun x hx => (s.oa x hx).mono h, s.mo⟩
theorem SOk.gx (s : SOk n ts m k xs as) (i : Nat) : Okv m k (xs.getD i 0) := by
  by_cases h : i < xs.length
  · exact s.ox _ (getD_mem h)
  · rw [List.getD_eq_getElem?_getD, List.getElem?_eq_none (by omega)]
    exact ⟨wrap_zero m, Nat.zero_le _⟩
theorem SOk.ga (s : SOk n ts m k xs as) (i : Nat) : Okv m k (as.getD i 0) := by
  by_cases h : i < as.length
  · exact s.oa _ (getD_mem h)
  · rw [List.getD_eq_getElem?_getD, List.getElem?_eq_none (by omega)]
    exact ⟨wrap_zero m, Nat.zero_le _⟩
theorem SOk.nrm (s : SOk n ts m k xs as) : Nrm m (fS xs as) := ⟨fun x => (s.gx x).1, fun i => (s.ga i).1⟩
theorem Bd_ge (k : Nat) : 1000000000000000000 ≤ Bd k := by
  have := Bd_le (Nat.zero_le k)
  rwa [Bd_zero] at this
theorem SOk.metOk (s : SOk n ts m k xs as) (t : Nat × Nat) (i : Nat) : Okv m (k + 1) (metV t xs as i m) := by
  have h1 := (s.gx t.1).2
  have h2 := (s.gx t.2).2
  have h3 := (s.ga i).2
  have hb := Bd_ge (k + 1)
  refine ⟨wrap_idem _ _, wrap_abs s.mo.2 (by omega) ?_⟩
  rw [Bd_succ]
  omega
theorem mem_set {x v : Int} {l : List Int} {i : Nat} (h : x ∈ l.set i v) : x ∈ l ∨ x = v := List.mem_or_eq_of_mem_set h
theorem SOk.meet (s : SOk n ts m k xs as) (t : Nat × Nat) (i : Nat) : SOk n ts m (k + 1) (metX t xs (metV t xs as i m)) (as.set i (metV t xs as i m)) := by
  have hv := s.metOk t i
  refine ⟨by unfold metX; rw [List.length_set, List.length_set]; exact s.lx, by rw [List.length_set]; exact s.la, fun x hx => ?_, fun x hx => ?_, s.mo⟩
  · unfold metX at hx
    rcases mem_set hx with hx | rfl
    · rcases mem_set hx with hx | rfl
      · exact (s.ox x hx).mono (Nat.le_succ k)
      · exact hv
    · exact hv
  · rcases mem_set hx with hx | rfl
    · exact (s.oa x hx).mono (Nat.le_succ k)
    · exact hv
theorem SOk.deedOk (s : SOk n ts m k xs as) (h : Nat) {v : Int} (hv : v.natAbs ≤ 1000000000000000000) : Okv m (k + 1) (wrapI (xs.getD h 0 + v) m) := by
  have h1 := (s.gx h).2
  have hb := Bd_ge k
  refine ⟨wrap_idem _ _, wrap_abs s.mo.2 ?_ ?_⟩
  · rw [Bd_succ]; omega
  · rw [Bd_succ]; omega
theorem SOk.deed (s : SOk n ts m k xs as) (h : Nat) {v : Int} (hv : v.natAbs ≤ 1000000000000000000) : SOk n ts m (k + 1) (xs.set h (wrapI (xs.getD h 0 + v) m)) as := by
  have ho := s.deedOk h hv
  refine ⟨by rw [List.length_set]; exact s.lx, s.la, fun x hx => ?_, fun x hx => (s.oa x hx).mono (Nat.le_succ k), s.mo⟩
  rcases mem_set hx with hx | rfl
  · exact (s.ox x hx).mono (Nat.le_succ k)
  · exact ho
theorem sum_abs (f : Nat → Int) (B : Nat) : ∀ l : List Nat, (∀ x ∈ l, (f x).natAbs ≤ B) → (sumF f l).natAbs ≤ B * l.length
  | [], _ => by simp [sumF]
  | a :: l, h => by
    have h1 := h a List.mem_cons_self
    have h2 := sum_abs f B l fun x hx => h x (List.mem_cons_of_mem _ hx)
    rw [sumF_cons, List.length_cons, Nat.mul_succ]
    omega
theorem SOk.bookOk (s : SOk n ts m k xs as) (hk : k ≤ 300) {c : List Nat} (hc : c.length ≤ 12) (ht : ts.length ≤ 20) : okI (wrapI (bookI ts xs as c) m) := by
  have h1 := sum_abs (fun i => xs.getD i 0) (Bd k) c fun x _ => (s.gx x).2
  have h2 := sum_abs (fun i => as.getD i 0) (Bd k) (ownT ts c) fun x _ => (s.ga x).2
  have h3 : (ownT ts c).length ≤ ts.length := by
    have := List.length_filter_le (fun i => match ts[i]? with | some t => decide (t.1 ∈ c) | none => false) (List.range ts.length)
    rw [List.length_range] at this
    exact this
  have hb := Bd_ge k
  have h4 : Bd k * c.length ≤ Bd k * 12 := Nat.mul_le_mul_left _ hc
  have h5 : Bd k * (ownT ts c).length ≤ Bd k * 20 := Nat.mul_le_mul_left _ (Nat.le_trans h3 ht)
  have h6 : (bookI ts xs as c).natAbs ≤ 40 * Bd k := by
    unfold bookI
    rw [tieSum_own]
    show (sumF (fun i => xs.getD i 0) c - _).natAbs ≤ _
    omega
  exact Nat.lt_of_le_of_lt (wrap_abs s.mo.2 (by omega) h6) (Bd_big hk)
/-- a meeting of lists is a meeting -/
theorem fS_meet {t : Nat × Nat} {i : Nat} (ht : ts[i]? = some t) (h1 : t.1 < xs.length) (h2 : t.2 < xs.length) (hi : i < as.length) : fS (metX t xs (metV t xs as i m)) (as.set i (metV t xs as i m)) = fmeet ts m (fS xs as) i := by
  unfold fmeet
  rw [ht]
  refine Prod.ext (funext fun x => ?_) (funext fun j => ?_)
  · show (metX t xs _).getD x 0 = if x = t.1 ∨ x = t.2 then metV t xs as i m else xs.getD x 0
    rw [List.getD_eq_getElem?_getD, metX_get, List.getD_eq_getElem?_getD]
    by_cases hx : x < xs.length
    · have e : xs[x]? = some xs[x] := by simp [hx]
      rw [e]
      simp only [Option.map_some, Option.getD_some]
    · have e : xs[x]? = none := List.getElem?_eq_none (by omega)
      have hne : ¬ (x = t.1 ∨ x = t.2) := by omega
      rw [e, if_neg hne]
      rfl
  · show (as.set i _).getD j 0 = if j = i then metV t xs as i m else as.getD j 0
    rw [List.getD_eq_getElem?_getD, List.getElem?_set, List.getD_eq_getElem?_getD]
    by_cases hj : i = j
    · subst hj
      rw [if_pos rfl, if_pos rfl, if_pos hi]
      rfl
    · rw [if_neg hj, if_neg (fun z => hj z.symm)]
theorem fS_inj {ys bs : List Int} (e : fS xs as = fS ys bs) (l1 : xs.length = ys.length) (l2 : as.length = bs.length) : xs = ys ∧ as = bs := by
  have e1 := congrArg Prod.fst e
  have e2 := congrArg Prod.snd e
  have key : ∀ (a b : List Int), a.length = b.length → (∀ i, a.getD i 0 = b.getD i 0) → a = b := fun a b hl h => by
    refine List.ext_getElem hl fun i h1 h2 => ?_
    have := h i
    rw [List.getD_eq_getElem?_getD, List.getD_eq_getElem?_getD] at this
    simpa [h1, h2] using this
  exact ⟨key _ _ l1 fun i => congrFun e1 i, key _ _ l2 fun i => congrFun e2 i⟩
end
/-! ### rest -/
def RestAt (ts : List (Nat × Nat)) (s : SA) (i : Nat) : Prop := ∀ t, ts[i]? = some t → s.1 t.1 = s.2 i ∧ s.1 t.2 = s.2 i
/-! ### forests -/
/-- the end of a tie that came later -/
def chi (r : Nat → Nat) (t : Nat × Nat) : Nat := if r t.2 < r t.1 then t.1 else t.2
def Forest (ts : List (Nat × Nat)) : Prop := ∃ r : Nat → Nat, (∀ t ∈ ts, r t.1 ≠ r t.2) ∧ (ts.map (chi r)).Nodup
theorem Forest.perm {ts us : List (Nat × Nat)} (f : Forest ts) (p : us.Perm ts) : Forest us := by
  obtain ⟨r, h1, h2⟩ := f
  exact ⟨r, fun t ht => h1 t (p.mem_iff.mp ht), ((p.map (chi r)).nodup_iff).mpr h2⟩
theorem least_of (r : Nat → Nat) : ∀ c : List Nat, c ≠ [] → ∃ x ∈ c, ∀ y ∈ c, r x ≤ r y
  | [], h => absurd rfl h
  | [a], _ => ⟨a, by simp, fun y hy => by rw [show y = a by simpa using hy]; exact Nat.le_refl _⟩
  | a :: b :: l, _ => by
    obtain ⟨x, hx, h⟩ := least_of r (b :: l) (by simp)
    by_cases e : r a ≤ r x
    · refine ⟨a, List.mem_cons_self, fun y hy => ?_⟩
      rcases List.mem_cons.mp hy with rfl | hy
      · exact Nat.le_refl _
      · exact Nat.le_trans e (h y hy)
    · refine ⟨x, List.mem_cons_of_mem _ hx, fun y hy => ?_⟩
      rcases List.mem_cons.mp hy with rfl | hy
      · omega
      · exact h y hy
/-- a closed part of a forest has fewer ties than houses -/
theorem Forest.few {ts : List (Nat × Nat)} (f : Forest ts) {c : List Nat} (hc : c ≠ []) (cl : Closed ts (· ∈ c)) : tiesIn ts c + 1 ≤ c.length := by
  obtain ⟨r, h1, h2⟩ := f
  obtain ⟨x, hx, hl⟩ := least_of r c hc
  have hsub : ((ts.filter fun t => decide (t.1 ∈ c)).map (chi r)).Nodup := (List.filter_sublist.map (chi r)).nodup h2
  have h3 := nodup_sub_len (b := c.erase x) hsub fun y hy => by
    obtain ⟨t, ht, rfl⟩ := List.mem_map.mp hy
    obtain ⟨ht, hin⟩ := List.mem_filter.mp ht
    have hin1 : t.1 ∈ c := of_decide_eq_true hin
    have hin2 : t.2 ∈ c := (cl t ht).mp hin1
    have hne := h1 t ht
    unfold chi
    split
    · rename_i hlt
      refine (List.mem_erase_of_ne fun e => ?_).mpr hin1
      have := hl t.2 hin2
      rw [← e] at this
      omega
    · rename_i hlt
      refine (List.mem_erase_of_ne fun e => ?_).mpr hin2
      have := hl t.1 hin1
      rw [← e] at this
      omega
  rw [List.length_map, List.length_erase_of_mem hx] at h3
  have : 0 < c.length := List.length_pos_of_mem hx
  unfold tiesIn
  omega
end Hou
set_option Elab.async false
set_option linter.all false
set_option maxRecDepth 100000
set_option autoImplicit false
namespace Hou
open PySem PySem.Spec PyProof.Rows L2
/-! ### short tactics: a reading's next questions -/
local macro_rules | `(tactic| walk_at "hq") => `(tactic| first
  | assumption | exact SqL.of (by assumption) | exact SqT.of (by assumption) | exact .inl (by assumption) | exact .inr (by assumption) | exact .inl (SqL.of (by assumption)) | exact .inr (SqT.of (by assumption))
  | exact SqL.of upd_same | exact SqT.of upd_same)
local macro_rules | `(tactic| walk_at "at") => `(tactic| first | assumption | exact atI_nat (j := 0) rfl | exact atI_nat (j := 1) rfl)
local macro_rules | `(tactic| walk_at "sd") => `(tactic| first
  | rfl | exact .inl ⟨by decide, by decide⟩ | exact .inr ⟨by decide, by decide⟩ | exact ⟨by decide, by decide, by decide⟩ | (show ((_ : Int) ≠ 0); first | decide | assumption | omega)
  | (show ((_ : Int) ≠ 0 ∧ _); refine ⟨by first | decide | assumption | omega, by first | decide | omega⟩) | (show (_ ≤ sizeLine); first | (simp only [List.length_cons, List.length_nil]; decide) | assumption) | decide | omega)
local macro_rules | `(tactic| walk_at "rd") => `(tactic| first
  | refine ⟨_, rfl, ?_⟩ | refine ⟨_, _, rfl, rfl, ?_⟩ | refine .inl ⟨_, rfl, ?_⟩ | refine .inr ⟨_, rfl, ?_⟩
  | refine ⟨_, _, _, _, rfl, rfl, (by walk_at "hq"), (by walk_at "at"), ?_⟩ | refine ⟨_, _, rfl, (by walk_at "hq"), ?_⟩ | refine ⟨(by walk_at "sd"), ?_⟩)

/-- (tie, the other house) of all ties of a house -/
def endAt (ts : List (Nat × Nat)) (h : Nat) (i : Nat) : Option (Nat × Nat) := match ts[i]? with | some t => if h = t.1 ∨ h = t.2 then some (i, if h = t.1 then t.2 else t.1) else none | none => none
def endsAt (ts : List (Nat × Nat)) (h : Nat) : List (Nat × Nat) := (List.range ts.length).filterMap (endAt ts h)
section
variable {P : Program} {w : World} {K : PySem.W.Frag} {mg : Str → Option Value} {base : Heap} {CW CC : Addr}
theorem PsAt.snoc {H : Hp} {ps : List V} {ts : List (Nat × Nat)} {a : Addr} {t : Nat × Nat} (h : PsAt H ps ts) (ha : H a = some (.tup [.int (t.1 : Nat), .int (t.2 : Nat)])) : PsAt H (ps ++ [.ref a]) (ts ++ [t]) := by
  refine ⟨by rw [List.length_append, List.length_append, h.1]; rfl, fun i u e => ?_⟩
  by_cases hi : i < ts.length
  · rw [List.getElem?_append_left hi] at e
    obtain ⟨b, e1, e2⟩ := h.2 i u e
    exact ⟨b, by rw [List.getElem?_append_left (by rw [h.1]; exact hi)]; exact e1, e2⟩
  · have hi2 : i = ts.length := by
      have := (List.getElem?_eq_some_iff.mp e).1
      rw [List.length_append, List.length_singleton] at this
      omega
    subst hi2
    rw [List.getElem?_append_right (Nat.le_refl _), Nat.sub_self] at e
    cases e
    exact ⟨a, by rw [← h.1, List.getElem?_append_right (Nat.le_refl _), Nat.sub_self]; rfl, ha⟩
abbrev s_tie_ends : Stmt := top 38
abbrev N_tie_ends : List Str := ["web", "house", "found", "tie", "one", "other"]
theorem sc_tie_ends : FnScope N_tie_ends ["web", "house"] (defScope s_tie_ends) := ⟨rfl, rfl, rfl, by decide +kernel, rfl, by decide +kernel, by decide +kernel⟩
def spTieEnds (CW : Addr) : Sp := fun vs H Q _ => ∃ (w : Addr) (n h : Nat) (ts : List (Nat × Nat)), vs = [.ref w, .int (h : Nat)] ∧ WebAt CW H w n ts ∧ ts.length ≤ 100 ∧ ∀ H' p ps, Fr CW [] H H' → H p = none → H' p = some (.lst ps) → PsAt H' ps (endsAt ts h) → Q (.ref p) H'
theorem ok_tie_ends (T : Top K mg "tie_ends" s_tie_ends ["web", "house"]) (B : Bl mg) (W : TxW K mg CW) : Def P w K mg base 1 "tie_ends" s_tie_ends ["web", "house"] (spTieEnds CW) := by
  refine T.ok sc_tie_ends (fun vs H Q E h => ?_) (fun f cdv A outer s H vs Q E hr h => ?_)
  · obtain ⟨w, n, h, ts, rfl, _⟩ := h
    rfl
  · obtain ⟨w, n, h, ts, rfl, hww, hl, k⟩ := h
    obtain ⟨dx, tt, ps, hw, ht, hp⟩ := id hww
    refine ⟨_, (pss_cons (ps_set (i := 2) sc_tie_ends.nd rfl (Or.inl rfl) (pe_lst pa_nil))
       (pss_cons (ps_for PassesOwn.never rfl (pi_enumT rfl B.enumerate (pa_cons (pe_fldK (K := K) rfl (pv 0) rfl) pa_nil)) (pg_tup rfl (pgs_cons (pg_name (i := 3) sc_tie_ends.nd rfl (Or.inl rfl)) (pgs_cons (pg_tup rfl (pgs_cons (pg_name (i := 4) sc_tie_ends.nd rfl (Or.inl rfl)) (pgs_cons (pg_name (i := 5) sc_tie_ends.nd rfl (Or.inl rfl)) pgs_nil))) pgs_nil)))
       (pss_one (ps_if (pt_cmpR (op_in_seqK (K := K) rfl) (pv 1) (pe_tup (pa_cons (pv 4) (pa_cons (pv 5) pa_nil))) (by rfl)) (pss_one (ps_expr (pe_bm PySem.F.plainAttrs_list PySem.F.slot_list_append PySem.F.type_list_append mt_append (pv 2) (pa_cons (pe_tup (pa_cons (pv 3) (pa_cons (pe_ifExp (pt_cmpR op_eq (pv 1) (pv 4) (nomark _)) (pv 5) (pv 4)) pa_nil))) pa_nil)))) pss_nil)))
       (pss_one (ps_ret (pv 2))))), ?_⟩
    refine ⟨(by show 0 ≤ sizeLine; decide), fun q hq => ?_⟩
    have f1 : Fr CW [] H (upd H q (.lst [])) := Fr.refl.new hq
    obtain ⟨dx1, tt1, ps1, hw1, ht1, hp1⟩ := hww.fr f1
    refine ⟨_, rfl, w, CW, dx1, _, _, rfl, hw1, W.cl, W.nT, webF_ties, tt1, ps1, rfl, SqT.of ht1, for_it (walk_enumT (K := K) (a := tt1) (xs := ps1))
      (fun i σ H2 => ∃ v1 v2 v3 qs, σ = [some (.ref w), some (.int (h : Nat)), some (.ref q), v1, v2, v3] ∧ Fr CW [] H H2 ∧ Fr CW [q] (upd H q (.lst [])) H2 ∧ H2 q = some (.lst qs) ∧ PsAt H2 qs ((List.range i).filterMap (endAt ts h)))
      ⟨none, none, none, [], rfl, f1, Fr.refl, upd_same, rfl, fun i t e => by simp at e⟩ (fun i σ H2 _ h2 => ?_) ?_ ?_⟩
    · obtain ⟨_, _, _, _, _, _, f2, _⟩ := h2
      exact SqT.of (f2.tup ht1)
    · rintro i v σ H2 H3 hi ⟨v1, v2, v3, qs, rfl, f2, g2, hq2, pq⟩ ⟨T', x, y, rfl, hT, rfl, e1, e2⟩
      cases e1
      obtain ⟨b, t, rfl, et, hb⟩ := hp1.get e2
      have f3 : Fr CW [] H (upd H2 T' (.tup [.int (i : Nat), .ref b])) := f2.new hT
      have g3 := g2.new (o := .tup [.int (i : Nat), .ref b]) hT
      have hb3 := g3.tup hb
      have hq3 : upd H2 T' (.tup [.int (i : Nat), .ref b]) q = some (.lst qs) := by rw [upd_ne (ne_of_none hq2 hT)]; exact hq2
      have p3 := pq.fr (M := []) (Fr.refl.new (CW := CW) (o := .tup [.int (i : Nat), .ref b]) hT)
      have hT3 : upd H2 T' (.tup [.int (i : Nat), .ref b]) T' = some (.tup [.int (i : Nat), .ref b]) := upd_same
      generalize upd H2 T' (.tup [.int (i : Nat), .ref b]) = H3 at f3 g3 hb3 hq3 p3 hT3
      refine ⟨T', _, rfl, SqT.of hT3, rfl, _, _, rfl, _, _, rfl, b, _, rfl, SqT.of hb3, rfl, _, _, rfl, _, _, rfl, rfl, rfl, ?_⟩
      refine ⟨_, rfl, _, rfl, _, rfl, (by show 2 ≤ sizeLine; decide), fun p hp0 => ?_⟩
      refine ⟨p, _, rfl, .inr (SqT.of upd_same), rfl, rfl, _, rfl, ?_⟩
      have ein : inV (nv h) [nv t.1, nv t.2] = decide (h = t.1 ∨ h = t.2) := by
        rw [show [nv t.1, nv t.2] = ([t.1, t.2] : List Nat).map nv from rfl, inV_nats]
        simp
      show if inV (nv h) [nv t.1, nv t.2] = true then _ else _
      rw [ein]
      have f4 := f3.new (o := .tup [nv t.1, nv t.2]) hp0
      have g4 := g3.new (o := .tup [nv t.1, nv t.2]) hp0
      have hq4 : upd H3 p (.tup [nv t.1, nv t.2]) q = some (.lst qs) := by rw [upd_ne (ne_of_none hq3 hp0)]; exact hq3
      have p4 := p3.fr (M := []) (Fr.refl.new (CW := CW) (o := .tup [nv t.1, nv t.2]) hp0)
      generalize upd H3 p (.tup [nv t.1, nv t.2]) = H4 at f4 g4 hq4 p4
      have hqn : ∀ u, (upd H q (.lst [])) q = some u → ¬ Im CW u := nIm_lst upd_same
      refine iteD (fun hz => ?_) (fun hz => ?_)
      · have fin : ∀ (z : Nat), (if h = t.1 then t.2 else t.1) = z → ∀ p2, H4 p2 = none → ∃ v1 v2 v3 qs', [some (.ref w), some (.int (h : Nat)), some (.ref q), some (nv i), some (nv t.1), some (nv t.2)] = [some (.ref w), some (.int (h : Nat)), some (.ref q), v1, v2, v3] ∧
            Fr CW [] H (upd (upd H4 p2 (.tup [nv i, nv z])) q (.lst (qs ++ [.ref p2]))) ∧ Fr CW [q] (upd H q (.lst [])) (upd (upd H4 p2 (.tup [nv i, nv z])) q (.lst (qs ++ [.ref p2]))) ∧
            upd (upd H4 p2 (.tup [nv i, nv z])) q (.lst (qs ++ [.ref p2])) q = some (.lst qs') ∧ PsAt (upd (upd H4 p2 (.tup [nv i, nv z])) q (.lst (qs ++ [.ref p2]))) qs' ((List.range (i + 1)).filterMap (endAt ts h)) := fun z ez p2 hp2 => by
          have f5 := f4.new (o := .tup [nv i, nv z]) hp2
          have g5 := g4.new (o := .tup [nv i, nv z]) hp2
          have hq5 : upd H4 p2 (.tup [nv i, nv z]) q = some (.lst qs) := by rw [upd_ne (ne_of_none hq4 hp2)]; exact hq4
          have p5 := p4.fr (M := []) (Fr.refl.new (CW := CW) (o := .tup [nv i, nv z]) hp2)
          have h25 : upd H4 p2 (.tup [nv i, nv z]) p2 = some (.tup [nv i, nv z]) := upd_same
          generalize upd H4 p2 (.tup [nv i, nv z]) = H5 at f5 g5 hq5 p5 h25
          have gq : Fr CW [q] H5 (upd H5 q (.lst (qs ++ [.ref p2]))) := Fr.refl.put (by simp) (nIm_lst hq5)
          refine ⟨_, _, _, _, rfl, f5.loc hq, g5.put (by simp) hqn, upd_same, ?_⟩
          rw [filterMap_succ, show endAt ts h i = some (i, z) by unfold endAt; rw [et]; simp only; rw [if_pos hz, ez]]
          exact (p5.fr gq).snoc (t := (i, z)) (gq.tup h25)
        have lq : qs.length ≤ i := by rw [pq.1]; exact filterMap_len _ _
        have li : i < 1000 := by
          have := hp1.1
          omega
        refine ⟨_, rfl, .inl ⟨rfl, _, SqL.of hq4⟩, _, rfl, _, rfl, _, rfl, rfl, _, rfl, ?_⟩
        refine iteD (fun hy => ?_) (fun hy => ?_)
        · have hy' : h = t.1 := by
            cases hy
            rfl
          refine ⟨_, rfl, (by show 2 ≤ sizeLine; decide), fun p2 hp2 => ?_⟩
          refine ⟨q, _, _, rfl, rfl, by rw [upd_ne (ne_of_none hq4 hp2)]; exact hq4, small1000 (by omega), ?_⟩
          exact fin t.2 (by rw [if_pos hy']) p2 hp2
        · have hy' : ¬ h = t.1 := fun e => hy (by rw [e])
          refine ⟨_, rfl, (by show 2 ≤ sizeLine; decide), fun p2 hp2 => ?_⟩
          refine ⟨q, _, _, rfl, rfl, by rw [upd_ne (ne_of_none hq4 hp2)]; exact hq4, small1000 (by omega), ?_⟩
          exact fin t.1 (by rw [if_neg hy']) p2 hp2
      · refine ⟨_, _, _, qs, rfl, f4, g4, hq4, ?_⟩
        rw [filterMap_succ, show endAt ts h i = none by unfold endAt; rw [et]; simp only; rw [if_neg hz]]
        simpa using p4
    · rintro σ H2 ⟨v1, v2, v3, qs, rfl, f2, g2, hq2, pq⟩
      refine ⟨_, rfl, ?_⟩
      rw [hp1.1] at pq
      exact k H2 q qs f2 hq hq2 pq
end
end Hou
set_option Elab.async false
set_option linter.all false
set_option maxRecDepth 100000
set_option autoImplicit false
namespace Hou
open PySem PySem.Spec PyProof.Rows L2
/-! ### short tactics: a reading's next questions -/
local macro_rules | `(tactic| walk_at "hq") => `(tactic| first
  | assumption | exact SqL.of (by assumption) | exact SqT.of (by assumption) | exact .inl (by assumption) | exact .inr (by assumption) | exact .inl (SqL.of (by assumption)) | exact .inr (SqT.of (by assumption))
  | exact SqL.of upd_same | exact SqT.of upd_same)
local macro_rules | `(tactic| walk_at "at") => `(tactic| first | assumption | exact atI_nat (j := 0) rfl | exact atI_nat (j := 1) rfl)
local macro_rules | `(tactic| walk_at "sd") => `(tactic| first
  | rfl | exact .inl ⟨by decide, by decide⟩ | exact .inr ⟨by decide, by decide⟩ | exact ⟨by decide, by decide, by decide⟩ | (show ((_ : Int) ≠ 0); first | decide | assumption | omega)
  | (show ((_ : Int) ≠ 0 ∧ _); refine ⟨by first | decide | assumption | omega, by first | decide | omega⟩) | (show (_ ≤ sizeLine); first | (simp only [List.length_cons, List.length_nil]; decide) | assumption) | decide | omega)
local macro_rules | `(tactic| walk_at "rd") => `(tactic| first
  | refine ⟨_, rfl, ?_⟩ | refine ⟨_, _, rfl, rfl, ?_⟩ | refine .inl ⟨_, rfl, ?_⟩ | refine .inr ⟨_, rfl, ?_⟩
  | refine ⟨_, _, _, _, rfl, rfl, (by walk_at "hq"), (by walk_at "at"), ?_⟩ | refine ⟨_, _, rfl, (by walk_at "hq"), ?_⟩ | refine ⟨(by walk_at "sd"), ?_⟩)

def restAtB (ts : List (Nat × Nat)) (xs as : List Int) (i : Nat) : Bool := match ts[i]? with | some t => decide (xs.getD t.1 0 = xs.getD t.2 0) && decide (xs.getD t.2 0 = as.getD i 0) | none => true
def restB (ts : List (Nat × Nat)) (xs as : List Int) : Bool := (List.range ts.length).all (restAtB ts xs as)
section
variable {P : Program} {w : World} {K : PySem.W.Frag} {mg : Str → Option Value} {base : Heap} {CW CC : Addr}
abbrev s_is_rest : Stmt := top 37
abbrev N_is_rest : List Str := ["net", "states", "archive", "one", "other"]
theorem sc_is_rest : FnScope N_is_rest ["net"] (defScope s_is_rest) := ⟨rfl, rfl, rfl, by decide +kernel, rfl, by decide +kernel, by decide +kernel⟩
def spIsRest (CW CC : Addr) : Sp := fun vs H Q _ => ∃ (c w : Addr) (n m : Nat) (ts : List (Nat × Nat)) (xs as : List Int), vs = [.ref c] ∧ NetAt CW CC H c w n ts m xs as ∧ WebOk n ts ∧ xs.length = n ∧ as.length = ts.length ∧ ∀ H', Fr CW [] H H' → Q (.bl (restB ts xs as)) H'
theorem ok_is_rest (T : Top K mg "is_rest" s_is_rest ["net"]) (B : Bl mg) (W : TxW K mg CW) (C : TxC K mg CC) : Def P w K mg base 1 "is_rest" s_is_rest ["net"] (spIsRest CW CC) := by
  refine T.ok sc_is_rest (fun vs H Q E h => ?_) (fun f cdv A outer s H vs Q E hr h => ?_)
  · obtain ⟨c, w, n, m, ts, xs, as, rfl, _⟩ := h
    rfl
  · obtain ⟨c, w, n, m, ts, xs, as, rfl, ⟨dx, sa, aa, hc, hw, hs, ha⟩, ok, lx, la, k⟩ := h
    have l20 := ok.len
    have n12 := ok.n12
    obtain ⟨dw, tt, ps, hww, htt, hps⟩ := id hw
    refine ⟨_, (pss_cons (ps_set (i := 1) sc_is_rest.nd rfl (Or.inr rfl) (pe_fldK (K := K) rfl (pv 0) rfl))
       (pss_one (ps_ret (pe_callB (id := "all") (cr_allK (K := K) rfl rfl) (by rfl) B.all (by decide +kernel) (pa_cons (pe_lc (own := [("one", 3), ("other", 4), ("archive", 2)]) (g := gTup K 2 (gCons (gTup K 2 (gCons (gName 3) (gCons (gName 4) gNil))) (gCons (gName 2) gNil))) (tt := tYes) rfl sc_is_rest.nd (RZ.pi_zipA rfl B.zip (pa_cons (pe_fldK (K := K) rfl (pe_fldK (K := K) rfl (pv 0) rfl) rfl) (pa_cons (pe_fldK (K := K) rfl (pv 0) rfl) pa_nil))) (blkOk_by (N := N_is_rest) (sc := defScope s_is_rest) (by decide +kernel)) (fun _ _ _ _ _ => pg_tup rfl (pgs_cons (pg_tup rfl (pgs_cons (pg_name (i := 3) sc_is_rest.nd rfl (Or.inl rfl)) (pgs_cons (pg_name (i := 4) sc_is_rest.nd rfl (Or.inl rfl)) pgs_nil))) (pgs_cons (pg_name (i := 2) sc_is_rest.nd rfl (Or.inl rfl)) pgs_nil))) (fun _ _ _ _ _ => pts_nil) (fun _ _ _ _ _ => (pe_chain op_eq op_eq (pe_ix (ix_tupK (K := K) rfl) (pv 1) (pv 3) (fun _ _ => rfl)) (pe_ix (ix_tupK (K := K) rfl) (pv 1) (pv 4) (fun _ _ => rfl)) (pv 2)))) pa_nil))))), ?_⟩
    refine ⟨_, rfl, c, CC, dx, _, _, rfl, hc, C.cl, C.nS, netF_st, ?_⟩
    refine ⟨_, rfl, c, CC, dx, _, _, rfl, hc, C.cl, C.nW, netF_web, w, CW, dw, _, _, rfl, hww, W.cl, W.nT, webF_ties, _, rfl, c, CC, dx, _, _, rfl, hc, C.cl, C.nA, netF_ar, tt, aa, ps, _, rfl, .inr ⟨SqT.of htt, SqT.of ha, ?_⟩⟩
    refine lc_fr (CW := CW) (M := []) (walk_zipT (K := K) (a := tt) (b := aa) (xs := ps) (ys := as.map V.int) (n := ts.length) (by rw [hps.1, List.length_map, la, Nat.min_self]))
      (fun i => some (V.bl (restAtB ts xs as i))) (fun H3 f => ⟨SqT.of (f.tup htt), SqT.of (f.tup ha)⟩) YPair.fr (by simp) (by omega) ?_ ?_
    · rintro i v H3 H4 hi f3 ⟨T', x, y, rfl, hT, rfl, e1, e2⟩ N1 N0 n1 n0
      obtain ⟨q, t, rfl, et, hq⟩ := hps.get e1
      obtain ⟨o1, o2, o3⟩ := ok.ok t (List.mem_of_getElem? et)
      have e2 : (as.map V.int)[i]? = some y := e2
      rw [List.getElem?_map] at e2
      obtain ⟨z, ez, rfl⟩ := Option.map_eq_some_iff.mp e2
      have f4 : Fr CW [] H (upd H3 T' (.tup [.ref q, .int z])) := f3.new hT
      refine ⟨T', _, rfl, SqT.of upd_same, rfl, _, _, rfl, ?_⟩
      refine ⟨q, _, rfl, SqT.of (f4.tup hq), rfl, _, _, rfl, _, _, rfl, rfl, _, _, rfl, rfl, ?_⟩
      refine ⟨rfl, ?_⟩
      have hgz : as.getD i 0 = z := by rw [List.getD_eq_getElem?_getD, ez]; rfl
      have er : restAtB ts xs as i = (decide (xs.getD t.1 0 = xs.getD t.2 0) && decide (xs.getD t.2 0 = z)) := by
        unfold restAtB
        rw [et]
        simp only [hgz]
      rw [er] at n1
      refine ⟨_, rfl, _, rfl, sa, _, _, _, rfl, rfl, SqT.of (f4.tup hs), atD (i := t.1) (by omega), _, rfl, _, rfl, sa, _, _, _, rfl, rfl, SqT.of (f4.tup hs), atD (i := t.2) (by omega), rfl, _, rfl, ?_⟩
      refine iteD (fun h1 => ?_) (fun h1 => ?_)
      · have h1' : xs.getD t.1 0 = xs.getD t.2 0 := by
          injection h1
        rw [decide_eq_true h1', Bool.true_and] at n1
        refine ⟨_, rfl, rfl, ?_⟩
        have e5 : decide (V.int (xs.getD t.2 0) = V.int z) = decide (xs.getD t.2 0 = z) := by
          by_cases h2 : xs.getD t.2 0 = z
          · rw [h2, decide_eq_true rfl, decide_eq_true rfl]
          · rw [decide_eq_false h2, decide_eq_false fun e => h2 (by injection e)]
        show N1 (V.bl (decide (V.int (xs.getD t.2 0) = V.int z))) _
        rw [e5]
        exact n1 _ _ Fr.refl rfl
      · have h1' : ¬ xs.getD t.1 0 = xs.getD t.2 0 := fun e => h1 (by rw [e])
        rw [decide_eq_false h1', Bool.false_and] at n1
        exact n1 _ _ Fr.refl rfl
    · intro D H3 hD f3 hl3
      have e : (List.range ts.length).filterMap (fun i => some (V.bl (restAtB ts xs as i))) = ((List.range ts.length).map (restAtB ts xs as)).map V.bl := by
        rw [fm_some, List.map_map]
        rfl
      rw [e] at hl3
      refine ⟨D, _, rfl, SqL.of hl3, ?_⟩
      have e2 : ((List.range ts.length).map (restAtB ts xs as)).all id = restB ts xs as := by
        unfold restB
        rw [List.all_map]
        rfl
      rw [e2]
      exact k _ f3
abbrev s_sweep : Stmt := top 39
abbrev N_sweep : List Str := ["web", "house", "met", "waiting", "order", "at", "tie", "other"]
theorem sc_sweep : FnScope N_sweep ["web", "house"] (defScope s_sweep) := ⟨rfl, rfl, rfl, by decide +kernel, rfl, by decide +kernel, by decide +kernel⟩
def spSweep (CW : Addr) : Sp := fun vs H Q _ => ∃ (w : Addr) (n h : Nat) (ts : List (Nat × Nat)), vs = [.ref w, .int (h : Nat)] ∧ WebAt CW H w n ts ∧ WebOk n ts ∧ h < n ∧ Forest ts ∧
  ∀ H' p c L, Fr CW [] H H' → IsComp ts h c → (∀ x ∈ c, x < n) → Full ts h c L → H' p = some (.tup ((orderOf L).map nv)) → Q (.ref p) H'
theorem endsAt_mem {ts : List (Nat × Nat)} {h : Nat} {i y : Nat} : (i, y) ∈ endsAt ts h → ∃ t, ts[i]? = some t ∧ ((t.1 = h ∧ t.2 = y) ∨ (t.2 = h ∧ t.1 = y)) := by
  intro hm
  obtain ⟨j, _, e⟩ := List.mem_filterMap.mp hm
  unfold endAt at e
  cases et : ts[j]? with
  | none => rw [et] at e; simp at e
  | some t =>
    rw [et] at e
    simp only at e
    split at e
    · rename_i hz
      have e' := Option.some.inj e
      have e1 : j = i := congrArg Prod.fst e'
      have e2 : (if h = t.1 then t.2 else t.1) = y := congrArg Prod.snd e'
      subst e1
      refine ⟨t, et, ?_⟩
      by_cases hh : h = t.1
      · rw [if_pos hh] at e2
        exact .inl ⟨hh.symm, e2⟩
      · rw [if_neg hh] at e2
        exact .inr ⟨(hz.resolve_left hh).symm, e2⟩
    · simp at e
theorem mem_endsAt {ts : List (Nat × Nat)} {h : Nat} {i : Nat} {t : Nat × Nat} (e : ts[i]? = some t) (hz : t.1 = h ∨ t.2 = h) : ∃ y, (i, y) ∈ endsAt ts h := by
  refine ⟨if h = t.1 then t.2 else t.1, List.mem_filterMap.mpr ⟨i, List.mem_range.mpr (List.getElem?_eq_some_iff.mp e).1, ?_⟩⟩
  unfold endAt
  rw [e]
  simp only
  rw [if_pos (hz.elim (fun z => .inl z.symm) fun z => .inr z.symm)]
theorem endsAt_len (ts : List (Nat × Nat)) (h : Nat) : (endsAt ts h).length ≤ ts.length := filterMap_len _ _
theorem ok_sweep (T : Top K mg "sweep" s_sweep ["web", "house"]) (B : Bl mg) (W : TxW K mg CW) (D_need_house : Def P w K mg base 4 "need_house" s_need_house ["web", "house"] (spNeedHouse CW))
    (D_part_of : Def P w K mg base 5 "part_of" s_part_of ["web", "house"] (spJoined CW)) (D_rings_of : Def P w K mg base 4 "rings_of" s_rings_of ["web", "part"] (spRingsOf CW))
    (D_tie_ends : Def P w K mg base 1 "tie_ends" s_tie_ends ["web", "house"] (spTieEnds CW)) : Def P w K mg base 6 "sweep" s_sweep ["web", "house"] (spSweep CW) := by
  refine T.ok sc_sweep (fun vs H Q E h => ?_) (fun f cdv A outer s H vs Q E hr h => ?_)
  · obtain ⟨w, n, h, ts, rfl, _⟩ := h
    rfl
  · obtain ⟨w, n, h, ts, rfl, hw, ok, hh, hF, k⟩ := h
    have l20 := ok.len
    have n12 := ok.n12
    refine ⟨_, (pss_cons (ps_expr (pe_def D_need_house (hr.mono (by decide)) rfl (pa_cons (pv 0) (pa_cons (pv 1) pa_nil))))
       (pss_cons (ps_if (pt_cmpR op_gt (pe_def D_rings_of (hr.mono (by decide)) rfl (pa_cons (pv 0) (pa_cons (pe_def D_part_of (hr.mono (by decide)) rfl (pa_cons (pv 0) (pa_cons (pv 1) pa_nil))) pa_nil))) pe_int (nomark _)) (pss_one ps_never) pss_nil)
       (pss_cons (ps_set (i := 2) sc_sweep.nd rfl (Or.inl rfl) (pe_disp (pps_cons (pv 1) pe_bl pps_nil) (by rfl) (by rfl) (fun z => by cases z) (by decide)))
       (pss_cons (ps_set (i := 3) sc_sweep.nd rfl (Or.inl rfl) (pe_lst (pa_cons (pv 1) pa_nil)))
       (pss_cons (ps_set (i := 4) sc_sweep.nd rfl (Or.inl rfl) (pe_lst pa_nil))
       (pss_cons (ps_set (i := 5) sc_sweep.nd rfl (Or.inl rfl) pe_int)
       (pss_cons (ps_while PassesOwn.never (pt_cmpR op_lt (pv 5) (pe_callB (id := "len") (call_lenK (K := K) rfl) (by rfl) B.len (by decide +kernel) (pa_cons (pv 3) pa_nil)) (nomark _))
       (pss_cons (ps_for PassesOwn.never rfl (pi_list (pe_def D_tie_ends (hr.mono (by decide)) rfl (pa_cons (pv 0) (pa_cons (pe_ix (ix_listK (K := K) rfl) (pv 3) (pv 5) (fun _ _ => rfl)) pa_nil)))) (pg_tup rfl (pgs_cons (pg_name (i := 6) sc_sweep.nd rfl (Or.inl rfl)) (pgs_cons (pg_name (i := 7) sc_sweep.nd rfl (Or.inl rfl)) pgs_nil)))
       (pss_one (ps_if (pt_cmp (pc_dnotin (hu_of hr) (pv 7) (pv 2))) (pss_cons (ps_dput (hu_of hr) (pv 2) (pv 7) pe_bl rfl)
       (pss_cons (ps_expr (pe_bm PySem.F.plainAttrs_list PySem.F.slot_list_append PySem.F.type_list_append mt_append (pv 3) (pa_cons (pv 7) pa_nil)))
       (pss_one (ps_expr (pe_bm PySem.F.plainAttrs_list PySem.F.slot_list_append PySem.F.type_list_append mt_append (pv 4) (pa_cons (pv 6) pa_nil)))))) pss_nil)))
       (pss_one (ps_aug (i := 5) sc_sweep.nd rfl (Or.inl rfl) pe_int ip_add))))
       (pss_one (ps_ret (pe_callTy (T := "tuple") (call_tupleK (K := K) rfl) (by rfl) B.tuple (by decide +kernel) (pa_cons (pe_op op_cat (pe_revL (pv 4)) (pe_slice (sl_listK (K := K) rfl) (pv 4) (po_some pe_int) po_none)) pa_nil))))))))))), ?_⟩
    refine ⟨_, rfl, _, rfl, w, n, h, ts, rfl, hw, hh, ?_⟩
    refine ⟨_, rfl, _, rfl, _, rfl, w, n, h, ts, rfl, hw, ok, hh, fun H1 p c f1 hc hcn hp => ?_⟩
    refine ⟨w, p, n, h, ts, c, rfl, hw.fr f1, ok, hp, hh, hc, hcn, fun H2 f2 => ?_⟩
    have few := hF.few (fun e => by have := hc.mem; rw [e] at this; simp at this) hc.cl
    refine ⟨_, _, rfl, rfl, _, rfl, ?_⟩
    rw [decide_eq_false (by omega)]
    refine iteF ?_
    have f12 := f1.trans f2
    intro d hd
    refine ⟨_, rfl, upd_same, [(keyN h, V.bl true)], rfl, (by show 1 ≤ 15; decide), ?_⟩
    have f3 : Fr CW [] H (upd H2 d (.dK [])) := f12.new hd
    have f4 : Fr CW [] H (upd (upd H2 d (.dK [])) d (.dK (mergeK [] [(keyN h, V.bl true)]))) := f3.loc (f12.al _ hd)
    refine ⟨_, rfl, by show 1 ≤ sizeLine; decide, fun q hq => ?_⟩
    refine ⟨by show 0 ≤ sizeLine; decide, fun o ho => ?_⟩
    have hd0 := f12.al _ hd
    have hq0 := f4.al _ hq
    have f5 := f4.new (o := .lst [V.int (h : Nat)]) hq
    have ho0 := f5.al _ ho
    have f6 := f5.new (o := .lst []) ho
    have ndq : d ≠ q := fun z => by
      rw [z, upd_same] at hq
      cases hq
    have nqo : q ≠ o := fun z => by
      rw [z, upd_same] at ho
      cases ho
    have ndo : d ≠ o := fun z => by
      rw [← z, upd_ne ndq, upd_same] at ho
      cases ho
    have hD0 : upd (upd (upd (upd H2 d (.dK [])) d (.dK (mergeK [] [(keyN h, V.bl true)]))) q (.lst [V.int (h : Nat)])) o (.lst []) d = some (.dK (dctN [h])) := by
      rw [upd_ne ndo, upd_ne ndq, upd_same]
      rfl
    have hQ0 : upd (upd (upd (upd H2 d (.dK [])) d (.dK (mergeK [] [(keyN h, V.bl true)]))) q (.lst [V.int (h : Nat)])) o (.lst []) q = some (.lst [V.int (h : Nat)]) := by
      rw [upd_ne nqo, upd_same]
    have hO0 : upd (upd (upd (upd H2 d (.dK [])) d (.dK (mergeK [] [(keyN h, V.bl true)]))) q (.lst [V.int (h : Nat)])) o (.lst []) o = some (.lst []) := upd_same
    generalize upd (upd (upd (upd H2 d (.dK [])) d (.dK (mergeK [] [(keyN h, V.bl true)]))) q (.lst [V.int (h : Nat)])) o (.lst []) = H6 at f6 hD0 hQ0 hO0
    refine while_by (fun σ H2 => ∃ (L : List (Nat × Nat)) (a : Nat) (v6 v7 : Option V), σ = [some (.ref w), some (.int (h : Nat)), some (.ref d), some (.ref q), some (.ref o), some (.int (a : Nat)), v6, v7] ∧ Fr CW [] H H2 ∧ H2 d = some (.dK (dctN (hs h L))) ∧ H2 q = some (.lst ((hs h L).map nv)) ∧ H2 o = some (.lst ((L.map Prod.fst).map nv)) ∧
        Tree ts h L ∧ Srch n ts h (hs h L) ((hs h L).drop a) (fun _ => False) ∧ a ≤ (hs h L).length)
      (fun (σ : L2.St) (_ : Hp) => match σ[5]? with | some (some (V.int a)) => n + 1 - a.toNat | _ => 0) ?_ ?_ ?_
    · exact ⟨[], 0, none, none, rfl, f6, hD0, hQ0, hO0, .nil, Srch.start hh, Nat.zero_le _⟩
    · rintro σ H7 ⟨L, a, v6, v7, rfl, f7, hD, hQ, hO, T7, s7, ha⟩
      have hlen := s7.len
      refine ⟨_, rfl, _, rfl, q, _, rfl, .inl (SqL.of hQ), _, _, rfl, rfl, _, rfl, ?_⟩
      rw [List.length_map]
      refine iteD (fun hlt => ?_) (fun hno => ?_)
      · have hal : a < (hs h L).length := by omega
        have hx : (hs h L)[a]? = some (hs h L)[a] := by simp [hal]
        generalize (hs h L)[a] = x at hx
        have hxF : x ∈ hs h L := List.mem_of_getElem? hx
        have hxn : x < n := s7.lt x hxF
        have edr : (hs h L).drop a = x :: (hs h L).drop (a + 1) := by
          rw [List.drop_eq_getElem_cons hal]
          congr 1
          have e := List.getElem?_eq_getElem hal
          rw [hx] at e
          exact (Option.some.inj e).symm
        have sr' := s7.take (x := x) (W' := (hs h L).drop (a + 1)) (by rw [edr]; exact List.mem_cons_self) (fun y hy => by rw [edr]; exact List.mem_cons_of_mem _ hy) (fun y hy => by rw [edr] at hy; exact List.mem_cons.mp hy)
        refine ⟨_, rfl, _, rfl, _, rfl, q, _, _, _, rfl, rfl, SqL.of hQ, at_nat hx, w, n, x, ts, rfl, hw.fr f7, by omega, fun H8 e es f8 he0 hes pes => ?_⟩
        have f78 := f7.trans f8
        have neq : e ≠ q := fun z => by rw [z, hQ] at he0; cases he0
        have ned : e ≠ d := fun z => by rw [z, hD] at he0; cases he0
        have neo : e ≠ o := fun z => by rw [z, hO] at he0; cases he0
        have hel := endsAt_len ts x
        refine ⟨e, rfl, ⟨_, SqL.of hes⟩, for_list (K := K) (a := e) (xs := es) (fun i σ H9 => ∃ (L9 : List (Nat × Nat)) (v6 v7 : Option V), σ = [some (.ref w), some (.int (h : Nat)), some (.ref d), some (.ref q), some (.ref o), some (.int (a : Nat)), v6, v7] ∧ Fr CW [] H H9 ∧ H9 e = some (.lst es) ∧ PsAt H9 es (endsAt ts x) ∧
            H9 d = some (.dK (dctN (hs h L9))) ∧ H9 q = some (.lst ((hs h L9).map nv)) ∧ H9 o = some (.lst ((L9.map Prod.fst).map nv)) ∧ Tree ts h L9 ∧ Srch n ts h (hs h L9) ((hs h L9).drop (a + 1)) (fun y => y = x) ∧ a + 1 ≤ (hs h L9).length ∧ x ∈ hs h L9 ∧
            ∀ j ti y, j < i → (endsAt ts x)[j]? = some (ti, y) → ∀ pr, ts[ti]? = some pr → (pr.1 = x → pr.2 ∈ hs h L9) ∧ (pr.2 = x → pr.1 ∈ hs h L9))
          ⟨L, v6, v7, rfl, f78, hes, pes, f8.ot _ _ (by simp) hD, f8.ot _ _ (by simp) hQ, f8.ot _ _ (by simp) hO, T7, sr', hal, hxF, fun j ti y hj => absurd hj (Nat.not_lt_zero _)⟩ (fun i σ H9 _ h9 => ?_) ?_ ?_⟩
        · obtain ⟨_, _, _, _, _, h9, _⟩ := h9
          exact SqL.of h9
        · rintro i v σ H9 hi ⟨L9, v6, v7, rfl, f9, he9, pe9, hd9, hq9, ho9, T9, s9, ha9, hx9, hall⟩
          obtain ⟨b, ⟨ti, y⟩, rfl, et, hb⟩ := pe9.get hi
          obtain ⟨pr, ep, hpr⟩ := endsAt_mem (List.mem_of_getElem? et)
          have htm := List.mem_of_getElem? ep
          obtain ⟨o1, o2, o3⟩ := ok.ok pr htm
          have hlen9 := s9.len
          have hyn : y < n := by
            rcases hpr with ⟨_, z⟩ | ⟨_, z⟩
            · rw [← z]; exact o2
            · rw [← z]; exact o1
          refine ⟨b, _, rfl, SqT.of hb, rfl, _, _, rfl, _, _, rfl, rfl, ?_⟩
          have both : y ∈ hs h L9 → (pr.1 = x → pr.2 ∈ hs h L9) ∧ (pr.2 = x → pr.1 ∈ hs h L9) := fun hyF => by
            rcases hpr with ⟨e1, e2⟩ | ⟨e1, e2⟩
            · exact ⟨fun _ => e2 ▸ hyF, fun e => absurd (e1.trans e.symm) o3⟩
            · exact ⟨fun e => absurd (e.trans e1.symm) o3, fun _ => e2 ▸ hyF⟩
          refine ⟨_, rfl, _, rfl, d, _, rfl, DGet.k (k := keyN y) hd9, _, rfl, ?_⟩
          rw [valV_dct]
          by_cases hyF : y ∈ hs h L9
          · rw [if_pos hyF]
            refine iteF ?_
            refine ⟨L9, _, _, rfl, f9, he9, pe9, hd9, hq9, ho9, T9, s9, ha9, hx9, fun j ti' y' hj ej pr' ep' => ?_⟩
            by_cases e : j < i
            · exact hall j ti' y' e ej pr' ep'
            · obtain rfl : j = i := by omega
              rw [et] at ej
              cases ej
              rw [ep] at ep'
              cases ep'
              exact both hyF
          · rw [if_neg hyF]
            refine iteT ?_
            have hl9 : (hs h L9).length = L9.length + 1 := by simp [hs]
            refine ⟨_, rfl, _, rfl, d, _, rfl, DPut.k (k := keyN y) hd9 (by rw [dct_len]; exact small1000 (by omega)), ?_⟩
            rw [put_dct hyF]
            have f10 : Fr CW [] H (upd H9 d (.dK (dctN (hs h L9 ++ [y])))) := f9.loc hd0
            have hq10 : upd H9 d (.dK (dctN (hs h L9 ++ [y]))) q = some (.lst ((hs h L9).map nv)) := by rw [upd_ne ndq.symm]; exact hq9
            refine ⟨_, rfl, .inl ⟨rfl, _, SqL.of hq10⟩, _, rfl, q, _, _, rfl, rfl, hq10, by rw [List.length_map]; exact small1000 (by omega), ?_⟩
            have f11 := f10.loc (o := .lst ((hs h L9).map nv ++ [nv y])) hq0
            have ho11 : upd (upd H9 d (.dK (dctN (hs h L9 ++ [y])))) q (.lst ((hs h L9).map nv ++ [nv y])) o = some (.lst ((L9.map Prod.fst).map nv)) := by rw [upd_ne nqo.symm, upd_ne ndo.symm]; exact ho9
            refine ⟨_, rfl, .inl ⟨rfl, _, SqL.of ho11⟩, _, rfl, o, _, _, rfl, rfl, ho11, by rw [List.length_map, List.length_map]; exact small1000 (by omega), ?_⟩
            have f12' := f11.loc (o := .lst ((L9.map Prod.fst).map nv ++ [nv ti])) ho0
            have T10 : Tree ts h (L9 ++ [(ti, y)]) := T9.snoc ep hpr hx9 hyF
            have es10 : hs h (L9 ++ [(ti, y)]) = hs h L9 ++ [y] := hs_snoc h L9 (ti, y)
            have sadd := s9.add hx9 htm hpr hyn hyF
            have edr9 : (hs h L9).drop (a + 1) ++ [y] = (hs h L9 ++ [y]).drop (a + 1) := by
              rw [List.drop_append_of_le_length ha9]
            rw [edr9] at sadd
            generalize eH : upd (upd (upd H9 d (.dK (dctN (hs h L9 ++ [y])))) q (.lst ((hs h L9).map nv ++ [nv y]))) o (.lst ((L9.map Prod.fst).map nv ++ [nv ti])) = H10 at f12'
            have he10 : H10 e = some (.lst es) := by rw [← eH, upd_ne neo, upd_ne neq, upd_ne ned]; exact he9
            have g10 : Fr CW [d, q, o] H9 H10 := by
              rw [← eH]
              refine ((Fr.refl.put (by simp) fun u e i => ?_).put (by simp) (nIm_lst hq9)).put (by simp) (nIm_lst ho9)
              rw [hd9] at e
              cases e
              exact i
            refine ⟨L9 ++ [(ti, y)], _, _, rfl, f12', he10, pe9.fr g10, by rw [← eH, upd_ne ndo, upd_ne ndq, upd_same, es10], by rw [← eH, upd_ne nqo, upd_same, es10, List.map_append]; rfl, by rw [← eH, upd_same, List.map_append, List.map_append]; rfl, T10, by rw [es10]; exact sadd, by rw [es10, List.length_append]; omega, by rw [es10]; exact List.mem_append_left _ hx9, fun j ti' y' hj ej pr' ep' => ?_⟩
            rw [es10]
            by_cases e : j < i
            · have k1 := hall j ti' y' e ej pr' ep'
              exact ⟨fun z => List.mem_append_left _ (k1.1 z), fun z => List.mem_append_left _ (k1.2 z)⟩
            · obtain rfl : j = i := by omega
              rw [et] at ej
              cases ej
              rw [ep] at ep'
              cases ep'
              rcases hpr with ⟨e1, e2⟩ | ⟨e1, e2⟩
              · exact ⟨fun _ => by rw [e2]; simp, fun e => absurd (e1.trans e.symm) o3⟩
              · exact ⟨fun e => absurd (e.trans e1.symm) o3, fun _ => by rw [e2]; simp⟩
        · rintro σ H9 ⟨L9, v6, v7, rfl, f9, he9, pe9, hd9, hq9, ho9, T9, s9, ha9, hx9, hall⟩
          refine ⟨_, rfl, _, _, rfl, rfl, ⟨L9, a + 1, _, _, rfl, f9, hd9, hq9, ho9, T9, s9.close fun t ht => ?_, ha9⟩, ?_⟩
          · obtain ⟨i, hi⟩ := List.getElem?_of_mem ht
            have two : (t.1 = x ∨ t.2 = x) → (t.1 = x → t.2 ∈ hs h L9) ∧ (t.2 = x → t.1 ∈ hs h L9) := fun hx2 => by
              obtain ⟨y, hy⟩ := mem_endsAt hi hx2
              obtain ⟨j, hj⟩ := List.getElem?_of_mem hy
              refine hall j i y ?_ hj t hi
              have := (List.getElem?_eq_some_iff.mp hj).1
              rw [pes.1]
              exact this
            exact ⟨fun e => (two (.inl e)).1 e, fun e => (two (.inr e)).2 e⟩
          · have hlen9 := s9.len
            show n + 1 - ((a : Int) + 1).toNat < n + 1 - ((a : Nat) : Int).toNat
            omega
      · have hal : a = (hs h L).length := by omega
        subst hal
        rw [List.drop_length] at s7
        have hcl : Closed ts (· ∈ hs h L) := fun t ht => ⟨fun h1 => (s7.done t.1 h1 (by simp) id t ht).1 rfl, fun h2 => (s7.done t.2 h2 (by simp) id t ht).2 rfl⟩
        have F : Full ts h c L := ⟨T7, fun x => ⟨fun hx => hc.least (· ∈ hs h L) List.mem_cons_self hcl x hx, fun hx => s7.least (· ∈ c) hc.mem hc.cl x hx⟩, few, hc.asc.imp fun h => by omega⟩
        have hl9 : (hs h L).length = L.length + 1 := by simp [hs]
        refine ⟨_, rfl, o, _, rfl, SqL.of hO, fun p1 hp1 => ?_⟩
        have f8 := f7.new (o := .lst ((L.map Prod.fst).map nv).reverse) hp1
        have hO8 : upd H7 p1 (.lst ((L.map Prod.fst).map nv).reverse) o = some (.lst ((L.map Prod.fst).map nv)) := by rw [upd_ne (ne_of_none hO hp1)]; exact hO
        refine ⟨_, rfl, _, rfl, ?_⟩
        unfold tNoPart
        refine ⟨o, _, rfl, SqL.of hO8, fun p2 hp2 => ?_⟩
        have n12' : p1 ≠ p2 := fun z => by
          rw [← z, upd_same] at hp2
          cases hp2
        refine ⟨p1, p2, _, _, rfl, rfl, by rw [upd_ne n12', upd_same], upd_same, ?_, fun p3 hp3 => ?_⟩
        · rw [show (1 : Int) = ((1 : Nat) : Int) from rfl, cut_drop, List.length_reverse, List.length_map, List.length_map, List.length_drop, List.length_map, List.length_map]
          have := hlen
          exact Nat.le_of_lt (small1000 (by omega))
        · refine ⟨p3, _, rfl, .inl ⟨SqL.of upd_same, fun p4 hp4 => ?_⟩⟩
          refine k _ p4 c L (((f8.new hp2).new hp3).new hp4) hc hcn F ?_
          rw [upd_same, show (1 : Int) = ((1 : Nat) : Int) from rfl, cut_drop]
          unfold orderOf
          rw [List.map_append, List.map_reverse, List.map_drop]
    · intro σ H Q Q' hq h
      obtain ⟨v0, e0, v, e1, p, ys, e2, e3, i, j, e4, e5, kk, e6, q⟩ := h
      exact ⟨v0, e0, v, e1, p, ys, e2, e3, i, j, e4, e5, kk, e6, hq _ _ q⟩
end
end Hou
set_option Elab.async false
set_option linter.all false
set_option maxRecDepth 100000
set_option autoImplicit false
namespace Hou
open PySem PySem.Spec PyProof.Rows L2
/-! ### short tactics: a reading's next questions -/
local macro_rules | `(tactic| walk_at "hq") => `(tactic| first
  | assumption | exact SqL.of (by assumption) | exact SqT.of (by assumption) | exact .inl (by assumption) | exact .inr (by assumption) | exact .inl (SqL.of (by assumption)) | exact .inr (SqT.of (by assumption))
  | exact SqL.of upd_same | exact SqT.of upd_same)
local macro_rules | `(tactic| walk_at "at") => `(tactic| first | assumption | exact atI_nat (j := 0) rfl | exact atI_nat (j := 1) rfl)
local macro_rules | `(tactic| walk_at "sd") => `(tactic| first
  | rfl | exact .inl ⟨by decide, by decide⟩ | exact .inr ⟨by decide, by decide⟩ | exact ⟨by decide, by decide, by decide⟩ | (show ((_ : Int) ≠ 0); first | decide | assumption | omega)
  | (show ((_ : Int) ≠ 0 ∧ _); refine ⟨by first | decide | assumption | omega, by first | decide | omega⟩) | (show (_ ≤ sizeLine); first | (simp only [List.length_cons, List.length_nil]; decide) | assumption) | decide | omega)
local macro_rules | `(tactic| walk_at "rd") => `(tactic| first
  | refine ⟨_, rfl, ?_⟩ | refine ⟨_, _, rfl, rfl, ?_⟩ | refine .inl ⟨_, rfl, ?_⟩ | refine .inr ⟨_, rfl, ?_⟩
  | refine ⟨_, _, _, _, rfl, rfl, (by walk_at "hq"), (by walk_at "at"), ?_⟩ | refine ⟨_, _, rfl, (by walk_at "hq"), ?_⟩ | refine ⟨(by walk_at "sd"), ?_⟩)

theorem seqIndex_nat {d n : Nat} (h : d < n) : seqIndex? (d : Int) n = some d := by
  unfold seqIndex?
  have h1 : (0 : Int) ≤ (d : Int) := by omega
  have h2 : (d : Int) < (n : Int) := by omega
  have h3 : ¬ (d : Int) < 0 := by omega
  simp only [h3, if_false]
  rw [if_pos (by simp [h])]
  rfl
theorem erase_perm {α : Type} : ∀ {l : List α} {i : Nat} (h : i < l.length), (l[i] :: l.eraseIdx i).Perm l
  | a :: l, 0, _ => List.Perm.refl _
  | a :: l, i + 1, h => by
    have hi : i < l.length := by simpa using h
    show (l[i] :: a :: l.eraseIdx i).Perm (a :: l)
    exact (List.Perm.swap a l[i] _).trans ((erase_perm hi).cons a)
section
variable {P : Program} {w : World} {K : PySem.W.Frag} {mg : Str → Option Value} {base : Heap} {CW CC : Addr}
abbrev s_law_pick : Stmt := top 43
abbrev N_law_pick : List Str := ["_law_box_here", "_law_some"]
theorem sc_law_pick : FnScope N_law_pick ["_law_box_here", "_law_some"] (defScope s_law_pick) := ⟨rfl, rfl, rfl, by decide +kernel, rfl, by decide +kernel, by decide +kernel⟩
def spPick (CW : Addr) : Sp := fun vs H Q _ => ∃ (b a : Addr) (xs : List V), vs = [.ref b, .ref a] ∧ Bx H b ∧ H a = some (.lst xs) ∧ a ≠ b ∧ xs ≠ [] ∧ xs.length ≤ 20 ∧ ∀ H' x, Fr CW [b] H H' → Bx H' b → x ∈ xs → Q x H'
theorem ok_pick (T : Top K mg "_law_pick" s_law_pick ["_law_box_here", "_law_some"]) (B : Bl mg) (D__law_take : Def P w K mg base 1 "_law_take" s_law_take ["_law_box_here", "_law_many"] (spTake CW)) :
    Def P w K mg base 2 "_law_pick" s_law_pick ["_law_box_here", "_law_some"] (spPick CW) := by
  refine T.ok sc_law_pick (fun vs H Q E h => ?_) (fun f cdv A outer s H vs Q E hr h => ?_)
  · obtain ⟨b, a, xs, rfl, _⟩ := h
    rfl
  · obtain ⟨b, a, xs, rfl, hb, ha, nab, hne, hl, k⟩ := h
    have hpos : 0 < xs.length := List.length_pos_iff.mpr hne
    refine ⟨_, (pss_one (ps_ret (pe_ix (ix_listK (K := K) rfl) (pv 1) (pe_def D__law_take (hr.mono (by decide)) rfl (pa_cons (pv 0) (pa_cons (pe_callB (id := "len") (call_lenK (K := K) rfl) (by rfl) B.len (by decide +kernel) (pa_cons (pv 1) pa_nil)) pa_nil))) (fun _ _ => rfl)))), ?_⟩
    refine ⟨_, rfl, _, rfl, _, rfl, a, _, rfl, .inl (SqL.of ha), b, xs.length, rfl, hb, hpos, by omega, fun d H1 hd f1 hb1 => ?_⟩
    refine ⟨a, _, _, _, rfl, rfl, SqL.of (f1.ot _ _ (by simp [nab]) ha), atI_nat (j := d) (v := xs[d]) (by simp [hd]), k H1 _ f1 hb1 (List.getElem_mem hd)⟩
abbrev s_law_mixed : Stmt := top 44
abbrev N_law_mixed : List Str := ["_law_box_here", "_law_some", "_law_found", "_law_left", "_law_turn"]
theorem sc_law_mixed : FnScope N_law_mixed ["_law_box_here", "_law_some"] (defScope s_law_mixed) := ⟨rfl, rfl, rfl, by decide +kernel, rfl, by decide +kernel, by decide +kernel⟩
def spMixed (CW : Addr) : Sp := fun vs H Q _ => ∃ (b a : Addr) (xs : List V), vs = [.ref b, .ref a] ∧ Bx H b ∧ H a = some (.lst xs) ∧ xs.length ≤ 20 ∧ ∀ H' p ys, Fr CW [b] H H' → Bx H' b → H p = none → H' p = some (.lst ys) → ys.Perm xs → Q (.ref p) H'
theorem ok_mixed (T : Top K mg "_law_mixed" s_law_mixed ["_law_box_here", "_law_some"]) (B : Bl mg) (D__law_take : Def P w K mg base 1 "_law_take" s_law_take ["_law_box_here", "_law_many"] (spTake CW)) :
    Def P w K mg base 2 "_law_mixed" s_law_mixed ["_law_box_here", "_law_some"] (spMixed CW) := by
  refine T.ok sc_law_mixed (fun vs H Q E h => ?_) (fun f cdv A outer s H vs Q E hr h => ?_)
  · obtain ⟨b, a, xs, rfl, _⟩ := h
    rfl
  · obtain ⟨b, a, xs, rfl, hb, ha, hl, k⟩ := h
    refine ⟨_, (pss_cons (ps_par (i := 2) (j := 3) rfl sc_law_mixed.nd rfl rfl (by decide) rfl rfl (pa_cons (pe_lst pa_nil) (pa_cons (pe_callTy (T := "list") (call_listK (K := K) rfl) (by rfl) B.list (by decide +kernel) (pa_cons (pv 1) pa_nil)) pa_nil)) (by rfl))
       (pss_cons (ps_for PassesOwn.never rfl (pi_range1 (by rfl) B.range (pa_cons (pe_callB (id := "len") (call_lenK (K := K) rfl) (by rfl) B.len (by decide +kernel) (pa_cons (pv 3) pa_nil)) pa_nil)) (pg_name (i := 4) sc_law_mixed.nd rfl (Or.inl rfl))
       (pss_one (ps_expr (pe_bm PySem.F.plainAttrs_list PySem.F.slot_list_append PySem.F.type_list_append mt_append (pv 2) (pa_cons (pe_bm PySem.F.plainAttrs_list PySem.F.slot_list_pop PySem.F.type_list_pop mt_popAt (pv 3) (pa_cons (pe_def D__law_take (hr.mono (by decide)) rfl (pa_cons (pv 0) (pa_cons (pe_callB (id := "len") (call_lenK (K := K) rfl) (by rfl) B.len (by decide +kernel) (pa_cons (pv 3) pa_nil)) pa_nil))) pa_nil)) pa_nil)))))
       (pss_one (ps_ret (pv 2))))), ?_⟩
    refine ⟨by show 0 ≤ sizeLine; decide, fun p hp => ?_⟩
    have nap : a ≠ p := ne_of_none ha hp
    refine ⟨_, rfl, a, xs, rfl, .inl (SqL.of (by rw [upd_ne nap]; exact ha)), fun l hl0 => ?_⟩
    have npl : p ≠ l := fun z => by
      rw [← z, upd_same] at hl0
      cases hl0
    have hl1 : H l = none := by
      rw [upd_ne npl.symm] at hl0
      exact hl0
    obtain ⟨bg, bs, hb⟩ := hb
    have nbp : b ≠ p := ne_of_none hb hp
    have nbl : b ≠ l := ne_of_none hb hl1
    have f1 : Fr CW [b] H (upd (upd H p (.lst [])) l (.lst xs)) := (Fr.refl.new hp).new hl0
    have hB1 : upd (upd H p (.lst [])) l (.lst xs) b = some (.lst [.int bg, .int bs]) := by rw [upd_ne nbl, upd_ne nbp]; exact hb
    refine ⟨_, _, rfl, ?_⟩
    refine ⟨_, rfl, l, _, rfl, .inl (SqL.of upd_same), _, rfl, by omega, by omega, for_it (walk_range (lo := 0) (n := xs.length))
      (fun i σ H2 => ∃ (fs ls : List V) (v : Option V), σ = [some (.ref b), some (.ref a), some (.ref p), some (.ref l), v] ∧ Fr CW [b] H H2 ∧ Bx H2 b ∧ H2 p = some (.lst fs) ∧ H2 l = some (.lst ls) ∧ (fs ++ ls).Perm xs ∧ fs.length = i)
      ⟨[], xs, none, rfl, f1, ⟨_, _, hB1⟩, by rw [upd_ne npl, upd_same], upd_same, List.Perm.refl _, rfl⟩ (fun _ _ _ _ _ => trivial) ?_ ?_⟩
    · rintro i v σ H2 H3 hi ⟨fs, ls, v, rfl, f2, hb2, hp2, hl2, pm, lf⟩ ⟨rfl, rfl⟩
      have hlen := pm.length_eq
      rw [List.length_append] at hlen
      have hpos : 0 < ls.length := by omega
      refine ⟨_, rfl, .inl ⟨rfl, _, SqL.of hp2⟩, _, rfl, .inl ⟨rfl, _, SqL.of hl2⟩, _, rfl, _, rfl, l, _, rfl, .inl (SqL.of hl2), b, ls.length, rfl, hb2, hpos, by omega, fun d H4 hd f4 hb4 => ?_⟩
      have hl4 := f4.ot _ _ (by simp [nbl.symm]) hl2
      have hp4 := f4.ot _ _ (by simp [nbp.symm]) hp2
      refine ⟨l, ls, (d : Int), d, ls[d], rfl, rfl, hl4, by omega, by omega, seqIndex_nat hd, by simp [hd], ?_⟩
      have hp5 : upd H4 l (.lst (ls.eraseIdx d)) p = some (.lst fs) := by rw [upd_ne npl]; exact hp4
      refine ⟨p, fs, ls[d], rfl, rfl, hp5, small1000 (by omega), ?_⟩
      obtain ⟨g4, s4, hb4⟩ := hb4
      refine ⟨fs ++ [ls[d]], ls.eraseIdx d, _, rfl, ((f2.trans f4).loc hl1).loc hp, ⟨g4, s4, by rw [upd_ne nbp, upd_ne nbl]; exact hb4⟩, upd_same, by rw [upd_ne npl.symm, upd_same], ?_, by simp [lf]⟩
      rw [List.append_assoc]
      exact ((erase_perm hd).append_left fs).trans pm
    · rintro σ H2 ⟨fs, ls, v, rfl, f2, hb2, hp2, hl2, pm, lf⟩
      have hlen := pm.length_eq
      rw [List.length_append] at hlen
      have : ls = [] := List.length_eq_zero_iff.mp (by omega)
      subst this
      rw [List.append_nil] at pm
      exact ⟨_, rfl, k H2 p fs f2 hb2 hp hp2 pm⟩
end
end Hou
set_option Elab.async false
set_option linter.all false
set_option maxRecDepth 100000
set_option autoImplicit false
namespace Hou
open PySem PySem.Spec PyProof.Rows L2
/-! ### short tactics: a reading's next questions -/
local macro_rules | `(tactic| walk_at "hq") => `(tactic| first
  | assumption | exact SqL.of (by assumption) | exact SqT.of (by assumption) | exact .inl (by assumption) | exact .inr (by assumption) | exact .inl (SqL.of (by assumption)) | exact .inr (SqT.of (by assumption))
  | exact SqL.of upd_same | exact SqT.of upd_same)
local macro_rules | `(tactic| walk_at "at") => `(tactic| first | assumption | exact atI_nat (j := 0) rfl | exact atI_nat (j := 1) rfl)
local macro_rules | `(tactic| walk_at "sd") => `(tactic| first
  | rfl | exact .inl ⟨by decide, by decide⟩ | exact .inr ⟨by decide, by decide⟩ | exact ⟨by decide, by decide, by decide⟩ | (show ((_ : Int) ≠ 0); first | decide | assumption | omega)
  | (show ((_ : Int) ≠ 0 ∧ _); refine ⟨by first | decide | assumption | omega, by first | decide | omega⟩) | (show (_ ≤ sizeLine); first | (simp only [List.length_cons, List.length_nil]; decide) | assumption) | decide | omega)
local macro_rules | `(tactic| walk_at "rd") => `(tactic| first
  | refine ⟨_, rfl, ?_⟩ | refine ⟨_, _, rfl, rfl, ?_⟩ | refine .inl ⟨_, rfl, ?_⟩ | refine .inr ⟨_, rfl, ?_⟩
  | refine ⟨_, _, _, _, rfl, rfl, (by walk_at "hq"), (by walk_at "at"), ?_⟩ | refine ⟨_, _, rfl, (by walk_at "hq"), ?_⟩ | refine ⟨(by walk_at "sd"), ?_⟩)

theorem ixN_nat {n i : Nat} (h : i < n) : ixN n (i : Int) = some i := by
  unfold ixN
  rw [if_pos (by omega), if_pos (by omega)]
  simp
section
variable {P : Program} {w : World} {K : PySem.W.Frag} {mg : Str → Option Value} {base : Heap} {CW CC : Addr}
abbrev s_law_number : Stmt := top 47
abbrev N_law_number : List Str := ["_law_box_here", "_law_modulus", "_law_great"]
theorem sc_law_number : FnScope N_law_number ["_law_box_here", "_law_modulus"] (defScope s_law_number) := ⟨rfl, rfl, rfl, by decide +kernel, rfl, by decide +kernel, by decide +kernel⟩
def spNumber (CW : Addr) : Sp := fun vs H Q _ => ∃ (b : Addr) (m : Nat), vs = [.ref b, .int (m : Nat)] ∧ Bx H b ∧ m ≤ 1000000 ∧ ∀ H' (x : Int), Fr CW [b] H H' → Bx H' b → Cnt m x → Q (.int x) H'
theorem ok_number (T : Top K mg "_law_number" s_law_number ["_law_box_here", "_law_modulus"]) (B : Bl mg) (D__law_take : Def P w K mg base 1 "_law_take" s_law_take ["_law_box_here", "_law_many"] (spTake CW)) :
    Def P w K mg base 2 "_law_number" s_law_number ["_law_box_here", "_law_modulus"] (spNumber CW) := by
  refine T.ok sc_law_number (fun vs H Q E h => ?_) (fun f cdv A outer s H vs Q E hr h => ?_)
  · obtain ⟨b, m, rfl, _⟩ := h
    rfl
  · obtain ⟨b, m, rfl, hb, hm, k⟩ := h
    refine ⟨_, (pss_cons (ps_if (pt_cmpR op_gt (pv 1) pe_int (nomark _)) (pss_one (ps_ret (pe_def D__law_take (hr.mono (by decide)) rfl (pa_cons (pv 0) (pa_cons (pv 1) pa_nil))))) pss_nil)
       (pss_cons (ps_set (i := 2) sc_law_number.nd rfl (Or.inl rfl) (pe_cmpR op_eq (pe_def D__law_take (hr.mono (by decide)) rfl (pa_cons (pv 0) (pa_cons pe_int pa_nil))) pe_int (nomark _)))
       (pss_one (ps_ret (pe_ix (ix_listK (K := K) rfl) (pe_lst (pa_cons (pe_op op_sub (pe_def D__law_take (hr.mono (by decide)) rfl (pa_cons (pv 0) (pa_cons pe_int pa_nil))) pe_int) (pa_cons (pe_op op_mul (pe_op op_sub (pe_op op_mul pe_int (pe_def D__law_take (hr.mono (by decide)) rfl (pa_cons (pv 0) (pa_cons pe_int pa_nil)))) pe_int) (pe_op op_sub (pe_op op_pow pe_int pe_int) (pe_def D__law_take (hr.mono (by decide)) rfl (pa_cons (pv 0) (pa_cons pe_int pa_nil))))) pa_nil))) (pe_callTy (T := "int") call_int1 (by rfl) B.int (by decide +kernel) (pa_cons (pv 2) pa_nil)) (fun _ _ => rfl)))))), ?_⟩
    refine ⟨_, rfl, _, _, rfl, rfl, _, rfl, ?_⟩
    refine iteD (fun h0 => ?_) (fun h0 => ?_)
    · refine ⟨_, rfl, _, rfl, b, m, rfl, hb, by omega, by omega, fun d H1 hd f1 hb1 => k H1 _ f1 hb1 ?_⟩
      unfold Cnt
      rw [if_pos (by omega)]
      omega
    · have hm0 : m = 0 := by omega
      subst hm0
      refine ⟨_, rfl, b, 5, rfl, hb, by decide, by decide, fun d H1 hd f1 hb1 => ?_⟩
      refine ⟨rfl, ?_⟩
      refine ⟨_, rfl, b, 21, rfl, hb1, by decide, by decide, fun d1 H2 hd1 f2 hb2 => ⟨_, _, rfl, rfl, ?_⟩⟩
      refine ⟨_, rfl, b, 2, rfl, hb2, by decide, by decide, fun d2 H3 hd2 f3 hb3 => ⟨_, _, rfl, rfl, .inl ⟨by decide, by decide⟩, _, _, rfl, rfl, ?_⟩⟩
      refine ⟨_, _, rfl, rfl, (show CPow 10 18 by unfold CPow; decide), ?_⟩
      refine ⟨_, rfl, b, 3, rfl, hb3, by decide, by decide, fun d3 H4 hd3 f4 hb4 => ⟨_, _, rfl, rfl, ?_⟩⟩
      have hc10 : (10 : Int) ^ Int.toNat 18 = 1000000000000000000 := by decide
      rw [hc10]
      refine ⟨_, _, rfl, rfl, .inl ⟨by show -(2 ^ 64) < 2 * (d2 : Int) - 1; omega, by show 2 * (d2 : Int) - 1 < 2 ^ 64; omega⟩, by show 2 ≤ sizeLine; decide, fun p hp => ?_⟩
      refine ⟨_, rfl, .inr ⟨_, rfl, ?_⟩⟩
      have f5 := (((f1.trans f2).trans f3).trans f4).new (o := .lst [V.int ((d1 : Int) - 10), V.int ((2 * (d2 : Int) - 1) * (1000000000000000000 - (d3 : Int)))]) hp
      obtain ⟨g4, s4, hb4⟩ := hb4
      have hb5 : Bx (upd H4 p (.lst [V.int ((d1 : Int) - 10), V.int ((2 * (d2 : Int) - 1) * (1000000000000000000 - (d3 : Int)))])) b := ⟨g4, s4, by rw [upd_ne (ne_of_none hb4 hp)]; exact hb4⟩
      by_cases hz : V.int (d : Nat) = V.int 0
      · rw [decide_eq_true hz]
        refine ⟨p, _, _, _, rfl, rfl, SqL.of upd_same, atI_nat (j := 1) rfl, k _ _ f5 hb5 ?_⟩
        unfold Cnt
        rw [if_neg (by decide)]
        have : d2 = 0 ∨ d2 = 1 := by omega
        rcases this with rfl | rfl
        · show -1000000000000000000 ≤ (2 * ((0 : Nat) : Int) - 1) * (1000000000000000000 - (d3 : Int)) ∧ (2 * ((0 : Nat) : Int) - 1) * (1000000000000000000 - (d3 : Int)) ≤ 1000000000000000000
          omega
        · show -1000000000000000000 ≤ (2 * ((1 : Nat) : Int) - 1) * (1000000000000000000 - (d3 : Int)) ∧ (2 * ((1 : Nat) : Int) - 1) * (1000000000000000000 - (d3 : Int)) ≤ 1000000000000000000
          omega
      · rw [decide_eq_false hz]
        refine ⟨p, _, _, _, rfl, rfl, SqL.of upd_same, atI_nat (j := 0) rfl, k _ _ f5 hb5 ?_⟩
        unfold Cnt
        rw [if_neg (by decide)]
        omega
abbrev s_law_met : Stmt := top 50
abbrev N_law_met : List Str := ["_law_ties", "_law_modulus", "_law_states", "_law_archives", "_law_tie", "_law_one", "_law_other", "_law_state"]
theorem sc_law_met : FnScope N_law_met ["_law_ties", "_law_modulus", "_law_states", "_law_archives", "_law_tie"] (defScope s_law_met) := ⟨rfl, rfl, rfl, by decide +kernel, rfl, by decide +kernel, by decide +kernel⟩
def spMet (CW : Addr) : Sp := fun vs H Q _ => ∃ (a sa aa : Addr) (n m i : Nat) (ts : List (Nat × Nat)) (t : Nat × Nat) (xs as : List Int), vs = [.ref a, .int (m : Nat), .ref sa, .ref aa, .int (i : Nat)] ∧ TsAt H a ts ∧ WebOk n ts ∧ ts[i]? = some t ∧ H sa = some (.lst (xs.map V.int)) ∧ H aa = some (.lst (as.map V.int)) ∧ sa ≠ aa ∧ xs.length = n ∧ as.length = ts.length ∧
  ∀ H', Fr CW [sa, aa] H H' → H' sa = some (.lst ((metX t xs (metV t xs as i m)).map V.int)) → H' aa = some (.lst ((as.set i (metV t xs as i m)).map V.int)) → Q (.int (metV t xs as i m)) H'
theorem ok_met (T : Top K mg "_law_met" s_law_met ["_law_ties", "_law_modulus", "_law_states", "_law_archives", "_law_tie"]) (B : Bl mg) (D__law_wrapped : Def P w K mg base 1 "_law_wrapped" s_law_wrapped ["_law_number_here", "_law_modulus"] spCountedAs) :
    Def P w K mg base 2 "_law_met" s_law_met ["_law_ties", "_law_modulus", "_law_states", "_law_archives", "_law_tie"] (spMet CW) := by
  refine T.ok sc_law_met (fun vs H Q E h => ?_) (fun f cdv A outer s H vs Q E hr h => ?_)
  · obtain ⟨a, sa, aa, n, m, i, ts, t, xs, as, rfl, _⟩ := h
    rfl
  · obtain ⟨a, sa, aa, n, m, i, ts, t, xs, as, rfl, ⟨ps, ha, hp⟩, ok, ht, hs, haa, nsa, lx, la, k⟩ := h
    obtain ⟨o1, o2, o3⟩ := ok.ok t (List.mem_of_getElem? ht)
    have hi := (List.getElem?_eq_some_iff.mp ht).1
    obtain ⟨q, eq1, eq2⟩ := hp.2 i t ht
    refine ⟨_, (pss_cons (ps_asg (pe_ix (ix_tupK (K := K) rfl) (pv 0) (pv 4) (fun _ _ => rfl)) (pg_tup rfl (pgs_cons (pg_name (i := 5) sc_law_met.nd rfl (Or.inl rfl)) (pgs_cons (pg_name (i := 6) sc_law_met.nd rfl (Or.inl rfl)) pgs_nil))))
       (pss_cons (ps_set (i := 7) sc_law_met.nd rfl (Or.inl rfl) (pe_def D__law_wrapped (hr.mono (by decide)) rfl (pa_cons (pe_op op_sub (pe_op op_add (pe_ix (ix_listK (K := K) rfl) (pv 2) (pv 5) (fun _ _ => rfl)) (pe_ix (ix_listK (K := K) rfl) (pv 2) (pv 6) (fun _ _ => rfl))) (pe_ix (ix_listK (K := K) rfl) (pv 3) (pv 4) (fun _ _ => rfl))) (pa_cons (pv 1) pa_nil))))
       (pss_cons (ps_asg (pv 7) (pg_sub (pv 2) (pv 5) set_list))
       (pss_cons (ps_asg (pv 7) (pg_sub (pv 2) (pv 6) set_list))
       (pss_cons (ps_asg (pv 7) (pg_sub (pv 3) (pv 4) set_list))
       (pss_one (ps_ret (pv 7)))))))), ?_⟩
    refine ⟨_, rfl, _, rfl, a, ps, _, _, rfl, rfl, SqT.of ha, atI_nat eq1, q, _, rfl, SqT.of eq2, rfl, _, _, rfl, _, _, rfl, rfl, ?_⟩
    refine ⟨_, rfl, _, rfl, sa, _, _, _, rfl, rfl, SqL.of hs, atD (i := t.1) (by omega), _, rfl, _, rfl, sa, _, _, _, rfl, rfl, SqL.of hs, atD (i := t.2) (by omega), _, _, rfl, rfl, _, rfl, _, rfl, aa, _, _, _, rfl, rfl, SqL.of haa, atD (i := i) (by omega), _, _, rfl, rfl, _, rfl, _, m, rfl, ?_⟩
    have nim1 : ∀ u, H sa = some u → ¬ Im CW u := nIm_lst hs
    have nim2 : ∀ u, H aa = some u → ¬ Im CW u := nIm_lst haa
    generalize hv : wrapI (xs.getD t.1 0 + xs.getD t.2 0 - as.getD i 0) m = v
    refine ⟨_, rfl, _, rfl, _, rfl, sa, _, _, t.1, rfl, rfl, hs, ixN_nat (by rw [List.length_map]; omega), ?_⟩
    refine ⟨_, rfl, _, rfl, _, rfl, sa, _, _, t.2, rfl, rfl, upd_same, ixN_nat (by rw [List.length_set, List.length_map]; omega), ?_⟩
    have h2 : upd (upd H sa (.lst ((xs.map V.int).set t.1 (.int v)))) sa (.lst (((xs.map V.int).set t.1 (.int v)).set t.2 (.int v))) aa = some (.lst (as.map V.int)) := by rw [upd_ne nsa.symm, upd_ne nsa.symm]; exact haa
    refine ⟨_, rfl, _, rfl, _, rfl, aa, _, _, i, rfl, rfl, h2, ixN_nat (by rw [List.length_map]; omega), ?_⟩
    have f1 : Fr CW [sa, aa] H (upd H sa (.lst ((xs.map V.int).set t.1 (.int v)))) := Fr.refl.put (by simp) nim1
    have f2 := f1.put (o := .lst (((xs.map V.int).set t.1 (.int v)).set t.2 (.int v))) (p := sa) (by simp) nim1
    have f3 := f2.put (o := .lst ((as.map V.int).set i (.int v))) (p := aa) (by simp) nim2
    have hm : metV t xs as i m = v := hv
    rw [hm] at k
    refine ⟨_, rfl, k _ f3 ?_ ?_⟩
    · rw [upd_ne nsa, upd_same, ← List.map_set, ← List.map_set]
      rfl
    · rw [upd_same, ← List.map_set]
abbrev s_law_book : Stmt := top 49
abbrev N_law_book : List Str := ["_law_ties", "_law_modulus", "_law_states", "_law_archives", "_law_part_here", "_law_houses", "_law_house", "_law_at"]
theorem sc_law_book : FnScope N_law_book ["_law_ties", "_law_modulus", "_law_states", "_law_archives", "_law_part_here"] (defScope s_law_book) := ⟨rfl, rfl, rfl, by decide +kernel, rfl, by decide +kernel, by decide +kernel⟩
def spLawBook (CW : Addr) : Sp := fun vs H Q _ => ∃ (a sa aa p : Addr) (n m : Nat) (ts : List (Nat × Nat)) (xs as : List Int) (c : List Nat), vs = [.ref a, .int (m : Nat), .ref sa, .ref aa, .ref p] ∧ TsAt H a ts ∧ WebOk n ts ∧ H sa = some (.lst (xs.map V.int)) ∧ H aa = some (.lst (as.map V.int)) ∧ H p = some (.lst (c.map nv)) ∧
  xs.length = n ∧ as.length = ts.length ∧ c.length ≤ 100 ∧ (∀ x ∈ c, x < n) ∧ ∀ H', Fr CW [] H H' → Q (.int (wrapI (bookI ts xs as c) m)) H'
theorem ok_law_book (T : Top K mg "_law_book" s_law_book ["_law_ties", "_law_modulus", "_law_states", "_law_archives", "_law_part_here"]) (B : Bl mg) (D__law_wrapped : Def P w K mg base 1 "_law_wrapped" s_law_wrapped ["_law_number_here", "_law_modulus"] spCountedAs) :
    Def P w K mg base 2 "_law_book" s_law_book ["_law_ties", "_law_modulus", "_law_states", "_law_archives", "_law_part_here"] (spLawBook CW) := by
  refine T.ok sc_law_book (fun vs H Q E h => ?_) (fun f cdv A outer s H vs Q E hr h => ?_)
  · obtain ⟨a, sa, aa, p, n, m, ts, xs, as, c, rfl, _⟩ := h
    rfl
  · obtain ⟨a, sa, aa, p, n, m, ts, xs, as, c, rfl, ⟨ps, ha, hps⟩, ok, hs, haa, hp, lx, la, lc, hc, k⟩ := h
    have l20 := ok.len
    refine ⟨_, (pss_cons (ps_set (i := 5) sc_law_book.nd rfl (Or.inl rfl) (pe_callB (id := "sum") (cr_sumK (K := K) rfl rfl) (by rfl) B.sum (by decide +kernel) (pa_cons (pe_lc (own := [("_law_house", 6)]) (g := gName 6) (tt := tYes) rfl sc_law_book.nd (pi_list (pv 4)) (blkOk_by (N := N_law_book) (sc := defScope s_law_book) (by decide +kernel)) (fun _ _ _ _ _ => pg_name (i := 6) sc_law_book.nd rfl (Or.inl rfl)) (fun _ _ _ _ _ => pts_nil) (fun _ _ _ _ _ => (pe_ix (ix_listK (K := K) rfl) (pv 2) (pv 6) (fun _ _ => rfl)))) pa_nil)))
       (pss_one (ps_ret (pe_def D__law_wrapped (hr.mono (by decide)) rfl (pa_cons (pe_op op_sub (pv 5) (pe_callB (id := "sum") (cr_sumK (K := K) rfl rfl) (by rfl) B.sum (by decide +kernel) (pa_cons (pe_lc (own := [("_law_at", 7)]) (g := gName 7) rfl sc_law_book.nd (pi_range1 (by rfl) B.range (pa_cons (pe_callB (id := "len") (call_lenK (K := K) rfl) (by rfl) B.len (by decide +kernel) (pa_cons (pv 0) pa_nil)) pa_nil)) (blkOk_by (N := N_law_book) (sc := defScope s_law_book) (by decide +kernel)) (fun _ _ _ _ _ => pg_name (i := 7) sc_law_book.nd rfl (Or.inl rfl)) (fun _ _ _ _ _ => (pts_one (pt_cmpR (op_in_seqK (K := K) rfl) (pe_ix (ix_tupK (K := K) rfl) (pe_ix (ix_tupK (K := K) rfl) (pv 0) (pv 7) (fun _ _ => rfl)) pe_int (fun _ _ => rfl)) (pv 4) (by rfl)))) (fun _ _ _ _ _ => (pe_ix (ix_listK (K := K) rfl) (pv 3) (pv 7) (fun _ _ => rfl)))) pa_nil))) (pa_cons (pv 1) pa_nil)))))), ?_⟩
    refine ⟨_, rfl, p, rfl, ⟨_, SqL.of hp⟩, lc_fr (CW := CW) (M := []) (walk_list (K := K) (a := p) (xs := c.map nv)) (fun i => (c[i]?).map fun h => V.int (xs.getD h 0)) (fun H2 f => SqL.of (f.ot _ _ (by simp) hp)) YAt.fr (by simp) (by rw [List.length_map]; omega) ?_ ?_⟩
    · rintro i v H2 H3 hi f2 ⟨rfl, hv⟩ N1 N0 n1 n0
      rw [List.getElem?_map] at hv
      obtain ⟨x, ex, rfl⟩ := Option.map_eq_some_iff.mp hv
      have hx := hc x (List.mem_of_getElem? ex)
      refine ⟨rfl, ?_⟩
      refine ⟨_, rfl, _, rfl, sa, _, _, _, rfl, rfl, SqL.of (f2.ot _ _ (by simp) hs), atD (i := x) (by omega), n1 _ _ Fr.refl (by rw [ex]; rfl)⟩
    · intro D H2 hD f2 hl2
      have e : (List.range (c.map nv).length).filterMap (fun i => (c[i]?).map fun h => V.int (xs.getD h 0)) = (c.map fun h => xs.getD h 0).map V.int := by
        rw [List.length_map, comp_map c (fun h => V.int (xs.getD h 0)) _ (fun i x hx => by rw [hx]; rfl), List.map_map]
        rfl
      rw [e] at hl2
      refine ⟨D, _, rfl, SqL.of hl2, ?_⟩
      refine ⟨_, rfl, _, rfl, a, ps, rfl, .inr (SqT.of (f2.tup ha)), (ts.length : Int), by rw [hps.1], by omega, by omega, ?_⟩
      refine lc_fr (CW := CW) (M := []) (walk_range (lo := 0) (n := ts.length)) (fun i => match ts[i]? with | some t => if t.1 ∈ c then some (V.int (as.getD i 0)) else none | none => none) (fun H3 f => trivial) YFn.fr (by simp) (by omega) ?_ ?_
      · rintro i v H3 H4 hi f3 ⟨rfl, rfl⟩ N1 N0 n1 n0
        have et : ts[i]? = some ts[i] := by simp [hi]
        obtain ⟨q, e1, hq⟩ := hps.2 i _ et
        have f4 := f2.trans f3
        refine ⟨rfl, ?_⟩
        refine ⟨_, rfl, _, rfl, a, _, _, _, rfl, rfl, SqT.of (f4.tup ha), (by rw [Int.zero_add]; exact atI_nat e1), q, _, _, _, rfl, rfl, SqT.of (f4.tup hq), atI_nat (j := 0) rfl, ?_⟩
        refine ⟨_, rfl, p, _, rfl, .inl (SqL.of (f4.ot _ _ (by simp) hp)), rfl, flat_nats c, _, rfl, ?_⟩
        show if inV (nv ts[i].1) (c.map nv) = true then _ else _
        rw [inV_nats]
        refine iteD (fun hz => ?_) (fun hz => ?_)
        · refine ⟨_, rfl, _, rfl, aa, _, _, _, rfl, rfl, SqL.of (f4.ot _ _ (by simp) haa), (by rw [Int.zero_add]; exact atD (i := i) (by omega)), n1 _ _ Fr.refl ?_⟩
          simp only [et]
          rw [if_pos hz]
        · exact n0 _ Fr.refl (by simp only [et]; rw [if_neg hz])
      · intro D2 H3 hD2 f3 hl3
        have e3 : (List.range ts.length).filterMap (fun i => match ts[i]? with | some t => if t.1 ∈ c then some (V.int (as.getD i 0)) else none | none => none) =
            ((List.range ts.length).filterMap fun i => match ts[i]? with | some t => if t.1 ∈ c then some (as.getD i 0) else none | none => none).map V.int := by
          rw [List.map_filterMap]
          refine fm_congr fun i _ => ?_
          cases ts[i]? with
          | none => rfl
          | some t =>
            dsimp only
            split <;> rfl
        rw [e3] at hl3
        refine ⟨D2, _, rfl, SqL.of hl3, ?_⟩
        exact ⟨_, _, rfl, rfl, _, rfl, _, m, rfl, k _ (f2.trans f3)⟩
theorem ifs_add {K K2 : PySem.W.Frag} {D : Ends} {σ : L2.St} {H : Hp} {q : Addr} {F : List Nat} {i x zi yi z y : Nat} (h2 : σ[2]? = some (some (.ref q))) (h3 : σ[3]? = some (some (nv i))) (hz : σ[zi]? = some (some (nv z))) (hy : σ[yi]? = some (some (nv y)))
    (hF : H q = some (.lst (F.map nv))) (hx : F[i]? = some x) (hl : F.length ≤ 100) (k1 : z = x → y ∉ F → D.nx σ (upd H q (.lst ((F ++ [y]).map nv)))) (k2 : ¬ (z = x ∧ y ∉ F) → D.nx σ H) :
    tIfS (tAnd (tTest (tOp rEq (tVar zi) (tOp (rIxL K) (tVar 2) (tVar 3)))) (tTest (tOp (rIn K true) (tVar yi) (tVar 2)))) (tDrop (tBM K2 "list" rAppend (tVar 2) (tCons (tVar yi) tNil))) tNext D σ H := by
  refine ⟨_, hz, _, h2, _, h3, q, _, _, _, rfl, rfl, SqL.of hF, at_nat hx, rfl, _, rfl, ?_⟩
  have e1 : decide (nv z = nv x) = decide (z = x) := by
    by_cases h : z = x
    · rw [h, decide_eq_true rfl, decide_eq_true rfl]
    · rw [decide_eq_false h, decide_eq_false fun e => h (by injection e; omega)]
  show (if decide (nv z = nv x) = true then _ else _)
  rw [e1]
  refine iteD (fun h => ?_) (fun h => ?_)
  · refine ⟨_, hy, _, h2, q, _, rfl, .inl (SqL.of hF), rfl, flat_nats F, _, rfl, ?_⟩
    show (if (!inV (nv y) (F.map nv)) = true then _ else _)
    rw [inV_nats]
    refine iteDN (fun hn => ?_) (fun hn => ?_)
    · refine ⟨_, h2, .inl ⟨rfl, _, SqL.of hF⟩, _, hy, q, _, _, rfl, rfl, hF, by rw [List.length_map]; exact small1000 (by omega), ?_⟩
      have e : F.map nv ++ [nv y] = (F ++ [y]).map nv := by simp
      rw [e]
      exact k1 h hn
    · exact k2 fun c => c.2 hn
  · exact iteF (k2 fun c => h c.1)
/-- one more house, if it is new -/
def stepF (F : List Nat) (x z y : Nat) : List Nat := if z = x ∧ y ∉ F then F ++ [y] else F
theorem stepF_sub {F : List Nat} {x z y u : Nat} (h : u ∈ F) : u ∈ stepF F x z y := by
  unfold stepF
  split
  · exact List.mem_append_left _ h
  · exact h
theorem stepF_new {F : List Nat} {x z y : Nat} (h : z = x) : y ∈ stepF F x z y := by
  unfold stepF
  split
  · simp
  · rename_i q
    exact Classical.byContradiction fun hn => q ⟨h, hn⟩
theorem stepF_get {F : List Nat} {x z y i u : Nat} (h : F[i]? = some u) : (stepF F x z y)[i]? = some u := by
  unfold stepF
  split
  · rw [List.getElem?_append_left (List.getElem?_eq_some_iff.mp h).1]
    exact h
  · exact h
theorem Srch.stepF {n : Nat} {ts : List (Nat × Nat)} {h i x z y : Nat} {F : List Nat} {t : Nat × Nat} (s : Srch n ts h F (F.drop (i + 1)) fun y => y = x) (hx : F[i]? = some x) (ht : t ∈ ts) (he : (t.1 = z ∧ t.2 = y) ∨ (t.2 = z ∧ t.1 = y)) (hy : y < n) :
    Srch n ts h (stepF F x z y) ((stepF F x z y).drop (i + 1)) fun y => y = x := by
  unfold Hou.stepF
  split
  · rename_i c
    have hl := (List.getElem?_eq_some_iff.mp hx).1
    rw [List.drop_append_of_le_length (by omega)]
    exact s.add (List.mem_of_getElem? hx) ht (by rw [← c.1]; exact he) hy c.2
  · exact s
abbrev s_law_part : Stmt := top 46
abbrev N_law_part : List Str := ["_law_ties", "_law_house", "_law_found", "_law_turn", "_law_one", "_law_other"]
theorem sc_law_part : FnScope N_law_part ["_law_ties", "_law_house"] (defScope s_law_part) := ⟨rfl, rfl, rfl, by decide +kernel, rfl, by decide +kernel, by decide +kernel⟩
def spLawPart (CW : Addr) : Sp := fun vs H Q _ => ∃ (a : Addr) (n h : Nat) (ts : List (Nat × Nat)), vs = [.ref a, .int (h : Nat)] ∧ TsAt H a ts ∧ WebOk n ts ∧ h < n ∧ ∀ H' p c, Fr CW [] H H' → H p = none → IsComp ts h c → (∀ x ∈ c, x < n) → H' p = some (.lst (c.map nv)) → Q (.ref p) H'
theorem ok_law_part (T : Top K mg "_law_part" s_law_part ["_law_ties", "_law_house"]) (B : Bl mg) : Def P w K mg base 1 "_law_part" s_law_part ["_law_ties", "_law_house"] (spLawPart CW) := by
  refine T.ok sc_law_part (fun vs H Q E h => ?_) (fun f cdv A outer s H vs Q E hr h => ?_)
  · obtain ⟨a, n, h, ts, rfl, _⟩ := h
    rfl
  · obtain ⟨a, n, h, ts, rfl, ⟨ps, ha, hps⟩, ok, hh, k⟩ := h
    have l20 := ok.len
    have n12 := ok.n12
    refine ⟨_, (pss_cons (ps_set (i := 2) sc_law_part.nd rfl (Or.inl rfl) (pe_lst (pa_cons (pv 1) pa_nil)))
       (pss_cons (ps_for PassesOwn.never rfl (pi_range1 (by rfl) B.range (pa_cons pe_int pa_nil)) (pg_name (i := 3) sc_law_part.nd rfl (Or.inl rfl))
       (pss_one (ps_if (pt_cmpR op_lt (pv 3) (pe_callB (id := "len") (call_lenK (K := K) rfl) (by rfl) B.len (by decide +kernel) (pa_cons (pv 2) pa_nil)) (nomark _)) (pss_one (ps_for PassesOwn.never rfl (pi_tup (pv 0)) (pg_tup rfl (pgs_cons (pg_name (i := 4) sc_law_part.nd rfl (Or.inl rfl)) (pgs_cons (pg_name (i := 5) sc_law_part.nd rfl (Or.inl rfl)) pgs_nil)))
       (pss_cons (ps_if (PW.pt (pw_and (pt_cmpR op_eq (pv 4) (pe_ix (ix_listK (K := K) rfl) (pv 2) (pv 3) (fun _ _ => rfl)) (nomark _)) (pw_and1 (pt_cmpR (op_notIn_seqK (K := K) rfl) (pv 5) (pv 2) (by rfl))))) (pss_one (ps_expr (pe_bm PySem.F.plainAttrs_list PySem.F.slot_list_append PySem.F.type_list_append mt_append (pv 2) (pa_cons (pv 5) pa_nil)))) pss_nil)
       (pss_one (ps_if (PW.pt (pw_and (pt_cmpR op_eq (pv 5) (pe_ix (ix_listK (K := K) rfl) (pv 2) (pv 3) (fun _ _ => rfl)) (nomark _)) (pw_and1 (pt_cmpR (op_notIn_seqK (K := K) rfl) (pv 4) (pv 2) (by rfl))))) (pss_one (ps_expr (pe_bm PySem.F.plainAttrs_list PySem.F.slot_list_append PySem.F.type_list_append mt_append (pv 2) (pa_cons (pv 4) pa_nil)))) pss_nil))))) pss_nil)))
       (pss_one (ps_ret (pe_callB (id := "sorted") (cr_sortedK (K := K) rfl) (by rfl) B.sorted (by decide +kernel) (pa_cons (pv 2) pa_nil)))))), ?_⟩
    refine ⟨_, rfl, by show 1 ≤ sizeLine; decide, fun q hq => ?_⟩
    have naq : a ≠ q := ne_of_none ha hq
    have f1 : Fr CW [] H (upd H q (.lst [V.int (h : Nat)])) := Fr.refl.new hq
    refine ⟨(12 : Int), rfl, by decide, by decide, for_it (walk_range (lo := 0) (n := 12))
      (fun i σ H2 => ∃ (F : List Nat) (v3 v4 v5 : Option V), σ = [some (.ref a), some (.int (h : Nat)), some (.ref q), v3, v4, v5] ∧ Fr CW [] H H2 ∧ H2 q = some (.lst (F.map nv)) ∧ Srch n ts h F (F.drop i) (fun _ => False))
      ⟨[h], none, none, none, rfl, f1, upd_same, Srch.start hh⟩ (fun _ _ _ _ _ => trivial) ?_ ?_⟩
    · rintro i v σ H2 H3 hi ⟨F, v3, v4, v5, rfl, f2, hF, s2⟩ ⟨rfl, rfl⟩
      have hlen := s2.len
      refine ⟨_, rfl, _, rfl, q, _, rfl, .inl (SqL.of hF), _, _, rfl, rfl, _, rfl, ?_⟩
      rw [List.length_map]
      refine iteD (fun hlt => ?_) (fun hno => ?_)
      · have hil : i < F.length := by omega
        have hx : F[i]? = some F[i] := by simp [hil]
        generalize F[i] = x at hx
        have hxF : x ∈ F := List.mem_of_getElem? hx
        have edr : F.drop i = x :: F.drop (i + 1) := by
          rw [List.drop_eq_getElem_cons hil]
          congr 1
          have e := List.getElem?_eq_getElem hil
          rw [hx] at e
          exact (Option.some.inj e).symm
        have sr' := s2.take (x := x) (W' := F.drop (i + 1)) (by rw [edr]; exact List.mem_cons_self) (fun y hy => by rw [edr]; exact List.mem_cons_of_mem _ hy) (fun y hy => by rw [edr] at hy; exact List.mem_cons.mp hy)
        refine ⟨_, rfl, a, rfl, ⟨ps, SqT.of (f2.tup ha)⟩, for_it (walk_tup (K := K) (a := a) (xs := ps))
          (fun j σ H2 => ∃ (F : List Nat) (v4 v5 : Option V), σ = [some (.ref a), some (.int (h : Nat)), some (.ref q), some (nv i), v4, v5] ∧ Fr CW [] H H2 ∧ H2 q = some (.lst (F.map nv)) ∧ Srch n ts h F (F.drop (i + 1)) (fun y => y = x) ∧ F[i]? = some x ∧
            ∀ j' t, j' < j → ts[j']? = some t → (t.1 = x → t.2 ∈ F) ∧ (t.2 = x → t.1 ∈ F))
          ⟨F, v4, v5, ?_, f2, hF, sr', hx, fun j' t hj => absurd hj (Nat.not_lt_zero _)⟩ (fun j σ H9 _ h9 => ?_) ?_ ?_⟩
        · show [some (V.ref a), some (V.int (h : Nat)), some (V.ref q), some (V.int (0 + (i : Nat))), v4, v5] = _
          rw [Int.zero_add]
        · obtain ⟨_, _, _, _, f9, _⟩ := h9
          exact SqT.of (f9.tup ha)
        · rintro j v σ H9 H9' hj ⟨F9, v4, v5, rfl, f9, hF9, s9, hx9, hall⟩ ⟨rfl, hv⟩
          obtain ⟨b, t, rfl, et, hb⟩ := hps.get hv
          have hb9 := f9.tup hb
          have htm := List.mem_of_getElem? et
          obtain ⟨o1, o2, o3⟩ := ok.ok t htm
          refine ⟨b, _, rfl, SqT.of hb9, rfl, _, _, rfl, _, _, rfl, rfl, ?_⟩
          have hl9 := s9.len
          -- what stands behind the two tests
          have fin : ∀ H1, Fr CW [] H H1 → H1 q = some (.lst ((stepF F9 x t.1 t.2).map nv)) → ∀ H2, (H2 = H1 ∧ stepF (stepF F9 x t.1 t.2) x t.2 t.1 = stepF F9 x t.1 t.2) ∨ H2 = upd H1 q (.lst ((stepF (stepF F9 x t.1 t.2) x t.2 t.1).map nv)) →
              ∃ (F : List Nat) (v4 v5 : Option V), [some (.ref a), some (.int (h : Nat)), some (.ref q), some (nv i), some (nv t.1), some (nv t.2)] = [some (.ref a), some (.int (h : Nat)), some (.ref q), some (nv i), v4, v5] ∧ Fr CW [] H H2 ∧ H2 q = some (.lst (F.map nv)) ∧ Srch n ts h F (F.drop (i + 1)) (fun y => y = x) ∧ F[i]? = some x ∧
                ∀ j' t, j' < j + 1 → ts[j']? = some t → (t.1 = x → t.2 ∈ F) ∧ (t.2 = x → t.1 ∈ F) := fun H1 fr1 hq1 H2 hc => by
            have sA := s9.stepF hx9 htm (.inl ⟨rfl, rfl⟩) o2
            have sB := sA.stepF (stepF_get hx9) htm (.inr ⟨rfl, rfl⟩) o1
            refine ⟨stepF (stepF F9 x t.1 t.2) x t.2 t.1, _, _, rfl, ?_, ?_, sB, stepF_get (stepF_get hx9), fun j' t' hj' et' => ?_⟩
            · rcases hc with ⟨rfl, _⟩ | rfl
              · exact fr1
              · exact fr1.loc hq
            · rcases hc with ⟨rfl, e⟩ | rfl
              · rw [e]; exact hq1
              · exact upd_same
            · by_cases e : j' < j
              · have k1 := hall j' t' e et'
                exact ⟨fun z => stepF_sub (stepF_sub (k1.1 z)), fun z => stepF_sub (stepF_sub (k1.2 z))⟩
              · obtain rfl : j' = j := by omega
                rw [et] at et'
                cases et'
                exact ⟨fun z => stepF_sub (stepF_new z), fun z => stepF_new z⟩
          have lA : (stepF F9 x t.1 t.2).length ≤ 100 := by
            unfold stepF
            split
            · rw [List.length_append, List.length_singleton]; omega
            · omega
          refine ifs_add (x := x) (z := t.1) (y := t.2) rfl rfl rfl rfl hF9 hx9 (by omega) (fun c1 c2 => ?_) (fun c => ?_)
          · have eA : stepF F9 x t.1 t.2 = F9 ++ [t.2] := by unfold stepF; rw [if_pos ⟨c1, c2⟩]
            rw [← eA]
            refine ifs_add (x := x) (z := t.2) (y := t.1) rfl rfl rfl rfl upd_same (stepF_get hx9) lA (fun d1 d2 => ?_) (fun d => ?_)
            · exact fin _ (f9.loc hq) upd_same _ (.inr (by rw [show stepF (stepF F9 x t.1 t.2) x t.2 t.1 = stepF F9 x t.1 t.2 ++ [t.1] from if_pos ⟨d1, d2⟩]))
            · exact fin _ (f9.loc hq) upd_same _ (.inl ⟨rfl, if_neg d⟩)
          · have eA : stepF F9 x t.1 t.2 = F9 := if_neg c
            rw [← eA] at hF9
            refine ifs_add (x := x) (z := t.2) (y := t.1) rfl rfl rfl rfl hF9 (stepF_get hx9) lA (fun d1 d2 => ?_) (fun d => ?_)
            · exact fin _ f9 hF9 _ (.inr (by rw [show stepF (stepF F9 x t.1 t.2) x t.2 t.1 = stepF F9 x t.1 t.2 ++ [t.1] from if_pos ⟨d1, d2⟩]))
            · exact fin _ f9 hF9 _ (.inl ⟨rfl, if_neg d⟩)
        · rintro σ H9 ⟨F9, v4, v5, rfl, f9, hF9, s9, hx9, hall⟩
          refine ⟨F9, _, _, _, rfl, f9, hF9, s9.close fun t ht => ?_⟩
          obtain ⟨j, hj⟩ := List.getElem?_of_mem ht
          refine hall j t ?_ hj
          rw [hps.1]
          exact (List.getElem?_eq_some_iff.mp hj).1
      · refine ⟨F, _, _, _, rfl, f2, hF, ?_⟩
        have e : F.drop (i + 1) = F.drop i := by rw [List.drop_eq_nil_of_le (by omega), List.drop_eq_nil_of_le (by omega)]
        rw [e]
        exact s2
    · rintro σ H2 ⟨F, v3, v4, v5, rfl, f2, hF, s2⟩
      have hlen := s2.len
      rw [List.drop_eq_nil_of_le (by omega)] at s2
      refine ⟨_, rfl, q, F.map (fun i : Nat => (i : Int)), rfl, ?_, by rw [List.length_map]; omega, fun ns p pm srt hp => ?_⟩
      · have := SqL.of (K := K) hF
        rw [List.map_map]
        exact this
      · obtain ⟨c, ec, hc, asc⟩ := sorted_found s2.nd pm srt
        refine k _ p c (f2.new hp) (f2.al _ hp) (s2.end hc asc) (fun x hx => s2.lt x ((hc x).mp hx)) ?_
        rw [upd_same, ec, List.map_map]
        exact rfl
end
end Hou
set_option Elab.async false
set_option linter.all false
set_option maxRecDepth 100000
set_option autoImplicit false
namespace Hou
open PySem PySem.Spec PyProof.Rows L2
/-! ### short tactics: a reading's next questions -/
local macro_rules | `(tactic| walk_at "hq") => `(tactic| first
  | assumption | exact SqL.of (by assumption) | exact SqT.of (by assumption) | exact .inl (by assumption) | exact .inr (by assumption) | exact .inl (SqL.of (by assumption)) | exact .inr (SqT.of (by assumption))
  | exact SqL.of upd_same | exact SqT.of upd_same)
local macro_rules | `(tactic| walk_at "at") => `(tactic| first | assumption | exact atI_nat (j := 0) rfl | exact atI_nat (j := 1) rfl)
local macro_rules | `(tactic| walk_at "sd") => `(tactic| first
  | rfl | exact .inl ⟨by decide, by decide⟩ | exact .inr ⟨by decide, by decide⟩ | exact ⟨by decide, by decide, by decide⟩ | (show ((_ : Int) ≠ 0); first | decide | assumption | omega)
  | (show ((_ : Int) ≠ 0 ∧ _); refine ⟨by first | decide | assumption | omega, by first | decide | omega⟩) | (show (_ ≤ sizeLine); first | (simp only [List.length_cons, List.length_nil]; decide) | assumption) | decide | omega)
local macro_rules | `(tactic| walk_at "rd") => `(tactic| first
  | refine ⟨_, rfl, ?_⟩ | refine ⟨_, _, rfl, rfl, ?_⟩ | refine .inl ⟨_, rfl, ?_⟩ | refine .inr ⟨_, rfl, ?_⟩
  | refine ⟨_, _, _, _, rfl, rfl, (by walk_at "hq"), (by walk_at "at"), ?_⟩ | refine ⟨_, _, rfl, (by walk_at "hq"), ?_⟩ | refine ⟨(by walk_at "sd"), ?_⟩)

theorem rank_of : ∀ l : List Nat, l.Nodup → ∃ r : Nat → Nat, ∀ k x, l[k]? = some x → r x = k
  | [], _ => ⟨fun _ => 0, fun k x h => by simp at h⟩
  | a :: l, d => by
    obtain ⟨d1, d2⟩ := List.nodup_cons.mp d
    obtain ⟨r, h⟩ := rank_of l d2
    refine ⟨fun x => if x = a then 0 else r x + 1, fun k x e => ?_⟩
    cases k with
    | zero =>
      cases e
      exact if_pos rfl
    | succ k =>
      have e' : l[k]? = some x := e
      have hne : x ≠ a := fun z => d1 (z ▸ List.mem_of_getElem? e')
      show (if x = a then 0 else r x + 1) = k + 1
      rw [if_neg hne, h k x e']
/-- ties grown so far: all among the first m names -/
structure Grown (n m : Nat) (r : Nat → Nat) (ts : List (Nat × Nat)) : Prop where
  ok : ∀ t ∈ ts, t.1 < n ∧ t.2 < n ∧ t.1 ≠ t.2
  ne : ∀ t ∈ ts, r t.1 ≠ r t.2
  nd : (ts.map (chi r)).Nodup
  lt : ∀ t ∈ ts, r (chi r t) < m
theorem Grown.mono {n m m' : Nat} {r : Nat → Nat} {ts : List (Nat × Nat)} (g : Grown n m r ts) (h : m ≤ m') : Grown n m' r ts := ⟨g.ok, g.ne, g.nd, fun t ht => Nat.lt_of_lt_of_le (g.lt t ht) h⟩
theorem Grown.add {n m : Nat} {r : Nat → Nat} {ts : List (Nat × Nat)} (g : Grown n m r ts) {x y : Nat} (hx : x < n) (hy : y < n) (rx : r x = m) (ry : r y < m) {t : Nat × Nat} (ht : t = (x, y) ∨ t = (y, x)) : Grown n (m + 1) r (ts ++ [t]) := by
  have hxy : x ≠ y := fun e => by rw [e] at rx; omega
  have hc : chi r t = x := by
    rcases ht with rfl | rfl
    · unfold chi
      rw [if_pos (by show r y < r x; omega)]
    · unfold chi
      rw [if_neg (by show ¬ r x < r y; omega)]
  refine ⟨fun u hu => ?_, fun u hu => ?_, ?_, fun u hu => ?_⟩
  · rcases List.mem_append.mp hu with z | z
    · exact g.ok u z
    · rw [List.mem_singleton.mp z]
      rcases ht with rfl | rfl
      · exact ⟨hx, hy, hxy⟩
      · exact ⟨hy, hx, hxy.symm⟩
  · rcases List.mem_append.mp hu with z | z
    · exact g.ne u z
    · rw [List.mem_singleton.mp z]
      rcases ht with rfl | rfl
      · show r x ≠ r y
        omega
      · show r y ≠ r x
        omega
  · rw [List.map_append]
    refine List.nodup_append.mpr ⟨g.nd, by simp, fun a ha b hb => ?_⟩
    have e1 : b = chi r t := by simpa using hb
    rw [e1, hc]
    intro e2
    obtain ⟨u, hu, rfl⟩ := List.mem_map.mp ha
    have := g.lt u hu
    rw [e2] at this
    omega
  · rcases List.mem_append.mp hu with z | z
    · exact Nat.lt_succ_of_lt (g.lt u z)
    · rw [List.mem_singleton.mp z, hc]
      omega
theorem rgV_nats (n : Nat) : rgV 0 (n : Int) = (List.range n).map nv := by
  unfold rgV
  have e : ((n : Int) - 0).toNat = n := by omega
  rw [e]
  refine List.map_congr_left fun i _ => ?_
  show V.int (0 + (i : Nat)) = V.int (i : Nat)
  rw [Int.zero_add]
section
variable {P : Program} {w : World} {K : PySem.W.Frag} {mg : Str → Option Value} {base : Heap} {CW CC : Addr}
abbrev s_law_forest : Stmt := top 45
abbrev N_law_forest : List Str := ["_law_box_here", "_law_most", "_law_many", "_law_style", "_law_ties", "_law_names", "_law_at", "_law_near", "_law_pair"]
theorem sc_law_forest : FnScope N_law_forest ["_law_box_here", "_law_most"] (defScope s_law_forest) := ⟨rfl, rfl, rfl, by decide +kernel, rfl, by decide +kernel, by decide +kernel⟩
def spForest (CW : Addr) : Sp := fun vs H Q _ => ∃ (b : Addr) (m : Nat), vs = [.ref b, .int (m : Nat)] ∧ Bx H b ∧ 1 ≤ m ∧ m ≤ 12 ∧
  ∀ H' p a n ts, Fr CW [b] H H' → Bx H' b → H' p = some (.tup [.int (n : Nat), .ref a]) → TsAt H' a ts → WebOk n ts → Forest ts → Q (.ref p) H'
theorem ok_forest (T : Top K mg "_law_forest" s_law_forest ["_law_box_here", "_law_most"]) (B : Bl mg) (D__law_take : Def P w K mg base 1 "_law_take" s_law_take ["_law_box_here", "_law_many"] (spTake CW))
    (D__law_mixed : Def P w K mg base 2 "_law_mixed" s_law_mixed ["_law_box_here", "_law_some"] (spMixed CW)) : Def P w K mg base 3 "_law_forest" s_law_forest ["_law_box_here", "_law_most"] (spForest CW) := by
  refine T.ok sc_law_forest (fun vs H Q E h => ?_) (fun f cdv A outer s H vs Q E hr h => ?_)
  · obtain ⟨b, m, rfl, _⟩ := h
    rfl
  · obtain ⟨b, m, rfl, hb, hm1, hm12, k⟩ := h
    refine ⟨_, (pss_cons (ps_par3 (i := 2) (j := 3) (l := 4) rfl sc_law_forest.nd rfl rfl rfl (by decide) (by decide) (by decide) rfl rfl rfl (pa_cons (pe_op op_add pe_int (pe_def D__law_take (hr.mono (by decide)) rfl (pa_cons (pv 0) (pa_cons (pv 1) pa_nil)))) (pa_cons (pe_def D__law_take (hr.mono (by decide)) rfl (pa_cons (pv 0) (pa_cons pe_int pa_nil))) (pa_cons (pe_lst pa_nil) pa_nil))) (by rfl))
       (pss_cons (ps_set (i := 5) sc_law_forest.nd rfl (Or.inl rfl) (pe_def D__law_mixed (hr.mono (by decide)) rfl (pa_cons (pv 0) (pa_cons (pe_listRg rfl rfl B.list (prg_1 rfl B.range (pv 2))) pa_nil))))
       (pss_cons (ps_for PassesOwn.never rfl (pi_range2 (by rfl) B.range (pa_cons pe_int (pa_cons (pv 2) pa_nil))) (pg_name (i := 6) sc_law_forest.nd rfl (Or.inl rfl))
       (pss_cons (ps_set (i := 7) sc_law_forest.nd rfl (Or.inl rfl) (pe_ix (ix_listK (K := K) rfl) (pe_lst (pa_cons (pe_def D__law_take (hr.mono (by decide)) rfl (pa_cons (pv 0) (pa_cons (pv 6) pa_nil))) (pa_cons (pe_op op_sub (pv 6) pe_int) (pa_cons pe_int (pa_cons (pe_def D__law_take (hr.mono (by decide)) rfl (pa_cons (pv 0) (pa_cons (pv 6) pa_nil))) pa_nil))))) (pv 3) (fun _ _ => rfl)))
       (pss_one (ps_if (pt_cmpR op_gt (pe_def D__law_take (hr.mono (by decide)) rfl (pa_cons (pv 0) (pa_cons pe_int pa_nil))) pe_int (nomark _)) (pss_cons (ps_set (i := 8) sc_law_forest.nd rfl (Or.inl rfl) (pe_tup (pa_cons (pe_ix (ix_listK (K := K) rfl) (pv 5) (pv 6) (fun _ _ => rfl)) (pa_cons (pe_ix (ix_listK (K := K) rfl) (pv 5) (pv 7) (fun _ _ => rfl)) pa_nil))))
       (pss_one (ps_expr (pe_bm PySem.F.plainAttrs_list PySem.F.slot_list_append PySem.F.type_list_append mt_append (pv 4) (pa_cons (pe_ifExp (pt_cmpR op_eq (pe_def D__law_take (hr.mono (by decide)) rfl (pa_cons (pv 0) (pa_cons pe_int pa_nil))) pe_int (nomark _)) (pv 8) (pe_tup (pa_cons (pe_ix (ix_tupK (K := K) rfl) (pv 8) pe_int (fun _ _ => rfl)) (pa_cons (pe_ix (ix_tupK (K := K) rfl) (pv 8) pe_int (fun _ _ => rfl)) pa_nil)))) pa_nil))))) pss_nil))))
       (pss_one (ps_ret (pe_tup (pa_cons (pv 2) (pa_cons (pe_callTy (T := "tuple") (call_tupleK (K := K) rfl) (by rfl) B.tuple (by decide +kernel) (pa_cons (pe_def D__law_mixed (hr.mono (by decide)) rfl (pa_cons (pv 0) (pa_cons (pv 4) pa_nil))) pa_nil)) pa_nil)))))))), ?_⟩
    refine ⟨_, rfl, _, rfl, b, m, rfl, hb, by omega, by omega, fun d H1 hd f1 hb1 => ⟨_, _, rfl, rfl, ?_⟩⟩
    refine ⟨_, rfl, b, 4, rfl, hb1, by decide, by decide, fun st H2 hst f2 hb2 => ⟨by show 0 ≤ sizeLine; decide, fun q hq => ?_⟩⟩
    refine ⟨_, _, _, rfl, ?_⟩
    dsimp only
    rw [show ((1 : Int) + (d : Nat)) = ((d + 1 : Nat) : Int) by omega]
    have hn1 : 1 ≤ d + 1 := by omega
    have hn12 : d + 1 ≤ 12 := by omega
    generalize d + 1 = n at hn1 hn12
    have f12 := f1.trans f2
    have nbq : b ≠ q := fun z => by
      obtain ⟨_, _, e⟩ := hb2
      rw [z, hq] at e
      cases e
    have hq0 : H q = none := f12.al _ hq
    have f3 : Fr CW [b] H (upd H2 q (.lst [])) := f12.new hq
    have hb3 : Bx (upd H2 q (.lst [])) b := let ⟨g, z, e⟩ := hb2; ⟨g, z, by rw [upd_ne nbq]; exact e⟩
    have hq3 : upd H2 q (.lst []) q = some (.lst []) := upd_same
    generalize upd H2 q (.lst []) = H3 at f3 hb3 hq3
    refine ⟨_, rfl, _, rfl, (n : Int), rfl, ⟨by decide, by decide, by omega, by omega, by omega⟩, fun r0 hr0 => ?_⟩
    rw [rgV_nats]
    have f4 : Fr CW [b] H3 (upd H3 r0 (.lst ((List.range n).map nv))) := Fr.refl.new hr0
    have hb4 : Bx (upd H3 r0 (.lst ((List.range n).map nv))) b := let ⟨g, z, e⟩ := hb3; ⟨g, z, by rw [upd_ne (ne_of_none e hr0)]; exact e⟩
    have hr4 : upd H3 r0 (.lst ((List.range n).map nv)) r0 = some (.lst ((List.range n).map nv)) := upd_same
    generalize upd H3 r0 (.lst ((List.range n).map nv)) = H4 at f4 hb4 hr4
    refine ⟨b, r0, _, rfl, hb4, hr4, by rw [List.length_map, List.length_range]; omega, fun H5 np ys f5 hb5 hnp0 hnp pm => ?_⟩
    obtain ⟨names, rfl, pn⟩ := perm_lift pm
    have hnd : names.Nodup := (pn.nodup_iff).mpr List.nodup_range
    have hnl : names.length = n := by rw [pn.length_eq, List.length_range]
    have hnm : ∀ x ∈ names, x < n := fun x hx => List.mem_range.mp (pn.mem_iff.mp hx)
    obtain ⟨r, hrk⟩ := rank_of names hnd
    have f35 := f4.trans f5
    have hq5 : H5 q = some (.lst []) := f35.ot _ _ (by simp [nbq.symm]) hq3
    have f05 := f3.trans f35
    have nqnp : q ≠ np := ne_of_none (f4.ot _ _ (by simp [nbq.symm]) hq3) hnp0
    have nbnp : b ≠ np := fun z => by
      obtain ⟨_, _, e⟩ := hb4
      rw [z, hnp0] at e
      cases e
    have hN : ((n : Int) - 1).toNat = n - 1 := by omega
    refine ⟨_, rfl, 1, (n : Int), rfl, ⟨by decide, by decide, by omega, by omega⟩, for_it (walk_range (lo := 1) (n := ((n : Int) - 1).toNat))
      (fun i σ H2 => ∃ (ps : List V) (acc : List (Nat × Nat)) (v6 v7 v8 : Option V), σ = [some (.ref b), some (.int (m : Nat)), some (.int (n : Nat)), some (.int (st : Nat)), some (.ref q), some (.ref np), v6, v7, v8] ∧ Fr CW [b] H H2 ∧ Bx H2 b ∧ H2 np = some (.lst (names.map nv)) ∧ H2 q = some (.lst ps) ∧ PsAt H2 ps acc ∧
        Grown n (i + 1) r acc ∧ acc.length ≤ i)
      ⟨[], [], none, none, none, rfl, f05, hb5, hnp, hq5, ⟨rfl, fun i t e => by simp at e⟩, ⟨by simp, by simp, by simp, by simp⟩, Nat.le_refl _⟩ (fun _ _ _ _ _ => trivial) ?_ ?_⟩
    · rintro i v σ H6 H6' hi ⟨ps, acc, v6, v7, v8, rfl, f6, hb6, hnp6, hq6, pa6, g6, l6⟩ ⟨rfl, rfl⟩
      dsimp only
      rw [show ((1 : Int) + (i : Nat)) = ((i + 1 : Nat) : Int) by omega]
      have hin : i + 1 < n := by omega
      refine ⟨_, rfl, _, rfl, b, i + 1, rfl, hb6, by omega, by omega, fun d1 H7 hd1 f7 hb7 => ?_⟩
      refine ⟨_, rfl, _, _, rfl, rfl, _, rfl, _, rfl, b, i + 1, rfl, hb7, by omega, by omega, fun d4 H8 hd4 f8 hb8 => ?_⟩
      refine ⟨by show 4 ≤ sizeLine; decide, fun l hl => ?_⟩
      obtain ⟨e, he, hlt⟩ : ∃ e : Nat, atI [V.int (d1 : Nat), V.int (((i + 1 : Nat) : Int) - 1), V.int 0, V.int (d4 : Nat)] (st : Int) = some (.int (e : Nat)) ∧ e < i + 1 := by
        match st, hst with
        | 0, _ => exact ⟨d1, atI_nat (j := 0) rfl, hd1⟩
        | 1, _ => exact ⟨i, (atI_nat (j := 1) rfl).trans (by rw [show ((i + 1 : Nat) : Int) - 1 = (i : Int) by omega]), by omega⟩
        | 2, _ => exact ⟨0, atI_nat (j := 2) rfl, by omega⟩
        | 3, _ => exact ⟨d4, atI_nat (j := 3) rfl, hd4⟩
      refine ⟨_, rfl, l, _, _, _, rfl, rfl, SqL.of upd_same, he, ?_⟩
      have f68 := f7.trans f8
      have f9 := f68.new (o := .lst [V.int (d1 : Nat), V.int (((i + 1 : Nat) : Int) - 1), V.int 0, V.int (d4 : Nat)]) hl
      have hb9 : Bx (upd H8 l (.lst [V.int (d1 : Nat), V.int (((i + 1 : Nat) : Int) - 1), V.int 0, V.int (d4 : Nat)])) b := let ⟨g, z, e⟩ := hb8; ⟨g, z, by rw [upd_ne (ne_of_none e hl)]; exact e⟩
      generalize upd H8 l (.lst [V.int (d1 : Nat), V.int (((i + 1 : Nat) : Int) - 1), V.int 0, V.int (d4 : Nat)]) = H9 at f9 hb9
      refine ⟨_, rfl, b, 9, rfl, hb9, by decide, by decide, fun d9 H10 hd9 f10 hb10 => ⟨_, _, rfl, rfl, _, rfl, ?_⟩⟩
      have f610 := f9.trans f10
      have hnp10 := f610.ot _ _ (by simp [nbnp.symm]) hnp6
      have hq10 := f610.ot _ _ (by simp [nbq.symm]) hq6
      have pa10 := pa6.fr f610
      have f010 := f6.trans f610
      refine iteD (fun h9 => ?_) (fun h9 => ?_)
      · have hx : names[i + 1]? = some names[i + 1] := by simp [hnl, hin]
        have hy : names[e]? = some (names[e]'(by omega)) := by simp
        generalize names[i + 1] = x at hx
        generalize names[e]'(by omega) = y at hy
        have hxn := hnm x (List.mem_of_getElem? hx)
        have hyn := hnm y (List.mem_of_getElem? hy)
        have rx := hrk _ _ hx
        have ry := hrk _ _ hy
        refine ⟨_, rfl, _, rfl, np, _, _, _, rfl, rfl, SqL.of hnp10, at_nat hx, _, rfl, _, rfl, np, _, _, _, rfl, rfl, SqL.of hnp10, at_nat hy, by show 2 ≤ sizeLine; decide, fun pr hpr => ?_⟩
        have f11 : Fr CW [b] H10 (upd H10 pr (.tup [nv x, nv y])) := Fr.refl.new hpr
        have hb11 : Bx (upd H10 pr (.tup [nv x, nv y])) b := let ⟨g, z, e⟩ := hb10; ⟨g, z, by rw [upd_ne (ne_of_none e hpr)]; exact e⟩
        have hpr11 : upd H10 pr (.tup [nv x, nv y]) pr = some (.tup [nv x, nv y]) := upd_same
        generalize upd H10 pr (.tup [nv x, nv y]) = H11 at f11 hb11 hpr11
        refine ⟨_, rfl, .inl ⟨rfl, _, SqL.of (f11.ot _ _ (by simp [nbq.symm]) hq10)⟩, _, rfl, b, 2, rfl, hb11, by decide, by decide, fun d2 H12 hd2 f12' hb12 => ⟨rfl, _, rfl, ?_⟩⟩
        have f1012 := f11.trans f12'
        have hq12 := f1012.ot _ _ (by simp [nbq.symm]) hq10
        have hnp12 := f1012.ot _ _ (by simp [nbnp.symm]) hnp10
        have pa12 := pa10.fr f1012
        have f012 := f010.trans f1012
        have hpr12 := f12'.tup hpr11
        have lps : ps.length ≤ i := by rw [pa6.1]; exact l6
        have fin : ∀ (H13 : Hp) (z : Addr) (t : Nat × Nat), Fr CW [b] H12 H13 → Bx H13 b → H13 q = some (.lst ps) → (t = (x, y) ∨ t = (y, x)) → H13 z = some (.tup [nv t.1, nv t.2]) →
            ∃ (qs : List V) (acc : List (Nat × Nat)) (v6 v7 v8 : Option V), [some (.ref b), some (.int (m : Nat)), some (.int (n : Nat)), some (.int (st : Nat)), some (.ref q), some (.ref np), some (nv (i + 1)), some (nv e), some (.ref pr)] = [some (.ref b), some (.int (m : Nat)), some (.int (n : Nat)), some (.int (st : Nat)), some (.ref q), some (.ref np), v6, v7, v8] ∧
              Fr CW [b] H (upd H13 q (.lst (ps ++ [.ref z]))) ∧ Bx (upd H13 q (.lst (ps ++ [.ref z]))) b ∧ (upd H13 q (.lst (ps ++ [.ref z]))) np = some (.lst (names.map nv)) ∧ (upd H13 q (.lst (ps ++ [.ref z]))) q = some (.lst qs) ∧ PsAt (upd H13 q (.lst (ps ++ [.ref z]))) qs acc ∧ Grown n (i + 1 + 1) r acc ∧ acc.length ≤ i + 1 := by
          intro H13 z t f13 hb13 hq13 ht hz
          have gq : Fr CW [q] H13 (upd H13 q (.lst (ps ++ [.ref z]))) := Fr.refl.put (by simp) (nIm_lst hq13)
          refine ⟨ps ++ [.ref z], acc ++ [t], _, _, _, rfl, (f012.trans f13).loc hq0, ?_, ?_, upd_same, ((pa12.fr f13).fr gq).snoc (gq.tup hz), g6.add hxn hyn rx (by omega) ht, by rw [List.length_append, List.length_singleton]; omega⟩
          · obtain ⟨g, z', e'⟩ := hb13
            exact ⟨g, z', by rw [upd_ne nbq]; exact e'⟩
          · rw [upd_ne nqnp.symm]
            exact f13.ot _ _ (by simp [nbnp.symm]) hnp12
        refine iteD (fun h2 => ?_) (fun h2 => ?_)
        · refine ⟨_, rfl, q, _, _, rfl, rfl, hq12, small1000 (by omega), ?_⟩
          exact fin H12 pr (x, y) Fr.refl hb12 hq12 (.inl rfl) hpr12
        · refine ⟨_, rfl, pr, _, _, _, rfl, rfl, SqT.of hpr12, atI_nat (j := 1) rfl, _, rfl, pr, _, _, _, rfl, rfl, SqT.of hpr12, atI_nat (j := 0) rfl, by show 2 ≤ sizeLine; decide, fun p2 hp2 => ?_⟩
          have hq13 : upd H12 p2 (.tup [nv y, nv x]) q = some (.lst ps) := by rw [upd_ne (ne_of_none hq12 hp2)]; exact hq12
          refine ⟨q, _, _, rfl, rfl, hq13, small1000 (by omega), ?_⟩
          exact fin _ p2 (y, x) (Fr.refl.new hp2) (let ⟨g, z, e⟩ := hb12; ⟨g, z, by rw [upd_ne (ne_of_none e hp2)]; exact e⟩) hq13 (.inr rfl) upd_same
      · refine ⟨ps, acc, _, _, _, rfl, f010, hb10, hnp10, hq10, pa10, g6.mono (by omega), by omega⟩
    · rintro σ H6 ⟨ps, acc, v6, v7, v8, rfl, f6, hb6, hnp6, hq6, pa6, g6, l6⟩
      have lps : ps.length ≤ 20 := by rw [pa6.1]; omega
      refine ⟨_, rfl, _, rfl, _, rfl, b, q, ps, rfl, hb6, hq6, lps, fun H7 p7 ys f7 hb7 hp70 hp7 pm7 => ?_⟩
      have pa7 := pa6.fr f7
      obtain ⟨cs', pc, hl', hR⟩ := perm_along (R := fun (v : V) (t : Nat × Nat) => ∃ a, v = .ref a ∧ H7 a = some (.tup [.int (t.1 : Nat), .int (t.2 : Nat)])) pa7.1 (fun i v t e1 e2 => by
        obtain ⟨a, e3, e4⟩ := pa7.2 i t e2
        rw [e1] at e3
        exact ⟨a, Option.some.inj e3, e4⟩) pm7
      have pa8 : PsAt H7 ys cs' := ⟨hl', fun i t e2 => by
        have hi : i < ys.length := by
          rw [hl']
          exact (List.getElem?_eq_some_iff.mp e2).1
        obtain ⟨a, e3, e4⟩ := hR i ys[i] t (by simp [hi]) e2
        exact ⟨a, by rw [← e3]; simp [hi], e4⟩⟩
      refine ⟨p7, ys, rfl, .inl ⟨SqL.of hp7, fun a ha => ?_⟩⟩
      have f8 := (f6.trans f7).new (o := .tup ys) ha
      have hb8 : Bx (upd H7 a (.tup ys)) b := let ⟨g, z, e⟩ := hb7; ⟨g, z, by rw [upd_ne (ne_of_none e ha)]; exact e⟩
      have pa9 := pa8.fr (Fr.refl.new (CW := CW) (M := []) (o := .tup ys) ha)
      have ha8 : upd H7 a (.tup ys) a = some (.tup ys) := upd_same
      generalize upd H7 a (.tup ys) = H8 at f8 hb8 pa9 ha8
      refine ⟨by show 2 ≤ sizeLine; decide, fun p hp => ?_⟩
      have fp : Fr CW [] H8 (upd H8 p (.tup [.int (n : Nat), .ref a])) := Fr.refl.new hp
      refine k _ p a n cs' (f8.trans fp.nil) (let ⟨g, z, e⟩ := hb8; ⟨g, z, by rw [upd_ne (ne_of_none e hp)]; exact e⟩) upd_same ⟨ys, fp.tup ha8, pa9.fr fp⟩ ⟨hn1, hn12, by rw [pc.length_eq]; omega, fun t ht => g6.ok t (pc.mem_iff.mp ht)⟩ ?_
      exact Forest.perm ⟨r, g6.ne, g6.nd⟩ pc
end
end Hou
set_option Elab.async false
set_option linter.all false
set_option maxRecDepth 100000
set_option autoImplicit false
namespace Hou
open PySem PySem.Spec PyProof.Rows L2
/-! ### short tactics: a reading's next questions -/
local macro_rules | `(tactic| walk_at "hq") => `(tactic| first
  | assumption | exact SqL.of (by assumption) | exact SqT.of (by assumption) | exact .inl (by assumption) | exact .inr (by assumption) | exact .inl (SqL.of (by assumption)) | exact .inr (SqT.of (by assumption))
  | exact SqL.of upd_same | exact SqT.of upd_same)
local macro_rules | `(tactic| walk_at "at") => `(tactic| first | assumption | exact atI_nat (j := 0) rfl | exact atI_nat (j := 1) rfl)
local macro_rules | `(tactic| walk_at "sd") => `(tactic| first
  | rfl | exact .inl ⟨by decide, by decide⟩ | exact .inr ⟨by decide, by decide⟩ | exact ⟨by decide, by decide, by decide⟩ | (show ((_ : Int) ≠ 0); first | decide | assumption | omega)
  | (show ((_ : Int) ≠ 0 ∧ _); refine ⟨by first | decide | assumption | omega, by first | decide | omega⟩) | (show (_ ≤ sizeLine); first | (simp only [List.length_cons, List.length_nil]; decide) | assumption) | decide | omega)
local macro_rules | `(tactic| walk_at "rd") => `(tactic| first
  | refine ⟨_, rfl, ?_⟩ | refine ⟨_, _, rfl, rfl, ?_⟩ | refine .inl ⟨_, rfl, ?_⟩ | refine .inr ⟨_, rfl, ?_⟩
  | refine ⟨_, _, _, _, rfl, rfl, (by walk_at "hq"), (by walk_at "at"), ?_⟩ | refine ⟨_, _, rfl, (by walk_at "hq"), ?_⟩ | refine ⟨(by walk_at "sd"), ?_⟩)

/-- the counters and the lists that go along with them -/
structure LawSt (CW CC : Addr) (H : Hp) (c w a sa aa : Addr) (n : Nat) (ts : List (Nat × Nat)) (m k : Nat) (xs as : List Int) : Prop where
  net : NetAt CW CC H c w n ts m xs as
  st : H sa = some (.lst (xs.map V.int))
  ar : H aa = some (.lst (as.map V.int))
  ta : TsAt H a ts
  so : SOk n ts m k xs as
  ok : WebOk n ts
theorem kw_do {K : PySem.W.Frag} : KwOk K "do" "CounterNet.do" s_CounterNet_do ["self", "house", "amount"] 1 ["amount", "house"] [0, 2, 1] := by
  intro kV doc pm an cdv ct us ws h1 h2
  match us, ws, h1, h2 with
  | [_], [_, _], _, _ => rfl
theorem kw_meet {K : PySem.W.Frag} : KwOk K "meet" "CounterNet.meet" s_CounterNet_meet ["self", "tie"] 1 ["tie"] [0, 1] := by
  intro kV doc pm an cdv ct us ws h1 h2
  match us, ws, h1, h2 with
  | [_], [_], _, _ => rfl
theorem kw_book {K : PySem.W.Frag} : KwOk K "book" "CounterNet.book" s_CounterNet_book ["self", "house"] 1 ["house"] [0, 1] := by
  intro kV doc pm an cdv ct us ws h1 h2
  match us, ws, h1, h2 with
  | [_], [_], _, _ => rfl
theorem kw_is_rest {K : PySem.W.Frag} : KwOk K "is_rest" "is_rest" s_is_rest ["net"] 0 ["net"] [0] := by
  intro kV doc pm an cdv ct us ws h1 h2
  match us, ws, h1, h2 with
  | [], [_], _, _ => rfl
section
variable {P : Program} {w : World} {K : PySem.W.Frag} {mg : Str → Option Value} {base : Heap} {CW CC : Addr}
def rReprI : List V → Hp → VK → Prop := fun xs H Q => ∃ i, xs = [V.int i] ∧ i.natAbs.log2 < 1920 ∧ Q (.str (toString i)) H
theorem its3 {H : Hp} {x : Int} {p q : Addr} {xs as : List Int} (hp : H p = some (.tup (xs.map V.int))) (hq : H q = some (.tup (as.map V.int))) : ItsAt H [.int x, .ref p, .ref q] [.inl x, .inr xs, .inr as] := .cons (.int x) (.cons (.tup hp) (.cons (.tup hq) .nil))
theorem its_ok3 {n m k : Nat} {ts : List (Nat × Nat)} {x : Int} {xs as : List Int} (so : SOk n ts m k xs as) (ok : WebOk n ts) (hk : k ≤ 300) (hx : okI x) : ∀ d ∈ ([.inl x, .inr xs, .inr as] : List IT), okIT d := by
  intro d hd
  have l20 := ok.len
  have n12 := ok.n12
  have lx := so.lx
  have la := so.la
  rcases List.mem_cons.mp hd with rfl | hd
  · exact hx
  rcases List.mem_cons.mp hd with rfl | hd
  · exact ⟨by omega, fun i hi => okI_of (so.ox i hi) hk⟩
  rcases List.mem_cons.mp hd with rfl | hd
  · exact ⟨by omega, fun i hi => okI_of (so.oa i hi) hk⟩
  · simp at hd
theorem LawSt.fr {H H' : Hp} {M : List Addr} {c w a sa aa : Addr} {n m k : Nat} {ts : List (Nat × Nat)} {xs as : List Int} (L : LawSt CW CC H c w a sa aa n ts m k xs as) (f : Fr CW M H H') (h1 : c ∉ M) (h2 : sa ∉ M) (h3 : aa ∉ M) : LawSt CW CC H' c w a sa aa n ts m k xs as :=
  ⟨L.net.fr f h1, f.ot _ _ h2 L.st, f.ot _ _ h3 L.ar, L.ta.fr f, L.so, L.ok⟩
theorem IsComp.lt {n h : Nat} {ts : List (Nat × Nat)} {c : List Nat} (hc : IsComp ts h c) (hh : h < n) (ok : WebOk n ts) : ∀ x ∈ c, x < n :=
  hc.least (· < n) hh fun t ht => ⟨fun _ => (ok.ok t ht).2.1, fun _ => (ok.ok t ht).1⟩
/-- behind a step: what is told is what is due, books are right -/
theorem steps_tail {K : PySem.W.Frag} {D : Ends} {σ : L2.St} {H : Hp} {c w a sa aa : Addr} {n m k h : Nat} {ts : List (Nat × Nat)} {xs as : List Int} {x : Int} (C : TxC K mg CC)
    (s1 : σ[1]? = some (some (.ref c))) (s2 : σ[2]? = some (some (.ref a))) (s3 : σ[3]? = some (some (.int (m : Nat)))) (s4 : σ[4]? = some (some (.ref sa))) (s5 : σ[5]? = some (some (.ref aa))) (s7 : σ[7]? = some (some (.int (h : Nat)))) (s9 : σ[9]? = some (some (.int x))) (s10 : σ[10]? = some (some (.int x)))
    (L : LawSt CW CC H c w a sa aa n ts m k xs as) (hh : h < n) (hk : k ≤ 300) (hx : okI x) (kk : ∀ H', Fr CW [] H H' → D.nx σ H') :
    tSeq (tIfS (tTest (tOp rNe (tCB rReprT (tCons (tTup (tCons (tVar 9) (tCons (tFld K (tVar 1) "states") (tCons (tFld K (tVar 1) "archives") tNil)))) tNil)) (tCB rReprT (tCons (tTup (tCons (tVar 10) (tCons (tCB (rTupleOf K) (tCons (tVar 4) tNil)) (tCons (tCB (rTupleOf K) (tCons (tVar 5) tNil)) tNil)))) tNil)))) (tRet (tC (.bl false))) tNext)
      (tIfS (tTest (tOp rNe (tCB rReprI (tCons (tMeth CC "book" (spNetBook CW CC) [] E0 (tVar 1) (tCons (tVar 7) tNil)) tNil)) (tCB rReprI (tCons (tCall (spLawBook CW) [] E0 (tCons (tVar 2) (tCons (tVar 3) (tCons (tVar 4) (tCons (tVar 5) (tCons (tCall (spLawPart CW) [] E0 (tCons (tVar 2) (tCons (tVar 7) tNil))) tNil)))))) tNil)))) (tRet (tC (.bl false))) tNext) D σ H := by
  obtain ⟨⟨dx, s', a', hc, hw, hs, ha⟩, hS, hA, hT, so, ok⟩ := id L
  have l20 := ok.len
  have n12 := ok.n12
  obtain ⟨z, hz⟩ : ∃ z, z = shT [.inl x, .inr xs, .inr as] := ⟨_, rfl⟩
  refine ⟨_, s9, _, s1, c, CC, dx, _, _, rfl, hc, C.cl, C.nS, netF_st, _, s1, c, CC, dx, _, _, rfl, hc, C.cl, C.nA, netF_ar, by show 3 ≤ sizeLine; decide, fun p hp => ?_⟩
  have f1 : Fr CW [] H (upd H p (.tup [.int x, .ref s', .ref a'])) := Fr.refl.new hp
  refine ⟨p, _, _, rfl, upd_same, its3 (f1.tup hs) (f1.tup ha), (by show 3 ≤ 3; decide), its_ok3 so ok hk hx, ?_⟩
  rw [← hz]
  have La := L.fr f1 (by simp) (by simp) (by simp)
  generalize upd H p (.tup [.int x, .ref s', .ref a']) = H1 at f1 La
  refine ⟨_, s10, _, s4, sa, _, rfl, .inl ⟨SqL.of La.st, fun p1 hp1 => ?_⟩⟩
  have f2 : Fr CW [] H1 (upd H1 p1 (.tup (xs.map V.int))) := Fr.refl.new hp1
  have e1 : upd H1 p1 (.tup (xs.map V.int)) p1 = some (.tup (xs.map V.int)) := upd_same
  have Lb := La.fr f2 (by simp) (by simp) (by simp)
  generalize upd H1 p1 (.tup (xs.map V.int)) = H2 at f2 e1 Lb
  refine ⟨_, s5, aa, _, rfl, .inl ⟨SqL.of Lb.ar, fun p2 hp2 => ?_⟩⟩
  have f3 : Fr CW [] H2 (upd H2 p2 (.tup (as.map V.int))) := Fr.refl.new hp2
  have e2 : upd H2 p2 (.tup (as.map V.int)) p2 = some (.tup (as.map V.int)) := upd_same
  have Lc := Lb.fr f3 (by simp) (by simp) (by simp)
  have e1' := f3.tup e1
  generalize upd H2 p2 (.tup (as.map V.int)) = H3 at f3 e2 Lc e1'
  refine ⟨by show 3 ≤ sizeLine; decide, fun p3 hp3 => ?_⟩
  have f4 : Fr CW [] H3 (upd H3 p3 (.tup [.int x, .ref p1, .ref p2])) := Fr.refl.new hp3
  refine ⟨p3, _, _, rfl, upd_same, its3 (f4.tup e1') (f4.tup e2), (by show 3 ≤ 3; decide), its_ok3 so ok hk hx, ?_⟩
  rw [← hz]
  have Ld := Lc.fr f4 (by simp) (by simp) (by simp)
  have f04 := ((f1.trans f2).trans f3).trans f4
  generalize upd H3 p3 (.tup [.int x, .ref p1, .ref p2]) = H4 at f4 Ld f04
  clear hz
  refine ⟨rfl, _, rfl, ?_⟩
  rw [show (decide (V.str z = V.str z)) = true from decide_eq_true rfl]
  refine iteF ?_
  obtain ⟨⟨dx4, s4', a4', hc4, _⟩, _, _, hT4, _, _⟩ := id Ld
  refine ⟨_, s1, c, dx4, _, rfl, hc4, rfl, _, s7, c, w, n, m, h, ts, xs, as, rfl, Ld.net, ok, so.lx, so.la, hh, fun H5 p5 f5 hp5 => ?_⟩
  have hpn := hp5.lt hh ok
  have hpl : p5.length ≤ n := nodup_len n p5 (hp5.asc.imp fun h => by omega) hpn
  have hbk := big_log (so.bookOk hk (c := p5) (by omega) l20)
  refine ⟨_, rfl, hbk, ?_⟩
  have f05 := f04.trans f5
  have Le := L.fr f05 (by simp) (by simp) (by simp)
  refine ⟨_, s2, _, s3, _, s4, _, s5, _, s2, _, s7, a, n, h, ts, rfl, Le.ta, ok, hh, fun H6 q c' f6 hq0 hc' hcn' hq => ?_⟩
  have ec : c' = p5 := hc'.unique hp5
  subst ec
  have Lf := Le.fr f6 (by simp) (by simp) (by simp)
  refine ⟨a, sa, aa, q, n, m, ts, xs, as, c', rfl, Lf.ta, ok, Lf.st, Lf.ar, hq, so.lx, so.la, by omega, hcn', fun H7 f7 => ⟨_, rfl, hbk, rfl, _, rfl, ?_⟩⟩
  rw [show (decide (V.str (toString (wrapI (bookI ts xs as c') m)) = V.str (toString (wrapI (bookI ts xs as c') m)))) = true from decide_eq_true rfl]
  exact iteF (kk H7 ((f05.trans f6).trans f7))
def tMethN (C : Addr) (m : Str) (n : Nat) (pp : List Nat) (sp : Sp) (ta : TE) (tk : TA) : TE := fun σ H Q => ta σ H fun x H1 => ∃ a dx fs, x = .ref a ∧ H1 a = some (.ins C dx fs) ∧ fs.lookup m = none ∧ tk σ H1 fun zs H2 => zs.length = n ∧ sp (pp.map fun i => (x :: zs).getD i .non) H2 Q E0
/-- a deed, done to the lists and to the net -/
theorem way_deed {K : PySem.W.Frag} {D : Ends} {H : Hp} {b c w a sa aa : Addr} {n m k h : Nat} {ts : List (Nat × Nat)} {xs as : List Int} {v6 v8 v9 v10 v11 : Option V} (hne : CC ≠ CW) (hb : Bx H b) (L : LawSt CW CC H c w a sa aa n ts m k xs as) (hh : h < n) (hk : k + 1 ≤ 300) (nbs : b ≠ sa) (nba : b ≠ aa) (nsa : sa ≠ aa)
    (kk : ∀ (v x : Int) H' xs' as', Fr CW [b, c, sa, aa] H H' → Bx H' b → LawSt CW CC H' c w a sa aa n ts m (k + 1) xs' as' → okI x → D.nx [some (.ref b), some (.ref c), some (.ref a), some (.int (m : Nat)), some (.ref sa), some (.ref aa), v6, some (.int (h : Nat)), some (.int v), some (.int x), some (.int x), v11] H') :
    tSeq (tAsg (tCall (spNumber CW) [] E0 (tCons (tVar 0) (tCons (tC (V.int 0)) tNil))) (gName 8))
      (tSeq (tAsg (tCall spCountedAs [] E0 (tCons (tOp (rI0 fun i j => V.int (i + j)) (tOp (rIxL K) (tVar 4) (tVar 7)) (tVar 8)) (tCons (tVar 3) tNil))) (gSub (tVar 4) (tVar 7) rSetL))
      (tSeq (tAsg (tIf (tTest (tOp rEq (tCall (spTake CW) [] E0 (tCons (tVar 0) (tCons (tC (V.int 2)) tNil))) (tC (V.int 0)))) (tMeth CC "do" (spNetDo CW CC) [] E0 (tVar 1) (tCons (tVar 7) (tCons (tVar 8) tNil)))
        (tMethN CC "do" 2 [0, 2, 1] (spNetDo CW CC) (tVar 1) (tCons (tVar 8) (tCons (tVar 7) tNil)))) (gName 9))
      (tAsg (tOp (rIxL K) (tVar 4) (tVar 7)) (gName 10)))) D [some (.ref b), some (.ref c), some (.ref a), some (.int (m : Nat)), some (.ref sa), some (.ref aa), v6, some (.int (h : Nat)), v8, v9, v10, v11] H := by
  have ok := L.ok
  have n12 := ok.n12
  have lx := L.so.lx
  have ncb : c ≠ b := fun z => by
    obtain ⟨dx, s', a', hc, _⟩ := L.net
    obtain ⟨g, z', e⟩ := hb
    rw [z, e] at hc
    cases hc
  have ncs : c ≠ sa := fun z => by
    obtain ⟨dx, s', a', hc, _⟩ := L.net
    have e := L.st
    rw [← z, hc] at e
    cases e
  have nca : c ≠ aa := fun z => by
    obtain ⟨dx, s', a', hc, _⟩ := L.net
    have e := L.ar
    rw [← z, hc] at e
    cases e
  refine ⟨_, rfl, b, 0, rfl, hb, by omega, fun H1 v f1 hb1 hv => ?_⟩
  have La := L.fr f1 (by simp [ncb]) (by simp [nbs.symm]) (by simp [nba.symm])
  unfold Cnt at hv
  rw [if_neg (by decide)] at hv
  refine ⟨_, rfl, _, rfl, sa, _, _, _, rfl, rfl, SqL.of La.st, atD (i := h) (by omega), _, rfl, _, _, rfl, rfl, _, rfl, _, m, rfl, ?_⟩
  generalize hx : wrapI (xs.getD h 0 + v) m = x
  have hxo : Okv m (k + 1) x := by
    rw [← hx]
    exact L.so.deedOk h (by omega)
  have so' : SOk n ts m (k + 1) (xs.set h x) as := by
    rw [← hx]
    exact L.so.deed h (by omega)
  refine ⟨_, rfl, _, rfl, sa, _, _, h, rfl, rfl, La.st, ixN_nat (by rw [List.length_map]; omega), ?_⟩
  have f2 : Fr CW [sa] H1 (upd H1 sa (.lst ((xs.map V.int).set h (.int x)))) := Fr.refl.put (by simp) (nIm_lst La.st)
  have e2 : upd H1 sa (.lst ((xs.map V.int).set h (.int x))) sa = some (.lst ((xs.set h x).map V.int)) := by rw [upd_same, ← List.map_set]
  have hb2 : Bx (upd H1 sa (.lst ((xs.map V.int).set h (.int x)))) b := let ⟨g, z, e⟩ := hb1; ⟨g, z, by rw [upd_ne nbs]; exact e⟩
  have net2 := La.net.fr f2 (by simp [ncs])
  have ar2 := f2.ot _ _ (by simp [nsa.symm]) La.ar
  have ta2 := La.ta.fr f2
  generalize upd H1 sa (.lst ((xs.map V.int).set h (.int x))) = H2 at f2 e2 hb2 net2 ar2 ta2
  refine ⟨_, rfl, b, 2, rfl, hb2, by decide, by decide, fun d2 H3 hd2 f3 hb3 => ⟨rfl, _, rfl, ?_⟩⟩
  have net3 := net2.fr f3 (by simp [ncb])
  have e3 := f3.ot _ _ (by simp [nbs.symm]) e2
  have ar3 := f3.ot _ _ (by simp [nba.symm]) ar2
  have ta3 := ta2.fr f3
  have f03 : Fr CW [b, c, sa, aa] H H3 := ((f1.mono (by simp)).trans (f2.mono (by simp))).trans (f3.mono (by simp))
  obtain ⟨dx, s3, a3, hc3, hw3, hs3, ha3⟩ := id net3
  have fin : ∀ H4, Fr CW [c] H3 H4 → NetAt CW CC H4 c w n ts m (xs.set h (wrapI (xs.getD h 0 + v) m)) as → (tAsg (tOp (rIxL K) (tVar 4) (tVar 7)) (gName 10)) D [some (.ref b), some (.ref c), some (.ref a), some (.int (m : Nat)), some (.ref sa), some (.ref aa), v6, some (.int (h : Nat)), some (.int v), some (.int (wrapI (xs.getD h 0 + v) m)), v10, v11] H4 := by
    intro H4 f4 net4
    rw [hx] at net4 ⊢
    have e4 := f4.ot _ _ (by simp [ncs.symm]) e3
    refine ⟨_, rfl, _, rfl, sa, _, _, .int x, rfl, rfl, SqL.of e4, ?_, ?_⟩
    · refine at_int ?_
      rw [List.getElem?_set, if_pos rfl, if_pos (by omega)]
    · refine kk v x H4 (xs.set h x) as (f03.trans (f4.mono (by simp))) ?_ ⟨net4, e4, f4.ot _ _ (by simp [nca.symm]) ar3, ta3.fr f4, so', ok⟩ (okI_of hxo hk)
      obtain ⟨g, z, e⟩ := hb3
      exact ⟨g, z, f4.ot _ _ (by simp [ncb.symm]) e⟩
  refine iteD (fun hz => ?_) (fun hz => ?_)
  · exact ⟨_, rfl, c, dx, _, rfl, hc3, rfl, _, rfl, _, rfl, c, w, n, m, h, ts, xs, as, v, rfl, net3, lx, n12, hh, hv.1, hv.2, fin⟩
  · exact ⟨_, rfl, c, dx, _, rfl, hc3, rfl, _, rfl, _, rfl, rfl, c, w, n, m, h, ts, xs, as, v, rfl, net3, lx, n12, hh, hv.1, hv.2, fin⟩
abbrev s_law_steps_right : Stmt := top 51
abbrev N_law_steps_right : List Str := ["_law_box_here", "_law_net", "_law_ties", "_law_modulus", "_law_states", "_law_archives", "_law_turn", "_law_house", "_law_amount", "_law_told", "_law_due", "_law_tie"]
theorem sc_law_steps_right : FnScope N_law_steps_right ["_law_box_here", "_law_net", "_law_ties", "_law_modulus", "_law_states", "_law_archives"] (defScope s_law_steps_right) := ⟨rfl, rfl, rfl, by decide +kernel, rfl, by decide +kernel, by decide +kernel⟩
def spSteps (CW CC : Addr) : Sp := fun vs H Q _ => ∃ (b c w a sa aa : Addr) (n m : Nat) (ts : List (Nat × Nat)) (xs as : List Int), vs = [.ref b, .ref c, .ref a, .int (m : Nat), .ref sa, .ref aa] ∧ Bx H b ∧ LawSt CW CC H c w a sa aa n ts m 0 xs as ∧ b ≠ sa ∧ b ≠ aa ∧ sa ≠ aa ∧
  ∀ H' xs' as', Fr CW [b, c, sa, aa] H H' → Bx H' b → LawSt CW CC H' c w a sa aa n ts m 15 xs' as' → Q (.bl true) H'
theorem ok_steps_right (hne : CC ≠ CW) (T : Top K mg "_law_steps_right" s_law_steps_right ["_law_box_here", "_law_net", "_law_ties", "_law_modulus", "_law_states", "_law_archives"]) (B : Bl mg) (C : TxC K mg CC)
    (D__law_take : Def P w K mg base 1 "_law_take" s_law_take ["_law_box_here", "_law_many"] (spTake CW)) (D__law_number : Def P w K mg base 2 "_law_number" s_law_number ["_law_box_here", "_law_modulus"] (spNumber CW))
    (D__law_wrapped : Def P w K mg base 1 "_law_wrapped" s_law_wrapped ["_law_number_here", "_law_modulus"] spCountedAs)
    (D__law_met : Def P w K mg base 2 "_law_met" s_law_met ["_law_ties", "_law_modulus", "_law_states", "_law_archives", "_law_tie"] (spMet CW))
    (D__law_book : Def P w K mg base 2 "_law_book" s_law_book ["_law_ties", "_law_modulus", "_law_states", "_law_archives", "_law_part_here"] (spLawBook CW))
    (D__law_part : Def P w K mg base 1 "_law_part" s_law_part ["_law_ties", "_law_house"] (spLawPart CW))
    (M_do : MDef P w K mg base 5 CC "do" "CounterNet.do" s_CounterNet_do ["self", "house", "amount"] (spNetDo CW CC)) (M_meet : MDef P w K mg base 5 CC "meet" "CounterNet.meet" s_CounterNet_meet ["self", "tie"] (spNetMeet CW CC))
    (M_book : MDef P w K mg base 6 CC "book" "CounterNet.book" s_CounterNet_book ["self", "house"] (spNetBook CW CC)) :
    GDef P w K mg base 7 "_law_steps_right" s_law_steps_right ["_law_box_here", "_law_net", "_law_ties", "_law_modulus", "_law_states", "_law_archives"] (spSteps CW CC) := by
  have KW_do : KwOk K "do" "CounterNet.do" s_CounterNet_do ["self", "house", "amount"] 1 ["amount", "house"] [0, 2, 1] := kw_do
  have KW_meet : KwOk K "meet" "CounterNet.meet" s_CounterNet_meet ["self", "tie"] 1 ["tie"] [0, 1] := kw_meet
  refine T.okG sc_law_steps_right (fun vs H Q E h => ?_) (fun f cdv A outer s H vs Q E hr hgd h => ?_)
  · obtain ⟨b, c, w, a, sa, aa, n, m, ts, xs, as, rfl, _⟩ := h
    rfl
  · obtain ⟨b, c, w, a, sa, aa, n, m, ts, xs, as, rfl, hb, hL, nbs, nba, nsa, k⟩ := h
    refine ⟨_, (pss_cons (ps_for PassesOwn.never rfl (pi_range1 (by rfl) B.range (pa_cons (pe_def D__law_take (hr.mono (by decide)) rfl (pa_cons (pv 0) (pa_cons pe_int pa_nil))) pa_nil)) (pg_name (i := 6) sc_law_steps_right.nd rfl (Or.inl rfl))
       (pss_cons (ps_set (i := 7) sc_law_steps_right.nd rfl (Or.inl rfl) (pe_def D__law_take (hr.mono (by decide)) rfl (pa_cons (pv 0) (pa_cons (pe_callB (id := "len") (call_lenK (K := K) rfl) (by rfl) B.len (by decide +kernel) (pa_cons (pv 4) pa_nil)) pa_nil))))
       (pss_cons (ps_if (PW.pt (pw_or (pt_cmpR (op_eqDK (K := K) rfl hr.units) (pv 2) (pe_tup pa_nil) (nomark _)) (pw_or1 (pt_cmpR op_eq (pe_def D__law_take (hr.mono (by decide)) rfl (pa_cons (pv 0) (pa_cons pe_int pa_nil))) pe_int (nomark _))))) (pss_cons (ps_set (i := 8) sc_law_steps_right.nd rfl (Or.inl rfl) (pe_def D__law_number (hr.mono (by decide)) rfl (pa_cons (pv 0) (pa_cons pe_int pa_nil))))
       (pss_cons (ps_asg (pe_def D__law_wrapped (hr.mono (by decide)) rfl (pa_cons (pe_op op_add (pe_ix (ix_listK (K := K) rfl) (pv 4) (pv 7) (fun _ _ => rfl)) (pv 8)) (pa_cons (pv 3) pa_nil))) (pg_sub (pv 4) (pv 7) set_list))
       (pss_cons (ps_set (i := 9) sc_law_steps_right.nd rfl (Or.inl rfl) (pe_ifExp (pt_cmpR op_eq (pe_def D__law_take (hr.mono (by decide)) rfl (pa_cons (pv 0) (pa_cons pe_int pa_nil))) pe_int (nomark _)) (pe_mdef (pv 1) M_do (hr.mono (by decide)) (pa_cons (pv 7) (pa_cons (pv 8) pa_nil))) (pe_mdefK0 (pv 1) M_do (hr.mono (by decide)) KW_do (pk_cons (pv 8) (pk_cons (pv 7) pk_nil)))))
       (pss_one (ps_set (i := 10) sc_law_steps_right.nd rfl (Or.inl rfl) (pe_ix (ix_listK (K := K) rfl) (pv 4) (pv 7) (fun _ _ => rfl))))))) (pss_cons (ps_set (i := 11) sc_law_steps_right.nd rfl (Or.inl rfl) (pe_def D__law_take (hr.mono (by decide)) rfl (pa_cons (pv 0) (pa_cons (pe_callB (id := "len") (call_lenK (K := K) rfl) (by rfl) B.len (by decide +kernel) (pa_cons (pv 2) pa_nil)) pa_nil))))
       (pss_cons (ps_set (i := 10) sc_law_steps_right.nd rfl (Or.inl rfl) (pe_def D__law_met (hr.mono (by decide)) rfl (pa_cons (pv 2) (pa_cons (pv 3) (pa_cons (pv 4) (pa_cons (pv 5) (pa_cons (pv 11) pa_nil)))))))
       (pss_one (ps_set (i := 9) sc_law_steps_right.nd rfl (Or.inl rfl) (pe_ifExp (pt_cmpR op_eq (pe_def D__law_take (hr.mono (by decide)) rfl (pa_cons (pv 0) (pa_cons pe_int pa_nil))) pe_int (nomark _)) (pe_mdef (pv 1) M_meet (hr.mono (by decide)) (pa_cons (pv 11) pa_nil)) (pe_mdefK0 (pv 1) M_meet (hr.mono (by decide)) KW_meet (pk_cons (pv 11) pk_nil))))))))
       (pss_cons (ps_if (pt_cmpR op_ne (pe_callB (id := "repr") (cr_reprT hr hgd) (by rfl) B.repr (by decide +kernel) (pa_cons (pe_tup (pa_cons (pv 9) (pa_cons (pe_fldK (K := K) rfl (pv 1) rfl) (pa_cons (pe_fldK (K := K) rfl (pv 1) rfl) pa_nil)))) pa_nil)) (pe_callB (id := "repr") (cr_reprT hr hgd) (by rfl) B.repr (by decide +kernel) (pa_cons (pe_tup (pa_cons (pv 10) (pa_cons (pe_callTy (T := "tuple") (call_tupleK (K := K) rfl) (by rfl) B.tuple (by decide +kernel) (pa_cons (pv 4) pa_nil)) (pa_cons (pe_callTy (T := "tuple") (call_tupleK (K := K) rfl) (by rfl) B.tuple (by decide +kernel) (pa_cons (pv 5) pa_nil)) pa_nil)))) pa_nil)) (nomark _)) (pss_one (ps_ret pe_bl)) pss_nil)
       (pss_one (ps_if (pt_cmpR op_ne (pe_callB (id := "repr") SkE.call_repr_int (by rfl) B.repr (by decide +kernel) (pa_cons (pe_mdef (pv 1) M_book (hr.mono (by decide)) (pa_cons (pv 7) pa_nil)) pa_nil)) (pe_callB (id := "repr") SkE.call_repr_int (by rfl) B.repr (by decide +kernel) (pa_cons (pe_def D__law_book (hr.mono (by decide)) rfl (pa_cons (pv 2) (pa_cons (pv 3) (pa_cons (pv 4) (pa_cons (pv 5) (pa_cons (pe_def D__law_part (hr.mono (by decide)) rfl (pa_cons (pv 2) (pa_cons (pv 7) pa_nil))) pa_nil)))))) pa_nil)) (nomark _)) (pss_one (ps_ret pe_bl)) pss_nil))))))
       (pss_one (ps_ret pe_bl))), ?_⟩
    have ncb : c ≠ b := fun z => by
      obtain ⟨dx, s', a', hc, _⟩ := hL.net
      obtain ⟨g, z', e⟩ := hb
      rw [z, e] at hc
      cases hc
    have ncs : c ≠ sa := fun z => by
      obtain ⟨dx, s', a', hc, _⟩ := hL.net
      have e := hL.st
      rw [← z, hc] at e
      cases e
    have nca : c ≠ aa := fun z => by
      obtain ⟨dx, s', a', hc, _⟩ := hL.net
      have e := hL.ar
      rw [← z, hc] at e
      cases e
    have ok := hL.ok
    have l20 := ok.len
    have n12 := ok.n12
    have n1 := ok.n1
    have nImc : ∀ u, H c = some u → ¬ Im CW u := fun u e i => by
      obtain ⟨dx, s', a', hc, _⟩ := hL.net
      rw [hc] at e
      cases e
      exact hne i
    refine ⟨_, rfl, b, 16, rfl, hb, by decide, by decide, fun d H1 hd f1 hb1 => ?_⟩
    refine ⟨(d : Int), rfl, by omega, by omega, for_it (walk_range (lo := 0) (n := d))
      (fun i σ H2 => ∃ (xs' as' : List Int) (v6 v7 v8 v9 v10 v11 : Option V), σ = [some (.ref b), some (.ref c), some (.ref a), some (.int (m : Nat)), some (.ref sa), some (.ref aa), v6, v7, v8, v9, v10, v11] ∧ Fr CW [b, c, sa, aa] H H2 ∧ Bx H2 b ∧ LawSt CW CC H2 c w a sa aa n ts m i xs' as')
      ⟨xs, as, none, none, none, none, none, none, rfl, f1.mono (by simp), hb1, hL.fr f1 (by simp [ncb]) (by simp [nbs.symm]) (by simp [nba.symm])⟩ (fun _ _ _ _ _ => trivial) ?_ ?_⟩
    · rintro i v σ H2 H2' hi ⟨xs, as, v6, v7, v8, v9, v10, v11, rfl, f2, hb2, L2'⟩ ⟨rfl, rfl⟩
      have lx := L2'.so.lx
      have la := L2'.so.la
      refine ⟨_, rfl, _, rfl, sa, _, rfl, .inl (SqL.of L2'.st), b, n, by rw [List.length_map, lx]; rfl, hb2, by omega, by omega, fun h H3 hh f3 hb3 => ?_⟩
      have L3' := L2'.fr f3 (by simp [ncb]) (by simp [nbs.symm]) (by simp [nba.symm])
      have f03 : Fr CW [b, c, sa, aa] H H3 := f2.trans (f3.mono (by simp))
      obtain ⟨ps, hta, hps⟩ := id L3'.ta
      refine ⟨_, rfl, by show 0 ≤ sizeLine; decide, fun p hp => ?_⟩
      have f4 : Fr CW [b] H3 (upd H3 p (.tup [])) := Fr.refl.new hp
      have f4' : Fr CW [] H3 (upd H3 p (.tup [])) := Fr.refl.new hp
      have hb4 : Bx (upd H3 p (.tup [])) b := let ⟨g, z, e⟩ := hb3; ⟨g, z, by rw [upd_ne (ne_of_none e hp)]; exact e⟩
      refine ⟨.tuple ((ts.map pIT).map dI), .tuple [], .tup (SqT.of (f4'.tup hta)) (hps.fr f4').its.dps, .tup (SqT.of upd_same) .nil, shaped_its _, rfl, _, rfl, ?_⟩
      have L4' := L3'.fr f4' (by simp) (by simp) (by simp)
      have f04 := f03.trans f4'.nil
      generalize upd H3 p (.tup []) = H4 at f4 f4' hb4 L4' f04
      have hd15 : i + 1 ≤ 300 := by omega
      by_cases hts : ts = []
      · rw [show PyData.eqv (.tuple ((ts.map pIT).map dI)) (.tuple []) = true by rw [hts]; rfl]
        refine iteT ?_
        refine iteT ?_
        exact way_deed (K := K) hne hb4 L4' hh hd15 nbs nba nsa fun v x H6 xs' as' f6 hb6 L6 hx =>
          steps_tail (K := K) C rfl rfl rfl rfl rfl rfl rfl rfl L6 hh hd15 hx fun H7 f7 => ⟨xs', as', _, _, _, _, _, _, rfl, (f04.trans f6).trans f7.nil, let ⟨g, z, e⟩ := hb6; ⟨g, z, f7.ot _ _ (by simp) e⟩, L6.fr f7 (by simp) (by simp) (by simp)⟩
      · rw [show PyData.eqv (.tuple ((ts.map pIT).map dI)) (.tuple []) = false by
          cases ts with
          | nil => exact absurd rfl hts
          | cons t0 ts0 => rfl]
        refine iteF ?_
        refine ⟨_, rfl, b, 2, rfl, hb4, by decide, by decide, fun d2 H5 hd2 f5 hb5 => ⟨rfl, _, rfl, ?_⟩⟩
        have L5' := L4'.fr f5 (by simp [ncb]) (by simp [nbs.symm]) (by simp [nba.symm])
        have f05 := f04.trans (f5.mono (M' := [b, c, sa, aa]) (by simp))
        refine iteD (fun hz => ?_) (fun hz => ?_)
        · exact way_deed (K := K) hne hb5 L5' hh hd15 nbs nba nsa fun v x H6 xs' as' f6 hb6 L6 hx =>
          steps_tail (K := K) C rfl rfl rfl rfl rfl rfl rfl rfl L6 hh hd15 hx fun H7 f7 => ⟨xs', as', _, _, _, _, _, _, rfl, (f05.trans f6).trans f7.nil, let ⟨g, z, e⟩ := hb6; ⟨g, z, f7.ot _ _ (by simp) e⟩, L6.fr f7 (by simp) (by simp) (by simp)⟩
        · have tpos : 0 < ts.length := List.length_pos_iff.mpr hts
          obtain ⟨ps5, hta5, hps5⟩ := id L5'.ta
          refine ⟨_, rfl, _, rfl, a, _, rfl, .inr (SqT.of hta5), b, ts.length, by rw [hps5.1]; rfl, hb5, tpos, by omega, fun ti H6 hti f6 hb6 => ?_⟩
          have L6' := L5'.fr f6 (by simp [ncb]) (by simp [nbs.symm]) (by simp [nba.symm])
          have f06 := f05.trans (f6.mono (M' := [b, c, sa, aa]) (by simp))
          have et : ts[ti]? = some ts[ti] := by simp [hti]
          generalize ts[ti] = t at et
          refine ⟨_, rfl, _, rfl, _, rfl, _, rfl, _, rfl, a, sa, aa, n, m, ti, ts, t, xs, as, rfl, L6'.ta, ok, et, L6'.st, L6'.ar, nsa, lx, la, fun H7 f7 e7 e7' => ?_⟩
          have net7 := L6'.net.fr f7 (by simp [ncs, nca])
          have ta7 := L6'.ta.fr f7
          have hb7 : Bx H7 b := let ⟨g, z, e⟩ := hb6; ⟨g, z, f7.ot _ _ (by simp [nbs, nba]) e⟩
          have f07 := f06.trans (f7.mono (M' := [b, c, sa, aa]) (by simp))
          have so7 := L6'.so.meet t ti
          have ox7 := okI_of (L6'.so.metOk t ti) hd15
          refine ⟨_, rfl, b, 2, rfl, hb7, by decide, by decide, fun d3 H8 hd3 f8 hb8 => ⟨rfl, _, rfl, ?_⟩⟩
          have net8 := net7.fr f8 (by simp [ncb])
          have e8 := f8.ot _ _ (by simp [nbs.symm]) e7
          have e8' := f8.ot _ _ (by simp [nba.symm]) e7'
          have ta8 := ta7.fr f8
          have f08 := f07.trans (f8.mono (M' := [b, c, sa, aa]) (by simp))
          obtain ⟨dx, s8, a8, hc8, _⟩ := id net8
          refine iteD (fun hz => ?_) (fun hz => ?_)
          · exact ⟨_, rfl, c, dx, _, rfl, hc8, rfl, _, rfl, c, w, n, m, ti, ts, t, xs, as, rfl, net8, ok, lx, la, et, fun H9 f9 net9 =>
            steps_tail (K := K) C rfl rfl rfl rfl rfl rfl rfl rfl (⟨net9, f9.ot _ _ (by simp [ncs.symm]) e8, f9.ot _ _ (by simp [nca.symm]) e8', ta8.fr f9, so7, ok⟩ : LawSt CW CC H9 c w a sa aa n ts m (i + 1) _ _) hh hd15 ox7 fun H10 f10 =>
              ⟨_, _, _, _, _, _, _, _, rfl, (f08.trans (f9.mono (M' := [b, c, sa, aa]) (by simp))).trans f10.nil, let ⟨g, z, e⟩ := hb8; ⟨g, z, f10.ot _ _ (by simp) (f9.ot _ _ (by simp [ncb.symm]) e)⟩, (⟨net9, f9.ot _ _ (by simp [ncs.symm]) e8, f9.ot _ _ (by simp [nca.symm]) e8', ta8.fr f9, so7, ok⟩ : LawSt CW CC H9 c w a sa aa n ts m (i + 1) _ _).fr f10 (by simp) (by simp) (by simp)⟩⟩
          · exact ⟨_, rfl, c, dx, _, rfl, hc8, rfl, _, rfl, rfl, c, w, n, m, ti, ts, t, xs, as, rfl, net8, ok, lx, la, et, fun H9 f9 net9 =>
            steps_tail (K := K) C rfl rfl rfl rfl rfl rfl rfl rfl (⟨net9, f9.ot _ _ (by simp [ncs.symm]) e8, f9.ot _ _ (by simp [nca.symm]) e8', ta8.fr f9, so7, ok⟩ : LawSt CW CC H9 c w a sa aa n ts m (i + 1) _ _) hh hd15 ox7 fun H10 f10 =>
              ⟨_, _, _, _, _, _, _, _, rfl, (f08.trans (f9.mono (M' := [b, c, sa, aa]) (by simp))).trans f10.nil, let ⟨g, z, e⟩ := hb8; ⟨g, z, f10.ot _ _ (by simp) (f9.ot _ _ (by simp [ncb.symm]) e)⟩, (⟨net9, f9.ot _ _ (by simp [ncs.symm]) e8, f9.ot _ _ (by simp [nca.symm]) e8', ta8.fr f9, so7, ok⟩ : LawSt CW CC H9 c w a sa aa n ts m (i + 1) _ _).fr f10 (by simp) (by simp) (by simp)⟩⟩
    · rintro σ H2 ⟨xs, as, v6, v7, v8, v9, v10, v11, rfl, f2, hb2, L2'⟩
      have so := L2'.so.mono (k := 15) (show d ≤ 15 by omega)
      exact k H2 xs as f2 hb2 ⟨L2'.net, L2'.st, L2'.ar, L2'.ta, so, L2'.ok⟩
end
end Hou
set_option Elab.async false
set_option linter.all false
set_option maxRecDepth 100000
set_option autoImplicit false
set_option maxHeartbeats 4000000
namespace Hou
open PySem PySem.Spec PyProof.Rows L2
/-! ### short tactics: a reading's next questions -/
local macro_rules | `(tactic| walk_at "hq") => `(tactic| first
  | assumption | exact SqL.of (by assumption) | exact SqT.of (by assumption) | exact .inl (by assumption) | exact .inr (by assumption) | exact .inl (SqL.of (by assumption)) | exact .inr (SqT.of (by assumption))
  | exact SqL.of upd_same | exact SqT.of upd_same)
local macro_rules | `(tactic| walk_at "at") => `(tactic| first | assumption | exact atI_nat (j := 0) rfl | exact atI_nat (j := 1) rfl)
local macro_rules | `(tactic| walk_at "sd") => `(tactic| first
  | rfl | exact .inl ⟨by decide, by decide⟩ | exact .inr ⟨by decide, by decide⟩ | exact ⟨by decide, by decide, by decide⟩ | (show ((_ : Int) ≠ 0); first | decide | assumption | omega)
  | (show ((_ : Int) ≠ 0 ∧ _); refine ⟨by first | decide | assumption | omega, by first | decide | omega⟩) | (show (_ ≤ sizeLine); first | (simp only [List.length_cons, List.length_nil]; decide) | assumption) | decide | omega)
local macro_rules | `(tactic| walk_at "rd") => `(tactic| first
  | refine ⟨_, rfl, ?_⟩ | refine ⟨_, _, rfl, rfl, ?_⟩ | refine .inl ⟨_, rfl, ?_⟩ | refine .inr ⟨_, rfl, ?_⟩
  | refine ⟨_, _, _, _, rfl, rfl, (by walk_at "hq"), (by walk_at "at"), ?_⟩ | refine ⟨_, _, rfl, (by walk_at "hq"), ?_⟩ | refine ⟨(by walk_at "sd"), ?_⟩)

theorem sumF_const {f : Nat → Int} {B : Int} : ∀ {l : List Nat}, (∀ x ∈ l, f x = B) → sumF f l = B * (l.length : Int)
  | [], _ => by simp [sumF]
  | a :: l, h => by
    have h1 := h a List.mem_cons_self
    have h2 := sumF_const (l := l) fun x hx => h x (List.mem_cons_of_mem _ hx)
    rw [sumF_cons, h1, h2, List.length_cons]
    push_cast
    rw [Int.mul_add]
    omega
/-- behind a sweep the book is what it was -/
theorem Dn.book {h : Nat} {L : List (Nat × Nat)} {B : Int} {s s' : SA} (d : Dn h L B s s') : bkT h L s' = B := by
  unfold bkT
  rw [sumF_const d.eS, sumF_const d.eA]
  have e : ((hs h L).length : Int) = ((L.map Prod.fst).length : Int) + 1 := by simp [hs]
  rw [e, Int.mul_add]
  omega
theorem order_len21 {ts : List (Nat × Nat)} {h : Nat} {c : List Nat} {L : List (Nat × Nat)} (F : Full ts h c L) (hc : c.length ≤ 12) : (orderOf L).length ≤ 21 := by
  have := F.order_len
  split at this <;> omega
section
variable {P : Program} {w : World} {K : PySem.W.Frag} {mg : Str → Option Value} {base : Heap} {CW CC : Addr}
abbrev s_law_swept : Stmt := top 52
abbrev N_law_swept : List Str := ["_law_net", "_law_web", "_law_ties", "_law_modulus", "_law_numbers", "_law_house", "_law_part_here", "_law_states", "_law_archives", "_law_tie", "_law_own", "_law_book_here", "_law_order", "_law_one"]
theorem sc_law_swept : FnScope N_law_swept ["_law_net", "_law_web", "_law_ties", "_law_modulus", "_law_numbers", "_law_house"] (defScope s_law_swept) := ⟨rfl, rfl, rfl, by decide +kernel, rfl, by decide +kernel, by decide +kernel⟩
def spSwept (CW CC : Addr) : Sp := fun vs H Q _ => ∃ (c w a sa aa nl : Addr) (n m k h : Nat) (ts : List (Nat × Nat)) (xs as : List Int), vs = [.ref c, .ref w, .ref a, .int (m : Nat), .ref nl, .int (h : Nat)] ∧ LawSt CW CC H c w a sa aa n ts m k xs as ∧ H nl = some (.lst [.ref sa, .ref aa]) ∧ sa ≠ aa ∧ h < n ∧ Forest ts ∧ k + 21 ≤ 300 ∧
  ∀ H' xs' as', Fr CW [c, sa, aa] H H' → LawSt CW CC H' c w a sa aa n ts m (k + 21) xs' as' → (∀ i, RestAt ts (fS xs as) i → RestAt ts (fS xs' as') i) → (∀ i t, ts[i]? = some t → t.1 = h → RestAt ts (fS xs' as') i) → Q (.bl true) H'
theorem ok_swept (hne : CC ≠ CW) (T : Top K mg "_law_swept" s_law_swept ["_law_net", "_law_web", "_law_ties", "_law_modulus", "_law_numbers", "_law_house"]) (B : Bl mg) (C : TxC K mg CC)
    (D__law_met : Def P w K mg base 2 "_law_met" s_law_met ["_law_ties", "_law_modulus", "_law_states", "_law_archives", "_law_tie"] (spMet CW))
    (D__law_book : Def P w K mg base 2 "_law_book" s_law_book ["_law_ties", "_law_modulus", "_law_states", "_law_archives", "_law_part_here"] (spLawBook CW))
    (D__law_part : Def P w K mg base 1 "_law_part" s_law_part ["_law_ties", "_law_house"] (spLawPart CW))
    (D_sweep : Def P w K mg base 6 "sweep" s_sweep ["web", "house"] (spSweep CW)) (M_meet : MDef P w K mg base 5 CC "meet" "CounterNet.meet" s_CounterNet_meet ["self", "tie"] (spNetMeet CW CC))
    (M_book : MDef P w K mg base 6 CC "book" "CounterNet.book" s_CounterNet_book ["self", "house"] (spNetBook CW CC)) :
    GDef P w K mg base 7 "_law_swept" s_law_swept ["_law_net", "_law_web", "_law_ties", "_law_modulus", "_law_numbers", "_law_house"] (spSwept CW CC) := by
  have KW_book : KwOk K "book" "CounterNet.book" s_CounterNet_book ["self", "house"] 1 ["house"] [0, 1] := kw_book
  refine T.okG sc_law_swept (fun vs H Q E h => ?_) (fun f cdv A outer s H vs Q E hr hgd h => ?_)
  · obtain ⟨c, w, a, sa, aa, nl, n, m, k, h, ts, xs, as, rfl, _⟩ := h
    rfl
  · obtain ⟨c, w, a, sa, aa, nl, n, m, k, h, ts, xs, as, rfl, L, hnl, nsa, hh, hF, hk, kk⟩ := h
    have ok := L.ok
    have l20 := ok.len
    have n12 := ok.n12
    have n1 := ok.n1
    have lx := L.so.lx
    have la := L.so.la
    have ncs : c ≠ sa := fun z => by
      obtain ⟨dx, s', a', hc, _⟩ := L.net
      have e := L.st
      rw [← z, hc] at e
      cases e
    have nca : c ≠ aa := fun z => by
      obtain ⟨dx, s', a', hc, _⟩ := L.net
      have e := L.ar
      rw [← z, hc] at e
      cases e
    refine ⟨_, (pss_cons (ps_asg (pe_tup (pa_cons (pe_def D__law_part (hr.mono (by decide)) rfl (pa_cons (pv 2) (pa_cons (pv 5) pa_nil))) (pa_cons (pe_ix (ix_listK (K := K) rfl) (pv 4) pe_int (fun _ _ => rfl)) (pa_cons (pe_ix (ix_listK (K := K) rfl) (pv 4) pe_int (fun _ _ => rfl)) pa_nil)))) (pg_tup rfl (pgs_cons (pg_name (i := 6) sc_law_swept.nd rfl (Or.inr rfl)) (pgs_cons (pg_name (i := 7) sc_law_swept.nd rfl (Or.inr rfl)) (pgs_cons (pg_name (i := 8) sc_law_swept.nd rfl (Or.inr rfl)) pgs_nil)))))
       (pss_cons (ps_set (i := 10) sc_law_swept.nd rfl (Or.inr rfl) (pe_lc (own := [("_law_tie", 9)]) (g := gName 9) rfl sc_law_swept.nd (pi_range1 (by rfl) B.range (pa_cons (pe_callB (id := "len") (call_lenK (K := K) rfl) (by rfl) B.len (by decide +kernel) (pa_cons (pv 2) pa_nil)) pa_nil)) (blkOk_by (N := N_law_swept) (sc := defScope s_law_swept) (by decide +kernel)) (fun _ _ _ _ _ => pg_name (i := 9) sc_law_swept.nd rfl (Or.inl rfl)) (fun _ _ _ _ _ => (pts_one (pt_cmpR (op_in_seqK (K := K) rfl) (pe_ix (ix_tupK (K := K) rfl) (pe_ix (ix_tupK (K := K) rfl) (pv 2) (pv 9) (fun _ _ => rfl)) pe_int (fun _ _ => rfl)) (pv 6) (by rfl)))) (fun _ _ _ _ _ => (pv 9))))
       (pss_cons (ps_asg (pe_tup (pa_cons (pe_def D__law_book (hr.mono (by decide)) rfl (pa_cons (pv 2) (pa_cons (pv 3) (pa_cons (pv 7) (pa_cons (pv 8) (pa_cons (pv 6) pa_nil)))))) (pa_cons (pe_def D_sweep (hr.mono (by decide)) rfl (pa_cons (pv 1) (pa_cons (pv 5) pa_nil))) pa_nil))) (pg_tup rfl (pgs_cons (pg_name (i := 11) sc_law_swept.nd rfl (Or.inr rfl)) (pgs_cons (pg_name (i := 12) sc_law_swept.nd rfl (Or.inl rfl)) pgs_nil))))
       (pss_cons (ps_if (PW.pt (pw_or (pt_not (pt_val (pe_callB (id := "isinstance") call_isi (by rfl) B.isinstance (by decide +kernel) (pa_cons (pv 12) (pa_cons (pe_bltn (v := .ty "tuple") (by rfl) B.tuple (by decide +kernel) rfl) pa_nil))))) (pw_or (pt_cmpR op_ne (pe_callB (id := "len") (call_lenK (K := K) rfl) (by rfl) B.len (by decide +kernel) (pa_cons (pv 12) pa_nil)) (pe_callB (id := "max") (call_max2 rfl) (by rfl) B.max (by decide +kernel) (pa_cons pe_int (pa_cons (pe_op op_sub (pe_op op_mul pe_int (pe_callB (id := "len") (call_lenK (K := K) rfl) (by rfl) B.len (by decide +kernel) (pa_cons (pv 6) pa_nil))) pe_int) pa_nil))) (nomark _)) (pw_or1 (pt_cmpR (op_neDK (K := K) rfl hr.units) (pe_lc (own := [("_law_tie", 9)]) (g := gName 9) rfl sc_law_swept.nd (pi_tup (pv 12)) (blkOk_by (N := N_law_swept) (sc := defScope s_law_swept) (by decide +kernel)) (fun _ _ _ _ _ => pg_name (i := 9) sc_law_swept.nd rfl (Or.inl rfl)) (fun _ _ _ _ _ => (pts_one (pt_cmpR (op_notIn_seqK (K := K) rfl) (pv 9) (pv 10) (by rfl)))) (fun _ _ _ _ _ => (pv 9))) (pe_lst pa_nil) (nomark _)))))) (pss_one (ps_ret pe_bl)) pss_nil)
       (pss_cons (ps_if (pt_cmpR op_ne (pe_callB (id := "repr") SkE.call_repr_int (by rfl) B.repr (by decide +kernel) (pa_cons (pe_mdefK0 (pv 0) M_book (hr.mono (by decide)) KW_book (pk_cons (pv 5) pk_nil)) pa_nil)) (pe_callB (id := "repr") SkE.call_repr_int (by rfl) B.repr (by decide +kernel) (pa_cons (pv 11) pa_nil)) (nomark _)) (pss_one (ps_ret pe_bl)) pss_nil)
       (pss_cons (ps_for PassesOwn.never rfl (pi_tup (pv 12)) (pg_name (i := 9) sc_law_swept.nd rfl (Or.inl rfl))
       (pss_one (ps_if (pt_cmpR op_ne (pe_callB (id := "repr") SkE.call_repr_int (by rfl) B.repr (by decide +kernel) (pa_cons (pe_mdef (pv 0) M_meet (hr.mono (by decide)) (pa_cons (pv 9) pa_nil)) pa_nil)) (pe_callB (id := "repr") SkE.call_repr_int (by rfl) B.repr (by decide +kernel) (pa_cons (pe_def D__law_met (hr.mono (by decide)) rfl (pa_cons (pv 2) (pa_cons (pv 3) (pa_cons (pv 7) (pa_cons (pv 8) (pa_cons (pv 9) pa_nil)))))) pa_nil)) (nomark _)) (pss_one (ps_ret pe_bl)) pss_nil)))
       (pss_cons (ps_if (PW.pt (pw_or (pt_cmpR (op_neDK (K := K) rfl hr.units) (pe_lc (own := [("_law_one", 13)]) (g := gName 13) rfl sc_law_swept.nd (pi_list (pv 6)) (blkOk_by (N := N_law_swept) (sc := defScope s_law_swept) (by decide +kernel)) (fun _ _ _ _ _ => pg_name (i := 13) sc_law_swept.nd rfl (Or.inl rfl)) (fun _ _ _ _ _ => (pts_one (pt_cmpR op_ne (pe_ix (ix_listK (K := K) rfl) (pv 7) (pv 13) (fun _ _ => rfl)) (pv 11) (nomark _)))) (fun _ _ _ _ _ => (pv 13))) (pe_lst pa_nil) (nomark _)) (pw_or1 (pt_cmpR (op_neDK (K := K) rfl hr.units) (pe_lc (own := [("_law_tie", 9)]) (g := gName 9) rfl sc_law_swept.nd (pi_list (pv 10)) (blkOk_by (N := N_law_swept) (sc := defScope s_law_swept) (by decide +kernel)) (fun _ _ _ _ _ => pg_name (i := 9) sc_law_swept.nd rfl (Or.inl rfl)) (fun _ _ _ _ _ => (pts_one (pt_cmpR op_ne (pe_ix (ix_listK (K := K) rfl) (pv 8) (pv 9) (fun _ _ => rfl)) (pv 11) (nomark _)))) (fun _ _ _ _ _ => (pv 9))) (pe_lst pa_nil) (nomark _))))) (pss_one (ps_ret pe_bl)) pss_nil)
       (pss_one (ps_ret (pe_cmpR op_eq (pe_callB (id := "repr") (cr_reprT hr hgd) (by rfl) B.repr (by decide +kernel) (pa_cons (pe_tup (pa_cons (pe_fldK (K := K) rfl (pv 0) rfl) (pa_cons (pe_fldK (K := K) rfl (pv 0) rfl) (pa_cons (pe_mdef (pv 0) M_book (hr.mono (by decide)) (pa_cons (pv 5) pa_nil)) pa_nil)))) pa_nil)) (pe_callB (id := "repr") (cr_reprT hr hgd) (by rfl) B.repr (by decide +kernel) (pa_cons (pe_tup (pa_cons (pe_callTy (T := "tuple") (call_tupleK (K := K) rfl) (by rfl) B.tuple (by decide +kernel) (pa_cons (pv 7) pa_nil)) (pa_cons (pe_callTy (T := "tuple") (call_tupleK (K := K) rfl) (by rfl) B.tuple (by decide +kernel) (pa_cons (pv 8) pa_nil)) (pa_cons (pv 11) pa_nil)))) pa_nil)) (nomark _))))))))))), ?_⟩
    refine ⟨_, rfl, _, rfl, a, n, h, ts, rfl, L.ta, ok, hh, fun H1 p cc f1 hp0 hc hcn hp => ?_⟩
    have L1' := L.fr f1 (by simp) (by simp) (by simp)
    have hnl1 := f1.ot _ _ (by simp) hnl
    refine ⟨_, rfl, nl, _, _, _, rfl, rfl, SqL.of hnl1, atI_nat (j := 0) rfl, _, rfl, nl, _, _, _, rfl, rfl, SqL.of hnl1, atI_nat (j := 1) rfl, by show 3 ≤ sizeLine; decide, fun tp htp => ?_⟩
    refine ⟨tp, _, rfl, SqT.of upd_same, rfl, _, _, rfl, _, _, rfl, _, _, rfl, rfl, ?_⟩
    have f2 : Fr CW [] H1 (upd H1 tp (.tup [.ref p, .ref sa, .ref aa])) := Fr.refl.new htp
    have L2' := L1'.fr f2 (by simp) (by simp) (by simp)
    have hp2 := f2.ot _ _ (by simp) hp
    have f02 := f1.trans f2
    generalize upd H1 tp (.tup [.ref p, .ref sa, .ref aa]) = H2 at f2 L2' hp2 f02
    obtain ⟨ps, hta, hps⟩ := id L2'.ta
    refine ⟨_, rfl, a, ps, rfl, .inr (SqT.of hta), (ts.length : Int), by rw [hps.1], by omega, by omega, ?_⟩
    refine lc_fr (CW := CW) (M := []) (walk_range (lo := 0) (n := ts.length)) (fun i => match ts[i]? with | some t => if t.1 ∈ cc then some (nv i) else none | none => none) (fun H3 f => trivial) YFn.fr (by simp) (by omega) ?_ ?_
    · rintro i v H3 H4 hi f3 ⟨rfl, rfl⟩ N1 N0 n1 n0
      have et : ts[i]? = some ts[i] := by simp [hi]
      obtain ⟨q, e1, hq⟩ := hps.2 i _ et
      refine ⟨rfl, ?_⟩
      refine ⟨_, rfl, _, rfl, a, _, _, _, rfl, rfl, SqT.of (f3.tup hta), (by rw [Int.zero_add]; exact atI_nat e1), q, _, _, _, rfl, rfl, SqT.of (f3.tup hq), atI_nat (j := 0) rfl, ?_⟩
      refine ⟨_, rfl, p, _, rfl, .inl (SqL.of (f3.ot _ _ (by simp) hp2)), rfl, flat_nats cc, _, rfl, ?_⟩
      show if inV (nv ts[i].1) (cc.map nv) = true then _ else _
      rw [inV_nats]
      refine iteD (fun hz => ?_) (fun hz => ?_)
      · refine ⟨_, rfl, n1 _ _ Fr.refl ?_⟩
        simp only [et]
        rw [if_pos hz, Int.zero_add]
      · exact n0 _ Fr.refl (by simp only [et]; rw [if_neg hz])
    · intro ow H3 how f3 hl3
      have eo : (List.range ts.length).filterMap (fun i => match ts[i]? with | some t => if t.1 ∈ cc then some (nv i) else none | none => none) = (ownT ts cc).map nv := by
        unfold ownT
        rw [← fm_some nv, List.filterMap_filter]
        refine fm_congr fun i hi => ?_
        have hi' := List.mem_range.mp hi
        have e1 : ts[i]? = some ts[i] := by simp [hi']
        simp only [e1, decide_eq_true_eq]
      rw [eo] at hl3
      have L3' := L2'.fr f3 (by simp) (by simp) (by simp)
      have hp3 := f3.ot _ _ (by simp) hp2
      have f03 := f02.trans f3
      have ccl : cc.length ≤ n := nodup_len n cc (hc.asc.imp fun h => by omega) hcn
      refine ⟨_, rfl, _, rfl, _, rfl, _, rfl, _, rfl, a, sa, aa, p, n, m, ts, xs, as, cc, rfl, L3'.ta, ok, L3'.st, L3'.ar, hp3, lx, la, by omega, hcn, fun H4 f4 => ?_⟩
      have L4' := L3'.fr f4 (by simp) (by simp) (by simp)
      obtain ⟨_, _, _, _, hw4, _⟩ := id L4'.net
      refine ⟨_, rfl, _, rfl, w, n, h, ts, rfl, hw4, ok, hh, hF, fun H5 o c' Lo f5 hc' hcn' F ho => ?_⟩
      have ec : c' = cc := hc'.unique hc
      subst ec
      refine ⟨by show 2 ≤ sizeLine; decide, fun tq htq => ?_⟩
      refine ⟨tq, _, rfl, SqT.of upd_same, rfl, _, _, rfl, _, _, rfl, rfl, ?_⟩
      have f6 : Fr CW [] H5 (upd H5 tq (.tup [.int (wrapI (bookI ts xs as c') m), .ref o])) := Fr.refl.new htq
      have L6' := (L4'.fr f5 (by simp) (by simp) (by simp)).fr f6 (by simp) (by simp) (by simp)
      have f36 := (f4.trans f5).trans f6
      have hp6 := f36.ot _ _ (by simp) hp3
      have ho6 := f6.tup ho
      have how6 := f36.ot _ _ (by simp) hl3
      have f06 := f03.trans f36
      generalize upd H5 tq (.tup [.int (wrapI (bookI ts xs as c') m), .ref o]) = H6 at f6 L6' hp6 ho6 how6 f06
      have hbook := F.book xs as
      have hB : wrapI (wrapI (bookI ts xs as c') m) m = wrapI (bookI ts xs as c') m := wrap_idem _ _
      have hbk := big_log (L.so.bookOk (by omega) (c := c') (by omega) l20)
      have hbk' := L.so.bookOk (by omega : k ≤ 300) (c := c') (by omega) l20
      generalize hBe : wrapI (bookI ts xs as c') m = BB at hB hbk hbk'
      have hol := order_len21 F (by omega)
      refine ⟨_, rfl, .ref o, .ty "tuple", .type "tuple", .type "tuple", true, rfl, .ty _, .base (.tup ho6), kit_ty (by decide +kernel), true, rfl, iteF ?_⟩
      refine ⟨_, rfl, o, _, rfl, .inr (SqT.of ho6), _, rfl, p, _, rfl, .inl (SqL.of hp6), _, _, rfl, rfl, .inl ⟨by decide, by decide⟩, _, _, rfl, rfl, _, _, rfl, rfl, _, rfl, ?_⟩
      rw [List.length_map, List.length_map]
      have el := F.order_len
      rw [show (decide (V.int ((orderOf Lo).length : Nat) = V.int (if 2 * ((c'.length : Nat) : Int) - 3 > 0 then 2 * ((c'.length : Nat) : Int) - 3 else 0))) = true from decide_eq_true (by rw [← el])]
      refine iteF ?_
      refine ⟨_, rfl, o, rfl, ⟨_, SqT.of ho6⟩, lc_fr (CW := CW) (M := []) (walk_tup (K := K) (a := o) (xs := (orderOf Lo).map nv)) (fun _ => none) (fun H7 f => SqT.of (f.tup ho6)) YAt.fr (by simp) (by rw [List.length_map]; omega) ?_ ?_⟩
      · rintro i v H7 H8 hi f7 ⟨rfl, hv⟩ N1 N0 n1 n0
        rw [List.getElem?_map] at hv
        obtain ⟨t0, et0, rfl⟩ := Option.map_eq_some_iff.mp hv
        refine ⟨rfl, ?_⟩
        refine ⟨_, rfl, _, rfl, ow, _, rfl, .inl (SqL.of (f7.ot _ _ (by simp) how6)), rfl, flat_nats _, _, rfl, ?_⟩
        show if (!inV (nv t0) ((ownT ts c').map nv)) = true then _ else _
        rw [inV_nats, decide_eq_true (F.own.mem_iff.mp (order_sub Lo t0 (List.mem_of_getElem? et0)))]
        exact iteF (n0 _ Fr.refl rfl)
      · intro D7 H7 hD7 f7 hl7
        have el7 : (List.range ((orderOf Lo).map nv).length).filterMap (fun _ => (none : Option V)) = [] := by simp
        rw [el7] at hl7
        refine ⟨by show 0 ≤ sizeLine; decide, fun q7 hq7 => ?_⟩
        have f8 : Fr CW [] H7 (upd H7 q7 (.lst [])) := Fr.refl.new hq7
        refine ⟨.list [], .list [], .lst (SqL.of (f8.ot _ _ (by simp) hl7)) .nil, .lst (SqL.of upd_same) .nil, rfl, rfl, _, rfl, ?_⟩
        have f08 := f06.trans (f7.trans f8)
        have f68 := f7.trans f8
        have L8' := L6'.fr f68 (by simp) (by simp) (by simp)
        have hp8 := f68.ot _ _ (by simp) hp6
        have ho8 := f68.tup ho6
        have how8 := f68.ot _ _ (by simp) how6
        generalize upd H7 q7 (.lst []) = H8 at f8 f08 f68 L8' hp8 ho8 how8
        rw [show (!PyData.eqv (.list []) (.list [])) = false by rfl]
        refine iteF ?_
        obtain ⟨dx8, s8, a8, hc8, _⟩ := id L8'.net
        refine ⟨_, rfl, c, dx8, _, rfl, hc8, rfl, _, rfl, rfl, c, w, n, m, h, ts, xs, as, rfl, L8'.net, ok, lx, la, hh, fun H9 p9 f9 hp9 => ?_⟩
        have e9 : p9 = c' := hp9.unique hc
        rw [e9, hBe]
        refine ⟨_, rfl, hbk, _, rfl, _, rfl, hbk, rfl, _, rfl, ?_⟩
        rw [show (decide (V.str (toString BB) = V.str (toString BB))) = true from decide_eq_true rfl]
        refine iteF ?_
        have L9' := L8'.fr f9 (by simp) (by simp) (by simp)
        have hp9' := f9.ot _ _ (by simp) hp8
        have ho9 := f9.tup ho8
        have how9 := f9.ot _ _ (by simp) how8
        have f09 := f08.trans f9
        obtain ⟨dxH, sH, aH, hcH, _⟩ := id L.net
        have npc : p ≠ c := (ne_of_none hcH hp0).symm
        have nps : p ≠ sa := (ne_of_none L.st hp0).symm
        have npa : p ≠ aa := (ne_of_none L.ar hp0).symm
        obtain ⟨dx2, s2, a2, hc2, _⟩ := id L2'.net
        have noc : ow ≠ c := (ne_of_none hc2 how).symm
        have nos : ow ≠ sa := (ne_of_none L2'.st how).symm
        have noa : ow ≠ aa := (ne_of_none L2'.ar how).symm
        refine ⟨_, rfl, o, rfl, ⟨_, SqT.of ho9⟩, for_it (walk_tup (K := K) (a := o) (xs := (orderOf Lo).map nv))
          (fun i σ H2 => ∃ (xs' as' : List Int) (v9 v13 : Option V), σ = [some (.ref c), some (.ref w), some (.ref a), some (.int (m : Nat)), some (.ref nl), some (.int (h : Nat)), some (.ref p), some (.ref sa), some (.ref aa), v9, some (.ref ow), some (.int BB), some (.ref o), v13] ∧ Fr CW [c, sa, aa] H H2 ∧ LawSt CW CC H2 c w a sa aa n ts m (k + i) xs' as' ∧
            fS xs' as' = frun ts m (fS xs as) ((orderOf Lo).take i) ∧ H2 p = some (.lst (c'.map nv)) ∧ H2 ow = some (.lst ((ownT ts c').map nv)) ∧ H2 o = some (.tup ((orderOf Lo).map nv)))
          ⟨xs, as, none, none, rfl, f09.nil, L9', rfl, hp9', how9, ho9⟩ (fun i σ H2 _ h2 => ?_) ?_ ?_⟩
        · obtain ⟨_, _, _, _, _, _, _, _, _, _, h2⟩ := h2
          exact SqT.of h2
        · rintro i v σ H10 H10' hi ⟨xs', as', v9, v13, rfl, f10, L10, e10, hp10, how10, ho10⟩ ⟨rfl, hv⟩
          rw [List.getElem?_map] at hv
          obtain ⟨ti, eti, rfl⟩ := Option.map_eq_some_iff.mp hv
          obtain ⟨t, et, _⟩ := ownT_mem.mp (F.own.mem_iff.mp (order_sub Lo ti (List.mem_of_getElem? eti)))
          have lx' := L10.so.lx
          have la' := L10.so.la
          obtain ⟨o1, o2, o3⟩ := ok.ok t (List.mem_of_getElem? et)
          have hti := (List.getElem?_eq_some_iff.mp et).1
          have hi21 : i < 21 := by
            rw [List.length_map] at hi
            omega
          have lg := big_log (okI_of (L10.so.metOk t ti) (by omega))
          have so' := L10.so.meet t ti
          have e11 : fS (metX t xs' (metV t xs' as' ti m)) (as'.set ti (metV t xs' as' ti m)) = frun ts m (fS xs as) ((orderOf Lo).take (i + 1)) := by
            rw [List.take_succ, eti]
            show _ = frun ts m (fS xs as) ((orderOf Lo).take i ++ [ti])
            rw [frun_snoc, ← e10]
            exact fS_meet et (by omega) (by omega) (by omega)
          obtain ⟨dx10, s10, a10, hc10, _⟩ := id L10.net
          refine ⟨_, rfl, c, dx10, _, rfl, hc10, rfl, _, rfl, c, w, n, m, ti, ts, t, xs', as', rfl, L10.net, ok, lx', la', et, fun H11 f11 net11 => ⟨_, rfl, lg, ?_⟩⟩
          have st11 := f11.ot _ _ (by simp [ncs.symm]) L10.st
          have ar11 := f11.ot _ _ (by simp [nca.symm]) L10.ar
          refine ⟨_, rfl, _, rfl, _, rfl, _, rfl, _, rfl, a, sa, aa, n, m, ti, ts, t, xs', as', rfl, L10.ta.fr f11, ok, et, st11, ar11, nsa, lx', la', fun H12 f12 e12 e12' => ⟨_, rfl, lg, rfl, _, rfl, ?_⟩⟩
          rw [show (decide (V.str (toString (metV t xs' as' ti m)) = V.str (toString (metV t xs' as' ti m)))) = true from decide_eq_true rfl]
          refine iteF ?_
          have f1012 : Fr CW [c, sa, aa] H10' H12 := (f11.mono (by simp)).trans (f12.mono (by simp))
          exact ⟨_, _, _, _, rfl, f10.trans f1012, ⟨net11.fr f12 (by simp [ncs, nca]), e12, e12', L10.ta.fr f1012, so', ok⟩, e11, f1012.ot _ _ (by simp [npc, nps, npa]) hp10, f1012.ot _ _ (by simp [noc, nos, noa]) how10, f1012.tup ho10⟩
        · rintro σ H10 ⟨xs', as', v9, v13, rfl, f10, L10, e10, hp10, how10, ho10⟩
          rw [List.length_map] at L10 e10
          rw [List.take_length] at e10
          have dn := F.tr.sweep (m := m) (fS xs as) L.so.nrm
          rw [← e10, ← hbook, hBe] at dn
          have lx' := L10.so.lx
          have la' := L10.so.la
          have eS : ∀ x ∈ c', xs'.getD x 0 = BB := fun x hx => dn.eS x ((F.mem x).mp hx)
          have eA : ∀ i ∈ ownT ts c', as'.getD i 0 = BB := fun i hi => dn.eA i (F.own.mem_iff.mpr hi)
          refine ⟨_, rfl, p, rfl, ⟨_, SqL.of hp10⟩, lc_fr (CW := CW) (M := []) (walk_list (K := K) (a := p) (xs := c'.map nv)) (fun _ => none) (fun H7 f => SqL.of (f.ot _ _ (by simp) hp10)) YAt.fr (by simp) (by rw [List.length_map]; omega) ?_ ?_⟩
          · rintro i v H11 H12 hi f11 ⟨rfl, hv⟩ N1 N0 n1 n0
            rw [List.getElem?_map] at hv
            obtain ⟨x, ex, rfl⟩ := Option.map_eq_some_iff.mp hv
            have hx := List.mem_of_getElem? ex
            have hxn := hcn x hx
            refine ⟨rfl, ?_⟩
            refine ⟨_, rfl, _, rfl, sa, _, _, _, rfl, rfl, SqL.of (f11.ot _ _ (by simp) L10.st), atD (i := x) (by omega), _, rfl, rfl, _, rfl, ?_⟩
            rw [eS x hx, show (decide (V.int BB = V.int BB)) = true from decide_eq_true rfl]
            exact iteF (n0 _ Fr.refl rfl)
          · intro D11 H11 hD11 f11 hl11
            have el11 : (List.range (c'.map nv).length).filterMap (fun _ => (none : Option V)) = [] := by simp
            rw [el11] at hl11
            refine ⟨by show 0 ≤ sizeLine; decide, fun q11 hq11 => ?_⟩
            have g11 : Fr CW [] H11 (upd H11 q11 (.lst [])) := Fr.refl.new hq11
            refine ⟨.list [], .list [], .lst (SqL.of (g11.ot _ _ (by simp) hl11)) .nil, .lst (SqL.of upd_same) .nil, rfl, rfl, _, rfl, ?_⟩
            have f12 := f11.trans g11
            generalize upd H11 q11 (.lst []) = H12 at f12
            rw [show (!PyData.eqv (.list []) (.list [])) = false by rfl]
            refine iteF ?_
            have L12 := L10.fr f12 (by simp) (by simp) (by simp)
            have how12 := f12.ot _ _ (by simp) how10
            have f012 := f10.trans f12.nil
            refine ⟨_, rfl, ow, rfl, ⟨_, SqL.of how12⟩, lc_fr (CW := CW) (M := []) (walk_list (K := K) (a := ow) (xs := (ownT ts c').map nv)) (fun _ => none) (fun H7 f => SqL.of (f.ot _ _ (by simp) how12)) YAt.fr (by simp) (by rw [List.length_map, ← F.own.length_eq, List.length_map]; have := F.len; omega) ?_ ?_⟩
            · rintro i v H13 H14 hi f13 ⟨rfl, hv⟩ N1 N0 n1 n0
              rw [List.getElem?_map] at hv
              obtain ⟨x, ex, rfl⟩ := Option.map_eq_some_iff.mp hv
              have hx := List.mem_of_getElem? ex
              obtain ⟨t, et, _⟩ := ownT_mem.mp hx
              have hxn := (List.getElem?_eq_some_iff.mp et).1
              refine ⟨rfl, ?_⟩
              refine ⟨_, rfl, _, rfl, aa, _, _, _, rfl, rfl, SqL.of (f13.ot _ _ (by simp) L12.ar), atD (i := x) (by omega), _, rfl, rfl, _, rfl, ?_⟩
              rw [eA x hx, show (decide (V.int BB = V.int BB)) = true from decide_eq_true rfl]
              exact iteF (n0 _ Fr.refl rfl)
            · intro D13 H13 hD13 f13 hl13
              have el13 : (List.range ((ownT ts c').map nv).length).filterMap (fun _ => (none : Option V)) = [] := by simp
              rw [el13] at hl13
              refine ⟨by show 0 ≤ sizeLine; decide, fun q13 hq13 => ?_⟩
              have g13 : Fr CW [] H13 (upd H13 q13 (.lst [])) := Fr.refl.new hq13
              refine ⟨.list [], .list [], .lst (SqL.of (g13.ot _ _ (by simp) hl13)) .nil, .lst (SqL.of upd_same) .nil, rfl, rfl, _, rfl, ?_⟩
              have f14 := f13.trans g13
              generalize upd H13 q13 (.lst []) = H14 at f14
              rw [show (!PyData.eqv (.list []) (.list [])) = false by rfl]
              refine iteF ?_
              have L14 := L12.fr f14 (by simp) (by simp) (by simp)
              have f014 := f012.trans f14.nil
              obtain ⟨dx14, s14, a14, hc14, hw14, hs14, ha14⟩ := id L14.net
              have so' := L14.so
              obtain ⟨z, hz⟩ : ∃ z, z = shT [.inr xs', .inr as', .inl BB] := ⟨_, rfl⟩
              have okl : ∀ d ∈ ([.inr xs', .inr as', .inl BB] : List IT), okIT d := fun d hd => by
                rcases List.mem_cons.mp hd with rfl | hd
                · exact ⟨by omega, fun i hi => okI_of (so'.ox i hi) (by omega)⟩
                rcases List.mem_cons.mp hd with rfl | hd
                · exact ⟨by omega, fun i hi => okI_of (so'.oa i hi) (by omega)⟩
                rcases List.mem_cons.mp hd with rfl | hd
                · exact hbk'
                · simp at hd
              have itl : ∀ (H : Hp) (p q : Addr), H p = some (.tup (xs'.map V.int)) → H q = some (.tup (as'.map V.int)) → ItsAt H [.ref p, .ref q, .int BB] [.inr xs', .inr as', .inl BB] := fun H p q h1 h2 => .cons (.tup h1) (.cons (.tup h2) (.cons (.int BB) .nil))
              refine ⟨_, rfl, c, CC, dx14, _, _, rfl, hc14, C.cl, C.nS, netF_st, _, rfl, c, CC, dx14, _, _, rfl, hc14, C.cl, C.nA, netF_ar, ?_⟩
              refine ⟨_, rfl, c, dx14, _, rfl, hc14, rfl, _, rfl, c, w, n, m, h, ts, xs', as', rfl, L14.net, ok, lx', la', hh, fun H15 p15 f15 hp15 => ?_⟩
              have e15 : p15 = c' := hp15.unique hc
              rw [e15, F.book xs' as', dn.book, hB]
              refine ⟨by show 3 ≤ sizeLine; decide, fun t15 ht15 => ?_⟩
              have g15 : Fr CW [] H15 (upd H15 t15 (.tup [.ref s14, .ref a14, .int BB])) := Fr.refl.new ht15
              refine ⟨t15, _, _, rfl, upd_same, itl _ _ _ (g15.tup (f15.tup hs14)) (g15.tup (f15.tup ha14)), (by show 3 ≤ 3; decide), okl, ?_⟩
              rw [← hz]
              have f1415 := f15.trans g15
              generalize upd H15 t15 (.tup [.ref s14, .ref a14, .int BB]) = H16 at f1415
              have L16 := L14.fr f1415 (by simp) (by simp) (by simp)
              refine ⟨_, rfl, sa, _, rfl, .inl ⟨SqL.of L16.st, fun p1 hp1 => ?_⟩⟩
              have g17 : Fr CW [] H16 (upd H16 p1 (.tup (xs'.map V.int))) := Fr.refl.new hp1
              have e1 : upd H16 p1 (.tup (xs'.map V.int)) p1 = some (.tup (xs'.map V.int)) := upd_same
              have L17 := L16.fr g17 (by simp) (by simp) (by simp)
              generalize upd H16 p1 (.tup (xs'.map V.int)) = H17 at g17 e1 L17
              refine ⟨_, rfl, aa, _, rfl, .inl ⟨SqL.of L17.ar, fun p2 hp2 => ?_⟩⟩
              have g18 : Fr CW [] H17 (upd H17 p2 (.tup (as'.map V.int))) := Fr.refl.new hp2
              have e2 : upd H17 p2 (.tup (as'.map V.int)) p2 = some (.tup (as'.map V.int)) := upd_same
              have L18 := L17.fr g18 (by simp) (by simp) (by simp)
              have e1' := g18.tup e1
              generalize upd H17 p2 (.tup (as'.map V.int)) = H18 at g18 e2 L18 e1'
              refine ⟨_, rfl, by show 3 ≤ sizeLine; decide, fun p3 hp3 => ?_⟩
              have g19 : Fr CW [] H18 (upd H18 p3 (.tup [.ref p1, .ref p2, .int BB])) := Fr.refl.new hp3
              refine ⟨p3, _, _, rfl, upd_same, itl _ _ _ (g19.tup e1') (g19.tup e2), (by show 3 ≤ 3; decide), okl, ?_⟩
              rw [← hz]
              have L19 := L18.fr g19 (by simp) (by simp) (by simp)
              have f019 := f014.trans (((f1415.trans g17).trans g18).trans g19).nil
              generalize upd H18 p3 (.tup [.ref p1, .ref p2, .int BB]) = H19 at g19 L19 f019
              refine ⟨rfl, ?_⟩
              rw [show (decide (V.str z = V.str z)) = true from decide_eq_true rfl]
              have inOwn : ∀ i t, ts[i]? = some t → t.1 ∈ c' → RestAt ts (fS xs' as') i := fun i t et ht => by
                intro u eu
                rw [et] at eu
                cases eu
                have hi := F.own.mem_iff.mpr (ownT_mem.mpr ⟨t, et, ht⟩)
                have h2 := (hc.cl t (List.mem_of_getElem? et)).mp ht
                exact ⟨(dn.eS _ ((F.mem _).mp ht)).trans (dn.eA i hi).symm, (dn.eS _ ((F.mem _).mp h2)).trans (dn.eA i hi).symm⟩
              refine kk H19 xs' as' f019 ⟨L19.net, L19.st, L19.ar, L19.ta, L19.so.mono (by omega), ok⟩ (fun i hr t et => ?_) fun i t et ht => inOwn i t et (by rw [ht]; exact hc.mem)
              by_cases hin : t.1 ∈ c'
              · exact inOwn i t et hin t et
              · have hin2 : t.2 ∉ c' := fun z => hin ((hc.cl t (List.mem_of_getElem? et)).mpr z)
                have hni : i ∉ Lo.map Prod.fst := fun z => by
                  obtain ⟨u, eu, hu⟩ := ownT_mem.mp (F.own.mem_iff.mp z)
                  rw [et] at eu
                  cases eu
                  exact hin hu
                have r := hr t et
                rw [dn.oS _ fun z => hin ((F.mem _).mpr z), dn.oS _ fun z => hin2 ((F.mem _).mpr z), dn.oA i hni]
                exact r
end
end Hou
set_option Elab.async false
set_option linter.all false
set_option maxRecDepth 100000
set_option autoImplicit false
set_option maxHeartbeats 8000000
namespace Hou
open PySem PySem.Spec PyProof.Rows L2
/-! ### short tactics: a reading's next questions -/
local macro_rules | `(tactic| walk_at "hq") => `(tactic| first
  | assumption | exact SqL.of (by assumption) | exact SqT.of (by assumption) | exact .inl (by assumption) | exact .inr (by assumption) | exact .inl (SqL.of (by assumption)) | exact .inr (SqT.of (by assumption))
  | exact SqL.of upd_same | exact SqT.of upd_same)
local macro_rules | `(tactic| walk_at "at") => `(tactic| first | assumption | exact atI_nat (j := 0) rfl | exact atI_nat (j := 1) rfl)
local macro_rules | `(tactic| walk_at "sd") => `(tactic| first
  | rfl | exact .inl ⟨by decide, by decide⟩ | exact .inr ⟨by decide, by decide⟩ | exact ⟨by decide, by decide, by decide⟩ | (show ((_ : Int) ≠ 0); first | decide | assumption | omega)
  | (show ((_ : Int) ≠ 0 ∧ _); refine ⟨by first | decide | assumption | omega, by first | decide | omega⟩) | (show (_ ≤ sizeLine); first | (simp only [List.length_cons, List.length_nil]; decide) | assumption) | decide | omega)
local macro_rules | `(tactic| walk_at "rd") => `(tactic| first
  | refine ⟨_, rfl, ?_⟩ | refine ⟨_, _, rfl, rfl, ?_⟩ | refine .inl ⟨_, rfl, ?_⟩ | refine .inr ⟨_, rfl, ?_⟩
  | refine ⟨_, _, _, _, rfl, rfl, (by walk_at "hq"), (by walk_at "at"), ?_⟩ | refine ⟨_, _, rfl, (by walk_at "hq"), ?_⟩ | refine ⟨(by walk_at "sd"), ?_⟩)

section
variable {CW CC : Addr} {H H0 H1 : Hp} {M : List Addr} {K : PySem.W.Frag} {a : Addr} {xs : List V}
theorem SqL.fr (h : SqL K H a xs) (f : Fr CW [] H H1) : SqL K H1 a xs :=
  h.elim (fun h => .inl (h.elim (fun h => .inl (f.ot _ _ (by simp) h)) fun ⟨o, h⟩ => .inr ⟨o, f.ot _ _ (by simp) h⟩)) fun h => .inr h
/-- changes of new objects are none of what was there -/
theorem Fr.drop (f : Fr CW [] H H0) (g : Fr CW M H0 H1) (h : ∀ m ∈ M, H m = none) : Fr CW [] H H1 :=
  ⟨fun a o i e => g.im a o i (f.im a o i e), fun a o _ e => g.ot a o (fun z => by rw [h a z] at e; cases e) (f.ot a o (by simp) e), fun a e => f.al a (g.al a e)⟩
theorem Bx.fr {b : Addr} (h : Bx H b) (f : Fr CW M H H1) (hb : b ∉ M) : Bx H1 b := let ⟨g, z, e⟩ := h; ⟨g, z, f.ot _ _ hb e⟩
end
def mods : List Nat := [0, 0, 2, 3, 7, 12, 1000000]
theorem mods_ok : ∀ m ∈ mods, ModOk m := by
  intro m hm
  unfold mods at hm
  simp only [List.mem_cons, List.not_mem_nil, or_false] at hm
  unfold ModOk
  omega
theorem eqv_rest (x y z : Int) : PyData.eqv (.tuple [.int x, .int y]) (.tuple [.int z, .int z]) = (decide (x = y) && decide (y = z)) := by
  have e : PyData.eqv (.tuple [.int x, .int y]) (.tuple [.int z, .int z]) = (x == z && (y == z && true)) := by simp [PyData.eqv, PyData.eqvAll]
  rw [e, Bool.eq_iff_iff]
  simp only [Bool.and_eq_true, beq_iff_eq, decide_eq_true_eq, and_true]
  omega
theorem shaped_ints (l : List Int) : SeqAt.shaped (.list (l.map .int)) = true := by
  refine Bool.and_eq_true_iff.mpr ⟨lay_ints l, decide_eq_true ?_⟩
  show PyData.depthAll (l.map .int) + 1 ≤ 64
  rw [ints_depth]
  decide
theorem eqv_moving (ts : List (Nat × Nat)) (xs as : List Int) : PyData.eqv (.list ((((List.range ts.length).filter fun i => !restAtB ts xs as i).map fun i : Nat => (i : Int)).map .int)) (.list []) = restB ts xs as := by
  unfold restB
  generalize List.range ts.length = l
  induction l with
  | nil => rfl
  | cons a l ih =>
    rw [List.all_cons]
    cases h : restAtB ts xs as a with
    | true =>
      rw [List.filter_cons, h]
      simpa using ih
    | false =>
      rw [List.filter_cons, h]
      rfl
section
variable {P : Program} {w : World} {K : PySem.W.Frag} {mg : Str → Option Value} {base : Heap} {CW CC : Addr}
abbrev s_law : Stmt := top 53
abbrev N_law : List Str := ["_law_script", "_law_k", "_law_box_here", "_law_many", "_law_ties", "_law_web", "_law_modulus", "_law_house", "_law_states", "_law_tie", "_law_archives", "_law_net", "_law_moving"]
theorem sc_law : FnScope N_law ["_law_script"] (defScope s_law) := ⟨rfl, rfl, rfl, by decide +kernel, rfl, by decide +kernel, by decide +kernel⟩
def spLaw (K : PySem.W.Frag) : Sp := fun vs H Q _ => ∃ (a : Addr) (ns : List Int), vs = [.ref a] ∧ SqL K H a (ns.map V.int) ∧ ∀ H', Q (.bl true) H'
theorem ok_law (hne : CC ≠ CW) (T : Top K mg "law" s_law ["_law_script"]) (B : Bl mg) (W : TxE K mg CW) (C : TxC K mg CC)
    (D__law_box : Def P w K mg base 1 "_law_box" s_law_box ["_law_script", "_law_k"] (spBox K))
    (D__law_pick : Def P w K mg base 2 "_law_pick" s_law_pick ["_law_box_here", "_law_some"] (spPick CW))
    (D__law_mixed : Def P w K mg base 2 "_law_mixed" s_law_mixed ["_law_box_here", "_law_some"] (spMixed CW))
    (D__law_forest : Def P w K mg base 3 "_law_forest" s_law_forest ["_law_box_here", "_law_most"] (spForest CW))
    (D__law_number : Def P w K mg base 2 "_law_number" s_law_number ["_law_box_here", "_law_modulus"] (spNumber CW))
    (I_Web : IDef P w K mg base 6 CW "Web" ["self", "houses", "ties"] (spWebInit CW))
    (I_CounterNet : IDef P w K mg base 5 CC "CounterNet" ["self", "web", "modulus", "states", "archives"] (spNetInit CW CC))
    (M_eq : MDef P w K mg base 1 CW "__eq__" "Web.__eq__" s_Web_eq ["self", "other"] (spWebEq CW))
    (M_meet : MDef P w K mg base 5 CC "meet" "CounterNet.meet" s_CounterNet_meet ["self", "tie"] (spNetMeet CW CC))
    (D_is_rest : Def P w K mg base 1 "is_rest" s_is_rest ["net"] (spIsRest CW CC))
    (D__law_steps_right : GDef P w K mg base 7 "_law_steps_right" s_law_steps_right ["_law_box_here", "_law_net", "_law_ties", "_law_modulus", "_law_states", "_law_archives"] (spSteps CW CC))
    (D__law_swept : GDef P w K mg base 7 "_law_swept" s_law_swept ["_law_net", "_law_web", "_law_ties", "_law_modulus", "_law_numbers", "_law_house"] (spSwept CW CC)) :
    GDef P w K mg base 8 "law" s_law ["_law_script"] (spLaw K) := by
  have KW_is_rest : KwOk K "is_rest" "is_rest" s_is_rest ["net"] 0 ["net"] [0] := kw_is_rest
  refine T.okG sc_law (fun vs H Q E h => ?_) (fun f cdv A outer s H vs Q E hr hgd h => ?_)
  · obtain ⟨a, ns, rfl, _⟩ := h
    rfl
  · obtain ⟨a, ns, rfl, ha, kk⟩ := h
    refine ⟨_, (pss_cons (ps_for PassesOwn.never rfl (pi_range1 (by rfl) B.range (pa_cons pe_int pa_nil)) (pg_name (i := 1) sc_law.nd rfl (Or.inl rfl))
       (pss_cons (ps_set (i := 2) sc_law.nd rfl (Or.inr rfl) (pe_def D__law_box (hr.mono (by decide)) rfl (pa_cons (pv 0) (pa_cons (pv 1) pa_nil))))
       (pss_cons (ps_asg (pe_def D__law_forest (hr.mono (by decide)) rfl (pa_cons (pv 2) (pa_cons (pe_def D__law_pick (hr.mono (by decide)) rfl (pa_cons (pv 2) (pa_cons (pe_lst (pa_cons pe_int (pa_cons pe_int (pa_cons pe_int pa_nil)))) pa_nil))) pa_nil))) (pg_tup rfl (pgs_cons (pg_name (i := 3) sc_law.nd rfl (Or.inl rfl)) (pgs_cons (pg_name (i := 4) sc_law.nd rfl (Or.inr rfl)) pgs_nil))))
       (pss_cons (ps_asg (pe_tup (pa_cons (pe_mk I_Web (hr.mono (by decide)) rfl (pa_cons (pv 3) (pa_cons (pv 4) pa_nil))) (pa_cons (pe_def D__law_pick (hr.mono (by decide)) rfl (pa_cons (pv 2) (pa_cons (pe_lst (pa_cons pe_int (pa_cons pe_int (pa_cons pe_int (pa_cons pe_int (pa_cons pe_int (pa_cons pe_int (pa_cons (pe_op op_pow pe_int pe_int) pa_nil)))))))) pa_nil))) pa_nil))) (pg_tup rfl (pgs_cons (pg_name (i := 5) sc_law.nd rfl (Or.inl rfl)) (pgs_cons (pg_name (i := 6) sc_law.nd rfl (Or.inr rfl)) pgs_nil))))
       (pss_cons (ps_set (i := 8) sc_law.nd rfl (Or.inr rfl) (pe_lc (own := [("_law_house", 7)]) (g := gName 7) (tt := tYes) rfl sc_law.nd (pi_range1 (by rfl) B.range (pa_cons (pv 3) pa_nil)) (blkOk_by (N := N_law) (sc := defScope s_law) (by decide +kernel)) (fun _ _ _ _ _ => pg_name (i := 7) sc_law.nd rfl (Or.inl rfl)) (fun _ _ _ _ _ => pts_nil) (fun _ _ _ _ _ => (pe_def D__law_number (hr.mono (by decide)) rfl (pa_cons (pv 2) (pa_cons (pv 6) pa_nil))))))
       (pss_cons (ps_set (i := 10) sc_law.nd rfl (Or.inr rfl) (pe_lc (own := [("_law_tie", 9)]) (g := gName 9) (tt := tYes) rfl sc_law.nd (pi_tup (pv 4)) (blkOk_by (N := N_law) (sc := defScope s_law) (by decide +kernel)) (fun _ _ _ _ _ => pg_name (i := 9) sc_law.nd rfl (Or.inl rfl)) (fun _ _ _ _ _ => pts_nil) (fun _ _ _ _ _ => (pe_def D__law_number (hr.mono (by decide)) rfl (pa_cons (pv 2) (pa_cons (pv 6) pa_nil))))))
       (pss_cons (ps_set (i := 11) sc_law.nd rfl (Or.inl rfl) (pe_mk I_CounterNet (hr.mono (by decide)) rfl (pa_cons (pv 5) (pa_cons (pv 6) (pa_cons (pe_callTy (T := "list") (call_listK (K := K) rfl) (by rfl) B.list (by decide +kernel) (pa_cons (pv 8) pa_nil)) (pa_cons (pv 10) pa_nil))))))
       (pss_cons (ps_if (PW.pt (pw_or (pt_cmpR op_ne (pe_callB (id := "repr") (cr_reprT hr hgd) (by rfl) B.repr (by decide +kernel) (pa_cons (pe_tup (pa_cons (pe_fldK (K := K) rfl (pv 11) rfl) (pa_cons (pe_fldK (K := K) rfl (pv 11) rfl) (pa_cons (pe_fldK (K := K) rfl (pv 11) rfl) pa_nil)))) pa_nil)) (pe_callB (id := "repr") (cr_reprT hr hgd) (by rfl) B.repr (by decide +kernel) (pa_cons (pe_tup (pa_cons (pv 6) (pa_cons (pe_callTy (T := "tuple") (call_tupleK (K := K) rfl) (by rfl) B.tuple (by decide +kernel) (pa_cons (pv 8) pa_nil)) (pa_cons (pe_callTy (T := "tuple") (call_tupleK (K := K) rfl) (by rfl) B.tuple (by decide +kernel) (pa_cons (pv 10) pa_nil)) pa_nil)))) pa_nil)) (nomark _)) (pw_or1 (pt_cmpR (op_neSelf M_eq (hr.mono (by decide)) W.mro W.nNe) (pe_fldK (K := K) rfl (pv 11) rfl) (pv 5) (nomark _))))) (pss_one (ps_ret pe_bl)) pss_nil)
       (pss_cons (ps_if (pt_not (pt_val (pe_defG D__law_steps_right (hr.mono (by decide)) hgd rfl (pa_cons (pv 2) (pa_cons (pv 11) (pa_cons (pv 4) (pa_cons (pv 6) (pa_cons (pv 8) (pa_cons (pv 10) pa_nil))))))))) (pss_one (ps_ret pe_bl)) pss_nil)
       (pss_cons (ps_setLc (i := 12) (own := [("_law_tie", 9)]) (g := gName 9) rfl sc_law.nd rfl rfl (sw_true rfl rfl rfl (by decide +kernel)) (pi_range1 (by rfl) B.range (pa_cons (pe_callB (id := "len") (call_lenK (K := K) rfl) (by rfl) B.len (by decide +kernel) (pa_cons (pv 4) pa_nil)) pa_nil)) (blkOk_by (N := N_law) (sc := defScope s_law) (by decide +kernel)) (fun _ _ _ _ _ => pg_name (i := 9) sc_law.nd rfl (Or.inl rfl)) (fun _ _ _ _ _ => (pts_one (pt_cmpR (op_neDK (K := K) rfl hr.units) (pe_tup (pa_cons (pe_ix (ix_listK (K := K) rfl) (pv 8) (pe_ix (ix_tupK (K := K) rfl) (pe_ix (ix_tupK (K := K) rfl) (pv 4) (pv 9) (fun _ _ => rfl)) pe_int (fun _ _ => rfl)) (fun _ _ => rfl)) (pa_cons (pe_ix (ix_listK (K := K) rfl) (pv 8) (pe_ix (ix_tupK (K := K) rfl) (pe_ix (ix_tupK (K := K) rfl) (pv 4) (pv 9) (fun _ _ => rfl)) pe_int (fun _ _ => rfl)) (fun _ _ => rfl)) pa_nil))) (pe_tup (pa_cons (pe_ix (ix_listK (K := K) rfl) (pv 10) (pv 9) (fun _ _ => rfl)) (pa_cons (pe_ix (ix_listK (K := K) rfl) (pv 10) (pv 9) (fun _ _ => rfl)) pa_nil))) (nomark _)))) (fun _ _ _ _ _ => (pv 9)))
       (pss_cons (ps_if (pt_cmpR op_ne (pe_callB (id := "repr") cr_reprB (by rfl) B.repr (by decide +kernel) (pa_cons (pe_def D_is_rest (hr.mono (by decide)) rfl (pa_cons (pv 11) pa_nil)) pa_nil)) (pe_callB (id := "repr") cr_reprB (by rfl) B.repr (by decide +kernel) (pa_cons (pe_cmpR (op_eqDK (K := K) rfl hr.units) (pv 12) (pe_lst pa_nil) (nomark _)) pa_nil)) (nomark _)) (pss_one (ps_ret pe_bl)) pss_nil)
       (pss_cons (ps_for PassesOwn.never rfl (pi_list (pe_def D__law_mixed (hr.mono (by decide)) rfl (pa_cons (pv 2) (pa_cons (pe_listRg rfl rfl B.list (prg_1 rfl B.range (pv 3))) pa_nil)))) (pg_name (i := 7) sc_law.nd rfl (Or.inl rfl))
       (pss_one (ps_if (pt_not (pt_val (pe_defG D__law_swept (hr.mono (by decide)) hgd rfl (pa_cons (pv 11) (pa_cons (pv 5) (pa_cons (pv 4) (pa_cons (pv 6) (pa_cons (pe_lst (pa_cons (pv 8) (pa_cons (pv 10) pa_nil))) (pa_cons (pv 7) pa_nil))))))))) (pss_one (ps_ret pe_bl)) pss_nil)))
       (pss_cons (ps_if (pt_cmpR op_notBl (pe_defK0 D_is_rest (hr.mono (by decide)) rfl KW_is_rest (pk_cons (pv 11) pk_nil)) pe_bl (nomark _)) (pss_one (ps_ret pe_bl)) pss_nil)
       (pss_cons (ps_for PassesOwn.never rfl (pi_range1 (by rfl) B.range (pa_cons (pe_callB (id := "len") (call_lenK (K := K) rfl) (by rfl) B.len (by decide +kernel) (pa_cons (pv 4) pa_nil)) pa_nil)) (pg_name (i := 9) sc_law.nd rfl (Or.inl rfl))
       (pss_one (ps_expr (pe_mdef (pv 11) M_meet (hr.mono (by decide)) (pa_cons (pv 9) pa_nil)))))
       (pss_one (ps_if (pt_cmpR op_ne (pe_callB (id := "repr") (cr_reprT hr hgd) (by rfl) B.repr (by decide +kernel) (pa_cons (pe_tup (pa_cons (pe_fldK (K := K) rfl (pv 11) rfl) (pa_cons (pe_fldK (K := K) rfl (pv 11) rfl) pa_nil))) pa_nil)) (pe_callB (id := "repr") (cr_reprT hr hgd) (by rfl) B.repr (by decide +kernel) (pa_cons (pe_tup (pa_cons (pe_callTy (T := "tuple") (call_tupleK (K := K) rfl) (by rfl) B.tuple (by decide +kernel) (pa_cons (pv 8) pa_nil)) (pa_cons (pe_callTy (T := "tuple") (call_tupleK (K := K) rfl) (by rfl) B.tuple (by decide +kernel) (pa_cons (pv 10) pa_nil)) pa_nil))) pa_nil)) (nomark _)) (pss_one (ps_ret pe_bl)) pss_nil))))))))))))))))
       (pss_one (ps_ret pe_bl))), ?_⟩
    refine ⟨(3 : Int), rfl, by decide, by decide, for_it (walk_range (lo := 0) (n := 3))
      (fun i σ H2 => ∃ (v1 v2 v3 v4 v5 v6 v7 v8 v9 v10 v11 v12 : Option V), σ = [some (.ref a), v1, v2, v3, v4, v5, v6, v7, v8, v9, v10, v11, v12] ∧ SqL K H2 a (ns.map V.int))
      ⟨none, none, none, none, none, none, none, none, none, none, none, none, rfl, ha⟩ (fun _ _ _ _ _ => trivial) ?_ ?_⟩
    · rintro i v σ H0 H0' hi ⟨v1, v2, v3, v4, v5, v6, v7, v8, v9, v10, v11, v12, rfl, ha0⟩ ⟨rfl, rfl⟩
      dsimp only
      rw [Int.zero_add]
      refine ⟨_, rfl, _, rfl, a, ns, i, rfl, ha0, by omega, fun b g s hb0 => ?_⟩
      have f1 : Fr CW [] H0' (upd H0' b (.lst [.int g, .int s])) := Fr.refl.new hb0
      have hb1 : Bx (upd H0' b (.lst [.int g, .int s])) b := ⟨g, s, upd_same⟩
      generalize upd H0' b (.lst [.int g, .int s]) = H1 at f1 hb1
      refine ⟨_, rfl, _, rfl, by show 3 ≤ sizeLine; decide, fun l hl => ?_⟩
      have g2 : Fr CW [] H1 (upd H1 l (.lst [.int 8, .int 7, .int 12])) := Fr.refl.new hl
      have hl2 : upd H1 l (.lst [.int 8, .int 7, .int 12]) l = some (.lst [.int 8, .int 7, .int 12]) := upd_same
      have nlb : l ≠ b := fun z => by
        obtain ⟨_, _, e⟩ := hb1
        rw [← z, hl] at e
        cases e
      have hb2 := hb1.fr g2 (by simp)
      have f2 := f1.trans g2
      generalize upd H1 l (.lst [.int 8, .int 7, .int 12]) = H2 at g2 hl2 hb2 f2
      refine ⟨b, l, _, rfl, hb2, hl2, nlb, by simp, by show 3 ≤ 20; decide, fun H3 x3 g3 hb3 hx3 => ?_⟩
      obtain ⟨mo, rfl, hmo1, hmo2⟩ : ∃ mo : Nat, x3 = .int (mo : Nat) ∧ 1 ≤ mo ∧ mo ≤ 12 := by
        simp only [List.mem_cons, List.not_mem_nil, or_false] at hx3
        rcases hx3 with rfl | rfl | rfl
        · exact ⟨8, rfl, by decide, by decide⟩
        · exact ⟨7, rfl, by decide, by decide⟩
        · exact ⟨12, rfl, by decide, by decide⟩
      have f3 := f2.drop g3 (by simp [hb0])
      refine ⟨b, mo, rfl, hb3, hmo1, hmo2, fun H4 tp ta n ts g4 hb4 htp hta ok hF => ?_⟩
      have f4 := f3.drop g4 (by simp [hb0])
      refine ⟨tp, _, rfl, SqT.of htp, rfl, _, _, rfl, _, _, rfl, rfl, ?_⟩
      have n12 := ok.n12
      have n1 := ok.n1
      have l20 := ok.len
      refine ⟨_, rfl, _, rfl, fun w dw hw0 hdw0 hdw => ?_⟩
      have g5 : Fr CW [] H4 (upd (upd H4 dw (.own w)) w (.ins CW dw [])) := (Fr.refl.new hdw0).new (by rw [upd_ne hdw.symm]; exact hw0)
      refine ⟨H4, w, dw, n, ta, ts, rfl, g5, hw0, upd_same, hta.fr g5, ok, fun H5 g5 hw5 => ⟨rfl, ?_⟩⟩
      have hb5 := hb4.fr g5 (by simp)
      have hta5 := hta.fr g5
      have f5 := f4.trans g5
      refine ⟨_, rfl, _, _, rfl, rfl, (show CPow 10 6 by unfold CPow; decide), by show 7 ≤ sizeLine; decide, fun l2 hl2 => ?_⟩
      have e106 : (10 : Int) ^ Int.toNat 6 = 1000000 := by decide
      dsimp only
      rw [e106]
      have g6 : Fr CW [] H5 (upd H5 l2 (.lst [.int 0, .int 0, .int 2, .int 3, .int 7, .int 12, .int 1000000])) := Fr.refl.new hl2
      have hl6 : upd H5 l2 (.lst [.int 0, .int 0, .int 2, .int 3, .int 7, .int 12, .int 1000000]) l2 = some (.lst [.int 0, .int 0, .int 2, .int 3, .int 7, .int 12, .int 1000000]) := upd_same
      have nlb2 : l2 ≠ b := fun z => by
        obtain ⟨_, _, e⟩ := hb5
        rw [← z, hl2] at e
        cases e
      have hb6 := hb5.fr g6 (by simp)
      have hta6 := hta5.fr g6
      have hw6 := hw5.fr g6
      have f6 := f5.trans g6
      generalize upd H5 l2 (.lst [.int 0, .int 0, .int 2, .int 3, .int 7, .int 12, .int 1000000]) = H6 at g6 hl6 hb6 hta6 hw6 f6
      refine ⟨b, l2, _, rfl, hb6, hl6, nlb2, by simp, by show 7 ≤ 20; decide, fun H7 x7 g7 hb7 hx7 => ?_⟩
      obtain ⟨m, rfl, hmm⟩ : ∃ m : Nat, x7 = .int (m : Nat) ∧ m ∈ mods := by
        simp only [List.mem_cons, List.not_mem_nil, or_false] at hx7
        rcases hx7 with rfl | rfl | rfl | rfl | rfl | rfl | rfl
        · exact ⟨0, rfl, by decide⟩
        · exact ⟨0, rfl, by decide⟩
        · exact ⟨2, rfl, by decide⟩
        · exact ⟨3, rfl, by decide⟩
        · exact ⟨7, rfl, by decide⟩
        · exact ⟨12, rfl, by decide⟩
        · exact ⟨1000000, rfl, by decide⟩
      have mo := mods_ok m hmm
      have mo2 := mo.2
      have f7 := f6.drop g7 (by simp [hb0])
      have hta7 := hta6.fr g7
      have hw7 := hw6.fr g7
      refine ⟨by show 2 ≤ sizeLine; decide, fun tq htq => ?_⟩
      have g8 : Fr CW [] H7 (upd H7 tq (.tup [.ref w, .int (m : Nat)])) := Fr.refl.new htq
      refine ⟨tq, _, rfl, SqT.of upd_same, rfl, _, _, rfl, _, _, rfl, rfl, ?_⟩
      have hb8 := hb7.fr g8 (by simp)
      have hta8 := hta7.fr g8
      have hw8 := hw7.fr g8
      have f8 := f7.trans g8
      generalize upd H7 tq (.tup [.ref w, .int (m : Nat)]) = H8 at g8 hb8 hta8 hw8 f8
      refine ⟨_, rfl, (n : Int), rfl, by omega, by omega, fun sa hsa0 => ?_⟩
      have nbsa : b ≠ sa := fun z => by
        obtain ⟨_, _, e⟩ := hb8
        rw [z, hsa0] at e
        cases e
      refine lc_it (walk_range (lo := 0) (n := n)) (fun i H => Fr CW [b] H8 H ∧ Bx H b ∧ ∃ xs : List Int, xs.length = i ∧ (∀ x ∈ xs, Cnt m x) ∧ H sa = some (.lst (xs.map V.int))) ⟨(Fr.refl.new hsa0 : Fr CW [] H8 _).nil, hb8.fr (Fr.refl.new hsa0 : Fr CW [] H8 _) (by simp), [], rfl, by simp, upd_same⟩ (fun _ _ _ _ => trivial) ?_ ?_
      · rintro j x H9 H9' hj ⟨g9, hb9, xs, lx, cx, hx9⟩ ⟨rfl, rfl⟩
        refine ⟨rfl, ?_⟩
        refine ⟨_, rfl, _, rfl, b, m, rfl, hb9, mo2, fun H10 x g10 hb10 hx => ?_⟩
        have hx10 := g10.ot _ _ (by simp [nbsa.symm]) hx9
        refine ⟨xs.map V.int, hx10, by rw [List.length_map]; exact small1000 (by omega), (g9.trans g10).loc hsa0, ?_, xs ++ [x], by simp [lx], fun y hy => ?_, by rw [upd_same, List.map_append]; rfl⟩
        · obtain ⟨g, z, e⟩ := hb10
          exact ⟨g, z, by rw [upd_ne nbsa]; exact e⟩
        · rcases List.mem_append.mp hy with z | z
          · exact cx y z
          · rw [List.mem_singleton.mp z]
            exact hx
      · rintro H9 ⟨g9, hb9, xs, lx, cx, hx9⟩
        have f9 := f8.drop g9 (by simp [hb0])
        have hta9 := hta8.fr g9
        have hw9 := hw8.fr g9
        have hsaX : H0' sa = none := f8.al _ hsa0
        obtain ⟨ps, htap, hps⟩ := id hta9
        refine ⟨_, rfl, ta, rfl, ⟨ps, SqT.of htap⟩, fun aa haa0 => ?_⟩
        have nbaa : b ≠ aa := fun z => by
          obtain ⟨_, _, e⟩ := hb9
          rw [z, haa0] at e
          cases e
        have nsa : sa ≠ aa := fun z => by
          rw [z, haa0] at hx9
          cases hx9
        have nta : aa ≠ ta := (ne_of_none htap haa0).symm
        refine lc_it (walk_tup (K := K) (a := ta) (xs := ps)) (fun i H => Fr CW [b] H9 H ∧ Bx H b ∧ ∃ as : List Int, as.length = i ∧ (∀ x ∈ as, Cnt m x) ∧ H aa = some (.lst (as.map V.int))) ⟨(Fr.refl.new haa0 : Fr CW [] H9 _).nil, hb9.fr (Fr.refl.new haa0 : Fr CW [] H9 _) (by simp), [], rfl, by simp, upd_same⟩ (fun _ _ _ h => SqT.of (h.1.tup htap)) ?_ ?_
        · rintro j x H10 H10' hj ⟨g10, hb10, as, la, ca, ha10⟩ ⟨rfl, _⟩
          refine ⟨rfl, ?_⟩
          refine ⟨_, rfl, _, rfl, b, m, rfl, hb10, mo2, fun H11 x g11 hb11 hx => ?_⟩
          have ha11 := g11.ot _ _ (by simp [nbaa.symm]) ha10
          refine ⟨as.map V.int, ha11, by rw [List.length_map]; exact small1000 (by have := hps.1; omega), (g10.trans g11).loc haa0, ?_, as ++ [x], by simp [la], fun y hy => ?_, by rw [upd_same, List.map_append]; rfl⟩
          · obtain ⟨g, z, e⟩ := hb11
            exact ⟨g, z, by rw [upd_ne nbaa]; exact e⟩
          · rcases List.mem_append.mp hy with z | z
            · exact ca y z
            · rw [List.mem_singleton.mp z]
              exact hx
        · rintro H10 ⟨g10, hb10, as, la, ca, ha10⟩
          have f10 := f9.drop g10 (by simp [hb0])
          have hta10 := hta9.fr g10
          have hw10 := hw9.fr g10
          have hx10 := g10.ot _ _ (by simp [nbsa.symm]) hx9
          have haaX : H0' aa = none := f9.al _ haa0
          have la' : as.length = ts.length := la.trans hps.1
          have so0 : SOk n ts m 0 xs as := ⟨lx, la', fun x hx => Okv.of_cnt mo (cx x hx), fun x hx => Okv.of_cnt mo (ca x hx), mo⟩
          refine ⟨_, rfl, _, rfl, _, rfl, sa, _, rfl, .inl (SqL.of hx10), fun ls hls0 => ?_⟩
          have g11 : Fr CW [] H10 (upd H10 ls (.lst (xs.map V.int))) := Fr.refl.new hls0
          have hls11 : upd H10 ls (.lst (xs.map V.int)) ls = some (.lst (xs.map V.int)) := upd_same
          have hb11 := hb10.fr g11 (by simp)
          have hta11 := hta10.fr g11
          have hw11 := hw10.fr g11
          have hx11 := g11.ot _ _ (by simp) hx10
          have ha11 := g11.ot _ _ (by simp) ha10
          have f11 := f10.trans g11
          generalize upd H10 ls (.lst (xs.map V.int)) = H11 at g11 hls11 hb11 hta11 hw11 hx11 ha11 f11
          refine ⟨_, rfl, fun c dc hc0 hdc0 hdc => ?_⟩
          have g12 : Fr CW [] H11 (upd (upd H11 dc (.own c)) c (.ins CC dc [])) := (Fr.refl.new hdc0).new (by rw [upd_ne hdc.symm]; exact hc0)
          refine ⟨H11, c, dc, w, ls, aa, n, m, ts, xs, as, rfl, g12, hc0, upd_same, hw11, ok, mo, g12.ot _ _ (by simp) hls11, g12.ot _ _ (by simp) ha11, lx, la', cx, ca, fun H12 g12 net12 => ⟨rfl, ?_⟩⟩
          have hb12 := hb11.fr g12 (by simp)
          have f12 := f11.trans g12
          have hcX : H0' c = none := f11.al _ hc0
          have L12 : LawSt CW CC H12 c w ta sa aa n ts m 0 xs as := ⟨net12, g12.ot _ _ (by simp) hx11, g12.ot _ _ (by simp) ha11, hta11.fr g12, so0, ok⟩
          -- what stands in the net is what was given
          obtain ⟨dx, s', a', hc, hw, hs, ha⟩ := id L12.net
          have okm : okI ((m : Nat) : Int) := by
            unfold okI
            refine Nat.lt_of_le_of_lt (show ((m : Int)).natAbs ≤ 1000000 by omega) ?_
            unfold big
            decide +kernel
          obtain ⟨z, hz⟩ : ∃ z, z = shT [.inl (m : Int), .inr xs, .inr as] := ⟨_, rfl⟩
          refine ⟨_, rfl, c, CC, dx, _, _, rfl, hc, C.cl, C.nM, netF_mod, _, rfl, c, CC, dx, _, _, rfl, hc, C.cl, C.nS, netF_st, _, rfl, c, CC, dx, _, _, rfl, hc, C.cl, C.nA, netF_ar, by show 3 ≤ sizeLine; decide, fun p1 hp1 => ?_⟩
          have g13 : Fr CW [] H12 (upd H12 p1 (.tup [.int (m : Nat), .ref s', .ref a'])) := Fr.refl.new hp1
          refine ⟨p1, _, _, rfl, upd_same, its3 (g13.tup hs) (g13.tup ha), (by show 3 ≤ 3; decide), its_ok3 so0 ok (by decide) okm, ?_⟩
          rw [← hz]
          have L13 := L12.fr g13 (by simp) (by simp) (by simp)
          generalize upd H12 p1 (.tup [.int (m : Nat), .ref s', .ref a']) = H13 at g13 L13
          refine ⟨_, rfl, _, rfl, sa, _, rfl, .inl ⟨SqL.of L13.st, fun p2 hp2 => ?_⟩⟩
          have g14 : Fr CW [] H13 (upd H13 p2 (.tup (xs.map V.int))) := Fr.refl.new hp2
          have e14 : upd H13 p2 (.tup (xs.map V.int)) p2 = some (.tup (xs.map V.int)) := upd_same
          have L14 := L13.fr g14 (by simp) (by simp) (by simp)
          generalize upd H13 p2 (.tup (xs.map V.int)) = H14 at g14 e14 L14
          refine ⟨_, rfl, aa, _, rfl, .inl ⟨SqL.of L14.ar, fun p3 hp3 => ?_⟩⟩
          have g15 : Fr CW [] H14 (upd H14 p3 (.tup (as.map V.int))) := Fr.refl.new hp3
          have e15 : upd H14 p3 (.tup (as.map V.int)) p3 = some (.tup (as.map V.int)) := upd_same
          have L15 := L14.fr g15 (by simp) (by simp) (by simp)
          have e15' := g15.tup e14
          generalize upd H14 p3 (.tup (as.map V.int)) = H15 at g15 e15 L15 e15'
          refine ⟨by show 3 ≤ sizeLine; decide, fun p4 hp4 => ?_⟩
          have g16 : Fr CW [] H15 (upd H15 p4 (.tup [.int (m : Nat), .ref p2, .ref p3])) := Fr.refl.new hp4
          refine ⟨p4, _, _, rfl, upd_same, its3 (g16.tup e15') (g16.tup e15), (by show 3 ≤ 3; decide), its_ok3 so0 ok (by decide) okm, ?_⟩
          rw [← hz]
          clear hz
          have L16 := L15.fr g16 (by simp) (by simp) (by simp)
          have g1216 := ((g13.trans g14).trans g15).trans g16
          have hb16 := hb12.fr g1216 (by simp)
          have f16 := f12.trans g1216
          generalize upd H15 p4 (.tup [.int (m : Nat), .ref p2, .ref p3]) = H16 at g16 L16 g1216 hb16 f16
          refine ⟨rfl, _, rfl, ?_⟩
          rw [show (decide (V.str z = V.str z)) = true from decide_eq_true rfl]
          refine iteF ?_
          obtain ⟨dx16, s16, a16, hc16, hw16, hs16, ha16⟩ := id L16.net
          obtain ⟨dw16, tt16, ps16, hw16', _⟩ := id hw16
          refine ⟨_, rfl, c, CC, dx16, _, _, rfl, hc16, C.cl, C.nW, netF_web, _, rfl, w, dw16, _, rfl, rfl, hw16', w, n, ts, rfl, hw16, rfl, _, rfl, iteF ?_⟩
          refine ⟨_, rfl, _, rfl, _, rfl, _, rfl, _, rfl, _, rfl, b, c, w, ta, sa, aa, n, m, ts, xs, as, rfl, hb16, L16, nbsa, nbaa, nsa, fun H17 xs as g17 hb17 L17 => ⟨true, rfl, iteF ?_⟩⟩
          have f17 := f16.drop g17 (by simp [hb0, hcX, hsaX, haaX])
          have lx := L17.so.lx
          have la' := L17.so.la
          obtain ⟨ps17, htap17, hps17⟩ := id L17.ta
          refine ⟨_, rfl, ta, ps17, rfl, .inr (SqT.of htap17), (ts.length : Int), by rw [hps17.1], by omega, by omega, ?_⟩
          refine lc_fr (CW := CW) (M := []) (walk_range (lo := 0) (n := ts.length)) (fun i => if restAtB ts xs as i = true then none else some (nv i)) (fun H3 f => trivial) YFn.fr (by simp) (by omega) ?_ ?_
          · rintro j v H18 H19 hj g18 ⟨rfl, rfl⟩ N1 N0 n1 n0
            have et : ts[j]? = some ts[j] := by simp [hj]
            obtain ⟨q, e1, hq⟩ := hps17.2 j _ et
            obtain ⟨o1, o2, o3⟩ := ok.ok ts[j] (List.getElem_mem hj)
            have ta18 := g18.tup htap17
            have hq18 := g18.tup hq
            have sa18 := g18.ot _ _ (by simp) L17.st
            have aa18 := g18.ot _ _ (by simp) L17.ar
            have er : restAtB ts xs as j = (decide (xs.getD ts[j].1 0 = xs.getD ts[j].2 0) && decide (xs.getD ts[j].2 0 = as.getD j 0)) := by
              unfold restAtB
              rw [et]
            generalize ts[j] = t at et hq o1 o2 o3 hq18 er
            refine ⟨rfl, ?_⟩
            refine ⟨_, rfl, _, rfl, _, rfl, ta, _, _, _, rfl, rfl, SqT.of ta18, (by rw [Int.zero_add]; exact atI_nat e1), q, _, _, _, rfl, rfl, SqT.of hq18, atI_nat (j := 0) rfl, sa, _, _, _, rfl, rfl, SqL.of sa18, atD (i := t.1) (by omega), ?_⟩
            refine ⟨_, rfl, _, rfl, _, rfl, ta, _, _, _, rfl, rfl, SqT.of ta18, (by rw [Int.zero_add]; exact atI_nat e1), q, _, _, _, rfl, rfl, SqT.of hq18, atI_nat (j := 1) rfl, sa, _, _, _, rfl, rfl, SqL.of sa18, atD (i := t.2) (by omega), by show 2 ≤ sizeLine; decide, fun p1 hp1 => ?_⟩
            have k1 : Fr CW [] H19 (upd H19 p1 (.tup [.int (xs.getD t.1 0), .int (xs.getD t.2 0)])) := Fr.refl.new hp1
            have e18 : upd H19 p1 (.tup [.int (xs.getD t.1 0), .int (xs.getD t.2 0)]) p1 = some (.tup [.int (xs.getD t.1 0), .int (xs.getD t.2 0)]) := upd_same
            generalize upd H19 p1 (.tup [.int (xs.getD t.1 0), .int (xs.getD t.2 0)]) = H20 at k1 e18
            have aa20 := k1.ot _ _ (by simp) aa18
            refine ⟨_, rfl, _, rfl, aa, _, _, _, rfl, rfl, SqL.of aa20, (by rw [Int.zero_add]; exact atD (i := j) (by omega)), _, rfl, _, rfl, aa, _, _, _, rfl, rfl, SqL.of aa20, (by rw [Int.zero_add]; exact atD (i := j) (by omega)), by show 2 ≤ sizeLine; decide, fun p2 hp2 => ?_⟩
            have k2 : Fr CW [] H20 (upd H20 p2 (.tup [.int (as.getD j 0), .int (as.getD j 0)])) := Fr.refl.new hp2
            refine ⟨.tuple [.int (xs.getD t.1 0), .int (xs.getD t.2 0)], .tuple [.int (as.getD j 0), .int (as.getD j 0)], .tup (SqT.of (k2.tup e18)) (.cons (.int _) (.cons (.int _) .nil)), .tup (SqT.of upd_same) (.cons (.int _) (.cons (.int _) .nil)), rfl, rfl, _, rfl, ?_⟩
            have k12 := k1.trans k2
            generalize upd H20 p2 (.tup [.int (as.getD j 0), .int (as.getD j 0)]) = H21 at k2 k12
            rw [eqv_rest, ← er]
            cases hb : restAtB ts xs as j with
            | true => exact iteF (n0 _ k12 (by rw [hb]; rfl))
            | false => exact iteT ⟨_, rfl, n1 _ _ k12 (by rw [hb]; show some (nv j) = some (V.int (0 + (j : Nat))); rw [Int.zero_add])⟩
          · intro mv H18 hmv0 g18 hmv
            have emv : (List.range ts.length).filterMap (fun i => if restAtB ts xs as i = true then none else some (nv i)) = (((List.range ts.length).filter fun i => !restAtB ts xs as i).map fun i : Nat => (i : Int)).map V.int := by
              rw [List.map_map, ← fm_some (V.int ∘ fun i : Nat => (i : Int)), List.filterMap_filter]
              refine fm_congr fun i _ => ?_
              cases restAtB ts xs as i <;> rfl
            rw [emv] at hmv
            have L18 := L17.fr g18 (by simp) (by simp) (by simp)
            have hb18 := hb17.fr g18 (by simp)
            have f18 := f17.trans g18
            refine ⟨_, rfl, c, w, n, m, ts, xs, as, rfl, L18.net, ok, lx, la', fun H19 g19 => ⟨_, rfl, ?_⟩⟩
            have hmv19 := g19.ot _ _ (by simp) hmv
            refine ⟨_, rfl, by show 0 ≤ sizeLine; decide, fun q hq => ?_⟩
            have g20 : Fr CW [] H19 (upd H19 q (.lst [])) := Fr.refl.new hq
            refine ⟨.list ((((List.range ts.length).filter fun i => !restAtB ts xs as i).map fun i : Nat => (i : Int)).map .int), .list [], .lst (SqL.of (g20.ot _ _ (by simp) hmv19)) (dps_ints _), .lst (SqL.of upd_same) .nil, shaped_ints _, rfl, ?_⟩
            rw [eqv_moving]
            have g1820 := g19.trans g20
            have L20 := L18.fr g1820 (by simp) (by simp) (by simp)
            have hb20 := hb18.fr g1820 (by simp)
            have f20 := f18.trans g1820
            generalize upd H19 q (.lst []) = H20 at g20 g1820 L20 hb20 f20
            refine ⟨_, rfl, rfl, _, rfl, ?_⟩
            rw [show (decide (V.str (if restB ts xs as = true then Str.ofString "True" else Str.ofString "False") = V.str (if restB ts xs as = true then Str.ofString "True" else Str.ofString "False"))) = true from decide_eq_true rfl]
            refine iteF ?_
            -- the sweeps
            refine ⟨_, rfl, _, rfl, (n : Int), rfl, ⟨by decide, by decide, by omega, by omega, by omega⟩, fun r0 hr0 => ?_⟩
            rw [rgV_nats]
            have g21 : Fr CW [] H20 (upd H20 r0 (.lst ((List.range n).map nv))) := Fr.refl.new hr0
            have e21 : upd H20 r0 (.lst ((List.range n).map nv)) r0 = some (.lst ((List.range n).map nv)) := upd_same
            have L21 := L20.fr g21 (by simp) (by simp) (by simp)
            have hb21 := hb20.fr g21 (by simp)
            have f21 := f20.trans g21
            generalize upd H20 r0 (.lst ((List.range n).map nv)) = H21 at g21 e21 L21 hb21 f21
            have ncb : c ≠ b := fun z => by
              obtain ⟨dx, s', a', hc, _⟩ := L21.net
              obtain ⟨g, z', e⟩ := hb21
              rw [z, e] at hc
              cases hc
            have ncs : c ≠ sa := fun z => by
              obtain ⟨dx, s', a', hc, _⟩ := L21.net
              have e := L21.st
              rw [← z, hc] at e
              cases e
            have nca : c ≠ aa := fun z => by
              obtain ⟨dx, s', a', hc, _⟩ := L21.net
              have e := L21.ar
              rw [← z, hc] at e
              cases e
            refine ⟨b, r0, _, rfl, hb21, e21, by rw [List.length_map, List.length_range]; omega, fun H22 hp ys g22 hb22 hp0 hhp pm => ?_⟩
            obtain ⟨houses, rfl, pn⟩ := perm_lift pm
            have hhl : houses.length = n := by rw [pn.length_eq, List.length_range]
            have hhm : ∀ x, x ∈ houses ↔ x < n := fun x => (pn.mem_iff).trans List.mem_range
            have L22 := L21.fr g22 (by simp [ncb]) (by simp [nbsa.symm]) (by simp [nbaa.symm])
            have f22 := f21.drop g22 (by simp [hb0])
            obtain ⟨dx21, s21, a21, hc21, _⟩ := id L21.net
            have nhc : hp ≠ c := (ne_of_none hc21 hp0).symm
            have nhs : hp ≠ sa := (ne_of_none L21.st hp0).symm
            have nha : hp ≠ aa := (ne_of_none L21.ar hp0).symm
            refine ⟨hp, rfl, ⟨_, SqL.of hhp⟩, for_it (walk_list (K := K) (a := hp) (xs := houses.map nv))
              (fun j σ H => ∃ (xs as : List Int) (v7 v9 v12 : Option V), σ = [some (.ref a), some (.int (i : Nat)), some (.ref b), some (.int (n : Nat)), some (.ref ta), some (.ref w), some (.int (m : Nat)), v7, some (.ref sa), v9, some (.ref aa), some (.ref c), v12] ∧ Fr CW [] H0' H ∧ LawSt CW CC H c w ta sa aa n ts m (15 + 21 * j) xs as ∧ H hp = some (.lst (houses.map nv)) ∧
                ∀ j' x, j' < j → houses[j']? = some x → ∀ i t, ts[i]? = some t → t.1 = x → RestAt ts (fS xs as) i)
              ⟨xs, as, _, _, _, rfl, f22, L22, hhp, fun j' x hj => absurd hj (Nat.not_lt_zero _)⟩ (fun j σ H _ h2 => ?_) ?_ ?_⟩
            · obtain ⟨_, _, _, _, _, _, _, _, h2, _⟩ := h2
              exact SqL.of h2
            · rintro j v σ H23 H23' hj ⟨xs, as, v7, v9, v12, rfl, f23, L23, hh23, rest⟩ ⟨rfl, hv⟩
              rw [List.getElem?_map] at hv
              obtain ⟨h, eh, rfl⟩ := Option.map_eq_some_iff.mp hv
              have hhn : h < n := (hhm h).mp (List.mem_of_getElem? eh)
              have hjn : j < n := by
                rw [List.length_map, hhl] at hj
                exact hj
              refine ⟨_, rfl, _, rfl, _, rfl, _, rfl, _, rfl, _, rfl, by show 2 ≤ sizeLine; decide, fun nl hnl => ?_⟩
              have g24 : Fr CW [] H23' (upd H23' nl (.lst [.ref sa, .ref aa])) := Fr.refl.new hnl
              have e24 : upd H23' nl (.lst [.ref sa, .ref aa]) nl = some (.lst [.ref sa, .ref aa]) := upd_same
              have L24 := L23.fr g24 (by simp) (by simp) (by simp)
              have hh24 := g24.ot _ _ (by simp) hh23
              have f24 := f23.trans g24
              generalize upd H23' nl (.lst [.ref sa, .ref aa]) = H24 at g24 e24 L24 hh24 f24
              refine ⟨_, rfl, c, w, ta, sa, aa, nl, n, m, 15 + 21 * j, h, ts, xs, as, rfl, L24, e24, nsa, hhn, hF, by omega, fun H25 xs' as' g25 L25 r1 r2 => ⟨true, rfl, iteF ?_⟩⟩
              refine ⟨xs', as', _, _, _, rfl, f24.drop g25 (by simp [hcX, hsaX, haaX]), ⟨L25.net, L25.st, L25.ar, L25.ta, L25.so.mono (by omega), ok⟩, g25.ot _ _ (by simp [nhc, nhs, nha]) hh24, fun j' x hj' ex i' t et hx => ?_⟩
              by_cases e : j' < j
              · exact r1 i' (rest j' x e ex i' t et hx)
              · obtain rfl : j' = j := by omega
                rw [eh] at ex
                cases ex
                exact r2 i' t et hx
            · rintro σ H23 ⟨xs, as, v7, v9, v12, rfl, f23, L23, hh23, rest⟩
              have lx := L23.so.lx
              have la' := L23.so.la
              have so23 := L23.so.mono (k := 270) (by rw [List.length_map, hhl]; omega)
              have L23 : LawSt CW CC H23 c w ta sa aa n ts m 270 xs as := ⟨L23.net, L23.st, L23.ar, L23.ta, so23, ok⟩
              have allR : ∀ i t, ts[i]? = some t → RestAt ts (fS xs as) i := fun i t et => by
                obtain ⟨o1, _⟩ := ok.ok t (List.mem_of_getElem? et)
                obtain ⟨j, hj⟩ := List.getElem?_of_mem ((hhm t.1).mpr o1)
                refine rest j t.1 ?_ hj i t et rfl
                rw [List.length_map]
                exact (List.getElem?_eq_some_iff.mp hj).1
              have hr1 : restB ts xs as = true := by
                unfold restB
                rw [List.all_eq_true]
                intro i hi
                have et : ts[i]? = some (ts[i]'(List.mem_range.mp hi)) := by simp
                obtain ⟨q1, q2⟩ := allR i _ et _ et
                unfold restAtB
                rw [et]
                show (decide _ && decide _) = true
                rw [Bool.and_eq_true, decide_eq_true_eq, decide_eq_true_eq]
                exact ⟨q1.trans q2.symm, q2⟩
              refine ⟨_, rfl, rfl, rfl, c, w, n, m, ts, xs, as, rfl, L23.net, ok, lx, la', fun H24 g24 => ?_⟩
              rw [hr1]
              have L24 := L23.fr g24 (by simp) (by simp) (by simp)
              have f24 := f23.trans g24
              refine ⟨true, true, rfl, rfl, _, rfl, ?_⟩
              refine iteF ?_
              obtain ⟨ps24, htap24, hps24⟩ := id L24.ta
              refine ⟨_, rfl, ta, ps24, rfl, .inr (SqT.of htap24), (ts.length : Int), by rw [hps24.1], by omega, by omega, for_it (walk_range (lo := 0) (n := ts.length))
                (fun j σ H => ∃ (v7 v9 v12 : Option V), σ = [some (.ref a), some (.int (i : Nat)), some (.ref b), some (.int (n : Nat)), some (.ref ta), some (.ref w), some (.int (m : Nat)), v7, some (.ref sa), v9, some (.ref aa), some (.ref c), v12] ∧ Fr CW [] H0' H ∧ LawSt CW CC H c w ta sa aa n ts m 270 xs as)
                ⟨_, _, _, rfl, f24, L24⟩ (fun _ _ _ _ _ => trivial) ?_ ?_⟩
              · rintro j v σ H25 H25' hj ⟨v7, v9, v12, rfl, f25, L25⟩ ⟨rfl, rfl⟩
                dsimp only
                rw [Int.zero_add]
                have et : ts[j]? = some ts[j] := by simp [hj]
                obtain ⟨o1, o2, _⟩ := ok.ok ts[j] (List.getElem_mem hj)
                obtain ⟨q1, q2⟩ := allR j _ et _ et
                obtain ⟨dx25, s25, a25, hc25, _⟩ := id L25.net
                refine ⟨_, rfl, c, dx25, _, rfl, hc25, rfl, _, rfl, c, w, n, m, j, ts, ts[j], xs, as, rfl, L25.net, ok, lx, la', et, fun H26 g26 net26 => ?_⟩
                have e26 := fS_meet (m := m) (xs := xs) (as := as) et (by omega) (by omega) (by omega)
                rw [fmeet_rest et q1 q2 (so23.nrm.2 j)] at e26
                obtain ⟨ex, ea⟩ := fS_inj e26 (by unfold metX; rw [List.length_set, List.length_set]) (by rw [List.length_set])
                rw [ex, ea] at net26
                exact ⟨_, _, _, rfl, f25.drop g26 (by simp [hcX]), ⟨net26, g26.ot _ _ (by simp [ncs.symm]) L25.st, g26.ot _ _ (by simp [nca.symm]) L25.ar, L25.ta.fr g26, so23, ok⟩⟩
              · rintro σ H25 ⟨v7, v9, v12, rfl, f25, L25⟩
                obtain ⟨dx25, s25, a25, hc25, hw25, hs25, ha25⟩ := id L25.net
                obtain ⟨z, hz⟩ : ∃ z, z = shT [.inr xs, .inr as] := ⟨_, rfl⟩
                have okl : ∀ d ∈ ([.inr xs, .inr as] : List IT), okIT d := fun d hd => by
                  rcases List.mem_cons.mp hd with rfl | hd
                  · exact ⟨by omega, fun i hi => okI_of (so23.ox i hi) (by decide)⟩
                  rcases List.mem_cons.mp hd with rfl | hd
                  · exact ⟨by omega, fun i hi => okI_of (so23.oa i hi) (by decide)⟩
                  · simp at hd
                have itl : ∀ (H : Hp) (p q : Addr), H p = some (.tup (xs.map V.int)) → H q = some (.tup (as.map V.int)) → ItsAt H [.ref p, .ref q] [.inr xs, .inr as] := fun H p q h1 h2 => .cons (.tup h1) (.cons (.tup h2) .nil)
                refine ⟨_, rfl, c, CC, dx25, _, _, rfl, hc25, C.cl, C.nS, netF_st, _, rfl, c, CC, dx25, _, _, rfl, hc25, C.cl, C.nA, netF_ar, by show 2 ≤ sizeLine; decide, fun p1 hp1 => ?_⟩
                have g26 : Fr CW [] H25 (upd H25 p1 (.tup [.ref s25, .ref a25])) := Fr.refl.new hp1
                refine ⟨p1, _, _, rfl, upd_same, itl _ _ _ (g26.tup hs25) (g26.tup ha25), (by show 2 ≤ 3; decide), okl, ?_⟩
                rw [← hz]
                have L26 := L25.fr g26 (by simp) (by simp) (by simp)
                generalize upd H25 p1 (.tup [.ref s25, .ref a25]) = H26 at g26 L26
                refine ⟨_, rfl, sa, _, rfl, .inl ⟨SqL.of L26.st, fun p2 hp2 => ?_⟩⟩
                have g27 : Fr CW [] H26 (upd H26 p2 (.tup (xs.map V.int))) := Fr.refl.new hp2
                have e27 : upd H26 p2 (.tup (xs.map V.int)) p2 = some (.tup (xs.map V.int)) := upd_same
                have L27 := L26.fr g27 (by simp) (by simp) (by simp)
                generalize upd H26 p2 (.tup (xs.map V.int)) = H27 at g27 e27 L27
                refine ⟨_, rfl, aa, _, rfl, .inl ⟨SqL.of L27.ar, fun p3 hp3 => ?_⟩⟩
                have g28 : Fr CW [] H27 (upd H27 p3 (.tup (as.map V.int))) := Fr.refl.new hp3
                have e28 : upd H27 p3 (.tup (as.map V.int)) p3 = some (.tup (as.map V.int)) := upd_same
                have e28' := g28.tup e27
                generalize upd H27 p3 (.tup (as.map V.int)) = H28 at g28 e28 e28'
                refine ⟨by show 2 ≤ sizeLine; decide, fun p4 hp4 => ?_⟩
                have g29 : Fr CW [] H28 (upd H28 p4 (.tup [.ref p2, .ref p3])) := Fr.refl.new hp4
                refine ⟨p4, _, _, rfl, upd_same, itl _ _ _ (g29.tup e28') (g29.tup e28), (by show 2 ≤ 3; decide), okl, ?_⟩
                rw [← hz]
                clear hz
                have f29 := (((f25.trans g26).trans g27).trans g28).trans g29
                generalize upd H28 p4 (.tup [.ref p2, .ref p3]) = H29 at g29 f29
                refine ⟨rfl, _, rfl, ?_⟩
                rw [show (decide (V.str z = V.str z)) = true from decide_eq_true rfl]
                refine iteF ?_
                exact ⟨_, _, _, _, _, _, _, _, _, _, _, _, rfl, SqL.fr ha0 f29⟩
    · rintro σ H2 ⟨v1, v2, v3, v4, v5, v6, v7, v8, v9, v10, v11, v12, rfl, ha2⟩
      exact kk H2
end
end Hou
set_option Elab.async false
set_option linter.all false
set_option maxRecDepth 100000
set_option autoImplicit false
set_option maxHeartbeats 4000000
/-! the end: the law at the heap behind the top, no repr under way (adapted from HandS.Ends, whose promise says nothing of guards) -/
namespace Hou
open PySem PySem.Spec PyProof.Rows L2
theorem law_callG {P : Program} {w : World} {K : PySem.W.Frag} {mg mb : Str → Option Value} {k : Nat} {fa a : Addr} {fd : FuncData} {x : Str} {sp : Sp} {s₁ : Shared} {vs : List Value} {ns : List Int}
    (KX : K.In s₁.heap) (hns : s₁.heap.Ns mainGlobals mg) (hb : s₁.heap.Ns builtinsNs mb) (hbb : ∀ x : Str, x ≠ "__name__" → mb x = bootBuiltins x) (hlim : s₁.heap.NoLimit) (hg : s₁.gens = #[])
    (ha : s₁.heap.get? a = some { cls := .type "list", data := .seq vs.toArray }) (hi : IntsAre vs ns) (hl : ns.length ≤ sizeLine) (hr : Room k callerA)
    (F : ∀ base : Heap, K.In base → base.Ns mainGlobals mg → FnG P w K mg base k fa fd [x] sp) (hbind : ∀ (s : Shared) (u : Value), BindsTo s fd ⟨[u], []⟩ [(x, u)])
    (hsp : ∀ H : Hp, SqL K H a (ns.map V.int) → sp [.ref a] H (fun v _ => v = .bl true) E0) :
    codeAny (model P w) callerA (.call (.ref fa) ⟨[.ref a], []⟩) (fun r s' => r = .ok (.ret (.bool true)) ∧ OldK s₁.heap s'.heap ∧ s'.os = s₁.os ∧ AllBare s'.gens) s₁ := by
  have rv := vals_ints hi
  have lenV := hi.length
  -- tracked: nothing, or the script alone
  have core : ∀ H : Hp, Only H → SqL K H a (ns.map V.int) → HOk P w H s₁.heap → (∀ b, H b ≠ none → b = a) → (H a ≠ none → K.lookup a = none) →
      codeAny (model P w) callerA (.call (.ref fa) ⟨[.ref a], []⟩) (fun r s' => r = .ok (.ret (.bool true)) ∧ OldK s₁.heap s'.heap ∧ s'.os = s₁.os ∧ AllBare s'.gens) s₁ := by
    intro H hO hS hok hA hK
    have keep : ∀ {b : Addr} {o : Obj}, s₁.heap.get? b = some o → (b = a → H a = none) → (hidT s₁.heap H).get? b = some o := fun {b o} e n => hidT_get e (by
      cases q : H b with
      | none => rfl
      | some u =>
        have e' := hA b (by rw [q]; simp)
        rw [e', n e'] at q
        cases q)
    have noA : ∀ {b : Addr} {o : Obj} {es : Array DictEntry} {ep : Nat}, s₁.heap.get? b = some o → o.data = .dict es ep → b = a → H a = none := fun {b o es ep} e d e' => by
      rw [e', ha] at e
      cases e
      have d' : Data.seq vs.toArray _ = Data.dict es ep := d
      cases d'
    have nsK : ∀ {b : Addr} {m : Str → Option Value}, s₁.heap.Ns b m → (hidT s₁.heap H).Ns b m := fun {b m} ⟨o, es, ep, e, d, r⟩ => ⟨o, es, ep, keep e (noA e d), d, r⟩
    have hKb : K.In (hidT s₁.heap H) := fun b o e => keep (KX b o e) fun e' => by
      cases q : H a with
      | none => rfl
      | some u =>
        have z := hK (by rw [q]; simp)
        rw [← e', e] at z
        cases z
    have hM : Mod K mg (hidT s₁.heap H) := ⟨hKb, nsK hns, ⟨mb, nsK hb, hbb⟩, let ⟨mc, h1, h2⟩ := hlim; ⟨mc, nsK h1, h2⟩⟩
    have e0 : Env0 P w K mg (hidT s₁.heap H) callerA [] s₁ H := ⟨rfl, hM, fun b o e => of_hidT e, Nat.le_of_eq (hidT_size _ _), trivial, fun b hb => absurd (show b ∈ ([] : List Addr) from hb) (by simp), hok, .of_eq hg⟩
    refine codeAny_mono ((F _ hKb (nsK hns)).run callerA [] s₁ H ⟨[.ref a], []⟩ [.ref a] [.ref a] _ _ hr rfl e0 (hbind s₁ (.ref a)) (.cons rfl .nil) (hsp H hS)) fun r s' h => ?_
    cases r with
    | error e => exact False.elim h
    | ok fl =>
      cases fl with
      | next => exact False.elim h
      | brk => exact False.elim h
      | cont => exact False.elim h
      | ret u =>
        obtain ⟨v, H', os, bare, un, hok', r', q⟩ := h
        have q' : v = .bl true := q
        subst q'
        obtain rfl : u = Value.bool true := r'
        refine ⟨rfl, OldK.of_keep fun b o e => ?_, os, bare⟩
        rcases hO b with z | ⟨ob, xs, z⟩
        · exact un.keep b o e z (by intro y; exact absurd (show b ∈ ([] : List Addr) from y) (by simp)) (by simp)
        · have z2 := un.frzs b ob _ z
          obtain ⟨e1, _⟩ := hok b _ z
          obtain ⟨e2, _⟩ := hok' b _ z2
          rw [e] at e1
          cases e1
          exact e2
  by_cases hk : K.lookup a = none
  · have ifa : ∀ {α : Type} (x y : α), (if a = a then x else y) = x := fun x y => if_pos rfl
    refine core (fun b => if b = a then some (.frz { cls := .type "list", data := .seq vs.toArray } (.lst (ns.map V.int))) else none) (fun b => ?_) (.inl (.inr ⟨{ cls := .type "list", data := .seq vs.toArray }, if_pos rfl⟩)) (fun b u z => ?_) (fun b z => Classical.byContradiction fun n => z (if_neg n)) fun _ => hk
    · by_cases e : b = a
      · exact .inr ⟨_, _, if_pos e⟩
      · exact .inl (if_neg e)
    · by_cases e : b = a
      · have z' := (if_pos e).symm.trans z
        cases z'
        subst e
        exact ⟨ha, by rw [List.length_map]; exact hl, vs, _, rv, ha⟩
      · have z' := (if_neg e).symm.trans z
        cases z'
  · obtain ⟨o, hko⟩ := Option.ne_none_iff_exists'.mp hk
    have e := KX a o hko
    rw [ha] at e
    cases e
    exact core (fun _ => none) (fun _ => .inl rfl) (.inr ⟨_, vs.toArray, _, hko, rfl, rfl, rfl, by rw [List.size_toArray, lenV]; exact hl, by simpa using rv⟩) (fun b u z => nomatch (show (none : Option HO) = some u from z)) (fun b z => absurd rfl z) fun z => absurd rfl z
/-- the goal that the head leaves -/
theorem walk_ofG {l : PySem.W.OpenLaw} {n k : Nat} {q : Program} {loose : List Str} {lv : List (Str × PySem.W.WData)} {YP : World → Heap → Prop} {d : DefRec} {K : Params → PySem.W.Frag} {sp : PySem.W.Frag → Sp} {x : Str}
    (hn : l.most = some n) (hn2 : n ≤ sizeLine) (hdf : d.params.defaults = []) (hr : Room k callerA) (hY : ∀ (w : World) (h : Heap), YP w h → (K w.params).In h)
    (F : ∀ (w : World) (mg : Str → Option Value) (fa : Addr) (h : Heap), (K w.params).In h → h.Ns mainGlobals mg → mg d.name = some (.ref fa) → PySem.W.LooseAre lv mg h →
      ∃ fd : FuncData, (∀ (s : Shared) (u : Value), BindsTo s fd ⟨[u], []⟩ [(x, u)]) ∧ ∀ base : Heap, (K w.params).In base → base.Ns mainGlobals mg → FnG l.prog w (K w.params) mg base k fa fd [x] (sp (K w.params)))
    (hsp : ∀ (K : PySem.W.Frag) (H : Hp) (a : Addr) (ns : List Int), ns.length ≤ n → SqL K H a (ns.map V.int) → sp K [.ref a] H (fun v _ => v = .bl true) E0) :
    PySem.W.WalkO q loose (PySem.W.XL q lv) YP l.row.toRowW d [] (fun f vs => PySem.call f vs) := by
  refine Att.attach_call hn hdf fun w s₀ s₁ mg mb fa o pm cd doc a vs ns G Y ho hd hcd hmg hobj hints hlen hg => ?_
  have KX := hY w _ Y
  obtain ⟨fd, hb, hF⟩ := F w mg fa _ KX G.T.g hmg G.X.2
  exact law_callG KX G.T.g G.T.b G.T.builtins G.T.nolimit hg hobj hints (Nat.le_trans hlen hn2) hr hF hb fun H hS => hsp _ H a ns hlen hS
end Hou
set_option Elab.async false
set_option linter.all false
set_option maxRecDepth 100000
set_option autoImplicit false
set_option maxHeartbeats 8000000
/-! what the top has written, printed by mkfacts27.py -/
namespace Hou
open PySem PySem.Spec PyProof.Rows L2
theorem fun_uniq {K : PySem.W.Frag} {x q x' q' : Str} {st st' : Stmt} {f : Addr} {fd fd' : FuncData} (F : Fun K x q st f fd) (F' : Fun K x' q' st' f fd') : fd = fd' := by
  obtain ⟨_, _, _, _, _, _, _, _, _, e1, l1, _⟩ := F.ex
  obtain ⟨_, _, _, _, _, _, _, _, _, e2, l2, _⟩ := F'.ex
  rw [l1] at l2
  have e3 := congrArg Obj.data (Option.some.inj l2)
  exact Data.func.inj e3
theorem loose_int {mg : Str → Option Value} {h : Heap} {n : Str} {i : Int} (x : ∃ v, mg n = some v ∧ PySem.W.ReadsLit h v (.int i) []) : ∃ t, mg n = some (.int i t) := by
  obtain ⟨v, e, r⟩ := x
  cases r
  exact ⟨_, e⟩
theorem all_mk {l : PySem.W.OpenLaw} {w : World} {K : PySem.W.Frag} {h : Heap} {mg : Str → Option Value} {fa : Addr} (X : K.In h) (G : h.Ns mainGlobals mg) (hfa : mg "law" = some (.ref fa)) (hL : PySem.W.LooseAre [("MOST_WRAP", .int 1000000), ("MOST_NUMBER", .int 1000000000000000000)] mg h)
    {CW CC : Addr}
    {tH tT : Nat}
    {fis_integer : Addr} {odis_integer anis_integer : Option Addr} {slis_integer : Array (Option Value)} {ocis_integer kVis_integer dcis_integer pmis_integer cdis_integer ctis_integer : Value}
    {fis_number : Addr} {odis_number anis_number : Option Addr} {slis_number : Array (Option Value)} {ocis_number kVis_number dcis_number pmis_number cdis_number ctis_number : Value}
    {fis_below : Addr} {odis_below anis_below : Option Addr} {slis_below : Array (Option Value)} {ocis_below kVis_below dcis_below pmis_below cdis_below ctis_below : Value}
    {fis_within : Addr} {odis_within anis_within : Option Addr} {slis_within : Array (Option Value)} {ocis_within kVis_within dcis_within pmis_within cdis_within ctis_within : Value}
    {fis_sequence : Addr} {odis_sequence anis_sequence : Option Addr} {slis_sequence : Array (Option Value)} {ocis_sequence kVis_sequence dcis_sequence pmis_sequence cdis_sequence ctis_sequence : Value}
    {fis_pair : Addr} {odis_pair anis_pair : Option Addr} {slis_pair : Array (Option Value)} {ocis_pair kVis_pair dcis_pair pmis_pair cdis_pair ctis_pair : Value}
    {fcheck_ties : Addr} {odcheck_ties ancheck_ties : Option Addr} {slcheck_ties : Array (Option Value)} {occheck_ties kVcheck_ties dccheck_ties pmcheck_ties cdcheck_ties ctcheck_ties : Value}
    {fneed_house : Addr} {odneed_house anneed_house : Option Addr} {slneed_house : Array (Option Value)} {ocneed_house kVneed_house dcneed_house pmneed_house cdneed_house ctneed_house : Value}
    {fneed_tie : Addr} {odneed_tie anneed_tie : Option Addr} {slneed_tie : Array (Option Value)} {ocneed_tie kVneed_tie dcneed_tie pmneed_tie cdneed_tie ctneed_tie : Value}
    {fother_end : Addr} {odother_end another_end : Option Addr} {slother_end : Array (Option Value)} {ocother_end kVother_end dcother_end pmother_end cdother_end ctother_end : Value}
    {fties_at : Addr} {odties_at anties_at : Option Addr} {slties_at : Array (Option Value)} {octies_at kVties_at dcties_at pmties_at cdties_at ctties_at : Value}
    {fjoined_houses : Addr} {odjoined_houses anjoined_houses : Option Addr} {sljoined_houses : Array (Option Value)} {ocjoined_houses kVjoined_houses dcjoined_houses pmjoined_houses cdjoined_houses ctjoined_houses : Value}
    {fpart_of : Addr} {odpart_of anpart_of : Option Addr} {slpart_of : Array (Option Value)} {ocpart_of kVpart_of dcpart_of pmpart_of cdpart_of ctpart_of : Value}
    {fparts_of : Addr} {odparts_of anparts_of : Option Addr} {slparts_of : Array (Option Value)} {ocparts_of kVparts_of dcparts_of pmparts_of cdparts_of ctparts_of : Value}
    {frings_in : Addr} {odrings_in anrings_in : Option Addr} {slrings_in : Array (Option Value)} {ocrings_in kVrings_in dcrings_in pmrings_in cdrings_in ctrings_in : Value}
    {frings_of : Addr} {odrings_of anrings_of : Option Addr} {slrings_of : Array (Option Value)} {ocrings_of kVrings_of dcrings_of pmrings_of cdrings_of ctrings_of : Value}
    {fcheck_modulus : Addr} {odcheck_modulus ancheck_modulus : Option Addr} {slcheck_modulus : Array (Option Value)} {occheck_modulus kVcheck_modulus dccheck_modulus pmcheck_modulus cdcheck_modulus ctcheck_modulus : Value}
    {fis_counter : Addr} {odis_counter anis_counter : Option Addr} {slis_counter : Array (Option Value)} {ocis_counter kVis_counter dcis_counter pmis_counter cdis_counter ctis_counter : Value}
    {fcheck_numbers : Addr} {odcheck_numbers ancheck_numbers : Option Addr} {slcheck_numbers : Array (Option Value)} {occheck_numbers kVcheck_numbers dccheck_numbers pmcheck_numbers cdcheck_numbers ctcheck_numbers : Value}
    {fcounted_as : Addr} {odcounted_as ancounted_as : Option Addr} {slcounted_as : Array (Option Value)} {occounted_as kVcounted_as dccounted_as pmcounted_as cdcounted_as ctcounted_as : Value}
    {fbook_of : Addr} {odbook_of anbook_of : Option Addr} {slbook_of : Array (Option Value)} {ocbook_of kVbook_of dcbook_of pmbook_of cdbook_of ctbook_of : Value}
    {fis_rest : Addr} {odis_rest anis_rest : Option Addr} {slis_rest : Array (Option Value)} {ocis_rest kVis_rest dcis_rest pmis_rest cdis_rest ctis_rest : Value}
    {ftie_ends : Addr} {odtie_ends antie_ends : Option Addr} {sltie_ends : Array (Option Value)} {octie_ends kVtie_ends dctie_ends pmtie_ends cdtie_ends cttie_ends : Value}
    {fsweep : Addr} {odsweep answeep : Option Addr} {slsweep : Array (Option Value)} {ocsweep kVsweep dcsweep pmsweep cdsweep ctsweep : Value}
    {flaw_box : Addr} {odlaw_box anlaw_box : Option Addr} {sllaw_box : Array (Option Value)} {oclaw_box kVlaw_box dclaw_box pmlaw_box cdlaw_box ctlaw_box : Value}
    {flaw_take : Addr} {odlaw_take anlaw_take : Option Addr} {sllaw_take : Array (Option Value)} {oclaw_take kVlaw_take dclaw_take pmlaw_take cdlaw_take ctlaw_take : Value}
    {flaw_pick : Addr} {odlaw_pick anlaw_pick : Option Addr} {sllaw_pick : Array (Option Value)} {oclaw_pick kVlaw_pick dclaw_pick pmlaw_pick cdlaw_pick ctlaw_pick : Value}
    {flaw_mixed : Addr} {odlaw_mixed anlaw_mixed : Option Addr} {sllaw_mixed : Array (Option Value)} {oclaw_mixed kVlaw_mixed dclaw_mixed pmlaw_mixed cdlaw_mixed ctlaw_mixed : Value}
    {flaw_forest : Addr} {odlaw_forest anlaw_forest : Option Addr} {sllaw_forest : Array (Option Value)} {oclaw_forest kVlaw_forest dclaw_forest pmlaw_forest cdlaw_forest ctlaw_forest : Value}
    {flaw_part : Addr} {odlaw_part anlaw_part : Option Addr} {sllaw_part : Array (Option Value)} {oclaw_part kVlaw_part dclaw_part pmlaw_part cdlaw_part ctlaw_part : Value}
    {flaw_number : Addr} {odlaw_number anlaw_number : Option Addr} {sllaw_number : Array (Option Value)} {oclaw_number kVlaw_number dclaw_number pmlaw_number cdlaw_number ctlaw_number : Value}
    {flaw_wrapped : Addr} {odlaw_wrapped anlaw_wrapped : Option Addr} {sllaw_wrapped : Array (Option Value)} {oclaw_wrapped kVlaw_wrapped dclaw_wrapped pmlaw_wrapped cdlaw_wrapped ctlaw_wrapped : Value}
    {flaw_book : Addr} {odlaw_book anlaw_book : Option Addr} {sllaw_book : Array (Option Value)} {oclaw_book kVlaw_book dclaw_book pmlaw_book cdlaw_book ctlaw_book : Value}
    {flaw_met : Addr} {odlaw_met anlaw_met : Option Addr} {sllaw_met : Array (Option Value)} {oclaw_met kVlaw_met dclaw_met pmlaw_met cdlaw_met ctlaw_met : Value}
    {flaw_steps_right : Addr} {odlaw_steps_right anlaw_steps_right : Option Addr} {sllaw_steps_right : Array (Option Value)} {oclaw_steps_right kVlaw_steps_right dclaw_steps_right pmlaw_steps_right cdlaw_steps_right ctlaw_steps_right : Value}
    {flaw_swept : Addr} {odlaw_swept anlaw_swept : Option Addr} {sllaw_swept : Array (Option Value)} {oclaw_swept kVlaw_swept dclaw_swept pmlaw_swept cdlaw_swept ctlaw_swept : Value}
    {fL : Addr} {odL anL : Option Addr} {slL : Array (Option Value)} {ocL kVL dcL pmL cdL ctL : Value}
    {fWebinit : Addr} {odWebinit anWebinit : Option Addr} {slWebinit : Array (Option Value)} {ocWebinit kVWebinit dcWebinit pmWebinit cdWebinit ctWebinit : Value}
    {fWebeq : Addr} {odWebeq anWebeq : Option Addr} {slWebeq : Array (Option Value)} {ocWebeq kVWebeq dcWebeq pmWebeq cdWebeq ctWebeq : Value}
    {fCounterNetinit : Addr} {odCounterNetinit anCounterNetinit : Option Addr} {slCounterNetinit : Array (Option Value)} {ocCounterNetinit kVCounterNetinit dcCounterNetinit pmCounterNetinit cdCounterNetinit ctCounterNetinit : Value}
    {fCounterNetdo : Addr} {odCounterNetdo anCounterNetdo : Option Addr} {slCounterNetdo : Array (Option Value)} {ocCounterNetdo kVCounterNetdo dcCounterNetdo pmCounterNetdo cdCounterNetdo ctCounterNetdo : Value}
    {fCounterNetmeet : Addr} {odCounterNetmeet anCounterNetmeet : Option Addr} {slCounterNetmeet : Array (Option Value)} {ocCounterNetmeet kVCounterNetmeet dcCounterNetmeet pmCounterNetmeet cdCounterNetmeet ctCounterNetmeet : Value}
    {fCounterNetbook : Addr} {odCounterNetbook anCounterNetbook : Option Addr} {slCounterNetbook : Array (Option Value)} {ocCounterNetbook kVCounterNetbook dcCounterNetbook pmCounterNetbook cdCounterNetbook ctCounterNetbook : Value}
    (gCW : PySem.W.nsIn K mainGlobals "Web" = some (some (.ref CW)))
    (pgCW : PySem.W.plainGet K CW Str.empty = true)
    (hdCW : PySem.W.hasDictIn K CW = true)
    (poCW : PySem.W.plainOver K CW = true)
    (saCW : PySem.W.findIn K (.ref CW) "__setattr__" = some (some (.builtin "object.__setattr__")))
    (mkCW : PySem.W.makesIn K CW = true)
    (kcCW : PySem.W.keepIn K (.ref CW) = true)
    (gCC : PySem.W.nsIn K mainGlobals "CounterNet" = some (some (.ref CC)))
    (pgCC : PySem.W.plainGet K CC Str.empty = true)
    (hdCC : PySem.W.hasDictIn K CC = true)
    (poCC : PySem.W.plainOver K CC = true)
    (saCC : PySem.W.findIn K (.ref CC) "__setattr__" = some (some (.builtin "object.__setattr__")))
    (mkCC : PySem.W.makesIn K CC = true)
    (kcCC : PySem.W.keepIn K (.ref CC) = true)
    (nW_ties : PySem.W.findIn K (.ref CW) "ties" = some none)
    (nW_houses : PySem.W.findIn K (.ref CW) "houses" = some none)
    (nC_web : PySem.W.findIn K (.ref CC) "web" = some none)
    (nC_modulus : PySem.W.findIn K (.ref CC) "modulus" = some none)
    (nC_states : PySem.W.findIn K (.ref CC) "states" = some none)
    (nC_archives : PySem.W.findIn K (.ref CC) "archives" = some none)
    (mH : PySem.W.nsIn K mainGlobals "MOST_HOUSES" = some (some (.int 12 tH)))
    (mT : PySem.W.nsIn K mainGlobals "MOST_TIES" = some (some (.int 20 tT)))
    (mro : PySem.W.mroIn K CW (.type "object") = some true)
    (nNe : PySem.W.findIn K (.ref CW) "__ne__" = some (some (.builtin "object.__ne__")))
    (clA : PySem.W.findIn K (.ref CW) "__class__" = some (some (.builtin "object.__class__")))
    (clB : PySem.W.specialIn K (.builtin "object.__class__") "__get__" = some (some (.builtin "getset_descriptor.__get__")))
    (clC : PySem.W.takesIn K (.builtin "object.__class__") = some true)
    (hne : CC ≠ CW)
    (z_isinstance : PySem.W.nsIn K mainGlobals "isinstance" = some none)
    (z_int : PySem.W.nsIn K mainGlobals "int" = some none)
    (z_bool : PySem.W.nsIn K mainGlobals "bool" = some none)
    (z_list : PySem.W.nsIn K mainGlobals "list" = some none)
    (z_tuple : PySem.W.nsIn K mainGlobals "tuple" = some none)
    (z_abs : PySem.W.nsIn K mainGlobals "abs" = some none)
    (z_len : PySem.W.nsIn K mainGlobals "len" = some none)
    (z_range : PySem.W.nsIn K mainGlobals "range" = some none)
    (z_sorted : PySem.W.nsIn K mainGlobals "sorted" = some none)
    (z_sum : PySem.W.nsIn K mainGlobals "sum" = some none)
    (z_max : PySem.W.nsIn K mainGlobals "max" = some none)
    (z_min : PySem.W.nsIn K mainGlobals "min" = some none)
    (z_repr : PySem.W.nsIn K mainGlobals "repr" = some none)
    (z_all : PySem.W.nsIn K mainGlobals "all" = some none)
    (z_enumerate : PySem.W.nsIn K mainGlobals "enumerate" = some none)
    (z_zip : PySem.W.nsIn K mainGlobals "zip" = some none)
    (ais_integer : PySem.W.nsIn K mainGlobals "is_integer" = some (some (.ref fis_integer)))
    (lis_integer : K.lookup fis_integer = some ⟨ocis_integer, odis_integer, .func (PySem.W.fnOf "is_integer" "is_integer" (defArgs s_is_integer) (defBody s_is_integer) (defScope s_is_integer) .none kVis_integer dcis_integer pmis_integer anis_integer cdis_integer ctis_integer), slis_integer⟩)
    (cis_integer : PySem.W.codeIn K cdis_integer "is_integer" = true)
    (kis_integer : PySem.W.keepIn K (.ref fis_integer) = true)
    (ais_number : PySem.W.nsIn K mainGlobals "is_number" = some (some (.ref fis_number)))
    (lis_number : K.lookup fis_number = some ⟨ocis_number, odis_number, .func (PySem.W.fnOf "is_number" "is_number" (defArgs s_is_number) (defBody s_is_number) (defScope s_is_number) .none kVis_number dcis_number pmis_number anis_number cdis_number ctis_number), slis_number⟩)
    (cis_number : PySem.W.codeIn K cdis_number "is_number" = true)
    (kis_number : PySem.W.keepIn K (.ref fis_number) = true)
    (ais_below : PySem.W.nsIn K mainGlobals "is_below" = some (some (.ref fis_below)))
    (lis_below : K.lookup fis_below = some ⟨ocis_below, odis_below, .func (PySem.W.fnOf "is_below" "is_below" (defArgs s_is_below) (defBody s_is_below) (defScope s_is_below) .none kVis_below dcis_below pmis_below anis_below cdis_below ctis_below), slis_below⟩)
    (cis_below : PySem.W.codeIn K cdis_below "is_below" = true)
    (kis_below : PySem.W.keepIn K (.ref fis_below) = true)
    (ais_within : PySem.W.nsIn K mainGlobals "is_within" = some (some (.ref fis_within)))
    (lis_within : K.lookup fis_within = some ⟨ocis_within, odis_within, .func (PySem.W.fnOf "is_within" "is_within" (defArgs s_is_within) (defBody s_is_within) (defScope s_is_within) .none kVis_within dcis_within pmis_within anis_within cdis_within ctis_within), slis_within⟩)
    (cis_within : PySem.W.codeIn K cdis_within "is_within" = true)
    (kis_within : PySem.W.keepIn K (.ref fis_within) = true)
    (ais_sequence : PySem.W.nsIn K mainGlobals "is_sequence" = some (some (.ref fis_sequence)))
    (lis_sequence : K.lookup fis_sequence = some ⟨ocis_sequence, odis_sequence, .func (PySem.W.fnOf "is_sequence" "is_sequence" (defArgs s_is_sequence) (defBody s_is_sequence) (defScope s_is_sequence) .none kVis_sequence dcis_sequence pmis_sequence anis_sequence cdis_sequence ctis_sequence), slis_sequence⟩)
    (cis_sequence : PySem.W.codeIn K cdis_sequence "is_sequence" = true)
    (kis_sequence : PySem.W.keepIn K (.ref fis_sequence) = true)
    (ais_pair : PySem.W.nsIn K mainGlobals "is_pair" = some (some (.ref fis_pair)))
    (lis_pair : K.lookup fis_pair = some ⟨ocis_pair, odis_pair, .func (PySem.W.fnOf "is_pair" "is_pair" (defArgs s_is_pair) (defBody s_is_pair) (defScope s_is_pair) .none kVis_pair dcis_pair pmis_pair anis_pair cdis_pair ctis_pair), slis_pair⟩)
    (cis_pair : PySem.W.codeIn K cdis_pair "is_pair" = true)
    (kis_pair : PySem.W.keepIn K (.ref fis_pair) = true)
    (acheck_ties : PySem.W.nsIn K mainGlobals "check_ties" = some (some (.ref fcheck_ties)))
    (lcheck_ties : K.lookup fcheck_ties = some ⟨occheck_ties, odcheck_ties, .func (PySem.W.fnOf "check_ties" "check_ties" (defArgs s_check_ties) (defBody s_check_ties) (defScope s_check_ties) .none kVcheck_ties dccheck_ties pmcheck_ties ancheck_ties cdcheck_ties ctcheck_ties), slcheck_ties⟩)
    (ccheck_ties : PySem.W.codeIn K cdcheck_ties "check_ties" = true)
    (kcheck_ties : PySem.W.keepIn K (.ref fcheck_ties) = true)
    (aneed_house : PySem.W.nsIn K mainGlobals "need_house" = some (some (.ref fneed_house)))
    (lneed_house : K.lookup fneed_house = some ⟨ocneed_house, odneed_house, .func (PySem.W.fnOf "need_house" "need_house" (defArgs s_need_house) (defBody s_need_house) (defScope s_need_house) .none kVneed_house dcneed_house pmneed_house anneed_house cdneed_house ctneed_house), slneed_house⟩)
    (cneed_house : PySem.W.codeIn K cdneed_house "need_house" = true)
    (kneed_house : PySem.W.keepIn K (.ref fneed_house) = true)
    (aneed_tie : PySem.W.nsIn K mainGlobals "need_tie" = some (some (.ref fneed_tie)))
    (lneed_tie : K.lookup fneed_tie = some ⟨ocneed_tie, odneed_tie, .func (PySem.W.fnOf "need_tie" "need_tie" (defArgs s_need_tie) (defBody s_need_tie) (defScope s_need_tie) .none kVneed_tie dcneed_tie pmneed_tie anneed_tie cdneed_tie ctneed_tie), slneed_tie⟩)
    (cneed_tie : PySem.W.codeIn K cdneed_tie "need_tie" = true)
    (kneed_tie : PySem.W.keepIn K (.ref fneed_tie) = true)
    (aother_end : PySem.W.nsIn K mainGlobals "other_end" = some (some (.ref fother_end)))
    (lother_end : K.lookup fother_end = some ⟨ocother_end, odother_end, .func (PySem.W.fnOf "other_end" "other_end" (defArgs s_other_end) (defBody s_other_end) (defScope s_other_end) .none kVother_end dcother_end pmother_end another_end cdother_end ctother_end), slother_end⟩)
    (cother_end : PySem.W.codeIn K cdother_end "other_end" = true)
    (kother_end : PySem.W.keepIn K (.ref fother_end) = true)
    (aties_at : PySem.W.nsIn K mainGlobals "ties_at" = some (some (.ref fties_at)))
    (lties_at : K.lookup fties_at = some ⟨octies_at, odties_at, .func (PySem.W.fnOf "ties_at" "ties_at" (defArgs s_ties_at) (defBody s_ties_at) (defScope s_ties_at) .none kVties_at dcties_at pmties_at anties_at cdties_at ctties_at), slties_at⟩)
    (cties_at : PySem.W.codeIn K cdties_at "ties_at" = true)
    (kties_at : PySem.W.keepIn K (.ref fties_at) = true)
    (ajoined_houses : PySem.W.nsIn K mainGlobals "joined_houses" = some (some (.ref fjoined_houses)))
    (ljoined_houses : K.lookup fjoined_houses = some ⟨ocjoined_houses, odjoined_houses, .func (PySem.W.fnOf "joined_houses" "joined_houses" (defArgs s_joined_houses) (defBody s_joined_houses) (defScope s_joined_houses) .none kVjoined_houses dcjoined_houses pmjoined_houses anjoined_houses cdjoined_houses ctjoined_houses), sljoined_houses⟩)
    (cjoined_houses : PySem.W.codeIn K cdjoined_houses "joined_houses" = true)
    (kjoined_houses : PySem.W.keepIn K (.ref fjoined_houses) = true)
    (apart_of : PySem.W.nsIn K mainGlobals "part_of" = some (some (.ref fpart_of)))
    (lpart_of : K.lookup fpart_of = some ⟨ocpart_of, odpart_of, .func (PySem.W.fnOf "part_of" "part_of" (defArgs s_part_of) (defBody s_part_of) (defScope s_part_of) .none kVpart_of dcpart_of pmpart_of anpart_of cdpart_of ctpart_of), slpart_of⟩)
    (cpart_of : PySem.W.codeIn K cdpart_of "part_of" = true)
    (kpart_of : PySem.W.keepIn K (.ref fpart_of) = true)
    (aparts_of : PySem.W.nsIn K mainGlobals "parts_of" = some (some (.ref fparts_of)))
    (lparts_of : K.lookup fparts_of = some ⟨ocparts_of, odparts_of, .func (PySem.W.fnOf "parts_of" "parts_of" (defArgs s_parts_of) (defBody s_parts_of) (defScope s_parts_of) .none kVparts_of dcparts_of pmparts_of anparts_of cdparts_of ctparts_of), slparts_of⟩)
    (cparts_of : PySem.W.codeIn K cdparts_of "parts_of" = true)
    (kparts_of : PySem.W.keepIn K (.ref fparts_of) = true)
    (arings_in : PySem.W.nsIn K mainGlobals "rings_in" = some (some (.ref frings_in)))
    (lrings_in : K.lookup frings_in = some ⟨ocrings_in, odrings_in, .func (PySem.W.fnOf "rings_in" "rings_in" (defArgs s_rings_in) (defBody s_rings_in) (defScope s_rings_in) .none kVrings_in dcrings_in pmrings_in anrings_in cdrings_in ctrings_in), slrings_in⟩)
    (crings_in : PySem.W.codeIn K cdrings_in "rings_in" = true)
    (krings_in : PySem.W.keepIn K (.ref frings_in) = true)
    (arings_of : PySem.W.nsIn K mainGlobals "rings_of" = some (some (.ref frings_of)))
    (lrings_of : K.lookup frings_of = some ⟨ocrings_of, odrings_of, .func (PySem.W.fnOf "rings_of" "rings_of" (defArgs s_rings_of) (defBody s_rings_of) (defScope s_rings_of) .none kVrings_of dcrings_of pmrings_of anrings_of cdrings_of ctrings_of), slrings_of⟩)
    (crings_of : PySem.W.codeIn K cdrings_of "rings_of" = true)
    (krings_of : PySem.W.keepIn K (.ref frings_of) = true)
    (acheck_modulus : PySem.W.nsIn K mainGlobals "check_modulus" = some (some (.ref fcheck_modulus)))
    (lcheck_modulus : K.lookup fcheck_modulus = some ⟨occheck_modulus, odcheck_modulus, .func (PySem.W.fnOf "check_modulus" "check_modulus" (defArgs s_check_modulus) (defBody s_check_modulus) (defScope s_check_modulus) .none kVcheck_modulus dccheck_modulus pmcheck_modulus ancheck_modulus cdcheck_modulus ctcheck_modulus), slcheck_modulus⟩)
    (ccheck_modulus : PySem.W.codeIn K cdcheck_modulus "check_modulus" = true)
    (kcheck_modulus : PySem.W.keepIn K (.ref fcheck_modulus) = true)
    (ais_counter : PySem.W.nsIn K mainGlobals "is_counter" = some (some (.ref fis_counter)))
    (lis_counter : K.lookup fis_counter = some ⟨ocis_counter, odis_counter, .func (PySem.W.fnOf "is_counter" "is_counter" (defArgs s_is_counter) (defBody s_is_counter) (defScope s_is_counter) .none kVis_counter dcis_counter pmis_counter anis_counter cdis_counter ctis_counter), slis_counter⟩)
    (cis_counter : PySem.W.codeIn K cdis_counter "is_counter" = true)
    (kis_counter : PySem.W.keepIn K (.ref fis_counter) = true)
    (acheck_numbers : PySem.W.nsIn K mainGlobals "check_numbers" = some (some (.ref fcheck_numbers)))
    (lcheck_numbers : K.lookup fcheck_numbers = some ⟨occheck_numbers, odcheck_numbers, .func (PySem.W.fnOf "check_numbers" "check_numbers" (defArgs s_check_numbers) (defBody s_check_numbers) (defScope s_check_numbers) .none kVcheck_numbers dccheck_numbers pmcheck_numbers ancheck_numbers cdcheck_numbers ctcheck_numbers), slcheck_numbers⟩)
    (ccheck_numbers : PySem.W.codeIn K cdcheck_numbers "check_numbers" = true)
    (kcheck_numbers : PySem.W.keepIn K (.ref fcheck_numbers) = true)
    (acounted_as : PySem.W.nsIn K mainGlobals "counted_as" = some (some (.ref fcounted_as)))
    (lcounted_as : K.lookup fcounted_as = some ⟨occounted_as, odcounted_as, .func (PySem.W.fnOf "counted_as" "counted_as" (defArgs s_counted_as) (defBody s_counted_as) (defScope s_counted_as) .none kVcounted_as dccounted_as pmcounted_as ancounted_as cdcounted_as ctcounted_as), slcounted_as⟩)
    (ccounted_as : PySem.W.codeIn K cdcounted_as "counted_as" = true)
    (kcounted_as : PySem.W.keepIn K (.ref fcounted_as) = true)
    (abook_of : PySem.W.nsIn K mainGlobals "book_of" = some (some (.ref fbook_of)))
    (lbook_of : K.lookup fbook_of = some ⟨ocbook_of, odbook_of, .func (PySem.W.fnOf "book_of" "book_of" (defArgs s_book_of) (defBody s_book_of) (defScope s_book_of) .none kVbook_of dcbook_of pmbook_of anbook_of cdbook_of ctbook_of), slbook_of⟩)
    (cbook_of : PySem.W.codeIn K cdbook_of "book_of" = true)
    (kbook_of : PySem.W.keepIn K (.ref fbook_of) = true)
    (ais_rest : PySem.W.nsIn K mainGlobals "is_rest" = some (some (.ref fis_rest)))
    (lis_rest : K.lookup fis_rest = some ⟨ocis_rest, odis_rest, .func (PySem.W.fnOf "is_rest" "is_rest" (defArgs s_is_rest) (defBody s_is_rest) (defScope s_is_rest) .none kVis_rest dcis_rest pmis_rest anis_rest cdis_rest ctis_rest), slis_rest⟩)
    (cis_rest : PySem.W.codeIn K cdis_rest "is_rest" = true)
    (kis_rest : PySem.W.keepIn K (.ref fis_rest) = true)
    (atie_ends : PySem.W.nsIn K mainGlobals "tie_ends" = some (some (.ref ftie_ends)))
    (ltie_ends : K.lookup ftie_ends = some ⟨octie_ends, odtie_ends, .func (PySem.W.fnOf "tie_ends" "tie_ends" (defArgs s_tie_ends) (defBody s_tie_ends) (defScope s_tie_ends) .none kVtie_ends dctie_ends pmtie_ends antie_ends cdtie_ends cttie_ends), sltie_ends⟩)
    (ctie_ends : PySem.W.codeIn K cdtie_ends "tie_ends" = true)
    (ktie_ends : PySem.W.keepIn K (.ref ftie_ends) = true)
    (asweep : PySem.W.nsIn K mainGlobals "sweep" = some (some (.ref fsweep)))
    (lsweep : K.lookup fsweep = some ⟨ocsweep, odsweep, .func (PySem.W.fnOf "sweep" "sweep" (defArgs s_sweep) (defBody s_sweep) (defScope s_sweep) .none kVsweep dcsweep pmsweep answeep cdsweep ctsweep), slsweep⟩)
    (csweep : PySem.W.codeIn K cdsweep "sweep" = true)
    (ksweep : PySem.W.keepIn K (.ref fsweep) = true)
    (alaw_box : PySem.W.nsIn K mainGlobals "_law_box" = some (some (.ref flaw_box)))
    (llaw_box : K.lookup flaw_box = some ⟨oclaw_box, odlaw_box, .func (PySem.W.fnOf "_law_box" "_law_box" (defArgs s_law_box) (defBody s_law_box) (defScope s_law_box) .none kVlaw_box dclaw_box pmlaw_box anlaw_box cdlaw_box ctlaw_box), sllaw_box⟩)
    (claw_box : PySem.W.codeIn K cdlaw_box "_law_box" = true)
    (klaw_box : PySem.W.keepIn K (.ref flaw_box) = true)
    (alaw_take : PySem.W.nsIn K mainGlobals "_law_take" = some (some (.ref flaw_take)))
    (llaw_take : K.lookup flaw_take = some ⟨oclaw_take, odlaw_take, .func (PySem.W.fnOf "_law_take" "_law_take" (defArgs s_law_take) (defBody s_law_take) (defScope s_law_take) .none kVlaw_take dclaw_take pmlaw_take anlaw_take cdlaw_take ctlaw_take), sllaw_take⟩)
    (claw_take : PySem.W.codeIn K cdlaw_take "_law_take" = true)
    (klaw_take : PySem.W.keepIn K (.ref flaw_take) = true)
    (alaw_pick : PySem.W.nsIn K mainGlobals "_law_pick" = some (some (.ref flaw_pick)))
    (llaw_pick : K.lookup flaw_pick = some ⟨oclaw_pick, odlaw_pick, .func (PySem.W.fnOf "_law_pick" "_law_pick" (defArgs s_law_pick) (defBody s_law_pick) (defScope s_law_pick) .none kVlaw_pick dclaw_pick pmlaw_pick anlaw_pick cdlaw_pick ctlaw_pick), sllaw_pick⟩)
    (claw_pick : PySem.W.codeIn K cdlaw_pick "_law_pick" = true)
    (klaw_pick : PySem.W.keepIn K (.ref flaw_pick) = true)
    (alaw_mixed : PySem.W.nsIn K mainGlobals "_law_mixed" = some (some (.ref flaw_mixed)))
    (llaw_mixed : K.lookup flaw_mixed = some ⟨oclaw_mixed, odlaw_mixed, .func (PySem.W.fnOf "_law_mixed" "_law_mixed" (defArgs s_law_mixed) (defBody s_law_mixed) (defScope s_law_mixed) .none kVlaw_mixed dclaw_mixed pmlaw_mixed anlaw_mixed cdlaw_mixed ctlaw_mixed), sllaw_mixed⟩)
    (claw_mixed : PySem.W.codeIn K cdlaw_mixed "_law_mixed" = true)
    (klaw_mixed : PySem.W.keepIn K (.ref flaw_mixed) = true)
    (alaw_forest : PySem.W.nsIn K mainGlobals "_law_forest" = some (some (.ref flaw_forest)))
    (llaw_forest : K.lookup flaw_forest = some ⟨oclaw_forest, odlaw_forest, .func (PySem.W.fnOf "_law_forest" "_law_forest" (defArgs s_law_forest) (defBody s_law_forest) (defScope s_law_forest) .none kVlaw_forest dclaw_forest pmlaw_forest anlaw_forest cdlaw_forest ctlaw_forest), sllaw_forest⟩)
    (claw_forest : PySem.W.codeIn K cdlaw_forest "_law_forest" = true)
    (klaw_forest : PySem.W.keepIn K (.ref flaw_forest) = true)
    (alaw_part : PySem.W.nsIn K mainGlobals "_law_part" = some (some (.ref flaw_part)))
    (llaw_part : K.lookup flaw_part = some ⟨oclaw_part, odlaw_part, .func (PySem.W.fnOf "_law_part" "_law_part" (defArgs s_law_part) (defBody s_law_part) (defScope s_law_part) .none kVlaw_part dclaw_part pmlaw_part anlaw_part cdlaw_part ctlaw_part), sllaw_part⟩)
    (claw_part : PySem.W.codeIn K cdlaw_part "_law_part" = true)
    (klaw_part : PySem.W.keepIn K (.ref flaw_part) = true)
    (alaw_number : PySem.W.nsIn K mainGlobals "_law_number" = some (some (.ref flaw_number)))
    (llaw_number : K.lookup flaw_number = some ⟨oclaw_number, odlaw_number, .func (PySem.W.fnOf "_law_number" "_law_number" (defArgs s_law_number) (defBody s_law_number) (defScope s_law_number) .none kVlaw_number dclaw_number pmlaw_number anlaw_number cdlaw_number ctlaw_number), sllaw_number⟩)
    (claw_number : PySem.W.codeIn K cdlaw_number "_law_number" = true)
    (klaw_number : PySem.W.keepIn K (.ref flaw_number) = true)
    (alaw_wrapped : PySem.W.nsIn K mainGlobals "_law_wrapped" = some (some (.ref flaw_wrapped)))
    (llaw_wrapped : K.lookup flaw_wrapped = some ⟨oclaw_wrapped, odlaw_wrapped, .func (PySem.W.fnOf "_law_wrapped" "_law_wrapped" (defArgs s_law_wrapped) (defBody s_law_wrapped) (defScope s_law_wrapped) .none kVlaw_wrapped dclaw_wrapped pmlaw_wrapped anlaw_wrapped cdlaw_wrapped ctlaw_wrapped), sllaw_wrapped⟩)
    (claw_wrapped : PySem.W.codeIn K cdlaw_wrapped "_law_wrapped" = true)
    (klaw_wrapped : PySem.W.keepIn K (.ref flaw_wrapped) = true)
    (alaw_book : PySem.W.nsIn K mainGlobals "_law_book" = some (some (.ref flaw_book)))
    (llaw_book : K.lookup flaw_book = some ⟨oclaw_book, odlaw_book, .func (PySem.W.fnOf "_law_book" "_law_book" (defArgs s_law_book) (defBody s_law_book) (defScope s_law_book) .none kVlaw_book dclaw_book pmlaw_book anlaw_book cdlaw_book ctlaw_book), sllaw_book⟩)
    (claw_book : PySem.W.codeIn K cdlaw_book "_law_book" = true)
    (klaw_book : PySem.W.keepIn K (.ref flaw_book) = true)
    (alaw_met : PySem.W.nsIn K mainGlobals "_law_met" = some (some (.ref flaw_met)))
    (llaw_met : K.lookup flaw_met = some ⟨oclaw_met, odlaw_met, .func (PySem.W.fnOf "_law_met" "_law_met" (defArgs s_law_met) (defBody s_law_met) (defScope s_law_met) .none kVlaw_met dclaw_met pmlaw_met anlaw_met cdlaw_met ctlaw_met), sllaw_met⟩)
    (claw_met : PySem.W.codeIn K cdlaw_met "_law_met" = true)
    (klaw_met : PySem.W.keepIn K (.ref flaw_met) = true)
    (alaw_steps_right : PySem.W.nsIn K mainGlobals "_law_steps_right" = some (some (.ref flaw_steps_right)))
    (llaw_steps_right : K.lookup flaw_steps_right = some ⟨oclaw_steps_right, odlaw_steps_right, .func (PySem.W.fnOf "_law_steps_right" "_law_steps_right" (defArgs s_law_steps_right) (defBody s_law_steps_right) (defScope s_law_steps_right) .none kVlaw_steps_right dclaw_steps_right pmlaw_steps_right anlaw_steps_right cdlaw_steps_right ctlaw_steps_right), sllaw_steps_right⟩)
    (claw_steps_right : PySem.W.codeIn K cdlaw_steps_right "_law_steps_right" = true)
    (klaw_steps_right : PySem.W.keepIn K (.ref flaw_steps_right) = true)
    (alaw_swept : PySem.W.nsIn K mainGlobals "_law_swept" = some (some (.ref flaw_swept)))
    (llaw_swept : K.lookup flaw_swept = some ⟨oclaw_swept, odlaw_swept, .func (PySem.W.fnOf "_law_swept" "_law_swept" (defArgs s_law_swept) (defBody s_law_swept) (defScope s_law_swept) .none kVlaw_swept dclaw_swept pmlaw_swept anlaw_swept cdlaw_swept ctlaw_swept), sllaw_swept⟩)
    (claw_swept : PySem.W.codeIn K cdlaw_swept "_law_swept" = true)
    (klaw_swept : PySem.W.keepIn K (.ref flaw_swept) = true)
    (aL : PySem.W.nsIn K mainGlobals "law" = some (some (.ref fL)))
    (lL : K.lookup fL = some ⟨ocL, odL, .func (PySem.W.fnOf "law" "law" (defArgs s_law) (defBody s_law) (defScope s_law) .none kVL dcL pmL anL cdL ctL), slL⟩)
    (cL : PySem.W.codeIn K cdL "law" = true)
    (kL : PySem.W.keepIn K (.ref fL) = true)
    (aWebinit : PySem.W.findIn K (.ref CW) "__init__" = some (some (.ref fWebinit)))
    (iWebinit : PySem.W.isFn K (.ref fWebinit) = true)
    (lWebinit : K.lookup fWebinit = some ⟨ocWebinit, odWebinit, .func (PySem.W.fnOf "__init__" "Web.__init__" (defArgs s_Web_init) (defBody s_Web_init) (defScope s_Web_init) .none kVWebinit dcWebinit pmWebinit anWebinit cdWebinit ctWebinit), slWebinit⟩)
    (cWebinit : PySem.W.codeIn K cdWebinit "Web.__init__" = true)
    (kWebinit : PySem.W.keepIn K (.ref fWebinit) = true)
    (aWebeq : PySem.W.findIn K (.ref CW) "__eq__" = some (some (.ref fWebeq)))
    (iWebeq : PySem.W.isFn K (.ref fWebeq) = true)
    (lWebeq : K.lookup fWebeq = some ⟨ocWebeq, odWebeq, .func (PySem.W.fnOf "__eq__" "Web.__eq__" (defArgs s_Web_eq) (defBody s_Web_eq) (defScope s_Web_eq) .none kVWebeq dcWebeq pmWebeq anWebeq cdWebeq ctWebeq), slWebeq⟩)
    (cWebeq : PySem.W.codeIn K cdWebeq "Web.__eq__" = true)
    (kWebeq : PySem.W.keepIn K (.ref fWebeq) = true)
    (aCounterNetinit : PySem.W.findIn K (.ref CC) "__init__" = some (some (.ref fCounterNetinit)))
    (iCounterNetinit : PySem.W.isFn K (.ref fCounterNetinit) = true)
    (lCounterNetinit : K.lookup fCounterNetinit = some ⟨ocCounterNetinit, odCounterNetinit, .func (PySem.W.fnOf "__init__" "CounterNet.__init__" (defArgs s_CounterNet_init) (defBody s_CounterNet_init) (defScope s_CounterNet_init) .none kVCounterNetinit dcCounterNetinit pmCounterNetinit anCounterNetinit cdCounterNetinit ctCounterNetinit), slCounterNetinit⟩)
    (cCounterNetinit : PySem.W.codeIn K cdCounterNetinit "CounterNet.__init__" = true)
    (kCounterNetinit : PySem.W.keepIn K (.ref fCounterNetinit) = true)
    (aCounterNetdo : PySem.W.findIn K (.ref CC) "do" = some (some (.ref fCounterNetdo)))
    (iCounterNetdo : PySem.W.isFn K (.ref fCounterNetdo) = true)
    (lCounterNetdo : K.lookup fCounterNetdo = some ⟨ocCounterNetdo, odCounterNetdo, .func (PySem.W.fnOf "do" "CounterNet.do" (defArgs s_CounterNet_do) (defBody s_CounterNet_do) (defScope s_CounterNet_do) .none kVCounterNetdo dcCounterNetdo pmCounterNetdo anCounterNetdo cdCounterNetdo ctCounterNetdo), slCounterNetdo⟩)
    (cCounterNetdo : PySem.W.codeIn K cdCounterNetdo "CounterNet.do" = true)
    (kCounterNetdo : PySem.W.keepIn K (.ref fCounterNetdo) = true)
    (aCounterNetmeet : PySem.W.findIn K (.ref CC) "meet" = some (some (.ref fCounterNetmeet)))
    (iCounterNetmeet : PySem.W.isFn K (.ref fCounterNetmeet) = true)
    (lCounterNetmeet : K.lookup fCounterNetmeet = some ⟨ocCounterNetmeet, odCounterNetmeet, .func (PySem.W.fnOf "meet" "CounterNet.meet" (defArgs s_CounterNet_meet) (defBody s_CounterNet_meet) (defScope s_CounterNet_meet) .none kVCounterNetmeet dcCounterNetmeet pmCounterNetmeet anCounterNetmeet cdCounterNetmeet ctCounterNetmeet), slCounterNetmeet⟩)
    (cCounterNetmeet : PySem.W.codeIn K cdCounterNetmeet "CounterNet.meet" = true)
    (kCounterNetmeet : PySem.W.keepIn K (.ref fCounterNetmeet) = true)
    (aCounterNetbook : PySem.W.findIn K (.ref CC) "book" = some (some (.ref fCounterNetbook)))
    (iCounterNetbook : PySem.W.isFn K (.ref fCounterNetbook) = true)
    (lCounterNetbook : K.lookup fCounterNetbook = some ⟨ocCounterNetbook, odCounterNetbook, .func (PySem.W.fnOf "book" "CounterNet.book" (defArgs s_CounterNet_book) (defBody s_CounterNet_book) (defScope s_CounterNet_book) .none kVCounterNetbook dcCounterNetbook pmCounterNetbook anCounterNetbook cdCounterNetbook ctCounterNetbook), slCounterNetbook⟩)
    (cCounterNetbook : PySem.W.codeIn K cdCounterNetbook "CounterNet.book" = true)
    (kCounterNetbook : PySem.W.keepIn K (.ref fCounterNetbook) = true) :
    ∃ fd : FuncData, (∀ (s : Shared) (v : Value), BindsTo s fd ⟨[v], []⟩ [("_law_script", v)]) ∧ ∀ base : Heap, K.In base → base.Ns mainGlobals mg → FnG l.prog w K mg base 8 fa fd ["_law_script"] (spLaw K) := by
  have eL := Option.some.inj (hfa.symm.trans (PySem.W.mg_of X G aL))
  have B : Bl mg := ⟨PySem.W.mg_none_of X G z_isinstance, PySem.W.mg_none_of X G z_int, PySem.W.mg_none_of X G z_bool, PySem.W.mg_none_of X G z_list, PySem.W.mg_none_of X G z_tuple, PySem.W.mg_none_of X G z_abs, PySem.W.mg_none_of X G z_len, PySem.W.mg_none_of X G z_range, PySem.W.mg_none_of X G z_sorted, PySem.W.mg_none_of X G z_sum, PySem.W.mg_none_of X G z_max, PySem.W.mg_none_of X G z_min, PySem.W.mg_none_of X G z_repr, PySem.W.mg_none_of X G z_all, PySem.W.mg_none_of X G z_enumerate, PySem.W.mg_none_of X G z_zip⟩
  have clW : Cls K CW := ⟨pgCW, hdCW, poCW, saCW⟩
  have W : TxW K mg CW := ⟨clW, nW_ties, nW_houses, ⟨_, PySem.W.mg_of X G mH⟩, ⟨_, PySem.W.mg_of X G mT⟩⟩
  have WE : TxE K mg CW := ⟨W, mro, nNe, PySem.W.mg_of X G gCW, fun ea => .base (.ins ea clW clA clB clC mro), by unfold PySem.W.kitOne; rw [if_pos (by simp)]⟩
  have C : TxC K mg CC := ⟨⟨pgCC, hdCC, poCC, saCC⟩, nC_web, nC_modulus, nC_states, nC_archives, loose_int (hL.val _ (List.mem_cons_self)), loose_int (hL.val _ (List.mem_cons_of_mem _ List.mem_cons_self))⟩
  have Tis_integer : Top K mg "is_integer" s_is_integer ["value"] := ⟨fis_integer, _, fun_mk (st := s_is_integer) lis_integer cis_integer kis_integer, PySem.W.mg_of X G ais_integer, (fun_mk (st := s_is_integer) lis_integer cis_integer kis_integer).binds (ps := ["value"]) fun _ _ _ _ _ _ us hl => match us, hl with | [_], _ => rfl⟩
  have Tis_number : Top K mg "is_number" s_is_number ["value"] := ⟨fis_number, _, fun_mk (st := s_is_number) lis_number cis_number kis_number, PySem.W.mg_of X G ais_number, (fun_mk (st := s_is_number) lis_number cis_number kis_number).binds (ps := ["value"]) fun _ _ _ _ _ _ us hl => match us, hl with | [_], _ => rfl⟩
  have Tis_below : Top K mg "is_below" s_is_below ["value", "most"] := ⟨fis_below, _, fun_mk (st := s_is_below) lis_below cis_below kis_below, PySem.W.mg_of X G ais_below, (fun_mk (st := s_is_below) lis_below cis_below kis_below).binds (ps := ["value", "most"]) fun _ _ _ _ _ _ us hl => match us, hl with | [_, _], _ => rfl⟩
  have Tis_within : Top K mg "is_within" s_is_within ["value", "least", "most"] := ⟨fis_within, _, fun_mk (st := s_is_within) lis_within cis_within kis_within, PySem.W.mg_of X G ais_within, (fun_mk (st := s_is_within) lis_within cis_within kis_within).binds (ps := ["value", "least", "most"]) fun _ _ _ _ _ _ us hl => match us, hl with | [_, _, _], _ => rfl⟩
  have Tis_sequence : Top K mg "is_sequence" s_is_sequence ["value"] := ⟨fis_sequence, _, fun_mk (st := s_is_sequence) lis_sequence cis_sequence kis_sequence, PySem.W.mg_of X G ais_sequence, (fun_mk (st := s_is_sequence) lis_sequence cis_sequence kis_sequence).binds (ps := ["value"]) fun _ _ _ _ _ _ us hl => match us, hl with | [_], _ => rfl⟩
  have Tis_pair : Top K mg "is_pair" s_is_pair ["value", "houses"] := ⟨fis_pair, _, fun_mk (st := s_is_pair) lis_pair cis_pair kis_pair, PySem.W.mg_of X G ais_pair, (fun_mk (st := s_is_pair) lis_pair cis_pair kis_pair).binds (ps := ["value", "houses"]) fun _ _ _ _ _ _ us hl => match us, hl with | [_, _], _ => rfl⟩
  have Tcheck_ties : Top K mg "check_ties" s_check_ties ["houses", "ties"] := ⟨fcheck_ties, _, fun_mk (st := s_check_ties) lcheck_ties ccheck_ties kcheck_ties, PySem.W.mg_of X G acheck_ties, (fun_mk (st := s_check_ties) lcheck_ties ccheck_ties kcheck_ties).binds (ps := ["houses", "ties"]) fun _ _ _ _ _ _ us hl => match us, hl with | [_, _], _ => rfl⟩
  have Tneed_house : Top K mg "need_house" s_need_house ["web", "house"] := ⟨fneed_house, _, fun_mk (st := s_need_house) lneed_house cneed_house kneed_house, PySem.W.mg_of X G aneed_house, (fun_mk (st := s_need_house) lneed_house cneed_house kneed_house).binds (ps := ["web", "house"]) fun _ _ _ _ _ _ us hl => match us, hl with | [_, _], _ => rfl⟩
  have Tneed_tie : Top K mg "need_tie" s_need_tie ["web", "tie"] := ⟨fneed_tie, _, fun_mk (st := s_need_tie) lneed_tie cneed_tie kneed_tie, PySem.W.mg_of X G aneed_tie, (fun_mk (st := s_need_tie) lneed_tie cneed_tie kneed_tie).binds (ps := ["web", "tie"]) fun _ _ _ _ _ _ us hl => match us, hl with | [_, _], _ => rfl⟩
  have Tother_end : Top K mg "other_end" s_other_end ["web", "tie", "house"] := ⟨fother_end, _, fun_mk (st := s_other_end) lother_end cother_end kother_end, PySem.W.mg_of X G aother_end, (fun_mk (st := s_other_end) lother_end cother_end kother_end).binds (ps := ["web", "tie", "house"]) fun _ _ _ _ _ _ us hl => match us, hl with | [_, _, _], _ => rfl⟩
  have Tties_at : Top K mg "ties_at" s_ties_at ["web", "house"] := ⟨fties_at, _, fun_mk (st := s_ties_at) lties_at cties_at kties_at, PySem.W.mg_of X G aties_at, (fun_mk (st := s_ties_at) lties_at cties_at kties_at).binds (ps := ["web", "house"]) fun _ _ _ _ _ _ us hl => match us, hl with | [_, _], _ => rfl⟩
  have Tjoined_houses : Top K mg "joined_houses" s_joined_houses ["web", "house"] := ⟨fjoined_houses, _, fun_mk (st := s_joined_houses) ljoined_houses cjoined_houses kjoined_houses, PySem.W.mg_of X G ajoined_houses, (fun_mk (st := s_joined_houses) ljoined_houses cjoined_houses kjoined_houses).binds (ps := ["web", "house"]) fun _ _ _ _ _ _ us hl => match us, hl with | [_, _], _ => rfl⟩
  have Tpart_of : Top K mg "part_of" s_part_of ["web", "house"] := ⟨fpart_of, _, fun_mk (st := s_part_of) lpart_of cpart_of kpart_of, PySem.W.mg_of X G apart_of, (fun_mk (st := s_part_of) lpart_of cpart_of kpart_of).binds (ps := ["web", "house"]) fun _ _ _ _ _ _ us hl => match us, hl with | [_, _], _ => rfl⟩
  have Tparts_of : Top K mg "parts_of" s_parts_of ["web"] := ⟨fparts_of, _, fun_mk (st := s_parts_of) lparts_of cparts_of kparts_of, PySem.W.mg_of X G aparts_of, (fun_mk (st := s_parts_of) lparts_of cparts_of kparts_of).binds (ps := ["web"]) fun _ _ _ _ _ _ us hl => match us, hl with | [_], _ => rfl⟩
  have Trings_in : Top K mg "rings_in" s_rings_in ["web", "part"] := ⟨frings_in, _, fun_mk (st := s_rings_in) lrings_in crings_in krings_in, PySem.W.mg_of X G arings_in, (fun_mk (st := s_rings_in) lrings_in crings_in krings_in).binds (ps := ["web", "part"]) fun _ _ _ _ _ _ us hl => match us, hl with | [_, _], _ => rfl⟩
  have Trings_of : Top K mg "rings_of" s_rings_of ["web", "part"] := ⟨frings_of, _, fun_mk (st := s_rings_of) lrings_of crings_of krings_of, PySem.W.mg_of X G arings_of, (fun_mk (st := s_rings_of) lrings_of crings_of krings_of).binds (ps := ["web", "part"]) fun _ _ _ _ _ _ us hl => match us, hl with | [_, _], _ => rfl⟩
  have Tcheck_modulus : Top K mg "check_modulus" s_check_modulus ["value"] := ⟨fcheck_modulus, _, fun_mk (st := s_check_modulus) lcheck_modulus ccheck_modulus kcheck_modulus, PySem.W.mg_of X G acheck_modulus, (fun_mk (st := s_check_modulus) lcheck_modulus ccheck_modulus kcheck_modulus).binds (ps := ["value"]) fun _ _ _ _ _ _ us hl => match us, hl with | [_], _ => rfl⟩
  have Tis_counter : Top K mg "is_counter" s_is_counter ["value", "modulus"] := ⟨fis_counter, _, fun_mk (st := s_is_counter) lis_counter cis_counter kis_counter, PySem.W.mg_of X G ais_counter, (fun_mk (st := s_is_counter) lis_counter cis_counter kis_counter).binds (ps := ["value", "modulus"]) fun _ _ _ _ _ _ us hl => match us, hl with | [_, _], _ => rfl⟩
  have Tcheck_numbers : Top K mg "check_numbers" s_check_numbers ["value", "many", "modulus"] := ⟨fcheck_numbers, _, fun_mk (st := s_check_numbers) lcheck_numbers ccheck_numbers kcheck_numbers, PySem.W.mg_of X G acheck_numbers, (fun_mk (st := s_check_numbers) lcheck_numbers ccheck_numbers kcheck_numbers).binds (ps := ["value", "many", "modulus"]) fun _ _ _ _ _ _ us hl => match us, hl with | [_, _, _], _ => rfl⟩
  have Tcounted_as : Top K mg "counted_as" s_counted_as ["number", "modulus"] := ⟨fcounted_as, _, fun_mk (st := s_counted_as) lcounted_as ccounted_as kcounted_as, PySem.W.mg_of X G acounted_as, (fun_mk (st := s_counted_as) lcounted_as ccounted_as kcounted_as).binds (ps := ["number", "modulus"]) fun _ _ _ _ _ _ us hl => match us, hl with | [_, _], _ => rfl⟩
  have Tbook_of : Top K mg "book_of" s_book_of ["web", "modulus", "states", "archives", "part"] := ⟨fbook_of, _, fun_mk (st := s_book_of) lbook_of cbook_of kbook_of, PySem.W.mg_of X G abook_of, (fun_mk (st := s_book_of) lbook_of cbook_of kbook_of).binds (ps := ["web", "modulus", "states", "archives", "part"]) fun _ _ _ _ _ _ us hl => match us, hl with | [_, _, _, _, _], _ => rfl⟩
  have Tis_rest : Top K mg "is_rest" s_is_rest ["net"] := ⟨fis_rest, _, fun_mk (st := s_is_rest) lis_rest cis_rest kis_rest, PySem.W.mg_of X G ais_rest, (fun_mk (st := s_is_rest) lis_rest cis_rest kis_rest).binds (ps := ["net"]) fun _ _ _ _ _ _ us hl => match us, hl with | [_], _ => rfl⟩
  have Ttie_ends : Top K mg "tie_ends" s_tie_ends ["web", "house"] := ⟨ftie_ends, _, fun_mk (st := s_tie_ends) ltie_ends ctie_ends ktie_ends, PySem.W.mg_of X G atie_ends, (fun_mk (st := s_tie_ends) ltie_ends ctie_ends ktie_ends).binds (ps := ["web", "house"]) fun _ _ _ _ _ _ us hl => match us, hl with | [_, _], _ => rfl⟩
  have Tsweep : Top K mg "sweep" s_sweep ["web", "house"] := ⟨fsweep, _, fun_mk (st := s_sweep) lsweep csweep ksweep, PySem.W.mg_of X G asweep, (fun_mk (st := s_sweep) lsweep csweep ksweep).binds (ps := ["web", "house"]) fun _ _ _ _ _ _ us hl => match us, hl with | [_, _], _ => rfl⟩
  have Tlaw_box : Top K mg "_law_box" s_law_box ["_law_script", "_law_k"] := ⟨flaw_box, _, fun_mk (st := s_law_box) llaw_box claw_box klaw_box, PySem.W.mg_of X G alaw_box, (fun_mk (st := s_law_box) llaw_box claw_box klaw_box).binds (ps := ["_law_script", "_law_k"]) fun _ _ _ _ _ _ us hl => match us, hl with | [_, _], _ => rfl⟩
  have Tlaw_take : Top K mg "_law_take" s_law_take ["_law_box_here", "_law_many"] := ⟨flaw_take, _, fun_mk (st := s_law_take) llaw_take claw_take klaw_take, PySem.W.mg_of X G alaw_take, (fun_mk (st := s_law_take) llaw_take claw_take klaw_take).binds (ps := ["_law_box_here", "_law_many"]) fun _ _ _ _ _ _ us hl => match us, hl with | [_, _], _ => rfl⟩
  have Tlaw_pick : Top K mg "_law_pick" s_law_pick ["_law_box_here", "_law_some"] := ⟨flaw_pick, _, fun_mk (st := s_law_pick) llaw_pick claw_pick klaw_pick, PySem.W.mg_of X G alaw_pick, (fun_mk (st := s_law_pick) llaw_pick claw_pick klaw_pick).binds (ps := ["_law_box_here", "_law_some"]) fun _ _ _ _ _ _ us hl => match us, hl with | [_, _], _ => rfl⟩
  have Tlaw_mixed : Top K mg "_law_mixed" s_law_mixed ["_law_box_here", "_law_some"] := ⟨flaw_mixed, _, fun_mk (st := s_law_mixed) llaw_mixed claw_mixed klaw_mixed, PySem.W.mg_of X G alaw_mixed, (fun_mk (st := s_law_mixed) llaw_mixed claw_mixed klaw_mixed).binds (ps := ["_law_box_here", "_law_some"]) fun _ _ _ _ _ _ us hl => match us, hl with | [_, _], _ => rfl⟩
  have Tlaw_forest : Top K mg "_law_forest" s_law_forest ["_law_box_here", "_law_most"] := ⟨flaw_forest, _, fun_mk (st := s_law_forest) llaw_forest claw_forest klaw_forest, PySem.W.mg_of X G alaw_forest, (fun_mk (st := s_law_forest) llaw_forest claw_forest klaw_forest).binds (ps := ["_law_box_here", "_law_most"]) fun _ _ _ _ _ _ us hl => match us, hl with | [_, _], _ => rfl⟩
  have Tlaw_part : Top K mg "_law_part" s_law_part ["_law_ties", "_law_house"] := ⟨flaw_part, _, fun_mk (st := s_law_part) llaw_part claw_part klaw_part, PySem.W.mg_of X G alaw_part, (fun_mk (st := s_law_part) llaw_part claw_part klaw_part).binds (ps := ["_law_ties", "_law_house"]) fun _ _ _ _ _ _ us hl => match us, hl with | [_, _], _ => rfl⟩
  have Tlaw_number : Top K mg "_law_number" s_law_number ["_law_box_here", "_law_modulus"] := ⟨flaw_number, _, fun_mk (st := s_law_number) llaw_number claw_number klaw_number, PySem.W.mg_of X G alaw_number, (fun_mk (st := s_law_number) llaw_number claw_number klaw_number).binds (ps := ["_law_box_here", "_law_modulus"]) fun _ _ _ _ _ _ us hl => match us, hl with | [_, _], _ => rfl⟩
  have Tlaw_wrapped : Top K mg "_law_wrapped" s_law_wrapped ["_law_number_here", "_law_modulus"] := ⟨flaw_wrapped, _, fun_mk (st := s_law_wrapped) llaw_wrapped claw_wrapped klaw_wrapped, PySem.W.mg_of X G alaw_wrapped, (fun_mk (st := s_law_wrapped) llaw_wrapped claw_wrapped klaw_wrapped).binds (ps := ["_law_number_here", "_law_modulus"]) fun _ _ _ _ _ _ us hl => match us, hl with | [_, _], _ => rfl⟩
  have Tlaw_book : Top K mg "_law_book" s_law_book ["_law_ties", "_law_modulus", "_law_states", "_law_archives", "_law_part_here"] := ⟨flaw_book, _, fun_mk (st := s_law_book) llaw_book claw_book klaw_book, PySem.W.mg_of X G alaw_book, (fun_mk (st := s_law_book) llaw_book claw_book klaw_book).binds (ps := ["_law_ties", "_law_modulus", "_law_states", "_law_archives", "_law_part_here"]) fun _ _ _ _ _ _ us hl => match us, hl with | [_, _, _, _, _], _ => rfl⟩
  have Tlaw_met : Top K mg "_law_met" s_law_met ["_law_ties", "_law_modulus", "_law_states", "_law_archives", "_law_tie"] := ⟨flaw_met, _, fun_mk (st := s_law_met) llaw_met claw_met klaw_met, PySem.W.mg_of X G alaw_met, (fun_mk (st := s_law_met) llaw_met claw_met klaw_met).binds (ps := ["_law_ties", "_law_modulus", "_law_states", "_law_archives", "_law_tie"]) fun _ _ _ _ _ _ us hl => match us, hl with | [_, _, _, _, _], _ => rfl⟩
  have Tlaw_steps_right : Top K mg "_law_steps_right" s_law_steps_right ["_law_box_here", "_law_net", "_law_ties", "_law_modulus", "_law_states", "_law_archives"] := ⟨flaw_steps_right, _, fun_mk (st := s_law_steps_right) llaw_steps_right claw_steps_right klaw_steps_right, PySem.W.mg_of X G alaw_steps_right, (fun_mk (st := s_law_steps_right) llaw_steps_right claw_steps_right klaw_steps_right).binds (ps := ["_law_box_here", "_law_net", "_law_ties", "_law_modulus", "_law_states", "_law_archives"]) fun _ _ _ _ _ _ us hl => match us, hl with | [_, _, _, _, _, _], _ => rfl⟩
  have Tlaw_swept : Top K mg "_law_swept" s_law_swept ["_law_net", "_law_web", "_law_ties", "_law_modulus", "_law_numbers", "_law_house"] := ⟨flaw_swept, _, fun_mk (st := s_law_swept) llaw_swept claw_swept klaw_swept, PySem.W.mg_of X G alaw_swept, (fun_mk (st := s_law_swept) llaw_swept claw_swept klaw_swept).binds (ps := ["_law_net", "_law_web", "_law_ties", "_law_modulus", "_law_numbers", "_law_house"]) fun _ _ _ _ _ _ us hl => match us, hl with | [_, _, _, _, _, _], _ => rfl⟩
  have TL : Top K mg "law" s_law ["_law_script"] := ⟨fL, _, fun_mk (st := s_law) lL cL kL, PySem.W.mg_of X G aL, (fun_mk (st := s_law) lL cL kL).binds (ps := ["_law_script"]) fun _ _ _ _ _ _ us hl => match us, hl with | [_], _ => rfl⟩
  have TWebinit : TopI K mg CW "Web" "Web.__init__" s_Web_init ["self", "houses", "ties"] := ⟨fWebinit, _, fun_mk (st := s_Web_init) lWebinit cWebinit kWebinit, ⟨mkCW, aWebinit, iWebinit, kcCW⟩, PySem.W.mg_of X G gCW, (fun_mk (st := s_Web_init) lWebinit cWebinit kWebinit).binds (ps := ["self", "houses", "ties"]) fun _ _ _ _ _ _ us hl => match us, hl with | [_, _, _], _ => rfl⟩
  have TWebeq : TopM K CW "__eq__" "Web.__eq__" s_Web_eq ["self", "other"] := ⟨fWebeq, _, fun_mk (st := s_Web_eq) lWebeq cWebeq kWebeq, ⟨aWebeq, iWebeq, kWebeq⟩, (fun_mk (st := s_Web_eq) lWebeq cWebeq kWebeq).binds (ps := ["self", "other"]) fun _ _ _ _ _ _ us hl => match us, hl with | [_, _], _ => rfl⟩
  have TCounterNetinit : TopI K mg CC "CounterNet" "CounterNet.__init__" s_CounterNet_init ["self", "web", "modulus", "states", "archives"] := ⟨fCounterNetinit, _, fun_mk (st := s_CounterNet_init) lCounterNetinit cCounterNetinit kCounterNetinit, ⟨mkCC, aCounterNetinit, iCounterNetinit, kcCC⟩, PySem.W.mg_of X G gCC, (fun_mk (st := s_CounterNet_init) lCounterNetinit cCounterNetinit kCounterNetinit).binds (ps := ["self", "web", "modulus", "states", "archives"]) fun _ _ _ _ _ _ us hl => match us, hl with | [_, _, _, _, _], _ => rfl⟩
  have TCounterNetdo : TopM K CC "do" "CounterNet.do" s_CounterNet_do ["self", "house", "amount"] := ⟨fCounterNetdo, _, fun_mk (st := s_CounterNet_do) lCounterNetdo cCounterNetdo kCounterNetdo, ⟨aCounterNetdo, iCounterNetdo, kCounterNetdo⟩, (fun_mk (st := s_CounterNet_do) lCounterNetdo cCounterNetdo kCounterNetdo).binds (ps := ["self", "house", "amount"]) fun _ _ _ _ _ _ us hl => match us, hl with | [_, _, _], _ => rfl⟩
  have TCounterNetmeet : TopM K CC "meet" "CounterNet.meet" s_CounterNet_meet ["self", "tie"] := ⟨fCounterNetmeet, _, fun_mk (st := s_CounterNet_meet) lCounterNetmeet cCounterNetmeet kCounterNetmeet, ⟨aCounterNetmeet, iCounterNetmeet, kCounterNetmeet⟩, (fun_mk (st := s_CounterNet_meet) lCounterNetmeet cCounterNetmeet kCounterNetmeet).binds (ps := ["self", "tie"]) fun _ _ _ _ _ _ us hl => match us, hl with | [_, _], _ => rfl⟩
  have TCounterNetbook : TopM K CC "book" "CounterNet.book" s_CounterNet_book ["self", "house"] := ⟨fCounterNetbook, _, fun_mk (st := s_CounterNet_book) lCounterNetbook cCounterNetbook kCounterNetbook, ⟨aCounterNetbook, iCounterNetbook, kCounterNetbook⟩, (fun_mk (st := s_CounterNet_book) lCounterNetbook cCounterNetbook kCounterNetbook).binds (ps := ["self", "house"]) fun _ _ _ _ _ _ us hl => match us, hl with | [_, _], _ => rfl⟩
  refine ⟨PySem.W.fnOf "law" "law" (defArgs s_law) (defBody s_law) (defScope s_law) .none kVL dcL pmL anL cdL ctL, fun s v => .of_eq rfl, fun base _ _ => ?_⟩
  have d_is_integer := ok_is_integer (P := l.prog) (w := w) (base := base) Tis_integer B
  have d_is_number := ok_is_number Tis_number d_is_integer
  have d_is_below := ok_is_below Tis_below d_is_number
  have d_is_within := ok_is_within Tis_within d_is_integer
  have d_is_sequence := ok_is_sequence (P := l.prog) (w := w) (base := base) Tis_sequence B
  have d_is_pair := ok_is_pair (CW := CW) Tis_pair B d_is_sequence d_is_below
  have d_check_ties := ok_check_ties Tcheck_ties B W d_is_within d_is_sequence d_is_pair
  have I_Web := ok_Web_init TWebinit W d_check_ties
  have d_need_house := ok_need_house Tneed_house W d_is_below
  have d_need_tie := ok_need_tie Tneed_tie B W d_is_below
  have d_other_end := ok_other_end (P := l.prog) (w := w) (base := base) Tother_end W
  have d_ties_at := ok_ties_at (P := l.prog) (w := w) (base := base) Tties_at B W
  have d_joined_houses := ok_joined_houses Tjoined_houses B d_ties_at d_other_end
  have d_part_of := ok_part_of Tpart_of d_joined_houses d_need_house
  have d_parts_of := ok_parts_of Tparts_of B W d_joined_houses
  have d_rings_in := ok_rings_in (P := l.prog) (w := w) (base := base) Trings_in B W
  have d_rings_of := ok_rings_of Trings_of B W d_is_sequence d_is_below d_parts_of d_rings_in
  have d_check_modulus := ok_check_modulus (CC := CC) Tcheck_modulus C d_is_integer
  have d_is_counter := ok_is_counter (CC := CC) Tis_counter C d_is_within
  have d_check_numbers := ok_check_numbers (CW := CW) Tcheck_numbers B d_is_sequence d_is_counter
  have d_counted_as := ok_counted_as (P := l.prog) (w := w) (base := base) Tcounted_as
  have d_book_of := ok_book_of Tbook_of B W d_counted_as
  have I_CounterNet := ok_CounterNet_init TCounterNetinit B W C d_check_modulus d_check_numbers
  have M_do := ok_CounterNet_do hne TCounterNetdo C d_need_house d_is_within d_counted_as
  have M_meet := ok_CounterNet_meet hne TCounterNetmeet B W C d_need_tie d_counted_as
  have M_book := ok_CounterNet_book TCounterNetbook W C d_book_of d_part_of
  have M_eq := ok_Web_eq (P := l.prog) (w := w) (base := base) TWebeq B WE
  have d_is_rest := ok_is_rest (P := l.prog) (w := w) (base := base) Tis_rest B W C
  have d_tie_ends := ok_tie_ends (P := l.prog) (w := w) (base := base) Ttie_ends B W
  have d_sweep := ok_sweep Tsweep B W d_need_house d_part_of d_rings_of d_tie_ends
  have d_box := ok_box (P := l.prog) (w := w) (base := base) Tlaw_box B
  have d_take := ok_take (P := l.prog) (w := w) (base := base) (CW := CW) Tlaw_take B
  have d_pick := ok_pick Tlaw_pick B d_take
  have d_mixed := ok_mixed Tlaw_mixed B d_take
  have d_forest := ok_forest Tlaw_forest B d_take d_mixed
  have d_part := ok_law_part (P := l.prog) (w := w) (base := base) (CW := CW) Tlaw_part B
  have d_number := ok_number Tlaw_number B d_take
  have d_wrapped := ok_wrapped (P := l.prog) (w := w) (base := base) Tlaw_wrapped B
  have d_book := ok_law_book (CW := CW) Tlaw_book B d_wrapped
  have d_met := ok_met (CW := CW) Tlaw_met B d_wrapped
  have d_steps := ok_steps_right hne Tlaw_steps_right B C d_take d_number d_wrapped d_met d_book d_part M_do M_meet M_book
  have d_swept := ok_swept hne Tlaw_swept B C d_met d_book d_part d_sweep M_meet M_book
  obtain ⟨f', fd', F', G', hm', _⟩ := (ok_law hne TL B WE C d_box d_pick d_mixed d_forest d_number I_Web I_CounterNet M_eq M_meet d_is_rest d_steps d_swept).ex
  have ef : f' = fL := Value.ref.inj (Option.some.inj (hm'.symm.trans (PySem.W.mg_of X G aL)))
  subst ef
  have efd := fun_uniq G' (fun_mk (st := s_law) lL cL kL)
  rw [efd] at F'
  rw [Value.ref.inj eL]
  exact F'
end Hou
set_option Elab.async false
open PySem PySem.W PyProof.Rows in
set_option maxRecDepth 100000 in
set_option maxHeartbeats 0 in
theorem PySem.Challenge.cw_houseslessties_k27_whole_twisted_counter_holds : PySem.Challenge.rw_houseslessties_k27_whole_twisted_counter.Holds := by
  w_on; o_law; k_head; (case hw => w_witness2)
  k_fill
  refine Hou.walk_ofG (l := PySem.Challenge.rw_houseslessties_k27_whole_twisted_counter) (n := 63) (k := 8) (x := "_law_script") (sp := fun K => Hou.spLaw K) rfl (by decide) rfl ⟨rfl, by decide, by decide⟩ (fun w h Y => PySem.W.kIn_of Y) ?F (fun K H a ns _ hS => ⟨a, ns, rfl, hS, fun _ => rfl⟩)
  case F =>
    intro w mg fa h KX G hmg hL
    refine' Hou.all_mk KX G hmg hL ?gCW ?pgCW ?hdCW ?poCW ?saCW ?mkCW ?kcCW ?gCC ?pgCC ?hdCC ?poCC ?saCC ?mkCC ?kcCC ?nW_ties ?nW_houses ?nC_web ?nC_modulus ?nC_states ?nC_archives ?mH ?mT ?mro ?nNe ?clA ?clB ?clC ?hne ?z_isinstance ?z_int ?z_bool ?z_list ?z_tuple ?z_abs ?z_len ?z_range ?z_sorted ?z_sum ?z_max ?z_min ?z_repr ?z_all ?z_enumerate ?z_zip ?ais_integer ?lis_integer ?cis_integer ?kis_integer ?ais_number ?lis_number ?cis_number ?kis_number ?ais_below ?lis_below ?cis_below ?kis_below ?ais_within ?lis_within ?cis_within ?kis_within ?ais_sequence ?lis_sequence ?cis_sequence ?kis_sequence ?ais_pair ?lis_pair ?cis_pair ?kis_pair ?acheck_ties ?lcheck_ties ?ccheck_ties ?kcheck_ties ?aneed_house ?lneed_house ?cneed_house ?kneed_house ?aneed_tie ?lneed_tie ?cneed_tie ?kneed_tie ?aother_end ?lother_end ?cother_end ?kother_end ?aties_at ?lties_at ?cties_at ?kties_at ?ajoined_houses ?ljoined_houses ?cjoined_houses ?kjoined_houses ?apart_of ?lpart_of ?cpart_of ?kpart_of ?aparts_of ?lparts_of ?cparts_of ?kparts_of ?arings_in ?lrings_in ?crings_in ?krings_in ?arings_of ?lrings_of ?crings_of ?krings_of ?acheck_modulus ?lcheck_modulus ?ccheck_modulus ?kcheck_modulus ?ais_counter ?lis_counter ?cis_counter ?kis_counter ?acheck_numbers ?lcheck_numbers ?ccheck_numbers ?kcheck_numbers ?acounted_as ?lcounted_as ?ccounted_as ?kcounted_as ?abook_of ?lbook_of ?cbook_of ?kbook_of ?ais_rest ?lis_rest ?cis_rest ?kis_rest ?atie_ends ?ltie_ends ?ctie_ends ?ktie_ends ?asweep ?lsweep ?csweep ?ksweep ?alaw_box ?llaw_box ?claw_box ?klaw_box ?alaw_take ?llaw_take ?claw_take ?klaw_take ?alaw_pick ?llaw_pick ?claw_pick ?klaw_pick ?alaw_mixed ?llaw_mixed ?claw_mixed ?klaw_mixed ?alaw_forest ?llaw_forest ?claw_forest ?klaw_forest ?alaw_part ?llaw_part ?claw_part ?klaw_part ?alaw_number ?llaw_number ?claw_number ?klaw_number ?alaw_wrapped ?llaw_wrapped ?claw_wrapped ?klaw_wrapped ?alaw_book ?llaw_book ?claw_book ?klaw_book ?alaw_met ?llaw_met ?claw_met ?klaw_met ?alaw_steps_right ?llaw_steps_right ?claw_steps_right ?klaw_steps_right ?alaw_swept ?llaw_swept ?claw_swept ?klaw_swept ?aL ?lL ?cL ?kL ?aWebinit ?iWebinit ?lWebinit ?cWebinit ?kWebinit ?aWebeq ?iWebeq ?lWebeq ?cWebeq ?kWebeq ?aCounterNetinit ?iCounterNetinit ?lCounterNetinit ?cCounterNetinit ?kCounterNetinit ?aCounterNetdo ?iCounterNetdo ?lCounterNetdo ?cCounterNetdo ?kCounterNetdo ?aCounterNetmeet ?iCounterNetmeet ?lCounterNetmeet ?cCounterNetmeet ?kCounterNetmeet ?aCounterNetbook ?iCounterNetbook ?lCounterNetbook ?cCounterNetbook ?kCounterNetbook
    (case gCW => k_is)
    (case pgCW => k_is)
    (case hdCW => k_is)
    (case poCW => k_is)
    (case saCW => k_is)
    (case mkCW => k_is)
    (case kcCW => k_is)
    (case gCC => k_is)
    (case pgCC => k_is)
    (case hdCC => k_is)
    (case poCC => k_is)
    (case saCC => k_is)
    (case mkCC => k_is)
    (case kcCC => k_is)
    (case nW_ties => k_is)
    (case nW_houses => k_is)
    (case nC_web => k_is)
    (case nC_modulus => k_is)
    (case nC_states => k_is)
    (case nC_archives => k_is)
    (case mH => k_is)
    (case mT => k_is)
    (case mro => k_is)
    (case nNe => k_is)
    (case clA => k_is)
    (case clB => k_is)
    (case clC => k_is)
    (case hne => decide)
    (case z_isinstance => k_is)
    (case z_int => k_is)
    (case z_bool => k_is)
    (case z_list => k_is)
    (case z_tuple => k_is)
    (case z_abs => k_is)
    (case z_len => k_is)
    (case z_range => k_is)
    (case z_sorted => k_is)
    (case z_sum => k_is)
    (case z_max => k_is)
    (case z_min => k_is)
    (case z_repr => k_is)
    (case z_all => k_is)
    (case z_enumerate => k_is)
    (case z_zip => k_is)
    (case ais_integer => k_is)
    (case lis_integer => k_is)
    (case cis_integer => k_is)
    (case kis_integer => k_is)
    (case ais_number => k_is)
    (case lis_number => k_is)
    (case cis_number => k_is)
    (case kis_number => k_is)
    (case ais_below => k_is)
    (case lis_below => k_is)
    (case cis_below => k_is)
    (case kis_below => k_is)
    (case ais_within => k_is)
    (case lis_within => k_is)
    (case cis_within => k_is)
    (case kis_within => k_is)
    (case ais_sequence => k_is)
    (case lis_sequence => k_is)
    (case cis_sequence => k_is)
    (case kis_sequence => k_is)
    (case ais_pair => k_is)
    (case lis_pair => k_is)
    (case cis_pair => k_is)
    (case kis_pair => k_is)
    (case acheck_ties => k_is)
    (case lcheck_ties => k_is)
    (case ccheck_ties => k_is)
    (case kcheck_ties => k_is)
    (case aneed_house => k_is)
    (case lneed_house => k_is)
    (case cneed_house => k_is)
    (case kneed_house => k_is)
    (case aneed_tie => k_is)
    (case lneed_tie => k_is)
    (case cneed_tie => k_is)
    (case kneed_tie => k_is)
    (case aother_end => k_is)
    (case lother_end => k_is)
    (case cother_end => k_is)
    (case kother_end => k_is)
    (case aties_at => k_is)
    (case lties_at => k_is)
    (case cties_at => k_is)
    (case kties_at => k_is)
    (case ajoined_houses => k_is)
    (case ljoined_houses => k_is)
    (case cjoined_houses => k_is)
    (case kjoined_houses => k_is)
    (case apart_of => k_is)
    (case lpart_of => k_is)
    (case cpart_of => k_is)
    (case kpart_of => k_is)
    (case aparts_of => k_is)
    (case lparts_of => k_is)
    (case cparts_of => k_is)
    (case kparts_of => k_is)
    (case arings_in => k_is)
    (case lrings_in => k_is)
    (case crings_in => k_is)
    (case krings_in => k_is)
    (case arings_of => k_is)
    (case lrings_of => k_is)
    (case crings_of => k_is)
    (case krings_of => k_is)
    (case acheck_modulus => k_is)
    (case lcheck_modulus => k_is)
    (case ccheck_modulus => k_is)
    (case kcheck_modulus => k_is)
    (case ais_counter => k_is)
    (case lis_counter => k_is)
    (case cis_counter => k_is)
    (case kis_counter => k_is)
    (case acheck_numbers => k_is)
    (case lcheck_numbers => k_is)
    (case ccheck_numbers => k_is)
    (case kcheck_numbers => k_is)
    (case acounted_as => k_is)
    (case lcounted_as => k_is)
    (case ccounted_as => k_is)
    (case kcounted_as => k_is)
    (case abook_of => k_is)
    (case lbook_of => k_is)
    (case cbook_of => k_is)
    (case kbook_of => k_is)
    (case ais_rest => k_is)
    (case lis_rest => k_is)
    (case cis_rest => k_is)
    (case kis_rest => k_is)
    (case atie_ends => k_is)
    (case ltie_ends => k_is)
    (case ctie_ends => k_is)
    (case ktie_ends => k_is)
    (case asweep => k_is)
    (case lsweep => k_is)
    (case csweep => k_is)
    (case ksweep => k_is)
    (case alaw_box => k_is)
    (case llaw_box => k_is)
    (case claw_box => k_is)
    (case klaw_box => k_is)
    (case alaw_take => k_is)
    (case llaw_take => k_is)
    (case claw_take => k_is)
    (case klaw_take => k_is)
    (case alaw_pick => k_is)
    (case llaw_pick => k_is)
    (case claw_pick => k_is)
    (case klaw_pick => k_is)
    (case alaw_mixed => k_is)
    (case llaw_mixed => k_is)
    (case claw_mixed => k_is)
    (case klaw_mixed => k_is)
    (case alaw_forest => k_is)
    (case llaw_forest => k_is)
    (case claw_forest => k_is)
    (case klaw_forest => k_is)
    (case alaw_part => k_is)
    (case llaw_part => k_is)
    (case claw_part => k_is)
    (case klaw_part => k_is)
    (case alaw_number => k_is)
    (case llaw_number => k_is)
    (case claw_number => k_is)
    (case klaw_number => k_is)
    (case alaw_wrapped => k_is)
    (case llaw_wrapped => k_is)
    (case claw_wrapped => k_is)
    (case klaw_wrapped => k_is)
    (case alaw_book => k_is)
    (case llaw_book => k_is)
    (case claw_book => k_is)
    (case klaw_book => k_is)
    (case alaw_met => k_is)
    (case llaw_met => k_is)
    (case claw_met => k_is)
    (case klaw_met => k_is)
    (case alaw_steps_right => k_is)
    (case llaw_steps_right => k_is)
    (case claw_steps_right => k_is)
    (case klaw_steps_right => k_is)
    (case alaw_swept => k_is)
    (case llaw_swept => k_is)
    (case claw_swept => k_is)
    (case klaw_swept => k_is)
    (case aL => k_is)
    (case lL => k_is)
    (case cL => k_is)
    (case kL => k_is)
    (case aWebinit => k_is)
    (case iWebinit => k_is)
    (case lWebinit => k_is)
    (case cWebinit => k_is)
    (case kWebinit => k_is)
    (case aWebeq => k_is)
    (case iWebeq => k_is)
    (case lWebeq => k_is)
    (case cWebeq => k_is)
    (case kWebeq => k_is)
    (case aCounterNetinit => k_is)
    (case iCounterNetinit => k_is)
    (case lCounterNetinit => k_is)
    (case cCounterNetinit => k_is)
    (case kCounterNetinit => k_is)
    (case aCounterNetdo => k_is)
    (case iCounterNetdo => k_is)
    (case lCounterNetdo => k_is)
    (case cCounterNetdo => k_is)
    (case kCounterNetdo => k_is)
    (case aCounterNetmeet => k_is)
    (case iCounterNetmeet => k_is)
    (case lCounterNetmeet => k_is)
    (case cCounterNetmeet => k_is)
    (case kCounterNetmeet => k_is)
    (case aCounterNetbook => k_is)
    (case iCounterNetbook => k_is)
    (case lCounterNetbook => k_is)
    (case cCounterNetbook => k_is)
    (case kCounterNetbook => k_is)
#print axioms PySem.Challenge.cw_houseslessties_k27_whole_twisted_counter_holds
