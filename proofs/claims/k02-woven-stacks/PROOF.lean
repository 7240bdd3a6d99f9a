import PyProof.Rows.All
import Wide.All
import OpenK.AllK
import Wide.FinOn
import HandS.ForMost
import HandS.Defaults
import HandS.Flow
import HandS.Style
import HandS.Wide
import HandS.SortInts
import HandS.More
import HandS.Exc
import HandS.Head0
import HandS.Head1
import HandS.Head2
import HandS.HeadEnd
import HandS.HeadHook1
import HandS.HeadHook2
import HandS.EndBits
import KE.KDictDisplayH
import HandS.TupAny
import HandS.Star
import PySem.Challenge.RW_slabwarren_k02_woven_stacks
/-! ## Base -/
set_option Elab.async false
set_option linter.all false
set_option maxRecDepth 100000
set_option maxHeartbeats 4000000
/-! Slabwarren: the ground. What the top has left (Tx0), a def's promise by its place (FnG), owned objects (Has), tuples that stay (Tk), a dict with tuple keys of any origin (dicO). Own work. -/
namespace Sw
open PySem PySem.Spec PyProof.Rows L2
abbrev St := L2.St

/-! ### what the top has left -/
structure Tx0 (fa : List He.Fa) (fn : List He.DefD) (tb : List (Str × List He.Dv)) (K : PySem.W.Frag) (mg : Str → Option Value) : Prop where
  says : He.SaysD fa fn K
  tabs : (tb.all fun t => He.tupB K t.1 t.2) = true
  ns : ∃ h : Heap, K.In h ∧ h.Ns mainGlobals mg
section
variable {fa : List He.Fa} {fn : List He.DefD} {tb : List (Str × List He.Dv)} {K : PySem.W.Frag} {mg : Str → Option Value}
theorem Tx0.glo (T : Tx0 fa fn tb K mg) (i : Nat) {x : Str} (h : fa[i]? = some (.glo x)) : mg x = some (.ref (He.ga K x)) := by
  obtain ⟨hp, X, G⟩ := T.ns
  exact He.glo_ok X G (T.says.fact i h)
theorem Tx0.free (T : Tx0 fa fn tb K mg) (i : Nat) {x : Str} (h : fa[i]? = some (.free x)) : mg x = none := by
  obtain ⟨hp, X, G⟩ := T.ns
  exact He.free_ok X G (T.says.fact i h)
theorem Tx0.int (T : Tx0 fa fn tb K mg) (i : Nat) {x : Str} {n : Int} (h : fa[i]? = some (.int x n)) : ∃ t, mg x = some (.int n t) := by
  obtain ⟨hp, X, G⟩ := T.ns
  exact He.int_ok X G (T.says.fact i h)
theorem Tx0.cls (T : Tx0 fa fn tb K mg) (i : Nat) {x : Str} (h : fa[i]? = some (.cls x)) : Cls K (He.ga K x) := He.cls_ok (T.says.fact i h)
theorem Tx0.noat (T : Tx0 fa fn tb K mg) (i : Nat) {x f : Str} (h : fa[i]? = some (.noat x f)) : NoAttr K (He.ga K x) f := He.noat_ok (T.says.fact i h)
theorem Tx0.meth (T : Tx0 fa fn tb K mg) (i : Nat) {x m : Str} (h : fa[i]? = some (.meth x m)) : Meth K (He.ga K x) m (He.ma K (He.ga K x) m) := He.meth_ok (T.says.fact i h)
theorem Tx0.mkr (T : Tx0 fa fn tb K mg) (i : Nat) {x : Str} (h : fa[i]? = some (.mkr x)) : Mk K (He.ga K x) (He.ma K (He.ga K x) "__init__") := He.mkr_ok (T.says.fact i h)
theorem Tx0.tab (T : Tx0 fa fn tb K mg) (i : Nat) {x : Str} {vs : List He.Dv} (h : tb[i]? = some (x, vs)) (H : Hp) : SqT K H (He.ga K x) (vs.map (He.Dv.v K)) :=
  He.tupB_ok (List.all_eq_true.mp T.tabs (x, vs) (List.mem_of_getElem? h)) H
end

/-! ### a def's promise, by its place -/
def FnG (P : Program) (w : World) (K : PySem.W.Frag) (mg : Str → Option Value) (base : Heap) (k : Nat) (at_ : Str × Option Str) (ps : List Str) (sp : Sp) : Prop :=
  ∃ fd, FnOk P w K mg base CX0 k (He.fAd K at_) fd ps sp ∧ Binds K fd ps [] ∧ PySem.W.keepIn K (.ref (He.fAd K at_)) = true ∧ ∃ (oc : Value) (od : Option Addr) (osl : Array (Option Value)), K.lookup (He.fAd K at_) = some ⟨oc, od, .func fd, osl⟩
section
variable {P : Program} {w : World} {K : PySem.W.Frag} {mg : Str → Option Value} {base : Heap} {k : Nat} {at_ : Str × Option Str} {ps : List Str} {sp sp' : Sp}
theorem FnG.mono {j : Nat} (G : FnG P w K mg base k at_ ps sp) (h : k ≤ j) : FnG P w K mg base j at_ ps sp :=
  let ⟨fd, F, b, kp, lk⟩ := G
  ⟨fd, F.mono h, b, kp, lk⟩
/-- a def from its body -/
theorem FnG.of {x qual : Str} {st : Stmt} {N : List Str} (hF : ∃ fd, FunD K x qual (defArgs st) (defBody st) (defScope st) [] [] (He.fAd K at_) fd ∧ Binds K fd ps []) (S : FnScope N ps (defScope st))
    (len : ∀ vs H Q E, sp vs H Q E → vs.length = ps.length)
    (hbody : ∀ (cdv : Value) (A : Around) (outer : List Env) (s : Shared) (H : Hp) (vs : List V) (Q : VK) (E : XK), Room k (A.deeper (envOfC qual (defScope st) s.heap.objs.size (He.fAd K at_) cdv)) → sp vs H Q E →
      ∃ t, PSs (cxOf CX0 P w K mg base N qual (defScope st) (He.fAd K at_) cdv A outer s H E).nox (defBody st) t ∧ t { nx := fun _ H' => Q .non H', rt := Q } (start N vs) H) :
    FnG P w K mg base (k + 1) at_ ps sp := by
  obtain ⟨fd, F, b⟩ := hF
  obtain ⟨oc, od, dV, kV, doc, pm, an, cdv0, ct, osl, _, lk, _⟩ := F.ex
  refine ⟨fd, F.ok S len fun cdv A outer s H vs Q E hr h => ?_, b, F.kp, oc, od, osl, lk⟩
  obtain ⟨t, h1, h2⟩ := hbody cdv A outer s H vs Q E hr h
  exact ⟨t, h1.nox, h2⟩
end
section
variable {X : Cx} {k : Nat} {at_ : Str × Option Str} {C : Addr} {ps : List Str} {sp : Sp} {x m : Str} {p pos apos : Pos} {e o : Expr} {es : List Expr} {ta : TE} {t t1 t2 : TA} {c : Str}
theorem pe_g (G : FnG X.prog X.w X.K X.mg X.base k at_ ps sp) (hr : Room k X.A) (hm : X.mg x = some (.ref (He.fAd X.K at_))) (ha : PA X (e :: es) t) (hg : Gl X x := by rfl) (hdb : (x == ("__debug__" : Str)) = false := by decide)
    (he : starEach (e :: es) X.env = (false, eval e X.env) :: starEach es X.env := by rfl) (hpl : (backTo pos (starEach es X.env)).any (·.1) = false := by rfl) : PE X (.Call (.Name x p) (e :: es) [] pos) (tCall sp [] E0 t) := by
  obtain ⟨fd, F, b, kp, _⟩ := G
  exact pe_call F hr hg hm kp b .nil pass0 ha hdb he hpl
theorem pe_g0 (G : FnG X.prog X.w X.K X.mg X.base k at_ ps sp) (hr : Room k X.A) (hm : X.mg x = some (.ref (He.fAd X.K at_))) (hg : Gl X x := by rfl) (hdb : (x == ("__debug__" : Str)) = false := by decide) :
    PE X (.Call (.Name x p) [] [] pos) (tCall sp [] E0 tNil) := by
  obtain ⟨fd, F, b, kp, _⟩ := G
  exact pe_call0 F hr hg hm kp b .nil pass0 hdb
theorem pe_m {pl : Sem Bool} (he : PE X o ta) (c : Cls X.K C) (hm : Meth X.K C m (He.fAd X.K at_)) (G : FnG X.prog X.w X.K X.mg X.base k at_ ps sp) (hr : Room k X.A) (ha : PA X (e :: es) t)
    (hst : starEach (e :: es) X.env = (false, eval e X.env) :: starEach es X.env := by rfl) (hpl : (backTo pos (starEach es X.env)).any (·.1) = false := by rfl)
    (ht : eval (.Call (.Attribute o m apos) (e :: es) [] pos) X.env = (do
      let ov ← eval o X.env
      standAt apos.atName
      let (f, first) ← holding [ov] (getMethod ov m pl)
      callWith pos f first (backTo pos (starEach (e :: es) X.env)) (backToKw pos (keywordEach [] X.env))) := by rfl) :
    PE X (.Call (.Attribute o m apos) (e :: es) [] pos) (tMeth C m sp [] E0 ta t) := by
  obtain ⟨fd, F, b, kp, _⟩ := G
  exact pe_meth he c hm F hr b .nil pass0 ha hst hpl ht
theorem pe_m0 {pl : Sem Bool} (he : PE X o ta) (c : Cls X.K C) (hm : Meth X.K C m (He.fAd X.K at_)) (G : FnG X.prog X.w X.K X.mg X.base k at_ ps sp) (hr : Room k X.A)
    (ht : eval (.Call (.Attribute o m apos) [] [] pos) X.env = (do
      let ov ← eval o X.env
      standAt apos.atName
      let (f, first) ← holding [ov] (getMethod ov m pl)
      callWith pos f first (backTo pos (starEach [] X.env)) (backToKw pos (keywordEach [] X.env))) := by rfl) :
    PE X (.Call (.Attribute o m apos) [] [] pos) (tMeth C m sp [] E0 ta tNil) := by
  obtain ⟨fd, F, b, kp, _⟩ := G
  exact pe_meth0 he c hm F hr b .nil pass0 ht
theorem pe_n (M : Mk X.K C (He.fAd X.K at_)) (G : FnG X.prog X.w X.K X.mg X.base k at_ ps sp) (hr : Room (k + 1) X.A) (hm : X.mg x = some (.ref C)) (ha : PA X (e :: es) t) (hg : Gl X x := by rfl) (hdb : (x == ("__debug__" : Str)) = false := by decide)
    (he : starEach (e :: es) X.env = (false, eval e X.env) :: starEach es X.env := by rfl) (hpl : (backTo pos (starEach es X.env)).any (·.1) = false := by rfl) : PE X (.Call (.Name x p) (e :: es) [] pos) (tMake C sp [] E0 t) := by
  obtain ⟨fd, F, b, kp, _⟩ := G
  exact pe_make M F hr hg hm b .nil pass0 ha hdb he hpl
theorem pe_n0 (M : Mk X.K C (He.fAd X.K at_)) (G : FnG X.prog X.w X.K X.mg X.base k at_ ps sp) (hr : Room (k + 1) X.A) (hm : X.mg x = some (.ref C)) (hg : Gl X x := by rfl) (hdb : (x == ("__debug__" : Str)) = false := by decide) :
    PE X (.Call (.Name x p) [] [] pos) (tMake C sp [] E0 tNil) := by
  obtain ⟨fd, F, b, kp, _⟩ := G
  exact pe_make0 M F hr hg hm b .nil pass0 hdb
/-- two readings of one expression -/
theorem pe_or {u1 u2 : TE} (h1 : PE X e u1) (h2 : PE X e u2) : PE X e (fun σ H Q => u1 σ H Q ∨ u2 σ H Q) :=
  ⟨fun pins s σ H Q I h => h.elim (h1.run pins s σ H Q I) (h2.run pins s σ H Q I)⟩
end

/-! ### owned objects -/
/-- at these addresses, no two alike, stand these things -/
def Has (L : List (Addr × HO)) (H : Hp) : Prop := (L.map (·.1)).Nodup ∧ ∀ x ∈ L, H x.1 = some x.2
section
variable {L M : List (Addr × HO)} {H : Hp} {a b : Addr} {o u : HO} {x0 x1 x2 x3 x4 x5 x6 x7 x8 x9 x10 x11 : Addr × HO}
theorem Has.nil : Has [] H := ⟨List.nodup_nil, fun _ h => nomatch h⟩
theorem Has.at_ (h : Has L H) (m : (a, o) ∈ L) : H a = some o := h.2 _ m
theorem Has.perm (h : Has L H) (p : L.Perm M) : Has M H := ⟨(p.map (·.1)).nodup_iff.mp h.1, fun x hx => h.2 x (p.mem_iff.mpr hx)⟩
theorem Has.tail (h : Has (x0 :: L) H) : Has L H := ⟨(List.nodup_cons.mp h.1).2, fun x hx => h.2 x (List.mem_cons_of_mem _ hx)⟩
theorem Has.app1 (h : Has (L ++ M) H) : Has L H := ⟨by
  have := h.1
  rw [List.map_append] at this
  exact (List.nodup_append.mp this).1, fun x hx => h.2 x (List.mem_append_left _ hx)⟩
theorem Has.app2 (h : Has (L ++ M) H) : Has M H := ⟨by
  have := h.1
  rw [List.map_append] at this
  exact (List.nodup_append.mp this).2.1, fun x hx => h.2 x (List.mem_append_right _ hx)⟩
theorem Has.g0 (h : Has ((a, o) :: L) H) : H a = some o := h.2 _ (List.mem_cons_self ..)
theorem Has.g1 (h : Has (x0 :: (a, o) :: L) H) : H a = some o := h.tail.g0
theorem Has.g2 (h : Has (x0 :: x1 :: (a, o) :: L) H) : H a = some o := h.tail.g1
theorem Has.g3 (h : Has (x0 :: x1 :: x2 :: (a, o) :: L) H) : H a = some o := h.tail.g2
theorem Has.g4 (h : Has (x0 :: x1 :: x2 :: x3 :: (a, o) :: L) H) : H a = some o := h.tail.g3
theorem Has.g5 (h : Has (x0 :: x1 :: x2 :: x3 :: x4 :: (a, o) :: L) H) : H a = some o := h.tail.g4
theorem Has.g6 (h : Has (x0 :: x1 :: x2 :: x3 :: x4 :: x5 :: (a, o) :: L) H) : H a = some o := h.tail.g5
theorem Has.g7 (h : Has (x0 :: x1 :: x2 :: x3 :: x4 :: x5 :: x6 :: (a, o) :: L) H) : H a = some o := h.tail.g6
theorem Has.g8 (h : Has (x0 :: x1 :: x2 :: x3 :: x4 :: x5 :: x6 :: x7 :: (a, o) :: L) H) : H a = some o := h.tail.g7
theorem Has.g9 (h : Has (x0 :: x1 :: x2 :: x3 :: x4 :: x5 :: x6 :: x7 :: x8 :: (a, o) :: L) H) : H a = some o := h.tail.g8
theorem Has.g10 (h : Has (x0 :: x1 :: x2 :: x3 :: x4 :: x5 :: x6 :: x7 :: x8 :: x9 :: (a, o) :: L) H) : H a = some o := h.tail.g9
/-- the thing at a is changed -/
theorem Has.u0 (h : Has ((a, o) :: L) H) : Has ((a, u) :: L) (upd H a u) := ⟨h.1, fun x hx => by
  rcases List.mem_cons.mp hx with e | hx
  · subst e; exact upd_same
  · have ne : x.1 ≠ a := fun e => (List.nodup_cons.mp h.1).1 (List.mem_map.mpr ⟨x, hx, e⟩)
    rw [upd_ne ne]
    exact h.2 x (List.mem_cons_of_mem _ hx)⟩
theorem perm1 : (x0 :: x1 :: L).Perm (x1 :: x0 :: L) := List.Perm.swap ..
theorem perm2 : (x0 :: x1 :: x2 :: L).Perm (x2 :: x0 :: x1 :: L) := (List.Perm.cons _ perm1).trans perm1
theorem perm3 : (x0 :: x1 :: x2 :: x3 :: L).Perm (x3 :: x0 :: x1 :: x2 :: L) := (List.Perm.cons _ perm2).trans perm1
theorem perm4 : (x0 :: x1 :: x2 :: x3 :: x4 :: L).Perm (x4 :: x0 :: x1 :: x2 :: x3 :: L) := (List.Perm.cons _ perm3).trans perm1
theorem perm5 : (x0 :: x1 :: x2 :: x3 :: x4 :: x5 :: L).Perm (x5 :: x0 :: x1 :: x2 :: x3 :: x4 :: L) := (List.Perm.cons _ perm4).trans perm1
theorem perm6 : (x0 :: x1 :: x2 :: x3 :: x4 :: x5 :: x6 :: L).Perm (x6 :: x0 :: x1 :: x2 :: x3 :: x4 :: x5 :: L) := (List.Perm.cons _ perm5).trans perm1
theorem perm7 : (x0 :: x1 :: x2 :: x3 :: x4 :: x5 :: x6 :: x7 :: L).Perm (x7 :: x0 :: x1 :: x2 :: x3 :: x4 :: x5 :: x6 :: L) := (List.Perm.cons _ perm6).trans perm1
theorem perm8 : (x0 :: x1 :: x2 :: x3 :: x4 :: x5 :: x6 :: x7 :: x8 :: L).Perm (x8 :: x0 :: x1 :: x2 :: x3 :: x4 :: x5 :: x6 :: x7 :: L) := (List.Perm.cons _ perm7).trans perm1
theorem perm9 : (x0 :: x1 :: x2 :: x3 :: x4 :: x5 :: x6 :: x7 :: x8 :: x9 :: L).Perm (x9 :: x0 :: x1 :: x2 :: x3 :: x4 :: x5 :: x6 :: x7 :: x8 :: L) := (List.Perm.cons _ perm8).trans perm1
theorem perm10 : (x0 :: x1 :: x2 :: x3 :: x4 :: x5 :: x6 :: x7 :: x8 :: x9 :: x10 :: L).Perm (x10 :: x0 :: x1 :: x2 :: x3 :: x4 :: x5 :: x6 :: x7 :: x8 :: x9 :: L) := (List.Perm.cons _ perm9).trans perm1
/-- the i-th to the front -/
theorem Has.b1 (h : Has (x0 :: x1 :: L) H) : Has (x1 :: x0 :: L) H := h.perm perm1
theorem Has.b2 (h : Has (x0 :: x1 :: x2 :: L) H) : Has (x2 :: x0 :: x1 :: L) H := h.perm perm2
theorem Has.b3 (h : Has (x0 :: x1 :: x2 :: x3 :: L) H) : Has (x3 :: x0 :: x1 :: x2 :: L) H := h.perm perm3
theorem Has.b4 (h : Has (x0 :: x1 :: x2 :: x3 :: x4 :: L) H) : Has (x4 :: x0 :: x1 :: x2 :: x3 :: L) H := h.perm perm4
theorem Has.b5 (h : Has (x0 :: x1 :: x2 :: x3 :: x4 :: x5 :: L) H) : Has (x5 :: x0 :: x1 :: x2 :: x3 :: x4 :: L) H := h.perm perm5
theorem Has.b6 (h : Has (x0 :: x1 :: x2 :: x3 :: x4 :: x5 :: x6 :: L) H) : Has (x6 :: x0 :: x1 :: x2 :: x3 :: x4 :: x5 :: L) H := h.perm perm6
theorem Has.b7 (h : Has (x0 :: x1 :: x2 :: x3 :: x4 :: x5 :: x6 :: x7 :: L) H) : Has (x7 :: x0 :: x1 :: x2 :: x3 :: x4 :: x5 :: x6 :: L) H := h.perm perm7
theorem Has.b8 (h : Has (x0 :: x1 :: x2 :: x3 :: x4 :: x5 :: x6 :: x7 :: x8 :: L) H) : Has (x8 :: x0 :: x1 :: x2 :: x3 :: x4 :: x5 :: x6 :: x7 :: L) H := h.perm perm8
theorem Has.b9 (h : Has (x0 :: x1 :: x2 :: x3 :: x4 :: x5 :: x6 :: x7 :: x8 :: x9 :: L) H) : Has (x9 :: x0 :: x1 :: x2 :: x3 :: x4 :: x5 :: x6 :: x7 :: x8 :: L) H := h.perm perm9
theorem Has.b10 (h : Has (x0 :: x1 :: x2 :: x3 :: x4 :: x5 :: x6 :: x7 :: x8 :: x9 :: x10 :: L) H) : Has (x10 :: x0 :: x1 :: x2 :: x3 :: x4 :: x5 :: x6 :: x7 :: x8 :: x9 :: L) H := h.perm perm10
/-- the front to the i-th place -/
theorem Has.f1 (h : Has (x0 :: x1 :: L) H) : Has (x1 :: x0 :: L) H := h.perm perm1
theorem Has.f2 (h : Has (x0 :: x1 :: x2 :: L) H) : Has (x1 :: x2 :: x0 :: L) H := h.perm perm2.symm
theorem Has.f3 (h : Has (x0 :: x1 :: x2 :: x3 :: L) H) : Has (x1 :: x2 :: x3 :: x0 :: L) H := h.perm perm3.symm
theorem Has.f4 (h : Has (x0 :: x1 :: x2 :: x3 :: x4 :: L) H) : Has (x1 :: x2 :: x3 :: x4 :: x0 :: L) H := h.perm perm4.symm
theorem Has.f5 (h : Has (x0 :: x1 :: x2 :: x3 :: x4 :: x5 :: L) H) : Has (x1 :: x2 :: x3 :: x4 :: x5 :: x0 :: L) H := h.perm perm5.symm
theorem Has.f6 (h : Has (x0 :: x1 :: x2 :: x3 :: x4 :: x5 :: x6 :: L) H) : Has (x1 :: x2 :: x3 :: x4 :: x5 :: x6 :: x0 :: L) H := h.perm perm6.symm
theorem Has.f7 (h : Has (x0 :: x1 :: x2 :: x3 :: x4 :: x5 :: x6 :: x7 :: L) H) : Has (x1 :: x2 :: x3 :: x4 :: x5 :: x6 :: x7 :: x0 :: L) H := h.perm perm7.symm
theorem Has.f8 (h : Has (x0 :: x1 :: x2 :: x3 :: x4 :: x5 :: x6 :: x7 :: x8 :: L) H) : Has (x1 :: x2 :: x3 :: x4 :: x5 :: x6 :: x7 :: x8 :: x0 :: L) H := h.perm perm8.symm
theorem Has.f9 (h : Has (x0 :: x1 :: x2 :: x3 :: x4 :: x5 :: x6 :: x7 :: x8 :: x9 :: L) H) : Has (x1 :: x2 :: x3 :: x4 :: x5 :: x6 :: x7 :: x8 :: x9 :: x0 :: L) H := h.perm perm9.symm
theorem Has.f10 (h : Has (x0 :: x1 :: x2 :: x3 :: x4 :: x5 :: x6 :: x7 :: x8 :: x9 :: x10 :: L) H) : Has (x1 :: x2 :: x3 :: x4 :: x5 :: x6 :: x7 :: x8 :: x9 :: x10 :: x0 :: L) H := h.perm perm10.symm
theorem Has.u1 (h : Has (x0 :: (a, o) :: L) H) : Has (x0 :: (a, u) :: L) (upd H a u) := h.b1.u0.f1
theorem Has.u2 (h : Has (x0 :: x1 :: (a, o) :: L) H) : Has (x0 :: x1 :: (a, u) :: L) (upd H a u) := h.b2.u0.f2
theorem Has.u3 (h : Has (x0 :: x1 :: x2 :: (a, o) :: L) H) : Has (x0 :: x1 :: x2 :: (a, u) :: L) (upd H a u) := h.b3.u0.f3
theorem Has.u4 (h : Has (x0 :: x1 :: x2 :: x3 :: (a, o) :: L) H) : Has (x0 :: x1 :: x2 :: x3 :: (a, u) :: L) (upd H a u) := h.b4.u0.f4
theorem Has.u5 (h : Has (x0 :: x1 :: x2 :: x3 :: x4 :: (a, o) :: L) H) : Has (x0 :: x1 :: x2 :: x3 :: x4 :: (a, u) :: L) (upd H a u) := h.b5.u0.f5
theorem Has.u6 (h : Has (x0 :: x1 :: x2 :: x3 :: x4 :: x5 :: (a, o) :: L) H) : Has (x0 :: x1 :: x2 :: x3 :: x4 :: x5 :: (a, u) :: L) (upd H a u) := h.b6.u0.f6
theorem Has.u7 (h : Has (x0 :: x1 :: x2 :: x3 :: x4 :: x5 :: x6 :: (a, o) :: L) H) : Has (x0 :: x1 :: x2 :: x3 :: x4 :: x5 :: x6 :: (a, u) :: L) (upd H a u) := h.b7.u0.f7
theorem Has.u8 (h : Has (x0 :: x1 :: x2 :: x3 :: x4 :: x5 :: x6 :: x7 :: (a, o) :: L) H) : Has (x0 :: x1 :: x2 :: x3 :: x4 :: x5 :: x6 :: x7 :: (a, u) :: L) (upd H a u) := h.b8.u0.f8
theorem Has.u9 (h : Has (x0 :: x1 :: x2 :: x3 :: x4 :: x5 :: x6 :: x7 :: x8 :: (a, o) :: L) H) : Has (x0 :: x1 :: x2 :: x3 :: x4 :: x5 :: x6 :: x7 :: x8 :: (a, u) :: L) (upd H a u) := h.b9.u0.f9
theorem Has.u10 (h : Has (x0 :: x1 :: x2 :: x3 :: x4 :: x5 :: x6 :: x7 :: x8 :: x9 :: (a, o) :: L) H) : Has (x0 :: x1 :: x2 :: x3 :: x4 :: x5 :: x6 :: x7 :: x8 :: x9 :: (a, u) :: L) (upd H a u) := h.b10.u0.f10
theorem Has.notin (h : Has L H) (n : H a = none) : a ∉ L.map (·.1) := fun m => by
  obtain ⟨x, hx, e⟩ := List.mem_map.mp m
  have := h.2 x hx
  rw [e, n] at this
  cases this
/-- a new object that is not kept -/
theorem Has.skip (h : Has L H) (n : H a = none) : Has L (upd H a o) := ⟨h.1, fun x hx => by
  have ne : x.1 ≠ a := fun e => h.notin n (List.mem_map.mpr ⟨x, hx, e⟩)
  rw [upd_ne ne]
  exact h.2 x hx⟩
/-- a new object -/
theorem Has.new (h : Has L H) (n : H a = none) : Has ((a, o) :: L) (upd H a o) := ⟨List.nodup_cons.mpr ⟨h.notin n, h.1⟩, fun x hx => by
  rcases List.mem_cons.mp hx with e | hx
  · subst e; exact upd_same
  · exact (h.skip n).2 x hx⟩
theorem Has.free (h : Has L H) (n : H a = none) (m : b ∈ L.map (·.1)) : b ≠ a := fun e => h.notin n (by rw [← e]; exact m)
theorem Has.wk (h : Has L H) (s : M.Sublist L) : Has M H := ⟨(s.map (·.1)).nodup h.1, fun x hx => h.2 x (s.subset hx)⟩
end

/-! ### tuples stay -/
def Tk (H H' : Hp) : Prop := ∀ (K : PySem.W.Frag) (t : Addr) (xs : List V), SqT K H t xs → SqT K H' t xs
def noTup : HO → Bool
  | .tup _ => false
  | .frz _ _ => false
  | _ => true
section
variable {K : PySem.W.Frag} {H H1 H2 : Hp} {a : Addr} {o u : HO}
theorem Tk.refl : Tk H H := fun _ _ _ h => h
theorem Tk.trans (h : Tk H H1) (g : Tk H1 H2) : Tk H H2 := fun K t xs x => g K t xs (h K t xs x)
theorem Tk.new (n : H a = none) : Tk H (upd H a o) := fun K t xs h => by
  rcases h with h | h
  · refine .inl ?_
    rcases h with h | ⟨ob, h⟩
    · exact .inl (by rw [upd_ne (ne_of_none h n)]; exact h)
    · exact .inr ⟨ob, by rw [upd_ne (ne_of_none h n)]; exact h⟩
  · exact .inr h
theorem Tk.mut (e : H a = some o) (n : noTup o = true) : Tk H (upd H a u) := fun K t xs h => by
  rcases h with h | h
  · refine .inl ?_
    rcases h with h | ⟨ob, h⟩
    · exact .inl (by rw [upd_ne (ne_of h e (fun z => by rw [← z] at n; cases n))]; exact h)
    · exact .inr ⟨ob, by rw [upd_ne (ne_of h e (fun z => by rw [← z] at n; cases n))]; exact h⟩
  · exact .inr h
theorem sqt_new {xs : List V} : SqT K (upd H a (.tup xs)) a xs := SqT.of upd_same
end
/-! ### stores to fields of owned objects -/
def Lk (fs : List (Str × V)) (f : Str) (v : V) : Prop := fs.lookup f = some v
def Nn (fs : List (Str × V)) (m : Str) : Prop := fs.lookup m = none
def PutF (fs : List (Str × V)) (f : Str) (v : V) (fs' : List (Str × V)) : Prop := putF f v fs = fs'
theorem Lk.to {fs : List (Str × V)} {f : Str} {v : V} (h : Lk fs f v) : fs.lookup f = some v := h
theorem Nn.to {fs : List (Str × V)} {m : Str} (h : Nn fs m) : fs.lookup m = none := h
theorem PutF.nil {f : Str} {v : V} : PutF [] f v [(f, v)] := rfl
theorem PutF.cons {f g : Str} {v x : V} {r r' : List (Str × V)} (n : ¬ g = f) (h : PutF r f v r') : PutF ((g, x) :: r) f v ((g, x) :: r') := by
  show (if g = f then (g, v) :: r else (g, x) :: putF f v r) = _
  rw [if_neg n, (show putF f v r = r' from h)]
/-- a store | a store behind a reading of the same field -/
def FW (K : PySem.W.Frag) (H : Hp) (p : Addr) (f : Str) (y : V) (R : Hp → Prop) : Prop := ∃ a C dx fs, V.ref p = .ref a ∧ H a = some (.ins C dx fs) ∧ Cls K C ∧ NoAttr K C f ∧ fs.length < 1000 ∧ R (upd H a (.ins C dx (putF f y fs)))
def FA (H : Hp) (p C : Addr) (f : Str) (y : V) (R : Hp → Prop) : Prop := ∃ dx fs, H p = some (.ins C dx fs) ∧ fs.length < 1000 ∧ R (upd H p (.ins C dx (putF f y fs)))
section
variable {K : PySem.W.Frag} {H : Hp} {L : List (Addr × HO)} {R : Hp → Prop} {p C dx : Addr} {f : Str} {y : V} {fs fs' : List (Str × V)} {o u : HO} {a : Addr} {x0 x1 x2 x3 x4 x5 x6 x7 x8 x9 x10 x11 : Addr × HO}
theorem fw_in (h : FW K H p f y R) : ∃ a C dx fs, V.ref p = .ref a ∧ H a = some (.ins C dx fs) ∧ Cls K C ∧ NoAttr K C f ∧ fs.length < 1000 ∧ R (upd H a (.ins C dx (putF f y fs))) := h
theorem fa_in (h : FA H p C f y R) : ∃ dx fs, H p = some (.ins C dx fs) ∧ fs.length < 1000 ∧ R (upd H p (.ins C dx (putF f y fs))) := h
theorem Has.w0 (h : Has ((p, .ins C dx fs) :: L) H) (hc : Cls K C) (hn : NoAttr K C f) (hl : fs.length < 1000) (e : PutF fs f y fs') (q : ∀ H1, Has ((p, .ins C dx fs') :: L) H1 → Tk H H1 → R H1) : FW K H p f y R :=
  ⟨p, C, dx, fs, rfl, h.g0, hc, hn, hl, q _ (by rw [(show putF f y fs = fs' from e)]; exact h.u0) (Tk.mut h.g0 rfl)⟩
theorem Has.v0 (h : Has ((p, .ins C dx fs) :: L) H) (hl : fs.length < 1000) (e : PutF fs f y fs') (q : ∀ H1, Has ((p, .ins C dx fs') :: L) H1 → Tk H H1 → R H1) : FA H p C f y R :=
  ⟨dx, fs, h.g0, hl, q _ (by rw [(show putF f y fs = fs' from e)]; exact h.u0) (Tk.mut h.g0 rfl)⟩
theorem Has.w1 (h : Has (x0 :: (p, .ins C dx fs) :: L) H) (hc : Cls K C) (hn : NoAttr K C f) (hl : fs.length < 1000) (e : PutF fs f y fs') (q : ∀ H1, Has (x0 :: (p, .ins C dx fs') :: L) H1 → Tk H H1 → R H1) : FW K H p f y R :=
  ⟨p, C, dx, fs, rfl, h.g1, hc, hn, hl, q _ (by rw [(show putF f y fs = fs' from e)]; exact h.u1) (Tk.mut h.g1 rfl)⟩
theorem Has.v1 (h : Has (x0 :: (p, .ins C dx fs) :: L) H) (hl : fs.length < 1000) (e : PutF fs f y fs') (q : ∀ H1, Has (x0 :: (p, .ins C dx fs') :: L) H1 → Tk H H1 → R H1) : FA H p C f y R :=
  ⟨dx, fs, h.g1, hl, q _ (by rw [(show putF f y fs = fs' from e)]; exact h.u1) (Tk.mut h.g1 rfl)⟩
theorem Has.w2 (h : Has (x0 :: x1 :: (p, .ins C dx fs) :: L) H) (hc : Cls K C) (hn : NoAttr K C f) (hl : fs.length < 1000) (e : PutF fs f y fs') (q : ∀ H1, Has (x0 :: x1 :: (p, .ins C dx fs') :: L) H1 → Tk H H1 → R H1) : FW K H p f y R :=
  ⟨p, C, dx, fs, rfl, h.g2, hc, hn, hl, q _ (by rw [(show putF f y fs = fs' from e)]; exact h.u2) (Tk.mut h.g2 rfl)⟩
theorem Has.v2 (h : Has (x0 :: x1 :: (p, .ins C dx fs) :: L) H) (hl : fs.length < 1000) (e : PutF fs f y fs') (q : ∀ H1, Has (x0 :: x1 :: (p, .ins C dx fs') :: L) H1 → Tk H H1 → R H1) : FA H p C f y R :=
  ⟨dx, fs, h.g2, hl, q _ (by rw [(show putF f y fs = fs' from e)]; exact h.u2) (Tk.mut h.g2 rfl)⟩
theorem Has.w3 (h : Has (x0 :: x1 :: x2 :: (p, .ins C dx fs) :: L) H) (hc : Cls K C) (hn : NoAttr K C f) (hl : fs.length < 1000) (e : PutF fs f y fs') (q : ∀ H1, Has (x0 :: x1 :: x2 :: (p, .ins C dx fs') :: L) H1 → Tk H H1 → R H1) : FW K H p f y R :=
  ⟨p, C, dx, fs, rfl, h.g3, hc, hn, hl, q _ (by rw [(show putF f y fs = fs' from e)]; exact h.u3) (Tk.mut h.g3 rfl)⟩
theorem Has.v3 (h : Has (x0 :: x1 :: x2 :: (p, .ins C dx fs) :: L) H) (hl : fs.length < 1000) (e : PutF fs f y fs') (q : ∀ H1, Has (x0 :: x1 :: x2 :: (p, .ins C dx fs') :: L) H1 → Tk H H1 → R H1) : FA H p C f y R :=
  ⟨dx, fs, h.g3, hl, q _ (by rw [(show putF f y fs = fs' from e)]; exact h.u3) (Tk.mut h.g3 rfl)⟩
theorem Has.w4 (h : Has (x0 :: x1 :: x2 :: x3 :: (p, .ins C dx fs) :: L) H) (hc : Cls K C) (hn : NoAttr K C f) (hl : fs.length < 1000) (e : PutF fs f y fs') (q : ∀ H1, Has (x0 :: x1 :: x2 :: x3 :: (p, .ins C dx fs') :: L) H1 → Tk H H1 → R H1) : FW K H p f y R :=
  ⟨p, C, dx, fs, rfl, h.g4, hc, hn, hl, q _ (by rw [(show putF f y fs = fs' from e)]; exact h.u4) (Tk.mut h.g4 rfl)⟩
theorem Has.v4 (h : Has (x0 :: x1 :: x2 :: x3 :: (p, .ins C dx fs) :: L) H) (hl : fs.length < 1000) (e : PutF fs f y fs') (q : ∀ H1, Has (x0 :: x1 :: x2 :: x3 :: (p, .ins C dx fs') :: L) H1 → Tk H H1 → R H1) : FA H p C f y R :=
  ⟨dx, fs, h.g4, hl, q _ (by rw [(show putF f y fs = fs' from e)]; exact h.u4) (Tk.mut h.g4 rfl)⟩
theorem Has.w5 (h : Has (x0 :: x1 :: x2 :: x3 :: x4 :: (p, .ins C dx fs) :: L) H) (hc : Cls K C) (hn : NoAttr K C f) (hl : fs.length < 1000) (e : PutF fs f y fs') (q : ∀ H1, Has (x0 :: x1 :: x2 :: x3 :: x4 :: (p, .ins C dx fs') :: L) H1 → Tk H H1 → R H1) : FW K H p f y R :=
  ⟨p, C, dx, fs, rfl, h.g5, hc, hn, hl, q _ (by rw [(show putF f y fs = fs' from e)]; exact h.u5) (Tk.mut h.g5 rfl)⟩
theorem Has.v5 (h : Has (x0 :: x1 :: x2 :: x3 :: x4 :: (p, .ins C dx fs) :: L) H) (hl : fs.length < 1000) (e : PutF fs f y fs') (q : ∀ H1, Has (x0 :: x1 :: x2 :: x3 :: x4 :: (p, .ins C dx fs') :: L) H1 → Tk H H1 → R H1) : FA H p C f y R :=
  ⟨dx, fs, h.g5, hl, q _ (by rw [(show putF f y fs = fs' from e)]; exact h.u5) (Tk.mut h.g5 rfl)⟩
theorem Has.w6 (h : Has (x0 :: x1 :: x2 :: x3 :: x4 :: x5 :: (p, .ins C dx fs) :: L) H) (hc : Cls K C) (hn : NoAttr K C f) (hl : fs.length < 1000) (e : PutF fs f y fs') (q : ∀ H1, Has (x0 :: x1 :: x2 :: x3 :: x4 :: x5 :: (p, .ins C dx fs') :: L) H1 → Tk H H1 → R H1) : FW K H p f y R :=
  ⟨p, C, dx, fs, rfl, h.g6, hc, hn, hl, q _ (by rw [(show putF f y fs = fs' from e)]; exact h.u6) (Tk.mut h.g6 rfl)⟩
theorem Has.v6 (h : Has (x0 :: x1 :: x2 :: x3 :: x4 :: x5 :: (p, .ins C dx fs) :: L) H) (hl : fs.length < 1000) (e : PutF fs f y fs') (q : ∀ H1, Has (x0 :: x1 :: x2 :: x3 :: x4 :: x5 :: (p, .ins C dx fs') :: L) H1 → Tk H H1 → R H1) : FA H p C f y R :=
  ⟨dx, fs, h.g6, hl, q _ (by rw [(show putF f y fs = fs' from e)]; exact h.u6) (Tk.mut h.g6 rfl)⟩
theorem Has.w7 (h : Has (x0 :: x1 :: x2 :: x3 :: x4 :: x5 :: x6 :: (p, .ins C dx fs) :: L) H) (hc : Cls K C) (hn : NoAttr K C f) (hl : fs.length < 1000) (e : PutF fs f y fs') (q : ∀ H1, Has (x0 :: x1 :: x2 :: x3 :: x4 :: x5 :: x6 :: (p, .ins C dx fs') :: L) H1 → Tk H H1 → R H1) : FW K H p f y R :=
  ⟨p, C, dx, fs, rfl, h.g7, hc, hn, hl, q _ (by rw [(show putF f y fs = fs' from e)]; exact h.u7) (Tk.mut h.g7 rfl)⟩
theorem Has.v7 (h : Has (x0 :: x1 :: x2 :: x3 :: x4 :: x5 :: x6 :: (p, .ins C dx fs) :: L) H) (hl : fs.length < 1000) (e : PutF fs f y fs') (q : ∀ H1, Has (x0 :: x1 :: x2 :: x3 :: x4 :: x5 :: x6 :: (p, .ins C dx fs') :: L) H1 → Tk H H1 → R H1) : FA H p C f y R :=
  ⟨dx, fs, h.g7, hl, q _ (by rw [(show putF f y fs = fs' from e)]; exact h.u7) (Tk.mut h.g7 rfl)⟩
theorem Has.w8 (h : Has (x0 :: x1 :: x2 :: x3 :: x4 :: x5 :: x6 :: x7 :: (p, .ins C dx fs) :: L) H) (hc : Cls K C) (hn : NoAttr K C f) (hl : fs.length < 1000) (e : PutF fs f y fs') (q : ∀ H1, Has (x0 :: x1 :: x2 :: x3 :: x4 :: x5 :: x6 :: x7 :: (p, .ins C dx fs') :: L) H1 → Tk H H1 → R H1) : FW K H p f y R :=
  ⟨p, C, dx, fs, rfl, h.g8, hc, hn, hl, q _ (by rw [(show putF f y fs = fs' from e)]; exact h.u8) (Tk.mut h.g8 rfl)⟩
theorem Has.v8 (h : Has (x0 :: x1 :: x2 :: x3 :: x4 :: x5 :: x6 :: x7 :: (p, .ins C dx fs) :: L) H) (hl : fs.length < 1000) (e : PutF fs f y fs') (q : ∀ H1, Has (x0 :: x1 :: x2 :: x3 :: x4 :: x5 :: x6 :: x7 :: (p, .ins C dx fs') :: L) H1 → Tk H H1 → R H1) : FA H p C f y R :=
  ⟨dx, fs, h.g8, hl, q _ (by rw [(show putF f y fs = fs' from e)]; exact h.u8) (Tk.mut h.g8 rfl)⟩
theorem Has.w9 (h : Has (x0 :: x1 :: x2 :: x3 :: x4 :: x5 :: x6 :: x7 :: x8 :: (p, .ins C dx fs) :: L) H) (hc : Cls K C) (hn : NoAttr K C f) (hl : fs.length < 1000) (e : PutF fs f y fs') (q : ∀ H1, Has (x0 :: x1 :: x2 :: x3 :: x4 :: x5 :: x6 :: x7 :: x8 :: (p, .ins C dx fs') :: L) H1 → Tk H H1 → R H1) : FW K H p f y R :=
  ⟨p, C, dx, fs, rfl, h.g9, hc, hn, hl, q _ (by rw [(show putF f y fs = fs' from e)]; exact h.u9) (Tk.mut h.g9 rfl)⟩
theorem Has.v9 (h : Has (x0 :: x1 :: x2 :: x3 :: x4 :: x5 :: x6 :: x7 :: x8 :: (p, .ins C dx fs) :: L) H) (hl : fs.length < 1000) (e : PutF fs f y fs') (q : ∀ H1, Has (x0 :: x1 :: x2 :: x3 :: x4 :: x5 :: x6 :: x7 :: x8 :: (p, .ins C dx fs') :: L) H1 → Tk H H1 → R H1) : FA H p C f y R :=
  ⟨dx, fs, h.g9, hl, q _ (by rw [(show putF f y fs = fs' from e)]; exact h.u9) (Tk.mut h.g9 rfl)⟩
theorem Has.w10 (h : Has (x0 :: x1 :: x2 :: x3 :: x4 :: x5 :: x6 :: x7 :: x8 :: x9 :: (p, .ins C dx fs) :: L) H) (hc : Cls K C) (hn : NoAttr K C f) (hl : fs.length < 1000) (e : PutF fs f y fs') (q : ∀ H1, Has (x0 :: x1 :: x2 :: x3 :: x4 :: x5 :: x6 :: x7 :: x8 :: x9 :: (p, .ins C dx fs') :: L) H1 → Tk H H1 → R H1) : FW K H p f y R :=
  ⟨p, C, dx, fs, rfl, h.g10, hc, hn, hl, q _ (by rw [(show putF f y fs = fs' from e)]; exact h.u10) (Tk.mut h.g10 rfl)⟩
theorem Has.v10 (h : Has (x0 :: x1 :: x2 :: x3 :: x4 :: x5 :: x6 :: x7 :: x8 :: x9 :: (p, .ins C dx fs) :: L) H) (hl : fs.length < 1000) (e : PutF fs f y fs') (q : ∀ H1, Has (x0 :: x1 :: x2 :: x3 :: x4 :: x5 :: x6 :: x7 :: x8 :: x9 :: (p, .ins C dx fs') :: L) H1 → Tk H H1 → R H1) : FA H p C f y R :=
  ⟨dx, fs, h.g10, hl, q _ (by rw [(show putF f y fs = fs' from e)]; exact h.u10) (Tk.mut h.g10 rfl)⟩
theorem Has.nw {SR : Addr → Hp → Prop} (h : Has L H) (q : ∀ p H1, H p = none → Has ((p, o) :: L) H1 → Tk H H1 → (∀ K xs, o = .tup xs → SqT K H1 p xs) → SR p H1) : ∀ p, H p = none → SR p (upd H p o) :=
  fun p n => q p _ n (h.new n) (Tk.new n) (fun K xs e => by rw [e]; exact sqt_new)
end
/-! ### small words -/
theorem ln_ex {α : Sort _} {p : α → Prop} {q : Prop} (h : ∀ x, p x → q) : (∃ x, p x) → q := fun ⟨x, hx⟩ => h x hx
theorem ln_and {n : Nat} {vs us : List V} {r : Prop} (h : us.length = n) : (vs = us ∧ r) → vs.length = n := fun ⟨e, _⟩ => by rw [e]; exact h
theorem if_t {c : Bool} {A B : Prop} (h : c = true) (a : A) : if c = true then A else B := by rw [if_pos h]; exact a
theorem if_f {c : Bool} {A B : Prop} (h : c = false) (b : B) : if c = true then A else B := by rw [h, if_neg Bool.false_ne_true]; exact b
theorem Tk.back {H H1 H2 : Hp} (g : Tk H1 H2) (h : Tk H H1) : Tk H H2 := h.trans g
theorem sq_tk {K : PySem.W.Frag} {H H' : Hp} {t : Addr} {xs : List V} (h : SqT K H t xs) (k : Tk H H') : SqT K H' t xs := k K t xs h
/-! ### comprehensions whose element and test change nothing -/
section
variable {K : PySem.W.Frag} {a D : Addr} {xs : List V} {tt : TT} {te : TE} {i : Nat} {σ : St} {H1 : Hp} {Qd : Hp → Prop}
theorem sql_upd {H : Hp} {o : HO} (h : SqL K H a xs) (n : H D = none) : SqL K (upd H D o) a xs := by
  rcases h with h | h
  · refine .inl ?_
    rcases h with h | ⟨ob, h⟩
    · exact .inl (by rw [upd_ne (ne_of_none h n)]; exact h)
    · exact .inr ⟨ob, by rw [upd_ne (ne_of_none h n)]; exact h⟩
  · exact .inr h
theorem wipe_set (σ : St) (i : Nat) (v : Option V) : wipe (List.set (wipe σ [i]) i v) [i] = wipe σ [i] := by
  show List.set (List.set (List.set σ i none) i v) i none = List.set σ i none
  rw [List.set_set, List.set_set]
theorem lc_fm (p : V → Bool) (f : V → V) (hD : H1 D = none) (hx : SqL K H1 a xs) (hl : xs.length < sizeLine)
    (ht : ∀ x acc (Q : Bool → Hp → Prop), x ∈ xs → Q (p x) (upd H1 D (.lst acc)) → tt (List.set (wipe σ [i]) i (some x)) (upd H1 D (.lst acc)) Q)
    (he : ∀ x acc (Q : VK), x ∈ xs → p x = true → Q (f x) (upd H1 D (.lst acc)) → te (List.set (wipe σ [i]) i (some x)) (upd H1 D (.lst acc)) Q) (hd : Qd (upd H1 D (.lst ((xs.filter p).map f)))) :
    ∃ W : Nat → Nat → Hp → Prop, (∃ m, W 0 m (upd H1 D (.lst []))) ∧ ∀ j m H, W j m H →
      ((Itl K a).stop j H ∧ Qd H) ∨ ((Itl K a).go j H ∧ ∃ Nx : Hp → Prop, (∀ H', Nx H' → ∃ m', m' < m ∧ W (j + 1) m' H') ∧ ∀ x H', (Itl K a).yld j H x H' → gName i x (wipe σ [i]) H' fun σ2 H2 => wipe σ2 [i] = wipe σ [i] ∧ tt σ2 H2 fun b H3 =>
        if b = true then te σ2 H3 fun y H4 => ∃ acc, H4 D = some (.lst acc) ∧ acc.length < sizeLine ∧ Nx (upd H4 D (.lst (acc ++ [y]))) else Nx H3) := by
  refine lc_list (K := K) (a := a) (xs := xs) (fun j H => H = upd H1 D (.lst (((xs.take j).filter p).map f))) (by rw [List.take_zero]; rfl) (fun j H _ e => by rw [e]; exact sql_upd hx hD) (fun j x H hj e => ?_) (fun H e => by rw [e, List.take_of_length_le (Nat.le_refl _)]; exact hd)
  subst e
  have hm : x ∈ xs := List.mem_of_getElem? hj
  have hlt : j < xs.length := (List.getElem?_eq_some_iff.mp hj).1
  have tk : xs.take (j + 1) = xs.take j ++ [x] := by rw [List.take_succ, hj]; rfl
  have len : (((xs.take j).filter p).map f).length < sizeLine := by
    rw [List.length_map]
    have h1 := List.length_filter_le p (xs.take j)
    have h2 : (xs.take j).length ≤ xs.length := by rw [List.length_take]; omega
    omega
  refine ⟨wipe_set σ i _, ht x _ _ hm ?_⟩
  cases e : p x with
  | true =>
    refine iteT (he x _ _ hm e ?_)
    refine ⟨_, upd_same, len, ?_⟩
    rw [upd_upd, tk, List.filter_append, List.map_append, List.filter_cons, e]
    rfl
  | false =>
    refine iteF ?_
    rw [tk, List.filter_append, List.filter_cons, e]
    show upd H1 D _ = upd H1 D (.lst ((List.filter p (xs.take j) ++ List.filter p []).map f))
    rw [List.filter_nil, List.append_nil]
end
section
variable {K : PySem.W.Frag} {D : Addr} {te : TE} {i : Nat} {σ : St} {H1 : Hp} {Qd : Hp → Prop}
theorem lc_rng {lo : Int} {n : Nat} (f : Nat → V) (hD : H1 D = none) (hl : n < sizeLine)
    (he : ∀ j acc (Q : VK), j < n → Q (f j) (upd H1 D (.lst acc)) → te (List.set (wipe σ [i]) i (some (.int (lo + j)))) (upd H1 D (.lst acc)) Q) (hd : Qd (upd H1 D (.lst ((List.range n).map f)))) :
    ∃ W : Nat → Nat → Hp → Prop, (∃ m, W 0 m (upd H1 D (.lst []))) ∧ ∀ j m H, W j m H →
      ((Itr lo n).stop j H ∧ Qd H) ∨ ((Itr lo n).go j H ∧ ∃ Nx : Hp → Prop, (∀ H', Nx H' → ∃ m', m' < m ∧ W (j + 1) m' H') ∧ ∀ x H', (Itr lo n).yld j H x H' → gName i x (wipe σ [i]) H' fun σ2 H2 => wipe σ2 [i] = wipe σ [i] ∧ tYes σ2 H2 fun b H3 =>
        if b = true then te σ2 H3 fun y H4 => ∃ acc, H4 D = some (.lst acc) ∧ acc.length < sizeLine ∧ Nx (upd H4 D (.lst (acc ++ [y]))) else Nx H3) := by
  refine lc_range (fun j H => H = upd H1 D (.lst ((List.range j).map f))) (by rw [List.range_zero]; rfl) (fun j H hj e => ?_) (fun H e => by rw [e]; exact hd)
  subst e
  refine ⟨wipe_set σ i _, ?_⟩
  unfold tYes
  dsimp only
  rw [if_pos rfl]
  refine he j _ _ hj ?_
  refine ⟨_, upd_same, by rw [List.length_map, List.length_range]; omega, ?_⟩
  rw [upd_upd, List.range_succ, List.map_append]
  rfl
end
theorem lk_hd {f : Str} {v : V} {r : List (Str × V)} : List.lookup f ((f, v) :: r) = some v := by simp [List.lookup]
theorem lk_tl {f g : Str} {v x : V} {r : List (Str × V)} (n : (f == g) = false) (h : List.lookup f r = some v) : List.lookup f ((g, x) :: r) = some v := by rw [List.lookup, n]; exact h
/-! ### rules that name the written part (for what stands within a comprehension) -/
section
variable {X : Cx} {K : PySem.W.Frag}
theorem pe_fldK (hK : X.K = K) {e : Expr} {f : Str} {pos : Pos} {ta : TE} (he : PE X e ta) (hb : attributeBase e f X.env (eval e X.env) = eval e X.env) : PE X (.Attribute e f pos) (tFld K ta f) := by rw [← hK]; exact pe_fld he hb
theorem op_eqDK (hK : X.K = K) (hu : X.A.units + 64 < cLine) : OpR X (compareOp .Eq) (rEqD K) := by rw [← hK]; exact op_eqD hu
theorem op_neDK (hK : X.K = K) (hu : X.A.units + 64 < cLine) : OpR X (compareOp .NotEq) (rNeD K) := by rw [← hK]; exact op_neD hu
theorem op_in_seqK (hK : X.K = K) : OpR X (compareOp .In) (rIn K false) := by rw [← hK]; exact op_in_seq
theorem op_notIn_seqK (hK : X.K = K) : OpR X (compareOp .NotIn) (rIn K true) := by rw [← hK]; exact op_notIn_seq
theorem op_catTK (hK : X.K = K) : OpR X (binaryOp .Add) (rCatT K) := by rw [← hK]; exact op_catT
theorem ix_listK (hK : X.K = K) : IxR X (rIxL K) := by rw [← hK]; exact ix_list
theorem ix_tupK (hK : X.K = K) : IxR X (rIxT K) := by rw [← hK]; exact ix_tup
theorem cr_maxK (hK : X.K = K) (hc : X.calm = true) : CallR X (.builtin "max") (rMax K) := by rw [← hK]; exact cr_max hc
theorem cr_minK (hK : X.K = K) (hc : X.calm = true) : CallR X (.builtin "min") (rMin K) := by rw [← hK]; exact cr_min hc
theorem call_len_seqK (hK : X.K = K) : CallR X (.builtin "len") (fun xs H Q => ∃ p ys, xs = [.ref p] ∧ (SqL K H p ys ∨ SqT K H p ys) ∧ Q (.int ys.length) H) := by rw [← hK]; exact call_len_seq
end
theorem ty_if {σ : St} {H : Hp} {F G : Hp → Prop} (h : F H) : tYes σ H fun b H3 => if b = true then F H3 else G H3 := by
  show if true = true then F H else G H
  rw [if_pos rfl]
  exact h
section
variable {K : PySem.W.Frag} {a D : Addr} {tt : TT} {te : TE} {i : Nat} {σ : St} {H1 : Hp} {Qd : Hp → Prop} {ns : List Int}
/-- the same over a list of numbers, to numbers -/
theorem lc_int (p : Int → Bool) (f : Int → Int) (hD : H1 D = none) (hx : SqL K H1 a (ns.map V.int)) (hl : ns.length < sizeLine)
    (ht : ∀ x acc (Q : Bool → Hp → Prop), x ∈ ns → Q (p x) (upd H1 D (.lst acc)) → tt (List.set (wipe σ [i]) i (some (.int x))) (upd H1 D (.lst acc)) Q)
    (he : ∀ x acc (Q : VK), x ∈ ns → p x = true → Q (.int (f x)) (upd H1 D (.lst acc)) → te (List.set (wipe σ [i]) i (some (.int x))) (upd H1 D (.lst acc)) Q) (hd : Qd (upd H1 D (.lst (((ns.filter p).map f).map V.int)))) :
    ∃ W : Nat → Nat → Hp → Prop, (∃ m, W 0 m (upd H1 D (.lst []))) ∧ ∀ j m H, W j m H →
      ((Itl K a).stop j H ∧ Qd H) ∨ ((Itl K a).go j H ∧ ∃ Nx : Hp → Prop, (∀ H', Nx H' → ∃ m', m' < m ∧ W (j + 1) m' H') ∧ ∀ x H', (Itl K a).yld j H x H' → gName i x (wipe σ [i]) H' fun σ2 H2 => wipe σ2 [i] = wipe σ [i] ∧ tt σ2 H2 fun b H3 =>
        if b = true then te σ2 H3 fun y H4 => ∃ acc, H4 D = some (.lst acc) ∧ acc.length < sizeLine ∧ Nx (upd H4 D (.lst (acc ++ [y]))) else Nx H3) := by
  let q : V → Bool := fun v => match v with | .int x => p x | _ => false
  let g : V → V := fun v => match v with | .int x => .int (f x) | v => v
  refine lc_fm (xs := ns.map V.int) q g hD hx (by rw [List.length_map]; exact hl) (fun x acc Q hx h => ?_) (fun x acc Q hx hp h => ?_) ?_
  · obtain ⟨z, hz, rfl⟩ := List.mem_map.mp hx
    exact ht z acc Q hz h
  · obtain ⟨z, hz, rfl⟩ := List.mem_map.mp hx
    exact he z acc Q hz hp h
  · have e : ((ns.map V.int).filter q).map g = ((ns.filter p).map f).map V.int := by
      clear hd he ht hx hl hD
      induction ns with
      | nil => rfl
      | cons x r ih =>
        rw [List.map_cons, List.filter_cons, List.filter_cons]
        show (if p x = true then V.int x :: List.filter q (List.map V.int r) else List.filter q (List.map V.int r)).map g = _
        by_cases h : p x = true
        · rw [if_pos h, if_pos h, List.map_cons, List.map_cons, List.map_cons, ih]
        · rw [if_neg h, if_neg h]; exact ih
    rw [e]
    exact hd
end
theorem atI_at {xs : List V} {i : Int} {v : V} (j : Nat) (e : (j : Int) = i) (h : xs[j]? = some v) : atI xs i = some v := by rw [← e]; exact atI_nat h
theorem ixN_at {n : Nat} {i : Int} (j : Nat) (e : (j : Int) = i) (h : j < n) : ixN n i = some j := by
  subst e
  unfold ixN
  rw [if_pos (Int.natCast_nonneg j), if_pos (by omega)]
  rfl
end Sw

/-! ## Dic -/
set_option Elab.async false
set_option linter.all false
set_option maxRecDepth 100000
set_option maxHeartbeats 4000000
/-! Slabwarren: a dict with tuple keys, its keys' tuples told by their addresses (they may stand in the written part). Own work. -/
namespace Sw
open PySem PySem.Spec PyProof.Rows L2
abbrev Ent := List Key × Addr × V
def lookE (xs : List Ent) (k : List Key) : Option V := (xs.find? fun x => decide (x.1 = k)).map (·.2.2)
def putX (k : List Key) (v : V) (x : Ent) : Ent := if x.1 = k then (x.1, x.2.1, v) else x
def putE (xs : List Ent) (k : List Key) (b : Addr) (v : V) : List Ent := if (lookE xs k).isSome then xs.map (putX k v) else xs ++ [(k, b, v)]
def RelX (x : Ent) (y : List Key × Addr × Value) : Prop := x.1 = y.1 ∧ x.2.1 = y.2.1 ∧ RelV x.2.2 y.2.2
theorem lookE_rel {xs : List Ent} {ys : List (List Key × Addr × Value)} (r : Paired RelX xs ys) (k : List Key) : RelO (lookE xs k) ((atKey ys k).map (·.2)) := by
  unfold lookE atKey
  induction r with
  | nil => exact True.intro
  | @cons p q ps qs h t ih =>
    obtain ⟨h1, h2, h3⟩ := h
    rw [List.find?_cons, List.find?_cons]
    by_cases e : p.1 = k
    · rw [decide_eq_true e, decide_eq_true (h1.symm.trans e)]
      exact h3
    · rw [decide_eq_false e, decide_eq_false (fun z => e (h1.trans z))]
      exact ih
theorem putE_rel {xs : List Ent} {ys : List (List Key × Addr × Value)} (r : Paired RelX xs ys) (k : List Key) {b : Addr} {v : V} {u : Value} (rv : RelV v u) : Paired RelX (putE xs k b v) (storedH ys k b u) := by
  have mp : Paired RelX (xs.map (putX k v)) (ys.map (putAt k u)) := by
    induction r with
    | nil => exact .nil
    | @cons p q ps qs h t ih =>
      refine .cons ?_ ih
      obtain ⟨h1, h2, h3⟩ := h
      unfold putX putAt
      by_cases e : p.1 = k
      · rw [if_pos e, if_pos (h1.symm.trans e)]; exact ⟨h1, h2, rv⟩
      · rw [if_neg e, if_neg (fun z => e (h1.trans z))]; exact ⟨h1, h2, h3⟩
  have hs : (lookE xs k).isSome = (atKey ys k).isSome := by
    rw [(lookE_rel r k).isSome_eq, Option.isSome_map]
  unfold putE storedH
  rw [hs]
  by_cases q : (atKey ys k).isSome = true
  · rw [if_pos q, if_pos q]; exact mp
  · rw [if_neg q, if_neg q]; exact Paired.snoc r ⟨rfl, rfl, rv⟩
section
variable (P : Program) (w : World)
def DExt (a : Addr) (xs : List Ent) (h : Heap) : Prop := xs.length ≤ sizeLine ∧ (a == sysModules) = false ∧ ∃ ys : List (List Key × Addr × Value), Paired RelX xs ys ∧
  ∃ o es ep, h.get? a = some o ∧ o.ExactDict ∧ o.data = .dict es ep ∧ es.toList = ys.map (entryOfKey (tupleKind (mixKind P w))) ∧ (ys.map (·.1)).Nodup
def dicO (a : Addr) (xs : List Ent) : HO := .ext (DExt P w a xs)
end
/-- every key's tuple stands -/
def KeysOk (K : PySem.W.Frag) (H : Hp) (xs : List Ent) : Prop := ∀ x ∈ xs, SqT K H x.2.1 (x.1.map kV)
theorem KeysOk.tk {K : PySem.W.Frag} {H H' : Hp} {xs : List Ent} (h : KeysOk K H xs) (t : Tk H H') : KeysOk K H' xs := fun x hx => t _ _ _ (h x hx)
theorem KeysOk.put {K : PySem.W.Frag} {H : Hp} {xs : List Ent} {k : List Key} {b : Addr} {v : V} (h : KeysOk K H xs) (hb : SqT K H b (k.map kV)) : KeysOk K H (putE xs k b v) := by
  unfold putE
  split
  · intro x hx
    obtain ⟨y, hy, e⟩ := List.mem_map.mp hx
    subst e
    unfold putX
    split
    · exact h y hy
    · exact h y hy
  · intro x hx
    rcases List.mem_append.mp hx with hx | hx
    · exact h x hx
    · rw [List.mem_singleton.mp hx]; exact hb
theorem putE_len (xs : List Ent) (k : List Key) (b : Addr) (v : V) : (putE xs k b v).length ≤ xs.length + 1 := by
  unfold putE
  split
  · rw [List.length_map]; omega
  · rw [List.length_append]; exact Nat.le_refl _
section
variable {P : Program} {w : World} {H H' : Hp} {h : Heap} {a : Addr} {xs : List Ent}
theorem dext_ok (l : xs.length ≤ sizeLine) (hd : (a == sysModules) = false) {ys : List (List Key × Addr × Value)} (r : Paired RelX xs ys) {o : Obj} {es : Array DictEntry} {ep : Nat} (h1 : h.get? a = some o) (h2 : o.ExactDict) (h3 : o.data = .dict es ep)
    (h4 : es.toList = ys.map (entryOfKey (tupleKind (mixKind P w)))) (h5 : (ys.map (·.1)).Nodup) : ObjOk P w H h a (dicO P w a xs) :=
  ⟨⟨l, hd, ys, r, o, es, ep, h1, h2, h3, h4, h5⟩, ⟨o, h1⟩, fun g1 g2 ⟨l', hd', ys', r', o', es', ep', k1, k2, k3, k4, k5⟩ hg => ⟨l', hd', ys', r', o', es', ep', hg o' k1, k2, k3, k4, k5⟩⟩
theorem dicO_mut : Mut (some (dicO P w a xs)) := True.intro
end
section
variable {X : Cx} {pins : List (Addr × Obj)} {σ : St} {H : Hp} {s : Shared} {a b : Addr} {k : List Key} {xs : List Ent} {A : Around} {E : Value → Shared → Prop}
theorem sq_key (I : Inv X pins σ H s) (e : SqT X.K H b (k.map kV)) : (tupleKind (mixKind X.prog X.w)).is s.heap k b := by
  obtain ⟨its, r, ⟨o, h1, h2, n, h3⟩, _⟩ := I.tuple e
  exact ⟨o, its.toArray, n, h1, h2, h3, by simpa using items_are r⟩
theorem dic_at (I : Inv X pins σ H s) (e : H a = some (dicO X.prog X.w a xs)) (ks : KeysOk X.K H xs) : xs.length ≤ sizeLine ∧ (a == sysModules) = false ∧
    ∃ ys : List (List Key × Addr × Value), Paired RelX xs ys ∧ s.heap.DictOfH (tupleKind (mixKind X.prog X.w)) a ys := by
  obtain ⟨⟨l, hd, ys, r, o, es, ep, h1, h2, h3, h4, h5⟩, _⟩ := (show ObjOk X.prog X.w H s.heap a (dicO X.prog X.w a xs) from I.hok a _ e)
  refine ⟨l, hd, ys, r, o, es, ep, h1, h2, h3, h4, ?_, h5⟩
  clear h1 h2 h3 h4 h5 l hd e
  rename_i hmut
  clear hmut
  induction r with
  | nil => intro x hx; exact nomatch hx
  | @cons p q ps qs hq t ih =>
    intro x hx
    rcases List.mem_cons.mp hx with ex | hx
    · subst ex
      obtain ⟨e1, e2, _⟩ := hq
      have := ks p (List.mem_cons_self ..)
      rw [e1, e2] at this
      exact sq_key I this
    · exact ih (fun z hz => ks z (List.mem_cons_of_mem _ hz)) x hx
theorem dic_ty (I : Inv X pins σ H s) (e : H a = some (dicO X.prog X.w a xs)) : s.TypeIs (.ref a) "dict" ∧ ∀ b, Value.ref a = .ref b → ∃ ob, s.heap.get? b = some ob ∧ ob.dict = none := by
  obtain ⟨⟨l, hd, ys, r, o, es, ep, h1, h2, h3, h4, h5⟩, _⟩ := (show ObjOk X.prog X.w H s.heap a (dicO X.prog X.w a xs) from I.hok a _ e)
  refine ⟨⟨o, h1, h2.1⟩, fun b q => ?_⟩
  cases q
  exact ⟨o, h1, h2.2.1⟩
/-- d.get(k, x) -/
theorem dic_get {d : V} {r : Value} {Q : Value → Shared → Prop} (hu : A.units + 1 < cLine) (I : Inv X pins σ H s) (e : H a = some (dicO X.prog X.w a xs)) (ks : KeysOk X.K H xs) (hb : SqT X.K H b (k.map kV)) (rd : RelV d r)
    (h : ∀ w' s', Inv X pins σ H s' → RelV ((lookE xs k).getD d) w' → Q w' s') : wpAny (model X.prog X.w) A (call (.builtin "dict.get") [.ref a, .ref b, r]) Q E s := by
  obtain ⟨l, hd, ys, rel, dd⟩ := dic_at I e ks
  refine call_meetsIn PySem.F.slot_dict_get (dic_ty I e).1 PySem.F.entry_dict_get (PySem.F.args_dict_get_3 _ _ _) (meetsH_dict_get_default (tupleKind (mixKind X.prog X.w)) a b hd r)
    ⟨tupleKind_room_in1 hu, k, ys, sq_key I hb, dd, h _ _ (I.tok _) ((lookE_rel rel k).getD rd)⟩
/-- d[k] = v -/
theorem dic_set {v : V} {u : Value} {Q : Unit → Shared → Prop} (hu : A.units + 1 < cLine) (I : Inv X pins σ H s) (e : H a = some (dicO X.prog X.w a xs)) (ks : KeysOk X.K H xs) (hb : SqT X.K H b (k.map kV)) (rv : RelV v u) (hl : xs.length < sizeLine)
    (h : ∀ s', Inv X pins σ (upd H a (dicO X.prog X.w a (putE xs k b v))) s' → Q () s') : wpAny (model X.prog X.w) A (setItem (.ref a) (.ref b) u) Q E s := by
  obtain ⟨l, hd, ys, rel, dd⟩ := dic_at I e ks
  have hz : ys.length ≤ sizeLine := by rw [← Paired.length rel]; exact l
  refine wpAny_setItem_heap (hsz := hz) (tupleKind_room_in1 hu) (sq_key I hb) dd fun h' dd' hs => h _ ?_
  obtain ⟨q, es, ep, hq, h2, h3, h4, _, h5⟩ := dd'
  have hl' := putE_len xs k b v
  exact d_write I (by rw [e]; exact True.intro) hs ⟨q, hq⟩ (dext_ok (by omega) hd (putE_rel rel k rv) hq h2 h3 h4 h5)
end
/-! ### the rules -/
def tMNew (P : Program) (w : World) : TE := fun _ H Q => ∀ p, H p = none → Q (.ref p) (upd H p (dicO P w p []))
def tMGet (P : Program) (w : World) (K : PySem.W.Frag) (td tk tx : TE) : TE := fun σ H Q => td σ H fun x H1 => ∃ a xs0, x = .ref a ∧ H1 a = some (dicO P w a xs0) ∧ tk σ H1 fun y H2 => tx σ H2 fun z H3 =>
  ∃ b k xs, y = .ref b ∧ H3 a = some (dicO P w a xs) ∧ KeysOk K H3 xs ∧ SqT K H3 b (k.map kV) ∧ Q ((lookE xs k).getD z) H3
def sMPut (P : Program) (w : World) (K : PySem.W.Frag) (td tk tv : TE) : TS := fun D σ H => tv σ H fun v H1 => td σ H1 fun x H2 => tk σ H2 fun y H3 =>
  ∃ a b k xs, x = .ref a ∧ y = .ref b ∧ H3 a = some (dicO P w a xs) ∧ KeysOk K H3 xs ∧ SqT K H3 b (k.map kV) ∧ xs.length < sizeLine ∧ D.nx σ (upd H3 a (dicO P w a (putE xs k b v)))
section
variable {X : Cx} {o i e f value : Expr} {pos pos' apos cpos : Pos} {td tk tx tv : TE}
theorem pe_mnew : PE X (.Dict [] [] pos) (tMNew X.prog X.w) := ⟨fun pins s σ H Q I h => by
  refine wpAny_Dict_empty ⟨.ref s.heap.objs.size, _, I.laid (a := s.heap.objs.size) (o := dicO X.prog X.w s.heap.objs.size []) (t' := s.toks) (fun _ _ q => Heap.get?_push_of_some _ q) (Nat.le_refl _) ?_, rfl, h _ (I.hok.fresh (Nat.le_refl _))⟩
  exact dext_ok (Nat.zero_le _) (beq_eq_false_iff_ne.mpr (Ne.symm (Nat.ne_of_lt I.big))) .nil (Heap.get?_push_size _ rfl) ⟨rfl, rfl, rfl⟩ rfl rfl List.nodup_nil⟩
theorem pe_mget (hu : X.A.units + 1 < cLine) (ho : PE X o td) (he : PE X e tk) (hf : PE X f tx) (m : M2 X o "get" apos e f cpos) : PE X (.Call (.Attribute o "get" apos) [e, f] [] cpos) (tMGet X.prog X.w X.K td tk tx) := by
  refine ⟨fun pins s σ H Q I h => ?_⟩
  refine wpAny_Call_method m.base m.few m.line PySem.F.plainAttrs_dict PySem.F.slot_dict_get PySem.F.type_dict_get (thn (ho.run pins s σ H _ I h) fun u s1 ⟨x, H1, I1, rx, a, xs0, ex, d, q1⟩ => ?_)
  subst ex
  obtain rfl := (show u = Value.ref a from rx)
  obtain ⟨t1, t2⟩ := dic_ty I1 d
  refine ⟨t1, t2, ?_⟩
  rw [m.trees]
  refine Calls.callWith_builtin rfl (Calls.evalArgs_plain (Calls.spliced_cons (thn (he.run pins s1 σ H1 _ I1 q1) fun iv s2 ⟨y, H2, I2, ry, q2⟩ =>
    Calls.spliced_cons (thn (hf.run pins s2 σ H2 _ I2 q2) fun fv s3 ⟨z, H3, I3, rz, b, k, xs, ey, ea, ks, kb, q3⟩ => Calls.spliced_nil ?_))))
  subst ey
  obtain rfl := (show iv = Value.ref b from ry)
  exact dic_get hu I3 ea ks kb rz fun w' s4 I4 rw' => ⟨_, H3, I4, rw', q3⟩
theorem ps_mput (hu : X.A.units + 1 < cLine) (ho : PE X o td) (hi : PE X i tk) (hv : PE X value tv) (hs : swapsWith value (some (.Subscript o i pos')) pos.line X.env = pure false) :
    PS X (.Assign [.Subscript o i pos'] value pos) (sMPut X.prog X.w X.K td tk tv) := by
  refine ⟨fun pins s σ H D I h => ?_⟩
  refine wpAny_Assign_Subscript (thn (hv.run pins s σ H _ I h) fun r s1 ⟨v, H1, I1, rv, q1⟩ => thn (ho.run pins s1 σ H1 _ I1 q1) fun u s2 ⟨x, H2, I2, rx, q2⟩ =>
    thn (hi.run pins s2 σ H2 _ I2 q2) fun iv s3 ⟨y, H3, I3, ry, a, b, k, xs, ex, ey, ea, ks, kb, hl, q3⟩ => ?_) hs
  subst ex ey
  obtain rfl := (show u = Value.ref a from rx)
  obtain rfl := (show iv = Value.ref b from ry)
  exact dic_set hu I3 ea ks kb rv hl fun s4 I4 => ⟨σ, _, I4, q3⟩
end
/-! ### a display of keys that differ, an item -/
def tMDisp (P : Program) (w : World) (K : PySem.W.Frag) (trs : List (TE × TE)) : TE := fun σ H Q => ∀ p, H p = none → tPairs trs σ (upd H p (dicO P w p [])) fun ps H2 => H2 p = some (dicO P w p []) ∧
  ∃ es : List Ent, ps = es.map (fun e => (V.ref e.2.1, e.2.2)) ∧ KeysOk K H2 es ∧ (es.map (·.1)).Nodup ∧ es.length ≤ 15 ∧ Q (.ref p) (upd H2 p (dicO P w p es))
def tMItem (P : Program) (w : World) (K : PySem.W.Frag) (td tk : TE) : TE := fun σ H Q => td σ H fun x H1 => tk σ H1 fun y H2 => ∃ a b k xs v, x = .ref a ∧ y = .ref b ∧ H2 a = some (dicO P w a xs) ∧ KeysOk K H2 xs ∧ SqT K H2 b (k.map kV) ∧ lookE xs k = some v ∧ Q v H2
theorem stored_all {ys acc : List (List Key × Addr × Value)} (h : ((acc ++ ys).map (·.1)).Nodup) : storedAllH acc ys = acc ++ ys := by
  induction ys generalizing acc with
  | nil => simp [storedAllH]
  | cons y r ih =>
    have hn : atKey acc y.1 = none := by
      cases q : atKey acc y.1 with
      | none => rfl
      | some z =>
        unfold atKey at q
        obtain ⟨x, hx, _⟩ := Option.map_eq_some_iff.mp q
        have h1 := List.mem_of_find?_eq_some hx
        have h2 : x.1 = y.1 := of_decide_eq_true (List.find?_some (p := fun (z : List Key × Addr × Value) => decide (z.1 = y.1)) hx)
        rw [List.map_append, List.nodup_append] at h
        exact absurd h2 (h.2.2 x.1 (List.mem_map_of_mem h1) y.1 (List.mem_map_of_mem (List.mem_cons_self ..)))
    have e : storedH acc y.1 y.2.1 y.2.2 = acc ++ [y] := storedH_new hn _ _
    have := ih (acc := acc ++ [y]) (by rw [List.append_assoc]; exact h)
    simp only [storedAllH, List.foldl_cons] at this ⊢
    rw [e, this, List.append_assoc]
    rfl
section
variable {X : Cx} {o i : Expr} {pos : Pos} {td tk : TE} {keys : List (Option Expr)} {values : List Expr} {trs : List (TE × TE)}
theorem carr_of {H : Hp} {pins : List (Addr × Obj)} {σ : St} {s : Shared} (I : Inv X pins σ H s) : ∀ {es : List Ent} {ws : List (Value × Value)}, VV (es.map fun e => (V.ref e.2.1, e.2.2)) ws → KeysOk X.K H es →
    ∃ ys : List (List Key × Addr × Value), CarriesH (tupleKind (mixKind X.prog X.w)) s.heap ws ys ∧ Paired RelX es ys
  | [], _, r, _ => by rw [List.map_nil] at r; cases r; exact ⟨[], True.intro, .nil⟩
  | e :: es, _, r, ks => by
    rw [List.map_cons] at r
    cases r with
    | @cons a b as bs h t =>
      obtain ⟨ys, c, q⟩ := carr_of I t fun x hx => ks x (List.mem_cons_of_mem _ hx)
      obtain ⟨b1, b2⟩ := b
      obtain ⟨h1, h2⟩ := h
      exact ⟨(e.1, e.2.1, b2) :: ys, ⟨h1, rfl, sq_key I (ks e (List.mem_cons_self ..)), c⟩, .cons ⟨rfl, rfl, h2⟩ q⟩
theorem pe_mdisp (hu : X.A.units + 1 < cLine) (h : PPs X pos keys values trs) (hall : keys.all (·.isSome) = true) (hl : keys.length = values.length) (h0 : keys ≠ []) (h15 : keys.length ≤ 15) : PE X (.Dict keys values pos) (tMDisp X.prog X.w X.K trs) := by
  refine ⟨fun pins s σ H Q I q => ?_⟩
  have hn := I.hok.fresh (Nat.le_refl s.heap.objs.size)
  have I1 := I.laid (a := s.heap.objs.size) (o := dicO X.prog X.w s.heap.objs.size []) (h' := s.heap.push { cls := .type "dict", data := .dict #[] }) (t' := s.toks) (fun _ _ q => Heap.get?_push_of_some _ q) (Nat.le_refl _)
    (dext_ok (Nat.zero_le _) (beq_eq_false_iff_ne.mpr (Ne.symm (Nat.ne_of_lt I.big))) .nil (Heap.get?_push_size _ rfl) ⟨rfl, rfl, rfl⟩ rfl rfl List.nodup_nil)
  have hlen := pairTrees_length keys values X.env pos hall hl
  rw [arm_eval_Dict, zip_pairTrees keys values X.env pos hall hl, dictDisplay_pairs _ (fun e => h0 (List.length_eq_zero_iff.mp (by rw [← hlen, e]; rfl))) (by omega)]
  refine wpAny_bind (wpAny_standAt (wpAny_bind (wpAny_subDictH (knd := tupleKind (mixKind X.prog X.w)) (Nat.lt_of_succ_lt hu) (by omega) ?_)))
  refine thn (h.run pins _ σ _ _ I1 (q _ hn)) fun ws s2 ⟨ps, H2, I2, rel, e, es, ep, ks, nd, le, q2⟩ => ?_
  subst ep
  obtain ⟨ys, c, ry⟩ := carr_of I2 rel ks
  obtain ⟨_, hd, ys0, r0, dd⟩ := dic_at I2 e (fun _ h => (nomatch h))
  cases r0
  refine ⟨ys, c, dd, fun h' tk' dd' hs => wpAny_pure ?_⟩
  have ek : es.map (·.1) = ys.map (·.1) := by
    clear q2 rel nd ks c dd' le
    induction ry with
    | nil => rfl
    | cons hq _ ih => rw [List.map_cons, List.map_cons, hq.1, ih]
  rw [stored_all (acc := []) (by rw [List.nil_append, ← ek]; exact nd), List.nil_append] at dd'
  obtain ⟨ob, es', ep', g1, g2, g3, g4, _, g5⟩ := dd'
  have hz : es.length ≤ sizeLine := by rw [sizeLine_eq]; omega
  exact ⟨.ref s.heap.objs.size, _, d_write I2 (by rw [e]; exact True.intro) hs ⟨ob, g1⟩ (dext_ok hz hd ry g1 g2 g3 g4 g5), rfl, q2⟩
theorem pe_mitem (hu : X.A.units + 1 < cLine) (ho : PE X o td) (hi : PE X i tk) (hs : NoSl i) : PE X (.Subscript o i pos) (tMItem X.prog X.w X.K td tk) := by
  refine ⟨fun pins s σ H Q I h => ?_⟩
  refine subD_of PySem.F.slot_dict_getitem.lookup hs (thn (ho.run pins s σ H _ I h) fun u s1 ⟨x, H1, I1, rx, q1⟩ => thn (hi.run pins s1 σ H1 _ I1 q1) fun iv s2 ⟨y, H2, I2, ry, a, b, k, xs, v, ex, ey, ea, ks, kb, hk, q2⟩ => ?_)
  subst ex ey
  obtain rfl := (show u = Value.ref a from rx)
  obtain rfl := (show iv = Value.ref b from ry)
  refine ⟨(dic_ty I2 ea).1, ?_⟩
  obtain ⟨l, hd, ys, rel, dd⟩ := dic_at I2 ea ks
  have r1 := lookE_rel rel k
  rw [hk] at r1
  obtain ⟨w', hw, rw'⟩ := RelO.some_of r1
  obtain ⟨p, hp, hp2⟩ := Option.map_eq_some_iff.mp hw
  refine wpAny_getItem_heap (tupleKind_room_in1 hu) (sq_key I2 kb) dd hp ?_
  rw [hp2]
  exact ⟨v, H2, I2.tok _, rw', q2⟩
end
/-! ### what a look-up gives behind a store -/
theorem lookE_map_same (xs : List Ent) (k : List Key) (v : V) (h : (lookE xs k).isSome = true) : lookE (xs.map (putX k v)) k = some v := by
  induction xs with
  | nil => cases h
  | cons x r ih =>
    unfold lookE at h ⊢
    rw [List.map_cons, List.find?_cons]
    rw [List.find?_cons] at h
    by_cases e : x.1 = k
    · have e2 : (putX k v x).1 = k := by unfold putX; rw [if_pos e]; exact e
      rw [decide_eq_true e2]
      unfold putX
      rw [if_pos e]
      rfl
    · have e2 : ¬ (putX k v x).1 = k := by unfold putX; rw [if_neg e]; exact e
      rw [decide_eq_false e] at h
      rw [decide_eq_false e2]
      exact ih h
theorem lookE_map_other (xs : List Ent) (k k' : List Key) (v : V) (h : k' ≠ k) : lookE (xs.map (putX k v)) k' = lookE xs k' := by
  induction xs with
  | nil => rfl
  | cons x r ih =>
    unfold lookE
    rw [List.map_cons, List.find?_cons, List.find?_cons]
    by_cases e : x.1 = k
    · have e2 : (putX k v x).1 = k := by unfold putX; rw [if_pos e]; exact e
      rw [decide_eq_false (fun z => h (z.symm.trans e2)), decide_eq_false (fun z => h (z.symm.trans e))]
      exact ih
    · have e2 : putX k v x = x := by unfold putX; rw [if_neg e]
      rw [e2]
      by_cases q : x.1 = k'
      · rw [decide_eq_true q]
      · rw [decide_eq_false q]
        exact ih
theorem lookE_put (xs : List Ent) (k k' : List Key) (b : Addr) (v : V) : lookE (putE xs k b v) k' = if k' = k then some v else lookE xs k' := by
  unfold putE
  by_cases h : (lookE xs k).isSome = true
  · rw [if_pos h]
    by_cases e : k' = k
    · rw [if_pos e, e]; exact lookE_map_same xs k v h
    · rw [if_neg e]; exact lookE_map_other xs k k' v e
  · rw [if_neg h]
    have hn : xs.find? (fun x => decide (x.1 = k)) = none := by
      unfold lookE at h
      cases q : xs.find? (fun x => decide (x.1 = k)) with
      | none => rfl
      | some z => rw [q] at h; exact absurd rfl h
    unfold lookE
    rw [List.find?_append]
    by_cases e : k' = k
    · rw [if_pos e, e, hn]
      show Option.map _ (Option.or none (List.find? _ [(k, b, v)])) = _
      rw [List.find?_cons, decide_eq_true rfl]
      rfl
    · rw [if_neg e]
      have h1 : List.find? (fun x : Ent => decide (x.1 = k')) [(k, b, v)] = none := by
        rw [List.find?_cons, decide_eq_false (fun z => e (Eq.symm z))]
        rfl
      rw [h1, Option.or_none]
end Sw

/-! ## Data -/
set_option Elab.async false
set_option linter.all false
set_option maxRecDepth 100000
set_option maxHeartbeats 4000000
/-! Slabwarren: data that are compared. Own work. -/
namespace Sw
open PySem PySem.Spec PyProof.Rows L2
mutual
/-- None, numbers, texts, lists and tuples of such -/
def pln : PyData → Bool
  | .none => true
  | .int _ => true
  | .str x => PyData.canLay0 (.str x)
  | .list xs => plnAll xs
  | .tuple xs => plnAll xs
  | _ => false
def plnAll : List PyData → Bool
  | [] => true
  | x :: xs => pln x && plnAll xs
end
mutual
theorem pln_lay : ∀ d : PyData, pln d = true → d.canLay0 = true
  | .none, _ => by simp [PyData.canLay0]
  | .bool _, h => by simp [pln] at h
  | .int _, _ => by simp [PyData.canLay0]
  | .str x, h => by simpa [pln] using h
  | .list xs, h => by rw [pln] at h; rw [PyData.canLay0]; exact plnAll_lay xs h
  | .tuple xs, h => by rw [pln] at h; rw [PyData.canLay0]; exact plnAll_lay xs h
  | .dict _, h => by simp [pln] at h
theorem plnAll_lay : ∀ xs : List PyData, plnAll xs = true → PyData.canLayAll0 xs = true
  | [], _ => by simp [PyData.canLayAll0]
  | x :: xs, h => by
    rw [plnAll, Bool.and_eq_true] at h
    rw [PyData.canLayAll0, Bool.and_eq_true]
    exact ⟨pln_lay x h.1, plnAll_lay xs h.2⟩
end
mutual
theorem eqv_pln : ∀ d e : PyData, pln d = true → pln e = true → PyData.eqv d e = true → d = e
  | .none, e, _, he, h => by cases e <;> simp [PyData.eqv, pln] at h he ⊢
  | .int i, e, _, he, h => by cases e <;> simp [PyData.eqv, pln] at h he ⊢; exact h
  | .str x, e, _, he, h => by cases e <;> simp [PyData.eqv, pln] at h he ⊢; exact h
  | .list xs, e, hd, he, h => by
    cases e with
    | list ys =>
      rw [PyData.eqv] at h
      rw [pln] at hd he
      rw [eqvAll_pln xs ys hd he h]
    | _ => simp [PyData.eqv, pln] at h he
  | .tuple xs, e, hd, he, h => by
    cases e with
    | tuple ys =>
      rw [PyData.eqv] at h
      rw [pln] at hd he
      rw [eqvAll_pln xs ys hd he h]
    | _ => simp [PyData.eqv, pln] at h he
  | .bool _, _, hd, _, _ => by simp [pln] at hd
  | .dict _, _, hd, _, _ => by simp [pln] at hd
theorem eqvAll_pln : ∀ xs ys : List PyData, plnAll xs = true → plnAll ys = true → PyData.eqvAll xs ys = true → xs = ys
  | [], [], _, _, _ => rfl
  | [], y :: ys, _, _, h => by simp [PyData.eqvAll] at h
  | x :: xs, [], _, _, h => by simp [PyData.eqvAll] at h
  | x :: xs, y :: ys, hd, he, h => by
    rw [PyData.eqvAll, Bool.and_eq_true] at h
    rw [plnAll, Bool.and_eq_true] at hd he
    rw [eqv_pln x y hd.1 he.1 h.1, eqvAll_pln xs ys hd.2 he.2 h.2]
end
theorem eqv_same {d e : PyData} (hd : pln d = true) (he : pln e = true) (h : d = e) : PyData.eqv d e = true := by
  subst h
  exact SeqAt.eqv_refl d (pln_lay d hd)
theorem eqv_iff {d e : PyData} (hd : pln d = true) (he : pln e = true) : PyData.eqv d e = true ↔ d = e := ⟨eqv_pln d e hd he, eqv_same hd he⟩
theorem eqv_false {d e : PyData} (hd : pln d = true) (he : pln e = true) (h : d ≠ e) : PyData.eqv d e = false := by
  cases q : PyData.eqv d e with
  | false => rfl
  | true => exact absurd (eqv_pln d e hd he q) h
theorem shaped_of {d : PyData} (h : pln d = true) (l : d.depth ≤ 64) : SeqAt.shaped d = true := by
  unfold SeqAt.shaped
  rw [Bool.and_eq_true]
  exact ⟨pln_lay d h, decide_eq_true l⟩
/-! lists -/
theorem plnAll_iff : ∀ xs : List PyData, plnAll xs = true ↔ ∀ x ∈ xs, pln x = true
  | [] => by simp [plnAll]
  | x :: xs => by
    rw [plnAll, Bool.and_eq_true, plnAll_iff xs]
    simp
theorem depthAll_le {k : Nat} : ∀ xs : List PyData, (∀ x ∈ xs, x.depth ≤ k) → PyData.depthAll xs ≤ k
  | [], _ => by simp [PyData.depthAll]
  | x :: xs, h => by
    have h1 := h x (List.mem_cons_self ..)
    have h2 := depthAll_le xs fun y hy => h y (List.mem_cons_of_mem _ hy)
    simp only [PyData.depthAll]
    omega
/-- a list, a tuple of things of one kind -/
theorem pln_list {α : Type} (f : α → PyData) (xs : List α) (h : ∀ x ∈ xs, pln (f x) = true) : pln (.list (xs.map f)) = true := by
  rw [pln, plnAll_iff]
  intro y hy
  obtain ⟨x, hx, rfl⟩ := List.mem_map.mp hy
  exact h x hx
theorem dep_list {α : Type} {k : Nat} (f : α → PyData) (xs : List α) (h : ∀ x ∈ xs, (f x).depth ≤ k) : (PyData.list (xs.map f)).depth ≤ k + 1 := by
  have := depthAll_le (xs.map f) (k := k) fun y hy => by
    obtain ⟨x, hx, rfl⟩ := List.mem_map.mp hy
    exact h x hx
  simp only [PyData.depth]
  omega
def dIs (ns : List Int) : PyData := .list (ns.map .int)
theorem pln_is (ns : List Int) : pln (dIs ns) = true := pln_list _ ns fun x _ => by simp [pln]
theorem dep_is (ns : List Int) : (dIs ns).depth ≤ 1 := dep_list _ ns fun x _ => by simp [PyData.depth]
theorem shp_is (ns : List Int) : SeqAt.shaped (dIs ns) = true := shaped_of (pln_is ns) (by have := dep_is ns; omega)
theorem map_inj {α β : Type} {f : α → β} (hf : ∀ a b, f a = f b → a = b) : ∀ {xs ys : List α}, xs.map f = ys.map f → xs = ys
  | [], [], _ => rfl
  | [], _ :: _, h => by cases h
  | _ :: _, [], h => by cases h
  | x :: xs, y :: ys, h => by
    rw [List.map_cons, List.map_cons] at h
    injection h with h1 h2
    rw [hf _ _ h1, map_inj hf h2]
theorem is_inj {ns ms : List Int} (h : dIs ns = dIs ms) : ns = ms := by
  unfold dIs at h
  injection h with h
  exact map_inj (fun a b e => by injection e) h
theorem eqv_is (ns ms : List Int) : PyData.eqv (dIs ns) (dIs ms) = decide (ns = ms) := by
  by_cases h : ns = ms
  · rw [decide_eq_true h, eqv_same (pln_is _) (pln_is _) (by rw [h])]
  · rw [decide_eq_false h, eqv_false (pln_is _) (pln_is _) fun e => h (is_inj e)]
theorem dp_all {α : Type} {K : PySem.W.Frag} {H : Hp} {f : α → V} {g : α → PyData} : ∀ xs : List α, (∀ x ∈ xs, Dp K H (f x) (g x)) → DpAll K H (xs.map f) (xs.map g)
  | [], _ => .nil
  | x :: xs, h => .cons (h x (List.mem_cons_self ..)) (dp_all xs fun y hy => h y (List.mem_cons_of_mem _ hy))
theorem dp_is {K : PySem.W.Frag} {H : Hp} {a : Addr} {ns : List Int} (h : SqL K H a (ns.map V.int)) : Dp K H (.ref a) (dIs ns) := .lst h (dp_all ns fun x _ => .int x)
/-! a cell's value: a number, or a pair of numbers -/
inductive CV where
  | n (i : Int)
  | p (a b : Int)
  deriving DecidableEq
def cvD : CV → PyData
  | .n i => .int i
  | .p a b => .tuple [.int a, .int b]
def VRel (K : PySem.W.Frag) (H : Hp) (v : V) : CV → Prop
  | .n i => v = .int i
  | .p a b => ∃ t, v = .ref t ∧ SqT K H t [.int a, .int b]
theorem VRel.tk {K : PySem.W.Frag} {H H' : Hp} {v : V} {c : CV} (h : VRel K H v c) (t : Tk H H') : VRel K H' v c := by
  cases c with
  | n i => exact h
  | p a b => exact let ⟨x, e, q⟩ := h; ⟨x, e, t _ _ _ q⟩
theorem VRel.dp {K : PySem.W.Frag} {H : Hp} {v : V} {c : CV} (h : VRel K H v c) : Dp K H v (cvD c) := by
  cases c with
  | n i => cases (show v = .int i from h); exact .int i
  | p a b =>
    obtain ⟨x, e, q⟩ := h
    subst e
    exact .tup q (.cons (.int a) (.cons (.int b) .nil))
theorem pln_cv (c : CV) : pln (cvD c) = true := by cases c <;> simp [cvD, pln, plnAll]
theorem dep_cv (c : CV) : (cvD c).depth ≤ 1 := by cases c <;> simp [cvD, PyData.depth, PyData.depthAll]
theorem shp_cv (c : CV) : SeqAt.shaped (cvD c) = true := shaped_of (pln_cv c) (by have := dep_cv c; omega)
theorem cvD_inj {a b : CV} (h : cvD a = cvD b) : a = b := by
  cases a <;> cases b <;> simp [cvD] at h ⊢ <;> exact h
theorem eqv_cv (a b : CV) : PyData.eqv (cvD a) (cvD b) = decide (a = b) := by
  by_cases h : a = b
  · rw [decide_eq_true h, eqv_same (pln_cv _) (pln_cv _) (by rw [h])]
  · rw [decide_eq_false h, eqv_false (pln_cv _) (pln_cv _) fun e => h (cvD_inj e)]
end Sw

/-! ## Hook -/
set_option Elab.async false
set_option linter.all false
set_option maxRecDepth 100000
set_option maxHeartbeats 4000000
/-! Slabwarren: the head's facts read by one look (defs, classes, tuples of the top). Own work. -/
namespace Sw
open PySem PySem.Spec PyProof.Rows L2
abbrev AlM : Type := Bool × He.AlD
def obsM (fa : List He.Fa) (fn : List He.DefD) (tb : List (Str × List He.Dv)) (K : PySem.W.Frag) : AlM := (tb.all fun t => He.tupB K t.1 t.2, He.obsD fa fn K)
def obsMG (n : Nat) (fa : List He.Fa) (fn : List He.DefD) (tb : List (Str × List He.Dv)) (g : Addr → Option Obj) : AlM := obsM fa fn tb (He.frG g (He.asD g n))
def hookM (n : Nat) (fa : List He.Fa) (fn : List He.DefD) (tb : List (Str × List He.Dv)) : PySem.W.Hook where
  α := AlM
  obs := fun s => obsMG n fa fn tb s.heap.get?
  val := fun _ => (true, He.valD fn)
  says := fun _ h => ∃ K : PySem.W.Frag, K.In h ∧ obsM fa fn tb K = (true, He.valD fn)
  of := fun _ _ e => ⟨_, He.frG_in, e⟩
  keeps := fun _ _ _ ⟨K, hK, c⟩ k => ⟨K, PySem.W.Frag.In.keeps hK k, c⟩
theorem obsMG_eq {n : Nat} {fa : List He.Fa} {fn : List He.DefD} {tb : List (Str × List He.Dv)} {g : Addr → Option Obj} {s : Shared} (h : ∀ a, g a = s.heap.get? a) : obsMG n fa fn tb g = (hookM n fa fn tb).obs s := by
  have e : g = s.heap.get? := funext h
  rw [e]
  all_goals rfl
theorem Tx0.of {fa : List He.Fa} {fn : List He.DefD} {tb : List (Str × List He.Dv)} {K : PySem.W.Frag} {mg : Str → Option Value} {h : Heap} (X : K.In h) (G : h.Ns mainGlobals mg) (e : obsM fa fn tb K = (true, He.valD fn)) : Tx0 fa fn tb K mg :=
  ⟨congrArg (fun z : AlM => z.2) e, congrArg (fun z : AlM => z.1) e, h, X, G⟩
end Sw

/-! ## Pure1 -/
set_option Elab.async false
set_option linter.all false
set_option maxRecDepth 100000
set_option maxHeartbeats 4000000
/-! Slabwarren: cells, memory as a function, the machines of stacks.py as plain functions. Own work. -/
namespace Sw
open PySem PySem.Spec PyProof.Rows L2
inductive Cell where
  | pages | free (s : Int) | pb (i : Int) | ob (i : Int) | cls (p : Int) | epoch | slot (i : Int) | content (n : Int) | reading (p : Int)
  deriving DecidableEq
def Cell.key : Cell → List Key
  | .pages => [.inr "pages"]
  | .free s => [.inr "free", .inl s]
  | .pb i => [.inr "page below", .inl i]
  | .ob i => [.inr "object below", .inl i]
  | .cls p => [.inr "class", .inl p]
  | .epoch => [.inr "epoch"]
  | .slot i => [.inr "slot", .inl i]
  | .content n => [.inr "content", .inl n]
  | .reading p => [.inr "reading", .inl p]
def Cell.tag : Cell → Str
  | .pages => "pages" | .free _ => "free" | .pb _ => "page below" | .ob _ => "object below" | .cls _ => "class" | .epoch => "epoch" | .slot _ => "slot" | .content _ => "content" | .reading _ => "reading"
theorem Cell.key_inj {a b : Cell} (h : a.key = b.key) : a = b := by
  have ht : a.tag = b.tag := by
    cases a <;> cases b <;> (injection h with h1 _; injection h1)
  cases a <;> cases b <;> first
    | rfl
    | (exfalso; simp only [Cell.tag] at ht; revert ht; decide +kernel)
    | (injection h with _ h2; injection h2 with h3 _; injection h3 with h4; rw [h4])
abbrev Mem := Cell → CV
def Mem.set (m : Mem) (c : Cell) (v : CV) : Mem := fun d => if d = c then v else m d
theorem Mem.set_same (m : Mem) (c : Cell) (v : CV) : m.set c v c = v := if_pos rfl
theorem Mem.set_other (m : Mem) {c d : Cell} (v : CV) (h : d ≠ c) : m.set c v d = m d := if_neg h
/-- heads are 0 or pairs, the other cells numbers -/
def tyOk : Cell → CV → Prop
  | .pages, c => c = .n 0 ∨ ∃ a b, c = .p a b
  | .free _, c => c = .n 0 ∨ ∃ a b, c = .p a b
  | _, c => ∃ i, c = .n i
def MTy (m : Mem) : Prop := ∀ c, tyOk c (m c)
theorem MTy.set {m : Mem} {c : Cell} {v : CV} (h : MTy m) (t : tyOk c v) : MTy (m.set c v) := fun d => by
  unfold Mem.set
  by_cases e : d = c
  · rw [if_pos e, e]; exact t
  · rw [if_neg e]; exact h d
def hdv : CV → Int × Int
  | .n _ => (0, 0)
  | .p a b => (a, b)
def num : CV → Int
  | .n i => i
  | .p a _ => a
def isHead : Cell → Bool
  | .pages => true
  | .free _ => true
  | _ => false
def bel : Cell → Int → Cell
  | .pages, i => .pb i
  | _, i => .ob i
theorem bel_num {m : Mem} (h : MTy m) (hd : Cell) (i : Int) : m (bel hd i) = .n (num (m (bel hd i))) := by
  have h1 := h (bel hd i)
  cases hd <;> (obtain ⟨z, e⟩ := (show ∃ z, m _ = .n z from h1); rw [e]; rfl)
inductive Ph where
  | head | below | swap
  deriving DecidableEq
def Ph.txt : Ph → Str
  | .head => "head" | .below => "below" | .swap => "swap"
structure PopS where
  hd : Cell
  ph : Ph
  raw : CV
  below : Int
structure PushS where
  hd : Cell
  item : Int
  ph : Ph
  raw : CV
inductive Pt where
  | head | swap | walk
  deriving DecidableEq
def Pt.txt : Pt → Str
  | .head => "head" | .swap => "swap" | .walk => "walk"
structure TakeS where
  hd : Cell
  ph : Pt
  raw : CV
  top : Int
  taken : List Int
def popNew (hd : Cell) : PopS := ⟨hd, .head, .p 0 0, 0⟩
def pushNew (hd : Cell) (item : Int) : PushS := ⟨hd, item, .head, .p 0 0⟩
def takeNew (hd : Cell) : TakeS := ⟨hd, .head, .p 0 0, 0, []⟩
/-- one access; done: what the head was, and the item -/
def popStep (s : PopS) (m : Mem) : Mem × (PopS ⊕ (CV × Option Int)) := match s.ph with
  | .head => if (hdv (m s.hd)).1 = 0 then (m, .inr (m s.hd, none)) else (m, .inl { s with ph := .below, raw := m s.hd })
  | .below => (m, .inl { s with ph := .swap, below := num (m (bel s.hd ((hdv s.raw).1 - 1))) })
  | .swap => if m s.hd = s.raw then (m.set s.hd (.p s.below ((hdv s.raw).2 + 1)), .inr (s.raw, some ((hdv s.raw).1 - 1))) else (m, .inl { s with ph := .head })
def pushStep (s : PushS) (m : Mem) : Mem × Option PushS := match s.ph with
  | .head => (m, some { s with ph := .below, raw := m s.hd })
  | .below => (m.set (bel s.hd s.item) (.n (hdv s.raw).1), some { s with ph := .swap })
  | .swap => if m s.hd = s.raw then (m.set s.hd (.p (s.item + 1) ((hdv s.raw).2 + 1)), none) else (m, some { s with ph := .head })
def takeStep (s : TakeS) (m : Mem) : Mem × (TakeS ⊕ List Int) := match s.ph with
  | .head => if (hdv (m s.hd)).1 = 0 then (m, .inr s.taken) else (m, .inl { s with ph := .swap, raw := m s.hd })
  | .swap => if m s.hd = s.raw then (m.set s.hd (.p 0 ((hdv s.raw).2 + 1)), .inl { s with ph := .walk, top := (hdv s.raw).1 }) else (m, .inl { s with ph := .head })
  | .walk => if num (m (bel s.hd (s.top - 1))) = 0 then (m, .inr (s.taken ++ [s.top - 1]))
    else (m, .inl { s with top := num (m (bel s.hd (s.top - 1))), taken := s.taken ++ [s.top - 1] })
end Sw

/-! ## PStk -/
set_option Elab.async false
set_option linter.all false
set_option maxRecDepth 100000
set_option maxHeartbeats 4000000
/-! Slabwarren: stacks with tags, in plain Lean. Own work. -/
namespace Sw
open PySem PySem.Spec PyProof.Rows L2
inductive Chain (m : Mem) (hd : Cell) : Int → List Int → Prop
  | nil : Chain m hd 0 []
  | cons {top : Int} {xs : List Int} : top ≠ 0 → Chain m hd (num (m (bel hd (top - 1)))) xs → Chain m hd top ((top - 1) :: xs)
theorem Chain.det {m : Mem} {hd : Cell} {t : Int} {xs : List Int} (h : Chain m hd t xs) : ∀ {ys : List Int}, Chain m hd t ys → xs = ys := by
  induction h with
  | nil =>
    intro ys g
    cases g with
    | nil => rfl
    | cons n _ => exact absurd rfl n
  | cons n _ ih =>
    intro ys g
    cases g with
    | nil => exact absurd rfl n
    | cons _ g2 => rw [ih g2]
theorem Chain.zero {m : Mem} {hd : Cell} {xs : List Int} (h : Chain m hd 0 xs) : xs = [] := h.det .nil
theorem Chain.top {m : Mem} {hd : Cell} {t : Int} {xs : List Int} (h : Chain m hd t xs) (n : t ≠ 0) : ∃ r, xs = (t - 1) :: r ∧ Chain m hd (num (m (bel hd (t - 1)))) r := by
  cases h with
  | nil => exact absurd rfl n
  | cons _ g => exact ⟨_, rfl, g⟩
theorem Chain.empty {m : Mem} {hd : Cell} {t : Int} (h : Chain m hd t []) : t = 0 := by
  cases h; rfl
/-- the chain reads the cells of its items alone -/
theorem Chain.congr {m m' : Mem} {hd : Cell} {t : Int} {xs : List Int} (h : Chain m hd t xs) (e : ∀ i ∈ xs, m' (bel hd i) = m (bel hd i)) : Chain m' hd t xs := by
  induction h with
  | nil => exact .nil
  | @cons top r n _ ih =>
    refine .cons n ?_
    rw [e _ (List.mem_cons_self ..)]
    exact ih fun i hi => e i (List.mem_cons_of_mem _ hi)
theorem bel_ne_head (hd : Cell) (i : Int) {c : Cell} (h : isHead c = true) : bel hd i ≠ c := by
  cases c <;> first | (cases h; done) | (cases hd <;> exact fun e => by cases e)
theorem bel_inj {hd hd' : Cell} {i j : Int} (h : bel hd i = bel hd' j) : i = j := by
  cases hd <;> cases hd' <;> (simp only [bel] at h; injection h)
def tagv (c : CV) : Int := (hdv c).2
theorem set_head_bel (m : Mem) {c : Cell} (hc : isHead c = true) (v : CV) (hd : Cell) (i : Int) : m.set c v (bel hd i) = m (bel hd i) := Mem.set_other m v (bel_ne_head hd i hc)
theorem set_bel_head (m : Mem) {c : Cell} (hc : isHead c = true) (v : CV) (hd : Cell) (i : Int) : m.set (bel hd i) v c = m c := Mem.set_other m v (Ne.symm (bel_ne_head hd i hc))
theorem Chain.head {m : Mem} {hd c : Cell} {t : Int} {xs : List Int} (h : Chain m hd t xs) (hc : isHead c = true) (v : CV) : Chain (m.set c v) hd t xs := h.congr fun i _ => set_head_bel m hc v hd i
theorem Chain.bel {m : Mem} {hd hd' : Cell} {t it : Int} {xs : List Int} (h : Chain m hd t xs) (v : CV) (n : it ∉ xs) : Chain (m.set (bel hd' it) v) hd t xs :=
  h.congr fun i hi => Mem.set_other m v fun e => n (by rw [← bel_inj e]; exact hi)
/-- what a machine has read is not newer than the head -/
def PopOk (m : Mem) (s : PopS) : Prop := (s.ph ≠ .head → tagv s.raw ≤ tagv (m s.hd) ∧ (hdv s.raw).1 ≠ 0) ∧ (s.ph = .swap → m s.hd = s.raw → s.below = num (m (bel s.hd ((hdv s.raw).1 - 1))))
def PushOk (m : Mem) (s : PushS) : Prop := (s.ph ≠ .head → tagv s.raw ≤ tagv (m s.hd)) ∧ (s.ph = .swap → num (m (bel s.hd s.item)) = (hdv s.raw).1)
def TakeOk (m : Mem) (s : TakeS) (rest : List Int) : Prop := (s.ph = .swap → tagv s.raw ≤ tagv (m s.hd) ∧ (hdv s.raw).1 ≠ 0) ∧ (s.ph = .walk → Chain m s.hd s.top rest ∧ rest ≠ []) ∧ (s.ph ≠ .walk → rest = [] ∧ s.taken = [] ∧ s.top = 0)
/-- the head c is changed by someone else -/
def bump (m : Mem) (c : Cell) (x : Int) : Mem := m.set c (.p x (tagv (m c) + 1))
theorem bump_tag (m : Mem) (c : Cell) (x : Int) (d : Cell) : tagv (m d) ≤ tagv (bump m c x d) := by
  unfold bump Mem.set
  by_cases e : d = c
  · rw [if_pos e, e]; show tagv (m c) ≤ tagv (m c) + 1; omega
  · rw [if_neg e]; exact Int.le_refl _
theorem bump_ne {m : Mem} {c : Cell} {x : Int} {r : CV} (h : tagv r ≤ tagv (m c)) : bump m c x c ≠ r := fun e => by
  have e2 : tagv (bump m c x c) = tagv (m c) + 1 := by unfold bump; rw [Mem.set_same]; rfl
  rw [e] at e2
  omega
theorem bump_other {m : Mem} {c d : Cell} {x : Int} (h : d ≠ c) : bump m c x d = m d := Mem.set_other m _ h
theorem PopOk.bump {m : Mem} {s : PopS} (h : PopOk m s) (hs : isHead s.hd = true) {c : Cell} (hc : isHead c = true) (x : Int) : PopOk (bump m c x) s := by
  refine ⟨fun n => ⟨Int.le_trans (h.1 n).1 (bump_tag m c x s.hd), (h.1 n).2⟩, fun e q => ?_⟩
  by_cases z : s.hd = c
  · have n := (h.1 (by rw [e]; decide)).1
    rw [z] at q n
    exact absurd q (bump_ne n)
  · rw [bump_other z] at q
    rw [h.2 e q]
    unfold Sw.bump
    rw [set_head_bel m hc]
theorem PopOk.bel {m : Mem} {s : PopS} (h : PopOk m s) (hs : isHead s.hd = true) {hd' : Cell} {it : Int} (v : CV) (n : m s.hd = s.raw → (hdv s.raw).1 ≠ 0 → it ≠ (hdv s.raw).1 - 1) : PopOk (m.set (bel hd' it) v) s := by
  have e1 : m.set (Sw.bel hd' it) v s.hd = m s.hd := set_bel_head m hs v hd' it
  refine ⟨fun z => by rw [e1]; exact h.1 z, fun e q => ?_⟩
  rw [e1] at q
  rw [h.2 e q, Mem.set_other m v fun z => n q (h.1 (by rw [e]; decide)).2 (bel_inj z).symm]
theorem PushOk.bump {m : Mem} {s : PushS} (h : PushOk m s) {c : Cell} (hc : isHead c = true) (x : Int) : PushOk (bump m c x) s := by
  refine ⟨fun n => Int.le_trans (h.1 n) (bump_tag m c x s.hd), fun e => ?_⟩
  rw [← h.2 e]
  unfold Sw.bump
  rw [set_head_bel m hc]
theorem PushOk.bel {m : Mem} {s : PushS} (h : PushOk m s) (hs : isHead s.hd = true) {hd' : Cell} {it : Int} (v : CV) (n : it ≠ s.item) : PushOk (m.set (bel hd' it) v) s := by
  have e1 : m.set (Sw.bel hd' it) v s.hd = m s.hd := set_bel_head m hs v hd' it
  refine ⟨fun z => by rw [e1]; exact h.1 z, fun e => ?_⟩
  rw [Mem.set_other m v fun z => n (bel_inj z).symm]
  exact h.2 e
theorem TakeOk.bump {m : Mem} {s : TakeS} {rest : List Int} (h : TakeOk m s rest) {c : Cell} (hc : isHead c = true) (x : Int) : TakeOk (bump m c x) s rest :=
  ⟨fun n => ⟨Int.le_trans (h.1 n).1 (bump_tag m c x s.hd), (h.1 n).2⟩, fun e => ⟨(h.2.1 e).1.head hc _, (h.2.1 e).2⟩, h.2.2⟩
theorem TakeOk.bel {m : Mem} {s : TakeS} {rest : List Int} (h : TakeOk m s rest) (hs : isHead s.hd = true) {hd' : Cell} {it : Int} (v : CV) (n : it ∉ rest) : TakeOk (m.set (bel hd' it) v) s rest := by
  have e1 : m.set (Sw.bel hd' it) v s.hd = m s.hd := set_bel_head m hs v hd' it
  exact ⟨fun z => by rw [e1]; exact h.1 z, fun e => ⟨(h.2.1 e).1.bel v n, (h.2.1 e).2⟩, h.2.2⟩
end Sw

/-! ## P02 -/
set_option Elab.async false
set_option linter.all false
set_option maxRecDepth 100000
set_option maxHeartbeats 4000000
/-! Slabwarren: the second law in plain Lean: woven machines over two stacks. Own work. -/
namespace Sw
open PySem PySem.Spec PyProof.Rows L2
inductive Mc where
  | push (s : PushS) | all (s : TakeS) (rest : List Int) | pop (s : PopS)
def Mc.hd : Mc → Cell
  | .push s => s.hd | .all s _ => s.hd | .pop s => s.hd
def Mc.held : Mc → List Int
  | .push s => [s.item] | .all s rest => s.taken ++ rest | .pop _ => []
def McOk (m : Mem) : Mc → Prop
  | .push s => PushOk m s | .all s rest => TakeOk m s rest | .pop s => PopOk m s
/-- how often x is there; of none: how long the list is -/
def cnt (x : Option Int) (l : List Int) : Nat := match x with
  | none => l.length
  | some x => l.count x
theorem cnt_nil (x : Option Int) : cnt x [] = 0 := by cases x <;> rfl
def cntM (x : Option Int) (ms : List Mc) : Nat := (ms.map fun p => cnt x p.held).sum
theorem cntM_app (x : Option Int) (a b : List Mc) : cntM x (a ++ b) = cntM x a + cntM x b := by unfold cntM; rw [List.map_append, List.sum_append]
theorem cntM_cons (x : Option Int) (p : Mc) (b : List Mc) : cntM x (p :: b) = cnt x p.held + cntM x b := by unfold cntM; rw [List.map_cons, List.sum_cons]
theorem cnt_pos {x : Int} {l : List Int} (h : x ∈ l) : 1 ≤ cnt (some x) l := List.count_pos_iff.mpr h
theorem cnt_zero {x : Int} {l : List Int} (h : cnt (some x) l = 0) : x ∉ l := fun m => by have := cnt_pos m; omega
theorem cntM_mem {x : Option Int} {ms : List Mc} {p : Mc} (h : p ∈ ms) : cnt x p.held ≤ cntM x ms := by
  induction ms with
  | nil => cases h
  | cons q r ih =>
    rw [cntM_cons]
    rcases List.mem_cons.mp h with e | h
    · rw [← e]; omega
    · have := ih h; omega
theorem cnt_app (x : Option Int) (a b : List Int) : cnt x (a ++ b) = cnt x a + cnt x b := by
  cases x with
  | none => exact List.length_append
  | some x => exact List.count_append ..
theorem cnt_cons (x : Option Int) (a : Int) (b : List Int) : cnt x (a :: b) = cnt x [a] + cnt x b := by rw [← cnt_app]; rfl
def lim (x : Option Int) : Nat := match x with
  | none => 100
  | some x => if x < 0 then 0 else 1
theorem lim_le (x : Int) : lim (some x) ≤ 1 := by
  show (if x < 0 then 0 else 1) ≤ 1
  split <;> omega
structure K2 (mm : Mem) (h0 h1 : Cell) (S : Cell → List Int) (loose : List Int) (ms : List Mc) : Prop where
  ty : MTy mm
  ne : h0 ≠ h1
  ih : ∀ c, c = h0 ∨ c = h1 → isHead c = true
  ch : ∀ c, c = h0 ∨ c = h1 → Chain mm c (hdv (mm c)).1 (S c)
  ok : ∀ p ∈ ms, McOk mm p ∧ (p.hd = h0 ∨ p.hd = h1)
  one : ∀ x, cnt x loose + cnt x (S h0) + cnt x (S h1) + cntM x ms ≤ lim x
def sset (S : Cell → List Int) (c : Cell) (l : List Int) : Cell → List Int := fun d => if d = c then l else S d
theorem sset_sum {h0 h1 c : Cell} (ne : h0 ≠ h1) (hc : c = h0 ∨ c = h1) (S : Cell → List Int) (l : List Int) (x : Option Int) :
    cnt x (sset S c l h0) + cnt x (sset S c l h1) + cnt x (S c) = cnt x (S h0) + cnt x (S h1) + cnt x l := by
  unfold sset
  rcases hc with e | e
  · subst e; rw [if_pos rfl, if_neg (Ne.symm ne)]; omega
  · subst e; rw [if_pos rfl, if_neg ne]; omega
section
variable {mm : Mem} {h0 h1 : Cell} {S : Cell → List Int} {loose : List Int} {A B : List Mc} {p : Mc}
theorem K2.two (k : K2 mm h0 h1 S loose (A ++ p :: B)) (x : Option Int) : cnt x loose + cnt x (S h0) + cnt x (S h1) + (cntM x A + (cnt x p.held + cntM x B)) ≤ lim x := by
  have := k.one x
  rw [cntM_app, cntM_cons] at this
  exact this
theorem K2.le (k : K2 mm h0 h1 S loose (A ++ p :: B)) {c : Cell} (hc : c = h0 ∨ c = h1) (x : Option Int) : cnt x (S c) ≤ cnt x (S h0) + cnt x (S h1) := by
  rcases hc with e | e <;> (subst e; omega)
/-- nothing of the memory changed: the machine goes on, or ends -/
theorem K2.same (k : K2 mm h0 h1 S loose (A ++ p :: B)) {q : Mc} (hq : McOk mm q) (hh : q.hd = p.hd) (he : ∀ x, cnt x q.held = cnt x p.held) : K2 mm h0 h1 S loose (A ++ q :: B) where
  ty := k.ty
  ne := k.ne
  ih := k.ih
  ch := k.ch
  ok := fun r hr => by
    rcases List.mem_append.mp hr with h | h
    · exact k.ok r (List.mem_append_left _ h)
    · rcases List.mem_cons.mp h with e | h
      · subst e; rw [hh]; exact ⟨hq, (k.ok p (List.mem_append_right _ (List.mem_cons_self ..))).2⟩
      · exact k.ok r (List.mem_append_right _ (List.mem_cons_of_mem _ h))
  one := fun x => by
    have := k.two x
    rw [cntM_app, cntM_cons, he]
    exact this
theorem K2.gone (k : K2 mm h0 h1 S loose (A ++ p :: B)) {loose' : List Int} (he : ∀ x, cnt x loose' = cnt x loose + cnt x p.held) : K2 mm h0 h1 S loose' (A ++ B) where
  ty := k.ty
  ne := k.ne
  ih := k.ih
  ch := k.ch
  ok := fun r hr => by
    rcases List.mem_append.mp hr with h | h
    · exact k.ok r (List.mem_append_left _ h)
    · exact k.ok r (List.mem_append_right _ (List.mem_cons_of_mem _ h))
  one := fun x => by
    have := k.two x
    rw [cntM_app, he]
    omega
/-- what the others know behind a change of a head -/
theorem K2.others (k : K2 mm h0 h1 S loose (A ++ p :: B)) {c : Cell} (hc : isHead c = true) (x : Int) : ∀ r ∈ A ++ B, McOk (bump mm c x) r ∧ (r.hd = h0 ∨ r.hd = h1) := by
  intro r hr
  have hr' : r ∈ A ++ p :: B := by
    rcases List.mem_append.mp hr with h | h
    · exact List.mem_append_left _ h
    · exact List.mem_append_right _ (List.mem_cons_of_mem _ h)
  obtain ⟨o, hh⟩ := k.ok r hr'
  refine ⟨?_, hh⟩
  have hs := k.ih _ hh
  cases r with
  | push s => exact PushOk.bump o hc x
  | all s rest => exact TakeOk.bump o hc x
  | pop s => exact PopOk.bump o hs hc x
/-- a swap succeeds: the head c gets x, the stack of c the list l -/
theorem K2.swapped (k : K2 mm h0 h1 S loose (A ++ p :: B)) {c : Cell} (hc : c = h0 ∨ c = h1) {x : Int} {l : List Int} (hl : Chain mm c x l) {ms : List Mc} {loose' : List Int}
    (hm : ∀ r ∈ ms, r ∈ A ++ B ∨ (McOk (bump mm c x) r ∧ (r.hd = h0 ∨ r.hd = h1))) (one : ∀ y, cnt y loose' + cnt y (sset S c l h0) + cnt y (sset S c l h1) + cntM y ms ≤ lim y) : K2 (bump mm c x) h0 h1 (sset S c l) loose' ms where
  ty := k.ty.set (by
    have := k.ih c hc
    cases c <;> first | exact .inr ⟨_, _, rfl⟩ | cases this)
  ne := k.ne
  ih := k.ih
  ch := fun d hd => by
    unfold sset
    by_cases e : d = c
    · subst e
      rw [if_pos rfl]
      have e1 : (hdv (bump mm d x d)).1 = x := by unfold bump; rw [Mem.set_same]; rfl
      rw [e1]
      exact hl.head (k.ih d hc) _
    · rw [if_neg e, bump_other e]
      exact (k.ch d hd).head (k.ih c hc) _
  ok := fun r hr => by
    rcases hm r hr with h | h
    · exact k.others (k.ih c hc) x r h
    · exact h
  one := one
/-- a machine that pushes writes its item's cell -/
theorem K2.wrote {s : PushS} (k : K2 mm h0 h1 S loose (A ++ .push s :: B)) (hr : tagv s.raw ≤ tagv (mm s.hd)) : K2 (mm.set (bel s.hd s.item) (.n (hdv s.raw).1)) h0 h1 S loose (A ++ .push { s with ph := .swap } :: B) := by
  have hin : ∀ c, c = h0 ∨ c = h1 → s.item ∉ S c := fun c hc => cnt_zero (by
    have h1 := k.two (some s.item)
    have h0' := lim_le s.item
    have h2 := k.le hc (some s.item)
    have h3 : cnt (some s.item) (Mc.push s).held = 1 := by show [s.item].count s.item = 1; simp
    omega)
  have hot : ∀ q ∈ A ++ B, s.item ∉ q.held := fun q hq => cnt_zero (by
    have h1 := k.two (some s.item)
    have h0' := lim_le s.item
    have h3 : cnt (some s.item) (Mc.push s).held = 1 := by show [s.item].count s.item = 1; simp
    rcases List.mem_append.mp hq with h | h
    · have := cntM_mem (x := some s.item) h; omega
    · have := cntM_mem (x := some s.item) h; omega)
  obtain ⟨ko, kh⟩ := k.ok (.push s) (List.mem_append_right _ (List.mem_cons_self ..))
  have ihs := k.ih _ kh
  refine ⟨k.ty.set (by cases h : s.hd <;> exact ⟨_, rfl⟩), k.ne, k.ih, fun c hc => ?_, fun q hq => ?_, fun x => ?_⟩
  · rw [set_bel_head mm (k.ih c hc)]
    exact (k.ch c hc).bel _ (hin c hc)
  · have hq' : q ∈ A ++ B ∨ q = .push { s with ph := .swap } := by
      rcases List.mem_append.mp hq with h | h
      · exact .inl (List.mem_append_left _ h)
      · rcases List.mem_cons.mp h with e | h
        · exact .inr e
        · exact .inl (List.mem_append_right _ h)
    rcases hq' with h | e
    · have hq2 : q ∈ A ++ .push s :: B := by
        rcases List.mem_append.mp h with h | h
        · exact List.mem_append_left _ h
        · exact List.mem_append_right _ (List.mem_cons_of_mem _ h)
      obtain ⟨o, hh⟩ := k.ok q hq2
      refine ⟨?_, hh⟩
      have hs := k.ih _ hh
      have hn := hot q h
      cases q with
      | push z => exact PushOk.bel o hs _ fun e => hn (by rw [e]; exact List.mem_cons_self ..)
      | all z rest => exact TakeOk.bel o hs _ fun e => hn (List.mem_append_right _ e)
      | pop z =>
        refine PopOk.bel o hs _ fun e n2 e3 => ?_
        have hc := k.ch z.hd hh
        rw [e] at hc
        obtain ⟨r, er, _⟩ := hc.top n2
        exact hin z.hd hh (by rw [er, e3]; exact List.mem_cons_self ..)
    · subst e
      refine ⟨⟨fun _ => ?_, fun _ => ?_⟩, kh⟩
      · show tagv s.raw ≤ tagv (mm.set (bel s.hd s.item) _ s.hd)
        rw [set_bel_head mm (c := s.hd) ihs]
        exact hr
      · show num (mm.set (bel s.hd s.item) _ (bel s.hd s.item)) = _
        rw [Mem.set_same]
        rfl
  · have := k.two x
    rw [cntM_app, cntM_cons]
    exact this
theorem pop_go {s : PopS} (k : K2 mm h0 h1 S loose (A ++ .pop s :: B)) {s' : PopS} (e : (popStep s mm).2 = .inl s') : (popStep s mm).1 = mm ∧ s'.hd = s.hd ∧ K2 mm h0 h1 S loose (A ++ .pop s' :: B) := by
  obtain ⟨ko, kh⟩ := k.ok (.pop s) (List.mem_append_right _ (List.mem_cons_self ..))
  have ko : PopOk mm s := ko
  obtain ⟨hd, ph, raw, below⟩ := s
  cases ph with
  | head =>
    by_cases z : (hdv (mm hd)).1 = 0
    · have e2 : popStep ⟨hd, .head, raw, below⟩ mm = (mm, .inr (mm hd, none)) := if_pos z
      rw [e2] at e; cases e
    · have e2 : popStep ⟨hd, .head, raw, below⟩ mm = (mm, .inl ⟨hd, .below, mm hd, below⟩) := if_neg z
      rw [e2] at e ⊢; cases e
      exact ⟨rfl, rfl, k.same (p := .pop _) (q := .pop _) ⟨fun _ => ⟨Int.le_refl _, z⟩, fun h => by cases h⟩ rfl fun _ => rfl⟩
  | below =>
    have e2 : popStep ⟨hd, .below, raw, below⟩ mm = (mm, .inl ⟨hd, .swap, raw, num (mm (bel hd ((hdv raw).1 - 1)))⟩) := rfl
    rw [e2] at e ⊢; cases e
    exact ⟨rfl, rfl, k.same (p := .pop _) (q := .pop _) ⟨fun _ => ko.1 (fun h => by cases h), fun _ _ => rfl⟩ rfl fun _ => rfl⟩
  | swap =>
    by_cases z : mm hd = raw
    · have e2 : popStep ⟨hd, .swap, raw, below⟩ mm = (mm.set hd (.p below ((hdv raw).2 + 1)), .inr (raw, some ((hdv raw).1 - 1))) := if_pos z
      rw [e2] at e; cases e
    · have e2 : popStep ⟨hd, .swap, raw, below⟩ mm = (mm, .inl ⟨hd, .head, raw, below⟩) := if_neg z
      rw [e2] at e ⊢; cases e
      exact ⟨rfl, rfl, k.same (p := .pop _) (q := .pop _) ⟨fun h => absurd rfl h, fun h => by cases h⟩ rfl fun _ => rfl⟩
theorem pop_end {s : PopS} (k : K2 mm h0 h1 S loose (A ++ .pop s :: B)) {r : CV × Option Int} (e : (popStep s mm).2 = .inr r) :
    (r.2 = none ∧ S s.hd = [] ∧ K2 (popStep s mm).1 h0 h1 S loose (A ++ B)) ∨ ∃ i l, r.2 = some i ∧ S s.hd = i :: l ∧ K2 (popStep s mm).1 h0 h1 (sset S s.hd l) (loose ++ [i]) (A ++ B) := by
  obtain ⟨ko, kh⟩ := k.ok (.pop s) (List.mem_append_right _ (List.mem_cons_self ..))
  have ko : PopOk mm s := ko
  obtain ⟨hd, ph, raw, below⟩ := s
  have kh : hd = h0 ∨ hd = h1 := kh
  have hc := k.ch hd kh
  cases ph with
  | head =>
    by_cases z : (hdv (mm hd)).1 = 0
    · have e2 : popStep ⟨hd, .head, raw, below⟩ mm = (mm, .inr (mm hd, none)) := if_pos z
      rw [e2] at e ⊢; cases e
      rw [z] at hc
      exact .inl ⟨rfl, hc.zero, k.gone (p := .pop _) fun x => by show cnt x loose = cnt x loose + cnt x []; rw [cnt_nil]; rfl⟩
    · have e2 : popStep ⟨hd, .head, raw, below⟩ mm = (mm, .inl ⟨hd, .below, mm hd, below⟩) := if_neg z
      rw [e2] at e; cases e
  | below =>
    have e2 : popStep ⟨hd, .below, raw, below⟩ mm = (mm, .inl ⟨hd, .swap, raw, num (mm (bel hd ((hdv raw).1 - 1)))⟩) := rfl
    rw [e2] at e; cases e
  | swap =>
    by_cases z : mm hd = raw
    · have e2 : popStep ⟨hd, .swap, raw, below⟩ mm = (mm.set hd (.p below ((hdv raw).2 + 1)), .inr (raw, some ((hdv raw).1 - 1))) := if_pos z
      rw [e2] at e ⊢; cases e
      have nz := (ko.1 (fun h => by cases h)).2
      rw [z] at hc
      obtain ⟨l, el, hl⟩ := hc.top nz
      have eb : below = num (mm (bel hd ((hdv raw).1 - 1))) := ko.2 rfl z
      rw [← eb] at hl
      refine .inr ⟨_, l, rfl, el, ?_⟩
      have em : mm.set hd (.p below ((hdv raw).2 + 1)) = bump mm hd below := by unfold bump tagv; rw [z]
      show K2 (mm.set hd (.p below ((hdv raw).2 + 1))) h0 h1 (sset S hd l) (loose ++ [(hdv raw).1 - 1]) (A ++ B)
      rw [em]
      refine k.swapped (p := .pop _) (c := hd) kh hl (fun r hr => .inl hr) fun y => ?_
      have h1 := k.two y
      have h2 := sset_sum (c := hd) k.ne kh S l y
      have h3 : cnt y (S hd) = cnt y [(hdv raw).1 - 1] + cnt y l := by rw [el, cnt_cons]
      rw [cnt_app, cntM_app]
      omega
    · have e2 : popStep ⟨hd, .swap, raw, below⟩ mm = (mm, .inl ⟨hd, .head, raw, below⟩) := if_neg z
      rw [e2] at e; cases e
theorem push_step {s : PushS} (k : K2 mm h0 h1 S loose (A ++ .push s :: B)) : (∃ s', (pushStep s mm).2 = some s' ∧ s'.hd = s.hd ∧ s'.item = s.item ∧ K2 (pushStep s mm).1 h0 h1 S loose (A ++ .push s' :: B)) ∨
    ((pushStep s mm).2 = none ∧ K2 (pushStep s mm).1 h0 h1 (sset S s.hd (s.item :: S s.hd)) loose (A ++ B)) := by
  obtain ⟨ko, kh⟩ := k.ok (.push s) (List.mem_append_right _ (List.mem_cons_self ..))
  have ko : PushOk mm s := ko
  obtain ⟨hd, item, ph, raw⟩ := s
  have kh : hd = h0 ∨ hd = h1 := kh
  have hc := k.ch hd kh
  cases ph with
  | head => exact .inl ⟨_, rfl, rfl, rfl, k.same (p := .push _) (q := .push _) ⟨fun _ => Int.le_refl _, fun h => by cases h⟩ rfl fun _ => rfl⟩
  | below => exact .inl ⟨_, rfl, rfl, rfl, K2.wrote (s := ⟨hd, item, .below, raw⟩) k (ko.1 (fun h => by cases h))⟩
  | swap =>
    by_cases z : mm hd = raw
    · have e2 : pushStep ⟨hd, item, .swap, raw⟩ mm = (mm.set hd (.p (item + 1) ((hdv raw).2 + 1)), none) := if_pos z
      refine .inr ⟨by rw [e2], ?_⟩
      rw [e2]
      have em : mm.set hd (.p (item + 1) ((hdv raw).2 + 1)) = bump mm hd (item + 1) := by unfold bump tagv; rw [z]
      show K2 (mm.set hd (.p (item + 1) ((hdv raw).2 + 1))) h0 h1 (sset S hd (item :: S hd)) loose (A ++ B)
      rw [em]
      have z0 : item + 1 ≠ 0 := fun z0 => by
        have h1 := k.two (some item)
        have h3 : cnt (some item) (Mc.push ⟨hd, item, .swap, raw⟩).held = 1 := by show [item].count item = 1; simp
        have h5 : lim (some item) = 0 := if_pos (by omega)
        omega
      · have hl : Chain mm hd (item + 1) (item :: S hd) := by
          have h1 : num (mm (bel hd item)) = (hdv raw).1 := ko.2 rfl
          have h2 : item + 1 - 1 = item := by omega
          have := Chain.cons (m := mm) (hd := hd) (top := item + 1) (xs := S hd) z0 (by rw [h2, h1, ← z]; exact hc)
          rw [h2] at this
          exact this
        refine k.swapped (p := .push _) (c := hd) kh hl (fun r hr => .inl hr) fun y => ?_
        have h1 := k.two y
        have h2 := sset_sum (c := hd) k.ne kh S (item :: S hd) y
        have h3 : cnt y (item :: S hd) = cnt y [item] + cnt y (S hd) := cnt_cons ..
        have h4 : cnt y (Mc.push ⟨hd, item, .swap, raw⟩).held = cnt y [item] := rfl
        rw [cntM_app]
        omega
    · have e2 : pushStep ⟨hd, item, .swap, raw⟩ mm = (mm, some ⟨hd, item, .head, raw⟩) := if_neg z
      refine .inl ⟨⟨hd, item, .head, raw⟩, by rw [e2], rfl, rfl, ?_⟩
      rw [e2]
      exact k.same (p := .push _) (q := .push _) ⟨fun h => absurd rfl h, fun h => by cases h⟩ rfl fun _ => rfl
theorem take_step {s : TakeS} {rest : List Int} (k : K2 mm h0 h1 S loose (A ++ .all s rest :: B)) :
    (∃ s' rest', (takeStep s mm).2 = .inl s' ∧ s'.hd = s.hd ∧ s'.taken ++ rest' = s.taken ++ rest ∧ K2 (takeStep s mm).1 h0 h1 S loose (A ++ .all s' rest' :: B)) ∨
    (∃ s', (takeStep s mm).2 = .inl s' ∧ s'.hd = s.hd ∧ s.taken ++ rest = [] ∧ s'.taken = [] ∧ S s.hd ≠ [] ∧ K2 (takeStep s mm).1 h0 h1 (sset S s.hd []) loose (A ++ .all s' (S s.hd) :: B)) ∨
    ((takeStep s mm).2 = .inr [] ∧ S s.hd = [] ∧ s.taken ++ rest = [] ∧ K2 (takeStep s mm).1 h0 h1 S loose (A ++ B)) ∨
    (s.taken ++ rest ≠ [] ∧ (takeStep s mm).2 = .inr (s.taken ++ rest) ∧ K2 (takeStep s mm).1 h0 h1 S (loose ++ (s.taken ++ rest)) (A ++ B)) := by
  obtain ⟨ko, kh⟩ := k.ok (.all s rest) (List.mem_append_right _ (List.mem_cons_self ..))
  have ko : TakeOk mm s rest := ko
  obtain ⟨hd, ph, raw, top, taken⟩ := s
  have kh : hd = h0 ∨ hd = h1 := kh
  have hc := k.ch hd kh
  cases ph with
  | head =>
    obtain ⟨er, et, ez⟩ := ko.2.2 (fun h => by cases h)
    have er : rest = [] := er
    have et : taken = [] := et
    have ez : top = 0 := ez
    subst er et ez
    by_cases z : (hdv (mm hd)).1 = 0
    · have e2 : takeStep ⟨hd, .head, raw, 0, []⟩ mm = (mm, .inr []) := if_pos z
      rw [e2]
      rw [z] at hc
      exact .inr (.inr (.inl ⟨rfl, hc.zero, rfl, k.gone (p := .all _ _) fun x => by show cnt x loose = cnt x loose + cnt x []; rw [cnt_nil]; rfl⟩))
    · have e2 : takeStep ⟨hd, .head, raw, 0, []⟩ mm = (mm, .inl ⟨hd, .swap, mm hd, 0, []⟩) := if_neg z
      rw [e2]
      exact .inl ⟨⟨hd, .swap, mm hd, 0, []⟩, [], rfl, rfl, rfl, k.same (p := .all _ _) (q := .all _ _) ⟨fun _ => ⟨Int.le_refl _, z⟩, fun h => (by cases h), fun _ => ⟨rfl, rfl, rfl⟩⟩ rfl fun _ => rfl⟩
  | swap =>
    obtain ⟨er, et, ez⟩ := ko.2.2 (fun h => by cases h)
    have er : rest = [] := er
    have et : taken = [] := et
    have ez : top = 0 := ez
    subst er et ez
    by_cases z : mm hd = raw
    · have e2 : takeStep ⟨hd, .swap, raw, 0, []⟩ mm = (mm.set hd (.p 0 ((hdv raw).2 + 1)), .inl ⟨hd, .walk, raw, (hdv raw).1, []⟩) := if_pos z
      rw [e2]
      have nz := (ko.1 rfl).2
      have em : mm.set hd (.p 0 ((hdv raw).2 + 1)) = bump mm hd 0 := by unfold bump tagv; rw [z]
      have hc2 := hc
      rw [z] at hc2
      obtain ⟨l, el, _⟩ := hc2.top nz
      refine .inr (.inl ⟨⟨hd, .walk, raw, (hdv raw).1, []⟩, rfl, rfl, rfl, rfl, by rw [el]; exact List.cons_ne_nil _ _, ?_⟩)
      show K2 (mm.set hd (.p 0 ((hdv raw).2 + 1))) h0 h1 (sset S hd []) loose (A ++ .all ⟨hd, .walk, raw, (hdv raw).1, []⟩ (S hd) :: B)
      rw [em]
      refine k.swapped (p := .all _ _) (c := hd) kh .nil (fun r hr => ?_) fun y => ?_
      · rcases List.mem_append.mp hr with h | h
        · exact .inl (List.mem_append_left _ h)
        · rcases List.mem_cons.mp h with e | h
          · subst e
            exact .inr ⟨⟨fun h => (by cases h), fun _ => ⟨hc2.head (k.ih hd kh) _, by rw [el]; exact List.cons_ne_nil _ _⟩, fun h => absurd rfl h⟩, kh⟩
          · exact .inl (List.mem_append_right _ h)
      · have h1 := k.two y
        have h2 := sset_sum (c := hd) k.ne kh S [] y
        have h3 : cnt y (Mc.all ⟨hd, .swap, raw, 0, []⟩ []).held = 0 := cnt_nil y
        have h4 : cnt y (Mc.all ⟨hd, .walk, raw, (hdv raw).1, []⟩ (S hd)).held = cnt y (S hd) := rfl
        have h5 : cnt y [] = 0 := cnt_nil y
        rw [cntM_app, cntM_cons]
        omega
    · have e2 : takeStep ⟨hd, .swap, raw, 0, []⟩ mm = (mm, .inl ⟨hd, .head, raw, 0, []⟩) := if_neg z
      rw [e2]
      exact .inl ⟨⟨hd, .head, raw, 0, []⟩, [], rfl, rfl, rfl, k.same (p := .all _ _) (q := .all _ _) ⟨fun h => (by cases h), fun h => (by cases h), fun _ => ⟨rfl, rfl, rfl⟩⟩ rfl fun _ => rfl⟩
  | walk =>
    obtain ⟨ch, nr⟩ := ko.2.1 rfl
    have ch : Chain mm hd top rest := ch
    have nz : top ≠ 0 := fun z => nr (by rw [z] at ch; exact ch.zero)
    obtain ⟨r, er, hr⟩ := ch.top nz
    subst er
    by_cases z : num (mm (bel hd (top - 1))) = 0
    · have e2 : takeStep ⟨hd, .walk, raw, top, taken⟩ mm = (mm, .inr (taken ++ [top - 1])) := if_pos z
      rw [z] at hr
      have er := hr.zero
      subst er
      rw [e2]
      exact .inr (.inr (.inr ⟨by simp, rfl, k.gone (p := .all _ _) fun x => by rw [cnt_app]; rfl⟩))
    · have e2 : takeStep ⟨hd, .walk, raw, top, taken⟩ mm = (mm, .inl ⟨hd, .walk, raw, num (mm (bel hd (top - 1))), taken ++ [top - 1]⟩) := if_neg z
      rw [e2]
      have ea : taken ++ [top - 1] ++ r = taken ++ (top - 1) :: r := by rw [List.append_assoc]; rfl
      refine .inl ⟨⟨hd, .walk, raw, num (mm (bel hd (top - 1))), taken ++ [top - 1]⟩, r, rfl, rfl, ea, k.same (p := .all _ _) (q := .all _ _) ⟨fun h => (by cases h), fun _ => ⟨hr, fun e => ?_⟩, fun h => absurd rfl h⟩ rfl fun x => ?_⟩
      · rw [e] at hr
        exact z hr.empty
      · show cnt x (taken ++ [top - 1] ++ r) = cnt x (taken ++ (top - 1) :: r)
        rw [ea]
end
end Sw

/-! ## Tx -/
set_option Elab.async false
set_option linter.all false
set_option maxRecDepth 100000
set_option maxHeartbeats 4000000
/-! the text of the law, printed by gentx.py -/
namespace Sw
open PySem L2
def top (i : Nat) : Stmt := PySem.Challenge.pw_slabwarren_k02_woven_stacks.main.body.getD i (.Pass ⟨0, 0, 0, 0⟩)
abbrev s_wall : Stmt := top 0
abbrev s_free_cell : Stmt := top 4
abbrev s_next_cell : Stmt := top 5
abbrev s_head_value : Stmt := top 6
abbrev s_items_of : Stmt := top 7
abbrev s_Pop_init : Stmt := inClass (top 8) 0
abbrev s_Pop_step : Stmt := inClass (top 8) 1
abbrev s_Push_init : Stmt := inClass (top 9) 0
abbrev s_Push_step : Stmt := inClass (top 9) 1
abbrev s_TakeAll_init : Stmt := inClass (top 10) 0
abbrev s_TakeAll_step : Stmt := inClass (top 10) 1
abbrev s_TakeAll_holding : Stmt := inClass (top 10) 2
abbrev s_Memory_init : Stmt := inClass (top 12) 0
abbrev s_Memory_read : Stmt := inClass (top 12) 1
abbrev s_Memory_write : Stmt := inClass (top 12) 2
abbrev s_Memory_swap : Stmt := inClass (top 12) 3
abbrev s_Memory_peek : Stmt := inClass (top 12) 4
abbrev s_Memory_set_up : Stmt := inClass (top 12) 5
abbrev s_law_state : Stmt := top 14
abbrev s_law_take : Stmt := top 15
abbrev s_law_bits : Stmt := top 16
abbrev s_law_new : Stmt := top 17
abbrev s_law_after : Stmt := top 18
abbrev s_law : Stmt := top 19
abbrev n_wall : List Str := ["k"]
theorem sc_wall : FnScope n_wall ["k"] (defScope s_wall) := ⟨rfl, rfl, rfl, by decide +kernel, rfl, by decide +kernel, by decide +kernel⟩
abbrev n_free_cell : List Str := ["size"]
theorem sc_free_cell : FnScope n_free_cell ["size"] (defScope s_free_cell) := ⟨rfl, rfl, rfl, by decide +kernel, rfl, by decide +kernel, by decide +kernel⟩
abbrev n_next_cell : List Str := ["head", "item"]
theorem sc_next_cell : FnScope n_next_cell ["head", "item"] (defScope s_next_cell) := ⟨rfl, rfl, rfl, by decide +kernel, rfl, by decide +kernel, by decide +kernel⟩
abbrev n_head_value : List Str := ["value"]
theorem sc_head_value : FnScope n_head_value ["value"] (defScope s_head_value) := ⟨rfl, rfl, rfl, by decide +kernel, rfl, by decide +kernel, by decide +kernel⟩
abbrev n_items_of : List Str := ["memory", "head", "top", "tag", "items"]
theorem sc_items_of : FnScope n_items_of ["memory", "head"] (defScope s_items_of) := ⟨rfl, rfl, rfl, by decide +kernel, rfl, by decide +kernel, by decide +kernel⟩
abbrev n_Pop_init : List Str := ["self", "head"]
theorem sc_Pop_init : FnScope n_Pop_init ["self", "head"] (defScope s_Pop_init) := ⟨rfl, rfl, rfl, by decide +kernel, rfl, by decide +kernel, by decide +kernel⟩
abbrev n_Pop_step : List Str := ["self", "memory"]
theorem sc_Pop_step : FnScope n_Pop_step ["self", "memory"] (defScope s_Pop_step) := ⟨rfl, rfl, rfl, by decide +kernel, rfl, by decide +kernel, by decide +kernel⟩
abbrev n_Push_init : List Str := ["self", "head", "item"]
theorem sc_Push_init : FnScope n_Push_init ["self", "head", "item"] (defScope s_Push_init) := ⟨rfl, rfl, rfl, by decide +kernel, rfl, by decide +kernel, by decide +kernel⟩
abbrev n_Push_step : List Str := ["self", "memory"]
theorem sc_Push_step : FnScope n_Push_step ["self", "memory"] (defScope s_Push_step) := ⟨rfl, rfl, rfl, by decide +kernel, rfl, by decide +kernel, by decide +kernel⟩
abbrev n_TakeAll_init : List Str := ["self", "head"]
theorem sc_TakeAll_init : FnScope n_TakeAll_init ["self", "head"] (defScope s_TakeAll_init) := ⟨rfl, rfl, rfl, by decide +kernel, rfl, by decide +kernel, by decide +kernel⟩
abbrev n_TakeAll_step : List Str := ["self", "memory"]
theorem sc_TakeAll_step : FnScope n_TakeAll_step ["self", "memory"] (defScope s_TakeAll_step) := ⟨rfl, rfl, rfl, by decide +kernel, rfl, by decide +kernel, by decide +kernel⟩
abbrev n_TakeAll_holding : List Str := ["self", "memory", "items", "top"]
theorem sc_TakeAll_holding : FnScope n_TakeAll_holding ["self", "memory"] (defScope s_TakeAll_holding) := ⟨rfl, rfl, rfl, by decide +kernel, rfl, by decide +kernel, by decide +kernel⟩
abbrev n_Memory_init : List Str := ["self"]
theorem sc_Memory_init : FnScope n_Memory_init ["self"] (defScope s_Memory_init) := ⟨rfl, rfl, rfl, by decide +kernel, rfl, by decide +kernel, by decide +kernel⟩
abbrev n_Memory_read : List Str := ["self", "cell"]
theorem sc_Memory_read : FnScope n_Memory_read ["self", "cell"] (defScope s_Memory_read) := ⟨rfl, rfl, rfl, by decide +kernel, rfl, by decide +kernel, by decide +kernel⟩
abbrev n_Memory_write : List Str := ["self", "cell", "value"]
theorem sc_Memory_write : FnScope n_Memory_write ["self", "cell", "value"] (defScope s_Memory_write) := ⟨rfl, rfl, rfl, by decide +kernel, rfl, by decide +kernel, by decide +kernel⟩
abbrev n_Memory_swap : List Str := ["self", "cell", "old", "new"]
theorem sc_Memory_swap : FnScope n_Memory_swap ["self", "cell", "old", "new"] (defScope s_Memory_swap) := ⟨rfl, rfl, rfl, by decide +kernel, rfl, by decide +kernel, by decide +kernel⟩
abbrev n_Memory_peek : List Str := ["self", "cell"]
theorem sc_Memory_peek : FnScope n_Memory_peek ["self", "cell"] (defScope s_Memory_peek) := ⟨rfl, rfl, rfl, by decide +kernel, rfl, by decide +kernel, by decide +kernel⟩
abbrev n_Memory_set_up : List Str := ["self", "cell", "value"]
theorem sc_Memory_set_up : FnScope n_Memory_set_up ["self", "cell", "value"] (defScope s_Memory_set_up) := ⟨rfl, rfl, rfl, by decide +kernel, rfl, by decide +kernel, by decide +kernel⟩
abbrev n_law_state : List Str := ["_law_script", "_law_cells", "_law_cell"]
theorem sc_law_state : FnScope n_law_state ["_law_script"] (defScope s_law_state) := ⟨rfl, rfl, rfl, by decide +kernel, rfl, by decide +kernel, by decide +kernel⟩
abbrev n_law_take : List Str := ["_law_state_here", "_law_most", "_law_cells", "_law_at", "_law_cell", "_law_mixed"]
theorem sc_law_take : FnScope n_law_take ["_law_state_here", "_law_most"] (defScope s_law_take) := ⟨rfl, rfl, rfl, by decide +kernel, rfl, by decide +kernel, by decide +kernel⟩
abbrev n_law_bits : List Str := ["_law_state_here", "_law_count", "_law_k"]
theorem sc_law_bits : FnScope n_law_bits ["_law_state_here", "_law_count"] (defScope s_law_bits) := ⟨rfl, rfl, rfl, by decide +kernel, rfl, by decide +kernel, by decide +kernel⟩
abbrev n_law_new : List Str := ["_law_state_here", "_law_loose", "_law_heads", "_law_kind", "_law_head", "_law_item"]
theorem sc_law_new : FnScope n_law_new ["_law_state_here", "_law_loose", "_law_heads"] (defScope s_law_new) := ⟨rfl, rfl, rfl, by decide +kernel, rfl, by decide +kernel, by decide +kernel⟩
abbrev n_law_after : List Str := ["_law_machine", "_law_before", "_law_stacks", "_law_loose", "_law_memory", "_law_word", "_law_head", "_law_inner", "_law_item", "_law_rows", "_law_held", "_law_other"]
theorem sc_law_after : FnScope n_law_after ["_law_machine", "_law_before", "_law_stacks", "_law_loose", "_law_memory"] (defScope s_law_after) := ⟨rfl, rfl, rfl, by decide +kernel, rfl, by decide +kernel, by decide +kernel⟩
abbrev n_law : List Str := ["_law_script", "_law_state_here", "_law_memory", "_law_heads", "_law_stacks", "_law_most", "_law_loose", "_law_machines", "_law_turn", "_law_at", "_law_machine", "_law_before", "_law_count", "_law_head", "_law_k"]
theorem sc_law : FnScope n_law ["_law_script"] (defScope s_law) := ⟨rfl, rfl, rfl, by decide +kernel, rfl, by decide +kernel, by decide +kernel⟩
def at_wall : Str × Option Str := ("_wall", none)
def dd_wall : He.DefD := ⟨at_wall, "_wall", "_wall", defArgs s_wall, defBody s_wall, defScope s_wall, [], []⟩
def at_free_cell : Str × Option Str := ("free_cell", none)
def dd_free_cell : He.DefD := ⟨at_free_cell, "free_cell", "free_cell", defArgs s_free_cell, defBody s_free_cell, defScope s_free_cell, [], []⟩
def at_next_cell : Str × Option Str := ("next_cell", none)
def dd_next_cell : He.DefD := ⟨at_next_cell, "next_cell", "next_cell", defArgs s_next_cell, defBody s_next_cell, defScope s_next_cell, [], []⟩
def at_head_value : Str × Option Str := ("head_value", none)
def dd_head_value : He.DefD := ⟨at_head_value, "head_value", "head_value", defArgs s_head_value, defBody s_head_value, defScope s_head_value, [], []⟩
def at_items_of : Str × Option Str := ("items_of", none)
def dd_items_of : He.DefD := ⟨at_items_of, "items_of", "items_of", defArgs s_items_of, defBody s_items_of, defScope s_items_of, [], []⟩
def at_Pop_init : Str × Option Str := ("Pop", some "__init__")
def dd_Pop_init : He.DefD := ⟨at_Pop_init, "__init__", "Pop.__init__", defArgs s_Pop_init, defBody s_Pop_init, defScope s_Pop_init, [], []⟩
def at_Pop_step : Str × Option Str := ("Pop", some "step")
def dd_Pop_step : He.DefD := ⟨at_Pop_step, "step", "Pop.step", defArgs s_Pop_step, defBody s_Pop_step, defScope s_Pop_step, [], []⟩
def at_Push_init : Str × Option Str := ("Push", some "__init__")
def dd_Push_init : He.DefD := ⟨at_Push_init, "__init__", "Push.__init__", defArgs s_Push_init, defBody s_Push_init, defScope s_Push_init, [], []⟩
def at_Push_step : Str × Option Str := ("Push", some "step")
def dd_Push_step : He.DefD := ⟨at_Push_step, "step", "Push.step", defArgs s_Push_step, defBody s_Push_step, defScope s_Push_step, [], []⟩
def at_TakeAll_init : Str × Option Str := ("TakeAll", some "__init__")
def dd_TakeAll_init : He.DefD := ⟨at_TakeAll_init, "__init__", "TakeAll.__init__", defArgs s_TakeAll_init, defBody s_TakeAll_init, defScope s_TakeAll_init, [], []⟩
def at_TakeAll_step : Str × Option Str := ("TakeAll", some "step")
def dd_TakeAll_step : He.DefD := ⟨at_TakeAll_step, "step", "TakeAll.step", defArgs s_TakeAll_step, defBody s_TakeAll_step, defScope s_TakeAll_step, [], []⟩
def at_TakeAll_holding : Str × Option Str := ("TakeAll", some "holding")
def dd_TakeAll_holding : He.DefD := ⟨at_TakeAll_holding, "holding", "TakeAll.holding", defArgs s_TakeAll_holding, defBody s_TakeAll_holding, defScope s_TakeAll_holding, [], []⟩
def at_Memory_init : Str × Option Str := ("Memory", some "__init__")
def dd_Memory_init : He.DefD := ⟨at_Memory_init, "__init__", "Memory.__init__", defArgs s_Memory_init, defBody s_Memory_init, defScope s_Memory_init, [], []⟩
def at_Memory_read : Str × Option Str := ("Memory", some "read")
def dd_Memory_read : He.DefD := ⟨at_Memory_read, "read", "Memory.read", defArgs s_Memory_read, defBody s_Memory_read, defScope s_Memory_read, [], []⟩
def at_Memory_write : Str × Option Str := ("Memory", some "write")
def dd_Memory_write : He.DefD := ⟨at_Memory_write, "write", "Memory.write", defArgs s_Memory_write, defBody s_Memory_write, defScope s_Memory_write, [], []⟩
def at_Memory_swap : Str × Option Str := ("Memory", some "swap")
def dd_Memory_swap : He.DefD := ⟨at_Memory_swap, "swap", "Memory.swap", defArgs s_Memory_swap, defBody s_Memory_swap, defScope s_Memory_swap, [], []⟩
def at_Memory_peek : Str × Option Str := ("Memory", some "peek")
def dd_Memory_peek : He.DefD := ⟨at_Memory_peek, "peek", "Memory.peek", defArgs s_Memory_peek, defBody s_Memory_peek, defScope s_Memory_peek, [], []⟩
def at_Memory_set_up : Str × Option Str := ("Memory", some "set_up")
def dd_Memory_set_up : He.DefD := ⟨at_Memory_set_up, "set_up", "Memory.set_up", defArgs s_Memory_set_up, defBody s_Memory_set_up, defScope s_Memory_set_up, [], []⟩
def at_law_state : Str × Option Str := ("_law_state", none)
def dd_law_state : He.DefD := ⟨at_law_state, "_law_state", "_law_state", defArgs s_law_state, defBody s_law_state, defScope s_law_state, [], []⟩
def at_law_take : Str × Option Str := ("_law_take", none)
def dd_law_take : He.DefD := ⟨at_law_take, "_law_take", "_law_take", defArgs s_law_take, defBody s_law_take, defScope s_law_take, [], []⟩
def at_law_bits : Str × Option Str := ("_law_bits", none)
def dd_law_bits : He.DefD := ⟨at_law_bits, "_law_bits", "_law_bits", defArgs s_law_bits, defBody s_law_bits, defScope s_law_bits, [], []⟩
def at_law_new : Str × Option Str := ("_law_new", none)
def dd_law_new : He.DefD := ⟨at_law_new, "_law_new", "_law_new", defArgs s_law_new, defBody s_law_new, defScope s_law_new, [], []⟩
def at_law_after : Str × Option Str := ("_law_after", none)
def dd_law_after : He.DefD := ⟨at_law_after, "_law_after", "_law_after", defArgs s_law_after, defBody s_law_after, defScope s_law_after, [], []⟩
def at_law : Str × Option Str := ("law", none)
def dd_law : He.DefD := ⟨at_law, "law", "law", defArgs s_law, defBody s_law, defScope s_law, [], []⟩
abbrev lv_wall : Nat := 0
abbrev lv_free_cell : Nat := 0
abbrev lv_next_cell : Nat := 0
abbrev lv_head_value : Nat := 0
abbrev lv_items_of : Nat := 1
abbrev lv_Pop_init : Nat := 0
abbrev lv_Pop_step : Nat := 1
abbrev lv_Push_init : Nat := 0
abbrev lv_Push_step : Nat := 1
abbrev lv_TakeAll_init : Nat := 0
abbrev lv_TakeAll_step : Nat := 1
abbrev lv_TakeAll_holding : Nat := 1
abbrev lv_Memory_init : Nat := 0
abbrev lv_Memory_read : Nat := 0
abbrev lv_Memory_write : Nat := 0
abbrev lv_Memory_swap : Nat := 0
abbrev lv_Memory_peek : Nat := 0
abbrev lv_Memory_set_up : Nat := 1
abbrev lv_law_state : Nat := 0
abbrev lv_law_take : Nat := 0
abbrev lv_law_bits : Nat := 1
abbrev lv_law_new : Nat := 2
abbrev lv_law_after : Nat := 2
abbrev lv_law : Nat := 3
def fa : List He.Fa := [.glo "Pop", .cls "Pop", .noat "Pop" "head", .noat "Pop" "phase", .noat "Pop" "raw", .noat "Pop" "seen", .noat "Pop" "below", .noat "Pop" "done", .noat "Pop" "result", .mkr "Pop", .meth "Pop" "step", .glo "Push", .cls "Push", .noat "Push" "head", .noat "Push" "item", .noat "Push" "phase", .noat "Push" "raw", .noat "Push" "seen", .noat "Push" "done", .mkr "Push", .meth "Push" "step", .glo "TakeAll", .cls "TakeAll", .noat "TakeAll" "head", .noat "TakeAll" "phase", .noat "TakeAll" "raw", .noat "TakeAll" "seen", .noat "TakeAll" "top", .noat "TakeAll" "taken", .noat "TakeAll" "done", .mkr "TakeAll", .meth "TakeAll" "step", .meth "TakeAll" "holding", .glo "Memory", .cls "Memory", .noat "Memory" "cells", .noat "Memory" "accesses", .mkr "Memory", .meth "Memory" "read", .meth "Memory" "write", .meth "Memory" "swap", .meth "Memory" "peek", .meth "Memory" "set_up", .glo "_wall", .glo "free_cell", .glo "next_cell", .glo "head_value", .glo "items_of", .glo "_law_state", .glo "_law_take", .glo "_law_bits", .glo "_law_new", .glo "_law_after", .glo "law", .glo "EMPTY", .glo "PAGES", .free "abs", .free "int", .free "len", .free "list", .free "range"]
def fn : List He.DefD := [dd_wall, dd_free_cell, dd_next_cell, dd_head_value, dd_items_of, dd_Pop_init, dd_Pop_step, dd_Push_init, dd_Push_step, dd_TakeAll_init, dd_TakeAll_step, dd_TakeAll_holding, dd_Memory_init, dd_Memory_read, dd_Memory_write, dd_Memory_swap, dd_Memory_peek, dd_Memory_set_up, dd_law_state, dd_law_take, dd_law_bits, dd_law_new, dd_law_after, dd_law]
def tb : List (Str × List He.Dv) := [("EMPTY", [.int 0, .int 0]), ("PAGES", [.str "pages"])]
@[irreducible] def f_Pop (a0 a1 a2 a3 a4 a5 a6 : V) : List (Str × V) := [(("head" : Str), a0), (("phase" : Str), a1), (("raw" : Str), a2), (("seen" : Str), a3), (("below" : Str), a4), (("done" : Str), a5), (("result" : Str), a6)]
theorem e_Pop (a0 a1 a2 a3 a4 a5 a6 : V) : f_Pop a0 a1 a2 a3 a4 a5 a6 = [(("head" : Str), a0), (("phase" : Str), a1), (("raw" : Str), a2), (("seen" : Str), a3), (("below" : Str), a4), (("done" : Str), a5), (("result" : Str), a6)] := by unfold f_Pop; rfl
theorem l_Pop_head {a0 a1 a2 a3 a4 a5 a6 : V} : (f_Pop a0 a1 a2 a3 a4 a5 a6).lookup ("head" : Str) = some a0 := by rw [e_Pop]; kernel_rfl
theorem L_Pop_head {a0 a1 a2 a3 a4 a5 a6 : V} : Lk (f_Pop a0 a1 a2 a3 a4 a5 a6) "head" a0 := l_Pop_head
theorem p_Pop_head {a0 a1 a2 a3 a4 a5 a6 v : V} : putF "head" v (f_Pop a0 a1 a2 a3 a4 a5 a6) = f_Pop v a1 a2 a3 a4 a5 a6 := by rw [e_Pop, e_Pop]; kernel_rfl
theorem P_Pop_head {a0 a1 a2 a3 a4 a5 a6 v : V} : PutF (f_Pop a0 a1 a2 a3 a4 a5 a6) "head" v (f_Pop v a1 a2 a3 a4 a5 a6) := p_Pop_head
theorem q_Pop_head {a0 : V} : putF "head" a0 ([] : List (Str × V)) = [(("head" : Str), a0)] := by kernel_rfl
theorem l_Pop_phase {a0 a1 a2 a3 a4 a5 a6 : V} : (f_Pop a0 a1 a2 a3 a4 a5 a6).lookup ("phase" : Str) = some a1 := by rw [e_Pop]; kernel_rfl
theorem L_Pop_phase {a0 a1 a2 a3 a4 a5 a6 : V} : Lk (f_Pop a0 a1 a2 a3 a4 a5 a6) "phase" a1 := l_Pop_phase
theorem p_Pop_phase {a0 a1 a2 a3 a4 a5 a6 v : V} : putF "phase" v (f_Pop a0 a1 a2 a3 a4 a5 a6) = f_Pop a0 v a2 a3 a4 a5 a6 := by rw [e_Pop, e_Pop]; kernel_rfl
theorem P_Pop_phase {a0 a1 a2 a3 a4 a5 a6 v : V} : PutF (f_Pop a0 a1 a2 a3 a4 a5 a6) "phase" v (f_Pop a0 v a2 a3 a4 a5 a6) := p_Pop_phase
theorem q_Pop_phase {a0 a1 : V} : putF "phase" a1 ([(("head" : Str), a0)] : List (Str × V)) = [(("head" : Str), a0), (("phase" : Str), a1)] := by kernel_rfl
theorem l_Pop_raw {a0 a1 a2 a3 a4 a5 a6 : V} : (f_Pop a0 a1 a2 a3 a4 a5 a6).lookup ("raw" : Str) = some a2 := by rw [e_Pop]; kernel_rfl
theorem L_Pop_raw {a0 a1 a2 a3 a4 a5 a6 : V} : Lk (f_Pop a0 a1 a2 a3 a4 a5 a6) "raw" a2 := l_Pop_raw
theorem p_Pop_raw {a0 a1 a2 a3 a4 a5 a6 v : V} : putF "raw" v (f_Pop a0 a1 a2 a3 a4 a5 a6) = f_Pop a0 a1 v a3 a4 a5 a6 := by rw [e_Pop, e_Pop]; kernel_rfl
theorem P_Pop_raw {a0 a1 a2 a3 a4 a5 a6 v : V} : PutF (f_Pop a0 a1 a2 a3 a4 a5 a6) "raw" v (f_Pop a0 a1 v a3 a4 a5 a6) := p_Pop_raw
theorem q_Pop_raw {a0 a1 a2 : V} : putF "raw" a2 ([(("head" : Str), a0), (("phase" : Str), a1)] : List (Str × V)) = [(("head" : Str), a0), (("phase" : Str), a1), (("raw" : Str), a2)] := by kernel_rfl
theorem l_Pop_seen {a0 a1 a2 a3 a4 a5 a6 : V} : (f_Pop a0 a1 a2 a3 a4 a5 a6).lookup ("seen" : Str) = some a3 := by rw [e_Pop]; kernel_rfl
theorem L_Pop_seen {a0 a1 a2 a3 a4 a5 a6 : V} : Lk (f_Pop a0 a1 a2 a3 a4 a5 a6) "seen" a3 := l_Pop_seen
theorem p_Pop_seen {a0 a1 a2 a3 a4 a5 a6 v : V} : putF "seen" v (f_Pop a0 a1 a2 a3 a4 a5 a6) = f_Pop a0 a1 a2 v a4 a5 a6 := by rw [e_Pop, e_Pop]; kernel_rfl
theorem P_Pop_seen {a0 a1 a2 a3 a4 a5 a6 v : V} : PutF (f_Pop a0 a1 a2 a3 a4 a5 a6) "seen" v (f_Pop a0 a1 a2 v a4 a5 a6) := p_Pop_seen
theorem q_Pop_seen {a0 a1 a2 a3 : V} : putF "seen" a3 ([(("head" : Str), a0), (("phase" : Str), a1), (("raw" : Str), a2)] : List (Str × V)) = [(("head" : Str), a0), (("phase" : Str), a1), (("raw" : Str), a2), (("seen" : Str), a3)] := by kernel_rfl
theorem l_Pop_below {a0 a1 a2 a3 a4 a5 a6 : V} : (f_Pop a0 a1 a2 a3 a4 a5 a6).lookup ("below" : Str) = some a4 := by rw [e_Pop]; kernel_rfl
theorem L_Pop_below {a0 a1 a2 a3 a4 a5 a6 : V} : Lk (f_Pop a0 a1 a2 a3 a4 a5 a6) "below" a4 := l_Pop_below
theorem p_Pop_below {a0 a1 a2 a3 a4 a5 a6 v : V} : putF "below" v (f_Pop a0 a1 a2 a3 a4 a5 a6) = f_Pop a0 a1 a2 a3 v a5 a6 := by rw [e_Pop, e_Pop]; kernel_rfl
theorem P_Pop_below {a0 a1 a2 a3 a4 a5 a6 v : V} : PutF (f_Pop a0 a1 a2 a3 a4 a5 a6) "below" v (f_Pop a0 a1 a2 a3 v a5 a6) := p_Pop_below
theorem q_Pop_below {a0 a1 a2 a3 a4 : V} : putF "below" a4 ([(("head" : Str), a0), (("phase" : Str), a1), (("raw" : Str), a2), (("seen" : Str), a3)] : List (Str × V)) = [(("head" : Str), a0), (("phase" : Str), a1), (("raw" : Str), a2), (("seen" : Str), a3), (("below" : Str), a4)] := by kernel_rfl
theorem l_Pop_done {a0 a1 a2 a3 a4 a5 a6 : V} : (f_Pop a0 a1 a2 a3 a4 a5 a6).lookup ("done" : Str) = some a5 := by rw [e_Pop]; kernel_rfl
theorem L_Pop_done {a0 a1 a2 a3 a4 a5 a6 : V} : Lk (f_Pop a0 a1 a2 a3 a4 a5 a6) "done" a5 := l_Pop_done
theorem p_Pop_done {a0 a1 a2 a3 a4 a5 a6 v : V} : putF "done" v (f_Pop a0 a1 a2 a3 a4 a5 a6) = f_Pop a0 a1 a2 a3 a4 v a6 := by rw [e_Pop, e_Pop]; kernel_rfl
theorem P_Pop_done {a0 a1 a2 a3 a4 a5 a6 v : V} : PutF (f_Pop a0 a1 a2 a3 a4 a5 a6) "done" v (f_Pop a0 a1 a2 a3 a4 v a6) := p_Pop_done
theorem q_Pop_done {a0 a1 a2 a3 a4 a5 : V} : putF "done" a5 ([(("head" : Str), a0), (("phase" : Str), a1), (("raw" : Str), a2), (("seen" : Str), a3), (("below" : Str), a4)] : List (Str × V)) = [(("head" : Str), a0), (("phase" : Str), a1), (("raw" : Str), a2), (("seen" : Str), a3), (("below" : Str), a4), (("done" : Str), a5)] := by kernel_rfl
theorem l_Pop_result {a0 a1 a2 a3 a4 a5 a6 : V} : (f_Pop a0 a1 a2 a3 a4 a5 a6).lookup ("result" : Str) = some a6 := by rw [e_Pop]; kernel_rfl
theorem L_Pop_result {a0 a1 a2 a3 a4 a5 a6 : V} : Lk (f_Pop a0 a1 a2 a3 a4 a5 a6) "result" a6 := l_Pop_result
theorem p_Pop_result {a0 a1 a2 a3 a4 a5 a6 v : V} : putF "result" v (f_Pop a0 a1 a2 a3 a4 a5 a6) = f_Pop a0 a1 a2 a3 a4 a5 v := by rw [e_Pop, e_Pop]; kernel_rfl
theorem P_Pop_result {a0 a1 a2 a3 a4 a5 a6 v : V} : PutF (f_Pop a0 a1 a2 a3 a4 a5 a6) "result" v (f_Pop a0 a1 a2 a3 a4 a5 v) := p_Pop_result
theorem q_Pop_result {a0 a1 a2 a3 a4 a5 a6 : V} : putF "result" a6 ([(("head" : Str), a0), (("phase" : Str), a1), (("raw" : Str), a2), (("seen" : Str), a3), (("below" : Str), a4), (("done" : Str), a5)] : List (Str × V)) = f_Pop a0 a1 a2 a3 a4 a5 a6 := by rw [e_Pop]; kernel_rfl
theorem Q_Pop {a0 a1 a2 a3 a4 a5 a6 : V} : PutF ([(("head" : Str), a0), (("phase" : Str), a1), (("raw" : Str), a2), (("seen" : Str), a3), (("below" : Str), a4), (("done" : Str), a5)] : List (Str × V)) "result" a6 (f_Pop a0 a1 a2 a3 a4 a5 a6) := q_Pop_result
theorem n_Pop {a0 a1 a2 a3 a4 a5 a6 : V} : (f_Pop a0 a1 a2 a3 a4 a5 a6).length < 1000 := by rw [e_Pop]; show 7 < 1000; decide
theorem O_Pop_step {a0 a1 a2 a3 a4 a5 a6 : V} : Nn (f_Pop a0 a1 a2 a3 a4 a5 a6) "step" := by show List.lookup _ _ = none; rw [e_Pop]; kernel_rfl
theorem o_Pop_step {a0 a1 a2 a3 a4 a5 a6 : V} : (f_Pop a0 a1 a2 a3 a4 a5 a6).lookup ("step" : Str) = none := by rw [e_Pop]; kernel_rfl
@[irreducible] def f_Push (a0 a1 a2 a3 a4 a5 : V) : List (Str × V) := [(("head" : Str), a0), (("item" : Str), a1), (("phase" : Str), a2), (("raw" : Str), a3), (("seen" : Str), a4), (("done" : Str), a5)]
theorem e_Push (a0 a1 a2 a3 a4 a5 : V) : f_Push a0 a1 a2 a3 a4 a5 = [(("head" : Str), a0), (("item" : Str), a1), (("phase" : Str), a2), (("raw" : Str), a3), (("seen" : Str), a4), (("done" : Str), a5)] := by unfold f_Push; rfl
theorem l_Push_head {a0 a1 a2 a3 a4 a5 : V} : (f_Push a0 a1 a2 a3 a4 a5).lookup ("head" : Str) = some a0 := by rw [e_Push]; kernel_rfl
theorem L_Push_head {a0 a1 a2 a3 a4 a5 : V} : Lk (f_Push a0 a1 a2 a3 a4 a5) "head" a0 := l_Push_head
theorem p_Push_head {a0 a1 a2 a3 a4 a5 v : V} : putF "head" v (f_Push a0 a1 a2 a3 a4 a5) = f_Push v a1 a2 a3 a4 a5 := by rw [e_Push, e_Push]; kernel_rfl
theorem P_Push_head {a0 a1 a2 a3 a4 a5 v : V} : PutF (f_Push a0 a1 a2 a3 a4 a5) "head" v (f_Push v a1 a2 a3 a4 a5) := p_Push_head
theorem q_Push_head {a0 : V} : putF "head" a0 ([] : List (Str × V)) = [(("head" : Str), a0)] := by kernel_rfl
theorem l_Push_item {a0 a1 a2 a3 a4 a5 : V} : (f_Push a0 a1 a2 a3 a4 a5).lookup ("item" : Str) = some a1 := by rw [e_Push]; kernel_rfl
theorem L_Push_item {a0 a1 a2 a3 a4 a5 : V} : Lk (f_Push a0 a1 a2 a3 a4 a5) "item" a1 := l_Push_item
theorem p_Push_item {a0 a1 a2 a3 a4 a5 v : V} : putF "item" v (f_Push a0 a1 a2 a3 a4 a5) = f_Push a0 v a2 a3 a4 a5 := by rw [e_Push, e_Push]; kernel_rfl
theorem P_Push_item {a0 a1 a2 a3 a4 a5 v : V} : PutF (f_Push a0 a1 a2 a3 a4 a5) "item" v (f_Push a0 v a2 a3 a4 a5) := p_Push_item
theorem q_Push_item {a0 a1 : V} : putF "item" a1 ([(("head" : Str), a0)] : List (Str × V)) = [(("head" : Str), a0), (("item" : Str), a1)] := by kernel_rfl
theorem l_Push_phase {a0 a1 a2 a3 a4 a5 : V} : (f_Push a0 a1 a2 a3 a4 a5).lookup ("phase" : Str) = some a2 := by rw [e_Push]; kernel_rfl
theorem L_Push_phase {a0 a1 a2 a3 a4 a5 : V} : Lk (f_Push a0 a1 a2 a3 a4 a5) "phase" a2 := l_Push_phase
theorem p_Push_phase {a0 a1 a2 a3 a4 a5 v : V} : putF "phase" v (f_Push a0 a1 a2 a3 a4 a5) = f_Push a0 a1 v a3 a4 a5 := by rw [e_Push, e_Push]; kernel_rfl
theorem P_Push_phase {a0 a1 a2 a3 a4 a5 v : V} : PutF (f_Push a0 a1 a2 a3 a4 a5) "phase" v (f_Push a0 a1 v a3 a4 a5) := p_Push_phase
theorem q_Push_phase {a0 a1 a2 : V} : putF "phase" a2 ([(("head" : Str), a0), (("item" : Str), a1)] : List (Str × V)) = [(("head" : Str), a0), (("item" : Str), a1), (("phase" : Str), a2)] := by kernel_rfl
theorem l_Push_raw {a0 a1 a2 a3 a4 a5 : V} : (f_Push a0 a1 a2 a3 a4 a5).lookup ("raw" : Str) = some a3 := by rw [e_Push]; kernel_rfl
theorem L_Push_raw {a0 a1 a2 a3 a4 a5 : V} : Lk (f_Push a0 a1 a2 a3 a4 a5) "raw" a3 := l_Push_raw
theorem p_Push_raw {a0 a1 a2 a3 a4 a5 v : V} : putF "raw" v (f_Push a0 a1 a2 a3 a4 a5) = f_Push a0 a1 a2 v a4 a5 := by rw [e_Push, e_Push]; kernel_rfl
theorem P_Push_raw {a0 a1 a2 a3 a4 a5 v : V} : PutF (f_Push a0 a1 a2 a3 a4 a5) "raw" v (f_Push a0 a1 a2 v a4 a5) := p_Push_raw
theorem q_Push_raw {a0 a1 a2 a3 : V} : putF "raw" a3 ([(("head" : Str), a0), (("item" : Str), a1), (("phase" : Str), a2)] : List (Str × V)) = [(("head" : Str), a0), (("item" : Str), a1), (("phase" : Str), a2), (("raw" : Str), a3)] := by kernel_rfl
theorem l_Push_seen {a0 a1 a2 a3 a4 a5 : V} : (f_Push a0 a1 a2 a3 a4 a5).lookup ("seen" : Str) = some a4 := by rw [e_Push]; kernel_rfl
theorem L_Push_seen {a0 a1 a2 a3 a4 a5 : V} : Lk (f_Push a0 a1 a2 a3 a4 a5) "seen" a4 := l_Push_seen
theorem p_Push_seen {a0 a1 a2 a3 a4 a5 v : V} : putF "seen" v (f_Push a0 a1 a2 a3 a4 a5) = f_Push a0 a1 a2 a3 v a5 := by rw [e_Push, e_Push]; kernel_rfl
theorem P_Push_seen {a0 a1 a2 a3 a4 a5 v : V} : PutF (f_Push a0 a1 a2 a3 a4 a5) "seen" v (f_Push a0 a1 a2 a3 v a5) := p_Push_seen
theorem q_Push_seen {a0 a1 a2 a3 a4 : V} : putF "seen" a4 ([(("head" : Str), a0), (("item" : Str), a1), (("phase" : Str), a2), (("raw" : Str), a3)] : List (Str × V)) = [(("head" : Str), a0), (("item" : Str), a1), (("phase" : Str), a2), (("raw" : Str), a3), (("seen" : Str), a4)] := by kernel_rfl
theorem l_Push_done {a0 a1 a2 a3 a4 a5 : V} : (f_Push a0 a1 a2 a3 a4 a5).lookup ("done" : Str) = some a5 := by rw [e_Push]; kernel_rfl
theorem L_Push_done {a0 a1 a2 a3 a4 a5 : V} : Lk (f_Push a0 a1 a2 a3 a4 a5) "done" a5 := l_Push_done
theorem p_Push_done {a0 a1 a2 a3 a4 a5 v : V} : putF "done" v (f_Push a0 a1 a2 a3 a4 a5) = f_Push a0 a1 a2 a3 a4 v := by rw [e_Push, e_Push]; kernel_rfl
theorem P_Push_done {a0 a1 a2 a3 a4 a5 v : V} : PutF (f_Push a0 a1 a2 a3 a4 a5) "done" v (f_Push a0 a1 a2 a3 a4 v) := p_Push_done
theorem q_Push_done {a0 a1 a2 a3 a4 a5 : V} : putF "done" a5 ([(("head" : Str), a0), (("item" : Str), a1), (("phase" : Str), a2), (("raw" : Str), a3), (("seen" : Str), a4)] : List (Str × V)) = f_Push a0 a1 a2 a3 a4 a5 := by rw [e_Push]; kernel_rfl
theorem Q_Push {a0 a1 a2 a3 a4 a5 : V} : PutF ([(("head" : Str), a0), (("item" : Str), a1), (("phase" : Str), a2), (("raw" : Str), a3), (("seen" : Str), a4)] : List (Str × V)) "done" a5 (f_Push a0 a1 a2 a3 a4 a5) := q_Push_done
theorem n_Push {a0 a1 a2 a3 a4 a5 : V} : (f_Push a0 a1 a2 a3 a4 a5).length < 1000 := by rw [e_Push]; show 6 < 1000; decide
theorem O_Push_step {a0 a1 a2 a3 a4 a5 : V} : Nn (f_Push a0 a1 a2 a3 a4 a5) "step" := by show List.lookup _ _ = none; rw [e_Push]; kernel_rfl
theorem o_Push_step {a0 a1 a2 a3 a4 a5 : V} : (f_Push a0 a1 a2 a3 a4 a5).lookup ("step" : Str) = none := by rw [e_Push]; kernel_rfl
@[irreducible] def f_TakeAll (a0 a1 a2 a3 a4 a5 a6 : V) : List (Str × V) := [(("head" : Str), a0), (("phase" : Str), a1), (("raw" : Str), a2), (("seen" : Str), a3), (("top" : Str), a4), (("taken" : Str), a5), (("done" : Str), a6)]
theorem e_TakeAll (a0 a1 a2 a3 a4 a5 a6 : V) : f_TakeAll a0 a1 a2 a3 a4 a5 a6 = [(("head" : Str), a0), (("phase" : Str), a1), (("raw" : Str), a2), (("seen" : Str), a3), (("top" : Str), a4), (("taken" : Str), a5), (("done" : Str), a6)] := by unfold f_TakeAll; rfl
theorem l_TakeAll_head {a0 a1 a2 a3 a4 a5 a6 : V} : (f_TakeAll a0 a1 a2 a3 a4 a5 a6).lookup ("head" : Str) = some a0 := by rw [e_TakeAll]; kernel_rfl
theorem L_TakeAll_head {a0 a1 a2 a3 a4 a5 a6 : V} : Lk (f_TakeAll a0 a1 a2 a3 a4 a5 a6) "head" a0 := l_TakeAll_head
theorem p_TakeAll_head {a0 a1 a2 a3 a4 a5 a6 v : V} : putF "head" v (f_TakeAll a0 a1 a2 a3 a4 a5 a6) = f_TakeAll v a1 a2 a3 a4 a5 a6 := by rw [e_TakeAll, e_TakeAll]; kernel_rfl
theorem P_TakeAll_head {a0 a1 a2 a3 a4 a5 a6 v : V} : PutF (f_TakeAll a0 a1 a2 a3 a4 a5 a6) "head" v (f_TakeAll v a1 a2 a3 a4 a5 a6) := p_TakeAll_head
theorem q_TakeAll_head {a0 : V} : putF "head" a0 ([] : List (Str × V)) = [(("head" : Str), a0)] := by kernel_rfl
theorem l_TakeAll_phase {a0 a1 a2 a3 a4 a5 a6 : V} : (f_TakeAll a0 a1 a2 a3 a4 a5 a6).lookup ("phase" : Str) = some a1 := by rw [e_TakeAll]; kernel_rfl
theorem L_TakeAll_phase {a0 a1 a2 a3 a4 a5 a6 : V} : Lk (f_TakeAll a0 a1 a2 a3 a4 a5 a6) "phase" a1 := l_TakeAll_phase
theorem p_TakeAll_phase {a0 a1 a2 a3 a4 a5 a6 v : V} : putF "phase" v (f_TakeAll a0 a1 a2 a3 a4 a5 a6) = f_TakeAll a0 v a2 a3 a4 a5 a6 := by rw [e_TakeAll, e_TakeAll]; kernel_rfl
theorem P_TakeAll_phase {a0 a1 a2 a3 a4 a5 a6 v : V} : PutF (f_TakeAll a0 a1 a2 a3 a4 a5 a6) "phase" v (f_TakeAll a0 v a2 a3 a4 a5 a6) := p_TakeAll_phase
theorem q_TakeAll_phase {a0 a1 : V} : putF "phase" a1 ([(("head" : Str), a0)] : List (Str × V)) = [(("head" : Str), a0), (("phase" : Str), a1)] := by kernel_rfl
theorem l_TakeAll_raw {a0 a1 a2 a3 a4 a5 a6 : V} : (f_TakeAll a0 a1 a2 a3 a4 a5 a6).lookup ("raw" : Str) = some a2 := by rw [e_TakeAll]; kernel_rfl
theorem L_TakeAll_raw {a0 a1 a2 a3 a4 a5 a6 : V} : Lk (f_TakeAll a0 a1 a2 a3 a4 a5 a6) "raw" a2 := l_TakeAll_raw
theorem p_TakeAll_raw {a0 a1 a2 a3 a4 a5 a6 v : V} : putF "raw" v (f_TakeAll a0 a1 a2 a3 a4 a5 a6) = f_TakeAll a0 a1 v a3 a4 a5 a6 := by rw [e_TakeAll, e_TakeAll]; kernel_rfl
theorem P_TakeAll_raw {a0 a1 a2 a3 a4 a5 a6 v : V} : PutF (f_TakeAll a0 a1 a2 a3 a4 a5 a6) "raw" v (f_TakeAll a0 a1 v a3 a4 a5 a6) := p_TakeAll_raw
theorem q_TakeAll_raw {a0 a1 a2 : V} : putF "raw" a2 ([(("head" : Str), a0), (("phase" : Str), a1)] : List (Str × V)) = [(("head" : Str), a0), (("phase" : Str), a1), (("raw" : Str), a2)] := by kernel_rfl
theorem l_TakeAll_seen {a0 a1 a2 a3 a4 a5 a6 : V} : (f_TakeAll a0 a1 a2 a3 a4 a5 a6).lookup ("seen" : Str) = some a3 := by rw [e_TakeAll]; kernel_rfl
theorem L_TakeAll_seen {a0 a1 a2 a3 a4 a5 a6 : V} : Lk (f_TakeAll a0 a1 a2 a3 a4 a5 a6) "seen" a3 := l_TakeAll_seen
theorem p_TakeAll_seen {a0 a1 a2 a3 a4 a5 a6 v : V} : putF "seen" v (f_TakeAll a0 a1 a2 a3 a4 a5 a6) = f_TakeAll a0 a1 a2 v a4 a5 a6 := by rw [e_TakeAll, e_TakeAll]; kernel_rfl
theorem P_TakeAll_seen {a0 a1 a2 a3 a4 a5 a6 v : V} : PutF (f_TakeAll a0 a1 a2 a3 a4 a5 a6) "seen" v (f_TakeAll a0 a1 a2 v a4 a5 a6) := p_TakeAll_seen
theorem q_TakeAll_seen {a0 a1 a2 a3 : V} : putF "seen" a3 ([(("head" : Str), a0), (("phase" : Str), a1), (("raw" : Str), a2)] : List (Str × V)) = [(("head" : Str), a0), (("phase" : Str), a1), (("raw" : Str), a2), (("seen" : Str), a3)] := by kernel_rfl
theorem l_TakeAll_top {a0 a1 a2 a3 a4 a5 a6 : V} : (f_TakeAll a0 a1 a2 a3 a4 a5 a6).lookup ("top" : Str) = some a4 := by rw [e_TakeAll]; kernel_rfl
theorem L_TakeAll_top {a0 a1 a2 a3 a4 a5 a6 : V} : Lk (f_TakeAll a0 a1 a2 a3 a4 a5 a6) "top" a4 := l_TakeAll_top
theorem p_TakeAll_top {a0 a1 a2 a3 a4 a5 a6 v : V} : putF "top" v (f_TakeAll a0 a1 a2 a3 a4 a5 a6) = f_TakeAll a0 a1 a2 a3 v a5 a6 := by rw [e_TakeAll, e_TakeAll]; kernel_rfl
theorem P_TakeAll_top {a0 a1 a2 a3 a4 a5 a6 v : V} : PutF (f_TakeAll a0 a1 a2 a3 a4 a5 a6) "top" v (f_TakeAll a0 a1 a2 a3 v a5 a6) := p_TakeAll_top
theorem q_TakeAll_top {a0 a1 a2 a3 a4 : V} : putF "top" a4 ([(("head" : Str), a0), (("phase" : Str), a1), (("raw" : Str), a2), (("seen" : Str), a3)] : List (Str × V)) = [(("head" : Str), a0), (("phase" : Str), a1), (("raw" : Str), a2), (("seen" : Str), a3), (("top" : Str), a4)] := by kernel_rfl
theorem l_TakeAll_taken {a0 a1 a2 a3 a4 a5 a6 : V} : (f_TakeAll a0 a1 a2 a3 a4 a5 a6).lookup ("taken" : Str) = some a5 := by rw [e_TakeAll]; kernel_rfl
theorem L_TakeAll_taken {a0 a1 a2 a3 a4 a5 a6 : V} : Lk (f_TakeAll a0 a1 a2 a3 a4 a5 a6) "taken" a5 := l_TakeAll_taken
theorem p_TakeAll_taken {a0 a1 a2 a3 a4 a5 a6 v : V} : putF "taken" v (f_TakeAll a0 a1 a2 a3 a4 a5 a6) = f_TakeAll a0 a1 a2 a3 a4 v a6 := by rw [e_TakeAll, e_TakeAll]; kernel_rfl
theorem P_TakeAll_taken {a0 a1 a2 a3 a4 a5 a6 v : V} : PutF (f_TakeAll a0 a1 a2 a3 a4 a5 a6) "taken" v (f_TakeAll a0 a1 a2 a3 a4 v a6) := p_TakeAll_taken
theorem q_TakeAll_taken {a0 a1 a2 a3 a4 a5 : V} : putF "taken" a5 ([(("head" : Str), a0), (("phase" : Str), a1), (("raw" : Str), a2), (("seen" : Str), a3), (("top" : Str), a4)] : List (Str × V)) = [(("head" : Str), a0), (("phase" : Str), a1), (("raw" : Str), a2), (("seen" : Str), a3), (("top" : Str), a4), (("taken" : Str), a5)] := by kernel_rfl
theorem l_TakeAll_done {a0 a1 a2 a3 a4 a5 a6 : V} : (f_TakeAll a0 a1 a2 a3 a4 a5 a6).lookup ("done" : Str) = some a6 := by rw [e_TakeAll]; kernel_rfl
theorem L_TakeAll_done {a0 a1 a2 a3 a4 a5 a6 : V} : Lk (f_TakeAll a0 a1 a2 a3 a4 a5 a6) "done" a6 := l_TakeAll_done
theorem p_TakeAll_done {a0 a1 a2 a3 a4 a5 a6 v : V} : putF "done" v (f_TakeAll a0 a1 a2 a3 a4 a5 a6) = f_TakeAll a0 a1 a2 a3 a4 a5 v := by rw [e_TakeAll, e_TakeAll]; kernel_rfl
theorem P_TakeAll_done {a0 a1 a2 a3 a4 a5 a6 v : V} : PutF (f_TakeAll a0 a1 a2 a3 a4 a5 a6) "done" v (f_TakeAll a0 a1 a2 a3 a4 a5 v) := p_TakeAll_done
theorem q_TakeAll_done {a0 a1 a2 a3 a4 a5 a6 : V} : putF "done" a6 ([(("head" : Str), a0), (("phase" : Str), a1), (("raw" : Str), a2), (("seen" : Str), a3), (("top" : Str), a4), (("taken" : Str), a5)] : List (Str × V)) = f_TakeAll a0 a1 a2 a3 a4 a5 a6 := by rw [e_TakeAll]; kernel_rfl
theorem Q_TakeAll {a0 a1 a2 a3 a4 a5 a6 : V} : PutF ([(("head" : Str), a0), (("phase" : Str), a1), (("raw" : Str), a2), (("seen" : Str), a3), (("top" : Str), a4), (("taken" : Str), a5)] : List (Str × V)) "done" a6 (f_TakeAll a0 a1 a2 a3 a4 a5 a6) := q_TakeAll_done
theorem n_TakeAll {a0 a1 a2 a3 a4 a5 a6 : V} : (f_TakeAll a0 a1 a2 a3 a4 a5 a6).length < 1000 := by rw [e_TakeAll]; show 7 < 1000; decide
theorem O_TakeAll_step {a0 a1 a2 a3 a4 a5 a6 : V} : Nn (f_TakeAll a0 a1 a2 a3 a4 a5 a6) "step" := by show List.lookup _ _ = none; rw [e_TakeAll]; kernel_rfl
theorem o_TakeAll_step {a0 a1 a2 a3 a4 a5 a6 : V} : (f_TakeAll a0 a1 a2 a3 a4 a5 a6).lookup ("step" : Str) = none := by rw [e_TakeAll]; kernel_rfl
theorem O_TakeAll_holding {a0 a1 a2 a3 a4 a5 a6 : V} : Nn (f_TakeAll a0 a1 a2 a3 a4 a5 a6) "holding" := by show List.lookup _ _ = none; rw [e_TakeAll]; kernel_rfl
theorem o_TakeAll_holding {a0 a1 a2 a3 a4 a5 a6 : V} : (f_TakeAll a0 a1 a2 a3 a4 a5 a6).lookup ("holding" : Str) = none := by rw [e_TakeAll]; kernel_rfl
@[irreducible] def f_Memory (a0 a1 : V) : List (Str × V) := [(("cells" : Str), a0), (("accesses" : Str), a1)]
theorem e_Memory (a0 a1 : V) : f_Memory a0 a1 = [(("cells" : Str), a0), (("accesses" : Str), a1)] := by unfold f_Memory; rfl
theorem l_Memory_cells {a0 a1 : V} : (f_Memory a0 a1).lookup ("cells" : Str) = some a0 := by rw [e_Memory]; kernel_rfl
theorem L_Memory_cells {a0 a1 : V} : Lk (f_Memory a0 a1) "cells" a0 := l_Memory_cells
theorem p_Memory_cells {a0 a1 v : V} : putF "cells" v (f_Memory a0 a1) = f_Memory v a1 := by rw [e_Memory, e_Memory]; kernel_rfl
theorem P_Memory_cells {a0 a1 v : V} : PutF (f_Memory a0 a1) "cells" v (f_Memory v a1) := p_Memory_cells
theorem q_Memory_cells {a0 : V} : putF "cells" a0 ([] : List (Str × V)) = [(("cells" : Str), a0)] := by kernel_rfl
theorem l_Memory_accesses {a0 a1 : V} : (f_Memory a0 a1).lookup ("accesses" : Str) = some a1 := by rw [e_Memory]; kernel_rfl
theorem L_Memory_accesses {a0 a1 : V} : Lk (f_Memory a0 a1) "accesses" a1 := l_Memory_accesses
theorem p_Memory_accesses {a0 a1 v : V} : putF "accesses" v (f_Memory a0 a1) = f_Memory a0 v := by rw [e_Memory, e_Memory]; kernel_rfl
theorem P_Memory_accesses {a0 a1 v : V} : PutF (f_Memory a0 a1) "accesses" v (f_Memory a0 v) := p_Memory_accesses
theorem q_Memory_accesses {a0 a1 : V} : putF "accesses" a1 ([(("cells" : Str), a0)] : List (Str × V)) = f_Memory a0 a1 := by rw [e_Memory]; kernel_rfl
theorem Q_Memory {a0 a1 : V} : PutF ([(("cells" : Str), a0)] : List (Str × V)) "accesses" a1 (f_Memory a0 a1) := q_Memory_accesses
theorem n_Memory {a0 a1 : V} : (f_Memory a0 a1).length < 1000 := by rw [e_Memory]; show 2 < 1000; decide
theorem O_Memory_read {a0 a1 : V} : Nn (f_Memory a0 a1) "read" := by show List.lookup _ _ = none; rw [e_Memory]; kernel_rfl
theorem o_Memory_read {a0 a1 : V} : (f_Memory a0 a1).lookup ("read" : Str) = none := by rw [e_Memory]; kernel_rfl
theorem O_Memory_write {a0 a1 : V} : Nn (f_Memory a0 a1) "write" := by show List.lookup _ _ = none; rw [e_Memory]; kernel_rfl
theorem o_Memory_write {a0 a1 : V} : (f_Memory a0 a1).lookup ("write" : Str) = none := by rw [e_Memory]; kernel_rfl
theorem O_Memory_swap {a0 a1 : V} : Nn (f_Memory a0 a1) "swap" := by show List.lookup _ _ = none; rw [e_Memory]; kernel_rfl
theorem o_Memory_swap {a0 a1 : V} : (f_Memory a0 a1).lookup ("swap" : Str) = none := by rw [e_Memory]; kernel_rfl
theorem O_Memory_peek {a0 a1 : V} : Nn (f_Memory a0 a1) "peek" := by show List.lookup _ _ = none; rw [e_Memory]; kernel_rfl
theorem o_Memory_peek {a0 a1 : V} : (f_Memory a0 a1).lookup ("peek" : Str) = none := by rw [e_Memory]; kernel_rfl
theorem O_Memory_set_up {a0 a1 : V} : Nn (f_Memory a0 a1) "set_up" := by show List.lookup _ _ = none; rw [e_Memory]; kernel_rfl
theorem o_Memory_set_up {a0 a1 : V} : (f_Memory a0 a1).lookup ("set_up" : Str) = none := by rw [e_Memory]; kernel_rfl
abbrev Tx (K : PySem.W.Frag) (mg : Str → Option Value) : Prop := Tx0 fa fn tb K mg
def loose : List Str := ["_wall", "free_cell", "next_cell", "head_value", "items_of", "Pop", "Push", "TakeAll", "Memory", "_law_state", "_law_take", "_law_bits", "_law_new", "_law_after", "EMPTY", "PAGES"]
section
variable {K : PySem.W.Frag} {mg : Str → Option Value}
@[irreducible] def c_Pop (K : PySem.W.Frag) : Addr := He.ga K "Pop"
theorem x_Pop (K : PySem.W.Frag) : c_Pop K = He.ga K "Pop" := by unfold c_Pop; rfl
theorem g_Pop (T : Tx K mg) : mg "Pop" = some (.ref (c_Pop K)) := by rw [x_Pop]; exact T.glo 0 rfl
theorem k_Pop (T : Tx K mg) : Cls K (c_Pop K) := by rw [x_Pop]; exact T.cls 1 rfl
theorem na_Pop_head (T : Tx K mg) : NoAttr K (c_Pop K) "head" := by rw [x_Pop]; exact T.noat 2 rfl
theorem na_Pop_phase (T : Tx K mg) : NoAttr K (c_Pop K) "phase" := by rw [x_Pop]; exact T.noat 3 rfl
theorem na_Pop_raw (T : Tx K mg) : NoAttr K (c_Pop K) "raw" := by rw [x_Pop]; exact T.noat 4 rfl
theorem na_Pop_seen (T : Tx K mg) : NoAttr K (c_Pop K) "seen" := by rw [x_Pop]; exact T.noat 5 rfl
theorem na_Pop_below (T : Tx K mg) : NoAttr K (c_Pop K) "below" := by rw [x_Pop]; exact T.noat 6 rfl
theorem na_Pop_done (T : Tx K mg) : NoAttr K (c_Pop K) "done" := by rw [x_Pop]; exact T.noat 7 rfl
theorem na_Pop_result (T : Tx K mg) : NoAttr K (c_Pop K) "result" := by rw [x_Pop]; exact T.noat 8 rfl
theorem mk_Pop (T : Tx K mg) : Mk K (c_Pop K) (He.fAd K at_Pop_init) := by rw [x_Pop]; exact T.mkr 9 rfl
theorem me_Pop_step (T : Tx K mg) : Meth K (c_Pop K) "step" (He.fAd K at_Pop_step) := by rw [x_Pop]; exact T.meth 10 rfl
@[irreducible] def c_Push (K : PySem.W.Frag) : Addr := He.ga K "Push"
theorem x_Push (K : PySem.W.Frag) : c_Push K = He.ga K "Push" := by unfold c_Push; rfl
theorem g_Push (T : Tx K mg) : mg "Push" = some (.ref (c_Push K)) := by rw [x_Push]; exact T.glo 11 rfl
theorem k_Push (T : Tx K mg) : Cls K (c_Push K) := by rw [x_Push]; exact T.cls 12 rfl
theorem na_Push_head (T : Tx K mg) : NoAttr K (c_Push K) "head" := by rw [x_Push]; exact T.noat 13 rfl
theorem na_Push_item (T : Tx K mg) : NoAttr K (c_Push K) "item" := by rw [x_Push]; exact T.noat 14 rfl
theorem na_Push_phase (T : Tx K mg) : NoAttr K (c_Push K) "phase" := by rw [x_Push]; exact T.noat 15 rfl
theorem na_Push_raw (T : Tx K mg) : NoAttr K (c_Push K) "raw" := by rw [x_Push]; exact T.noat 16 rfl
theorem na_Push_seen (T : Tx K mg) : NoAttr K (c_Push K) "seen" := by rw [x_Push]; exact T.noat 17 rfl
theorem na_Push_done (T : Tx K mg) : NoAttr K (c_Push K) "done" := by rw [x_Push]; exact T.noat 18 rfl
theorem mk_Push (T : Tx K mg) : Mk K (c_Push K) (He.fAd K at_Push_init) := by rw [x_Push]; exact T.mkr 19 rfl
theorem me_Push_step (T : Tx K mg) : Meth K (c_Push K) "step" (He.fAd K at_Push_step) := by rw [x_Push]; exact T.meth 20 rfl
@[irreducible] def c_TakeAll (K : PySem.W.Frag) : Addr := He.ga K "TakeAll"
theorem x_TakeAll (K : PySem.W.Frag) : c_TakeAll K = He.ga K "TakeAll" := by unfold c_TakeAll; rfl
theorem g_TakeAll (T : Tx K mg) : mg "TakeAll" = some (.ref (c_TakeAll K)) := by rw [x_TakeAll]; exact T.glo 21 rfl
theorem k_TakeAll (T : Tx K mg) : Cls K (c_TakeAll K) := by rw [x_TakeAll]; exact T.cls 22 rfl
theorem na_TakeAll_head (T : Tx K mg) : NoAttr K (c_TakeAll K) "head" := by rw [x_TakeAll]; exact T.noat 23 rfl
theorem na_TakeAll_phase (T : Tx K mg) : NoAttr K (c_TakeAll K) "phase" := by rw [x_TakeAll]; exact T.noat 24 rfl
theorem na_TakeAll_raw (T : Tx K mg) : NoAttr K (c_TakeAll K) "raw" := by rw [x_TakeAll]; exact T.noat 25 rfl
theorem na_TakeAll_seen (T : Tx K mg) : NoAttr K (c_TakeAll K) "seen" := by rw [x_TakeAll]; exact T.noat 26 rfl
theorem na_TakeAll_top (T : Tx K mg) : NoAttr K (c_TakeAll K) "top" := by rw [x_TakeAll]; exact T.noat 27 rfl
theorem na_TakeAll_taken (T : Tx K mg) : NoAttr K (c_TakeAll K) "taken" := by rw [x_TakeAll]; exact T.noat 28 rfl
theorem na_TakeAll_done (T : Tx K mg) : NoAttr K (c_TakeAll K) "done" := by rw [x_TakeAll]; exact T.noat 29 rfl
theorem mk_TakeAll (T : Tx K mg) : Mk K (c_TakeAll K) (He.fAd K at_TakeAll_init) := by rw [x_TakeAll]; exact T.mkr 30 rfl
theorem me_TakeAll_step (T : Tx K mg) : Meth K (c_TakeAll K) "step" (He.fAd K at_TakeAll_step) := by rw [x_TakeAll]; exact T.meth 31 rfl
theorem me_TakeAll_holding (T : Tx K mg) : Meth K (c_TakeAll K) "holding" (He.fAd K at_TakeAll_holding) := by rw [x_TakeAll]; exact T.meth 32 rfl
@[irreducible] def c_Memory (K : PySem.W.Frag) : Addr := He.ga K "Memory"
theorem x_Memory (K : PySem.W.Frag) : c_Memory K = He.ga K "Memory" := by unfold c_Memory; rfl
theorem g_Memory (T : Tx K mg) : mg "Memory" = some (.ref (c_Memory K)) := by rw [x_Memory]; exact T.glo 33 rfl
theorem k_Memory (T : Tx K mg) : Cls K (c_Memory K) := by rw [x_Memory]; exact T.cls 34 rfl
theorem na_Memory_cells (T : Tx K mg) : NoAttr K (c_Memory K) "cells" := by rw [x_Memory]; exact T.noat 35 rfl
theorem na_Memory_accesses (T : Tx K mg) : NoAttr K (c_Memory K) "accesses" := by rw [x_Memory]; exact T.noat 36 rfl
theorem mk_Memory (T : Tx K mg) : Mk K (c_Memory K) (He.fAd K at_Memory_init) := by rw [x_Memory]; exact T.mkr 37 rfl
theorem me_Memory_read (T : Tx K mg) : Meth K (c_Memory K) "read" (He.fAd K at_Memory_read) := by rw [x_Memory]; exact T.meth 38 rfl
theorem me_Memory_write (T : Tx K mg) : Meth K (c_Memory K) "write" (He.fAd K at_Memory_write) := by rw [x_Memory]; exact T.meth 39 rfl
theorem me_Memory_swap (T : Tx K mg) : Meth K (c_Memory K) "swap" (He.fAd K at_Memory_swap) := by rw [x_Memory]; exact T.meth 40 rfl
theorem me_Memory_peek (T : Tx K mg) : Meth K (c_Memory K) "peek" (He.fAd K at_Memory_peek) := by rw [x_Memory]; exact T.meth 41 rfl
theorem me_Memory_set_up (T : Tx K mg) : Meth K (c_Memory K) "set_up" (He.fAd K at_Memory_set_up) := by rw [x_Memory]; exact T.meth 42 rfl
theorem fd_wall (T : Tx K mg) : ∃ fd, FunD K "_wall" "_wall" (defArgs s_wall) (defBody s_wall) (defScope s_wall) [] [] (He.fAd K at_wall) fd ∧ Binds K fd ["k"] [] := by
  obtain ⟨fd, F⟩ := T.says.def_ 0 rfl
  exact ⟨fd, F, F.bindsN fun _ _ _ _ _ _ us hl => match us, hl with | [_], _ => rfl⟩
theorem g_wall (T : Tx K mg) : mg "_wall" = some (.ref (He.fAd K at_wall)) := T.glo 43 rfl
theorem fd_free_cell (T : Tx K mg) : ∃ fd, FunD K "free_cell" "free_cell" (defArgs s_free_cell) (defBody s_free_cell) (defScope s_free_cell) [] [] (He.fAd K at_free_cell) fd ∧ Binds K fd ["size"] [] := by
  obtain ⟨fd, F⟩ := T.says.def_ 1 rfl
  exact ⟨fd, F, F.bindsN fun _ _ _ _ _ _ us hl => match us, hl with | [_], _ => rfl⟩
theorem g_free_cell (T : Tx K mg) : mg "free_cell" = some (.ref (He.fAd K at_free_cell)) := T.glo 44 rfl
theorem fd_next_cell (T : Tx K mg) : ∃ fd, FunD K "next_cell" "next_cell" (defArgs s_next_cell) (defBody s_next_cell) (defScope s_next_cell) [] [] (He.fAd K at_next_cell) fd ∧ Binds K fd ["head", "item"] [] := by
  obtain ⟨fd, F⟩ := T.says.def_ 2 rfl
  exact ⟨fd, F, F.bindsN fun _ _ _ _ _ _ us hl => match us, hl with | [_, _], _ => rfl⟩
theorem g_next_cell (T : Tx K mg) : mg "next_cell" = some (.ref (He.fAd K at_next_cell)) := T.glo 45 rfl
theorem fd_head_value (T : Tx K mg) : ∃ fd, FunD K "head_value" "head_value" (defArgs s_head_value) (defBody s_head_value) (defScope s_head_value) [] [] (He.fAd K at_head_value) fd ∧ Binds K fd ["value"] [] := by
  obtain ⟨fd, F⟩ := T.says.def_ 3 rfl
  exact ⟨fd, F, F.bindsN fun _ _ _ _ _ _ us hl => match us, hl with | [_], _ => rfl⟩
theorem g_head_value (T : Tx K mg) : mg "head_value" = some (.ref (He.fAd K at_head_value)) := T.glo 46 rfl
theorem fd_items_of (T : Tx K mg) : ∃ fd, FunD K "items_of" "items_of" (defArgs s_items_of) (defBody s_items_of) (defScope s_items_of) [] [] (He.fAd K at_items_of) fd ∧ Binds K fd ["memory", "head"] [] := by
  obtain ⟨fd, F⟩ := T.says.def_ 4 rfl
  exact ⟨fd, F, F.bindsN fun _ _ _ _ _ _ us hl => match us, hl with | [_, _], _ => rfl⟩
theorem g_items_of (T : Tx K mg) : mg "items_of" = some (.ref (He.fAd K at_items_of)) := T.glo 47 rfl
theorem fd_Pop_init (T : Tx K mg) : ∃ fd, FunD K "__init__" "Pop.__init__" (defArgs s_Pop_init) (defBody s_Pop_init) (defScope s_Pop_init) [] [] (He.fAd K at_Pop_init) fd ∧ Binds K fd ["self", "head"] [] := by
  obtain ⟨fd, F⟩ := T.says.def_ 5 rfl
  exact ⟨fd, F, F.bindsN fun _ _ _ _ _ _ us hl => match us, hl with | [_, _], _ => rfl⟩
theorem fd_Pop_step (T : Tx K mg) : ∃ fd, FunD K "step" "Pop.step" (defArgs s_Pop_step) (defBody s_Pop_step) (defScope s_Pop_step) [] [] (He.fAd K at_Pop_step) fd ∧ Binds K fd ["self", "memory"] [] := by
  obtain ⟨fd, F⟩ := T.says.def_ 6 rfl
  exact ⟨fd, F, F.bindsN fun _ _ _ _ _ _ us hl => match us, hl with | [_, _], _ => rfl⟩
theorem fd_Push_init (T : Tx K mg) : ∃ fd, FunD K "__init__" "Push.__init__" (defArgs s_Push_init) (defBody s_Push_init) (defScope s_Push_init) [] [] (He.fAd K at_Push_init) fd ∧ Binds K fd ["self", "head", "item"] [] := by
  obtain ⟨fd, F⟩ := T.says.def_ 7 rfl
  exact ⟨fd, F, F.bindsN fun _ _ _ _ _ _ us hl => match us, hl with | [_, _, _], _ => rfl⟩
theorem fd_Push_step (T : Tx K mg) : ∃ fd, FunD K "step" "Push.step" (defArgs s_Push_step) (defBody s_Push_step) (defScope s_Push_step) [] [] (He.fAd K at_Push_step) fd ∧ Binds K fd ["self", "memory"] [] := by
  obtain ⟨fd, F⟩ := T.says.def_ 8 rfl
  exact ⟨fd, F, F.bindsN fun _ _ _ _ _ _ us hl => match us, hl with | [_, _], _ => rfl⟩
theorem fd_TakeAll_init (T : Tx K mg) : ∃ fd, FunD K "__init__" "TakeAll.__init__" (defArgs s_TakeAll_init) (defBody s_TakeAll_init) (defScope s_TakeAll_init) [] [] (He.fAd K at_TakeAll_init) fd ∧ Binds K fd ["self", "head"] [] := by
  obtain ⟨fd, F⟩ := T.says.def_ 9 rfl
  exact ⟨fd, F, F.bindsN fun _ _ _ _ _ _ us hl => match us, hl with | [_, _], _ => rfl⟩
theorem fd_TakeAll_step (T : Tx K mg) : ∃ fd, FunD K "step" "TakeAll.step" (defArgs s_TakeAll_step) (defBody s_TakeAll_step) (defScope s_TakeAll_step) [] [] (He.fAd K at_TakeAll_step) fd ∧ Binds K fd ["self", "memory"] [] := by
  obtain ⟨fd, F⟩ := T.says.def_ 10 rfl
  exact ⟨fd, F, F.bindsN fun _ _ _ _ _ _ us hl => match us, hl with | [_, _], _ => rfl⟩
theorem fd_TakeAll_holding (T : Tx K mg) : ∃ fd, FunD K "holding" "TakeAll.holding" (defArgs s_TakeAll_holding) (defBody s_TakeAll_holding) (defScope s_TakeAll_holding) [] [] (He.fAd K at_TakeAll_holding) fd ∧ Binds K fd ["self", "memory"] [] := by
  obtain ⟨fd, F⟩ := T.says.def_ 11 rfl
  exact ⟨fd, F, F.bindsN fun _ _ _ _ _ _ us hl => match us, hl with | [_, _], _ => rfl⟩
theorem fd_Memory_init (T : Tx K mg) : ∃ fd, FunD K "__init__" "Memory.__init__" (defArgs s_Memory_init) (defBody s_Memory_init) (defScope s_Memory_init) [] [] (He.fAd K at_Memory_init) fd ∧ Binds K fd ["self"] [] := by
  obtain ⟨fd, F⟩ := T.says.def_ 12 rfl
  exact ⟨fd, F, F.bindsN fun _ _ _ _ _ _ us hl => match us, hl with | [_], _ => rfl⟩
theorem fd_Memory_read (T : Tx K mg) : ∃ fd, FunD K "read" "Memory.read" (defArgs s_Memory_read) (defBody s_Memory_read) (defScope s_Memory_read) [] [] (He.fAd K at_Memory_read) fd ∧ Binds K fd ["self", "cell"] [] := by
  obtain ⟨fd, F⟩ := T.says.def_ 13 rfl
  exact ⟨fd, F, F.bindsN fun _ _ _ _ _ _ us hl => match us, hl with | [_, _], _ => rfl⟩
theorem fd_Memory_write (T : Tx K mg) : ∃ fd, FunD K "write" "Memory.write" (defArgs s_Memory_write) (defBody s_Memory_write) (defScope s_Memory_write) [] [] (He.fAd K at_Memory_write) fd ∧ Binds K fd ["self", "cell", "value"] [] := by
  obtain ⟨fd, F⟩ := T.says.def_ 14 rfl
  exact ⟨fd, F, F.bindsN fun _ _ _ _ _ _ us hl => match us, hl with | [_, _, _], _ => rfl⟩
theorem fd_Memory_swap (T : Tx K mg) : ∃ fd, FunD K "swap" "Memory.swap" (defArgs s_Memory_swap) (defBody s_Memory_swap) (defScope s_Memory_swap) [] [] (He.fAd K at_Memory_swap) fd ∧ Binds K fd ["self", "cell", "old", "new"] [] := by
  obtain ⟨fd, F⟩ := T.says.def_ 15 rfl
  exact ⟨fd, F, F.bindsN fun _ _ _ _ _ _ us hl => match us, hl with | [_, _, _, _], _ => rfl⟩
theorem fd_Memory_peek (T : Tx K mg) : ∃ fd, FunD K "peek" "Memory.peek" (defArgs s_Memory_peek) (defBody s_Memory_peek) (defScope s_Memory_peek) [] [] (He.fAd K at_Memory_peek) fd ∧ Binds K fd ["self", "cell"] [] := by
  obtain ⟨fd, F⟩ := T.says.def_ 16 rfl
  exact ⟨fd, F, F.bindsN fun _ _ _ _ _ _ us hl => match us, hl with | [_, _], _ => rfl⟩
theorem fd_Memory_set_up (T : Tx K mg) : ∃ fd, FunD K "set_up" "Memory.set_up" (defArgs s_Memory_set_up) (defBody s_Memory_set_up) (defScope s_Memory_set_up) [] [] (He.fAd K at_Memory_set_up) fd ∧ Binds K fd ["self", "cell", "value"] [] := by
  obtain ⟨fd, F⟩ := T.says.def_ 17 rfl
  exact ⟨fd, F, F.bindsN fun _ _ _ _ _ _ us hl => match us, hl with | [_, _, _], _ => rfl⟩
theorem fd_law_state (T : Tx K mg) : ∃ fd, FunD K "_law_state" "_law_state" (defArgs s_law_state) (defBody s_law_state) (defScope s_law_state) [] [] (He.fAd K at_law_state) fd ∧ Binds K fd ["_law_script"] [] := by
  obtain ⟨fd, F⟩ := T.says.def_ 18 rfl
  exact ⟨fd, F, F.bindsN fun _ _ _ _ _ _ us hl => match us, hl with | [_], _ => rfl⟩
theorem g_law_state (T : Tx K mg) : mg "_law_state" = some (.ref (He.fAd K at_law_state)) := T.glo 48 rfl
theorem fd_law_take (T : Tx K mg) : ∃ fd, FunD K "_law_take" "_law_take" (defArgs s_law_take) (defBody s_law_take) (defScope s_law_take) [] [] (He.fAd K at_law_take) fd ∧ Binds K fd ["_law_state_here", "_law_most"] [] := by
  obtain ⟨fd, F⟩ := T.says.def_ 19 rfl
  exact ⟨fd, F, F.bindsN fun _ _ _ _ _ _ us hl => match us, hl with | [_, _], _ => rfl⟩
theorem g_law_take (T : Tx K mg) : mg "_law_take" = some (.ref (He.fAd K at_law_take)) := T.glo 49 rfl
theorem fd_law_bits (T : Tx K mg) : ∃ fd, FunD K "_law_bits" "_law_bits" (defArgs s_law_bits) (defBody s_law_bits) (defScope s_law_bits) [] [] (He.fAd K at_law_bits) fd ∧ Binds K fd ["_law_state_here", "_law_count"] [] := by
  obtain ⟨fd, F⟩ := T.says.def_ 20 rfl
  exact ⟨fd, F, F.bindsN fun _ _ _ _ _ _ us hl => match us, hl with | [_, _], _ => rfl⟩
theorem g_law_bits (T : Tx K mg) : mg "_law_bits" = some (.ref (He.fAd K at_law_bits)) := T.glo 50 rfl
theorem fd_law_new (T : Tx K mg) : ∃ fd, FunD K "_law_new" "_law_new" (defArgs s_law_new) (defBody s_law_new) (defScope s_law_new) [] [] (He.fAd K at_law_new) fd ∧ Binds K fd ["_law_state_here", "_law_loose", "_law_heads"] [] := by
  obtain ⟨fd, F⟩ := T.says.def_ 21 rfl
  exact ⟨fd, F, F.bindsN fun _ _ _ _ _ _ us hl => match us, hl with | [_, _, _], _ => rfl⟩
theorem g_law_new (T : Tx K mg) : mg "_law_new" = some (.ref (He.fAd K at_law_new)) := T.glo 51 rfl
theorem fd_law_after (T : Tx K mg) : ∃ fd, FunD K "_law_after" "_law_after" (defArgs s_law_after) (defBody s_law_after) (defScope s_law_after) [] [] (He.fAd K at_law_after) fd ∧ Binds K fd ["_law_machine", "_law_before", "_law_stacks", "_law_loose", "_law_memory"] [] := by
  obtain ⟨fd, F⟩ := T.says.def_ 22 rfl
  exact ⟨fd, F, F.bindsN fun _ _ _ _ _ _ us hl => match us, hl with | [_, _, _, _, _], _ => rfl⟩
theorem g_law_after (T : Tx K mg) : mg "_law_after" = some (.ref (He.fAd K at_law_after)) := T.glo 52 rfl
theorem fd_law (T : Tx K mg) : ∃ fd, FunD K "law" "law" (defArgs s_law) (defBody s_law) (defScope s_law) [] [] (He.fAd K at_law) fd ∧ Binds K fd ["_law_script"] [] := by
  obtain ⟨fd, F⟩ := T.says.def_ 23 rfl
  exact ⟨fd, F, F.bindsN fun _ _ _ _ _ _ us hl => match us, hl with | [_], _ => rfl⟩
theorem g_law (T : Tx K mg) : mg "law" = some (.ref (He.fAd K at_law)) := T.glo 53 rfl
def c_EMPTY (K : PySem.W.Frag) : Addr := He.ga K "EMPTY"
theorem g_EMPTY (T : Tx K mg) : mg "EMPTY" = some (.ref (c_EMPTY K)) := T.glo 54 rfl
theorem t_EMPTY (T : Tx K mg) (H : Hp) : SqT K H (c_EMPTY K) [V.int 0, V.int 0] := T.tab 0 rfl H
def c_PAGES (K : PySem.W.Frag) : Addr := He.ga K "PAGES"
theorem g_PAGES (T : Tx K mg) : mg "PAGES" = some (.ref (c_PAGES K)) := T.glo 55 rfl
theorem t_PAGES (T : Tx K mg) (H : Hp) : SqT K H (c_PAGES K) [V.str "pages"] := T.tab 1 rfl H
theorem b_abs (T : Tx K mg) : mg "abs" = none := T.free 56 rfl
theorem b_int (T : Tx K mg) : mg "int" = none := T.free 57 rfl
theorem b_len (T : Tx K mg) : mg "len" = none := T.free 58 rfl
theorem b_list (T : Tx K mg) : mg "list" = none := T.free 59 rfl
theorem b_range (T : Tx K mg) : mg "range" = none := T.free 60 rfl
end
end Sw

/-! ## Mem -/
set_option Elab.async false
set_option linter.all false
set_option maxRecDepth 100000
set_option maxHeartbeats 4000000
namespace Sw
open PySem PySem.Spec PyProof.Rows L2
/-! a class, a name that is no attribute of a class, a field's value, a field's store -/
local macro_rules | `(tactic| walk_at "cls") => `(tactic| first | exact k_Pop (by assumption) | exact k_Push (by assumption) | exact k_TakeAll (by assumption) | exact k_Memory (by assumption))
local macro_rules | `(tactic| walk_at "na") => `(tactic| first | exact na_Pop_head (by assumption) | exact na_Pop_phase (by assumption) | exact na_Pop_raw (by assumption) | exact na_Pop_seen (by assumption) | exact na_Pop_below (by assumption) | exact na_Pop_done (by assumption) | exact na_Pop_result (by assumption) | exact na_Push_head (by assumption) | exact na_Push_item (by assumption) | exact na_Push_phase (by assumption) | exact na_Push_raw (by assumption) | exact na_Push_seen (by assumption) | exact na_Push_done (by assumption) | exact na_TakeAll_head (by assumption) | exact na_TakeAll_phase (by assumption) | exact na_TakeAll_raw (by assumption) | exact na_TakeAll_seen (by assumption) | exact na_TakeAll_top (by assumption) | exact na_TakeAll_taken (by assumption) | exact na_TakeAll_done (by assumption) | exact na_Memory_cells (by assumption) | exact na_Memory_accesses (by assumption))
local macro_rules | `(tactic| walk_at "lk") => `(tactic| first | exact L_Pop_head | exact L_Pop_phase | exact L_Pop_raw | exact L_Pop_seen | exact L_Pop_below | exact L_Pop_done | exact L_Pop_result | exact L_Push_head | exact L_Push_item | exact L_Push_phase | exact L_Push_raw | exact L_Push_seen | exact L_Push_done | exact L_TakeAll_head | exact L_TakeAll_phase | exact L_TakeAll_raw | exact L_TakeAll_seen | exact L_TakeAll_top | exact L_TakeAll_taken | exact L_TakeAll_done | exact L_Memory_cells | exact L_Memory_accesses | exact lk_hd | exact lk_tl (by decide +kernel) (by walk_at "lk"))
local macro_rules | `(tactic| walk_at "put") => `(tactic| first | exact P_Pop_head | exact P_Pop_phase | exact P_Pop_raw | exact P_Pop_seen | exact P_Pop_below | exact P_Pop_done | exact P_Pop_result | exact P_Push_head | exact P_Push_item | exact P_Push_phase | exact P_Push_raw | exact P_Push_seen | exact P_Push_done | exact P_TakeAll_head | exact P_TakeAll_phase | exact P_TakeAll_raw | exact P_TakeAll_seen | exact P_TakeAll_top | exact P_TakeAll_taken | exact P_TakeAll_done | exact P_Memory_cells | exact P_Memory_accesses | exact Q_Pop | exact Q_Push | exact Q_TakeAll | exact Q_Memory | exact PutF.nil | exact PutF.cons (by decide +kernel) (by walk_at "put"))
local macro_rules | `(tactic| walk_at "len") => `(tactic| first | exact n_Pop | exact n_Push | exact n_TakeAll | exact n_Memory | exact Nat.le_of_ble_eq_true rfl)
local macro_rules | `(tactic| walk_at "none") => `(tactic| first | exact O_Pop_step | exact O_Push_step | exact O_TakeAll_step | exact O_TakeAll_holding | exact O_Memory_read | exact O_Memory_write | exact O_Memory_swap | exact O_Memory_peek | exact O_Memory_set_up)
local macro_rules | `(tactic| walk_at "at") => `(tactic| first | exact Has.g0 (by assumption) | exact Has.g1 (by assumption) | exact Has.g2 (by assumption) | exact Has.g3 (by assumption) | exact Has.g4 (by assumption) | exact Has.g5 (by assumption) | exact Has.g6 (by assumption) | exact Has.g7 (by assumption) | exact Has.g8 (by assumption) | exact Has.g9 (by assumption) | exact Has.g10 (by assumption))
local macro_rules | `(tactic| walk_at "v") => `(tactic| refine ⟨_, rfl, ?_⟩)
local macro_rules | `(tactic| walk_at "ds") => `(tactic| try dsimp only [cxOf, Cx.nox, Cx.wish])
local macro_rules | `(tactic| walk_at "ln") => `(tactic| (intro vs H Q E; (repeat (refine ln_ex fun _ => ?_)); exact ln_and rfl))
local macro_rules | `(tactic| walk_at "i2") => `(tactic| refine ⟨_, _, rfl, rfl, ?_⟩)
local macro_rules | `(tactic| walk_at "ph") => `(tactic| first | refine if_t (by decide +kernel) ?_ | refine if_f (by decide +kernel) ?_)
local macro_rules | `(tactic| walk_at "tk") => `(tactic| first | assumption | exact Tk.refl | exact Tk.back (by assumption) (by walk_at "tk") | exact Tk.trans (by assumption) (by walk_at "tk"))
local macro_rules | `(tactic| walk_at "sq") => `(tactic| first | assumption | exact sq_tk (by assumption) (by walk_at "tk"))
local macro_rules | `(tactic| walk_at "ko") => `(tactic| first | assumption | exact KeysOk.tk (by assumption) (by walk_at "tk"))
local macro_rules | `(tactic| walk_at "ix") => `(tactic| first | exact atI_at 0 rfl rfl | exact atI_at 1 rfl rfl | exact atI_at 2 rfl rfl | exact atI_at 3 rfl rfl | exact atI_at 4 rfl rfl)
local macro_rules | `(tactic| walk_at "ti") => `(tactic| (refine ⟨_, _, _, _, rfl, rfl, (by first | walk_at "sq" | exact SqL.of (by walk_at "at")), (by walk_at "ix"), ?_⟩))
local macro_rules | `(tactic| walk_at "go") => `(tactic| repeat walk_at "go1")
local macro_rules | `(tactic| walk_at "pm") => `(tactic| first | exact List.Perm.refl _ | (apply List.Perm.cons; walk_at "pm") | (apply List.Perm.trans perm1; apply List.Perm.cons; walk_at "pm") | (apply List.Perm.trans perm2; apply List.Perm.cons; walk_at "pm") | (apply List.Perm.trans perm3; apply List.Perm.cons; walk_at "pm") | (apply List.Perm.trans perm4; apply List.Perm.cons; walk_at "pm") | (apply List.Perm.trans perm5; apply List.Perm.cons; walk_at "pm") | (apply List.Perm.trans perm6; apply List.Perm.cons; walk_at "pm") | (apply List.Perm.trans perm7; apply List.Perm.cons; walk_at "pm") | (apply List.Perm.trans perm8; apply List.Perm.cons; walk_at "pm") | (apply List.Perm.trans perm9; apply List.Perm.cons; walk_at "pm") | (apply List.Perm.trans perm10; apply List.Perm.cons; walk_at "pm"))
local macro_rules | `(tactic| walk_at "hp") => `(tactic| exact Has.perm (by assumption) (by walk_at "pm"))
local macro_rules | `(tactic| walk_at "tk1") => `(tactic| (refine ⟨_, _, _, rfl, (by decide), (by decide), ⟨_, _, _, (by assumption), (by walk_at "hp")⟩, ?_⟩; rintro _ _ _ _ ⟨_, _, _, _, _⟩ _))
local macro_rules | `(tactic| walk_at "nil") => `(tactic| dsimp only [tNil])
local macro_rules | `(tactic| walk_at "fr") => `(tactic| (refine ⟨_, _, _, _, _, rfl, (by walk_at "at"), (by walk_at "cls"), (by walk_at "na"), Lk.to (by walk_at "lk"), ?_⟩))
local macro_rules | `(tactic| walk_at "fw") => `(tactic| (refine fw_in ?_; first | refine Has.w0 (by assumption) (by walk_at "cls") (by walk_at "na") (by walk_at "len") (by walk_at "put") ?_ | refine Has.w1 (by assumption) (by walk_at "cls") (by walk_at "na") (by walk_at "len") (by walk_at "put") ?_ | refine Has.w2 (by assumption) (by walk_at "cls") (by walk_at "na") (by walk_at "len") (by walk_at "put") ?_ | refine Has.w3 (by assumption) (by walk_at "cls") (by walk_at "na") (by walk_at "len") (by walk_at "put") ?_ | refine Has.w4 (by assumption) (by walk_at "cls") (by walk_at "na") (by walk_at "len") (by walk_at "put") ?_ | refine Has.w5 (by assumption) (by walk_at "cls") (by walk_at "na") (by walk_at "len") (by walk_at "put") ?_ | refine Has.w6 (by assumption) (by walk_at "cls") (by walk_at "na") (by walk_at "len") (by walk_at "put") ?_ | refine Has.w7 (by assumption) (by walk_at "cls") (by walk_at "na") (by walk_at "len") (by walk_at "put") ?_ | refine Has.w8 (by assumption) (by walk_at "cls") (by walk_at "na") (by walk_at "len") (by walk_at "put") ?_ | refine Has.w9 (by assumption) (by walk_at "cls") (by walk_at "na") (by walk_at "len") (by walk_at "put") ?_ | refine Has.w10 (by assumption) (by walk_at "cls") (by walk_at "na") (by walk_at "len") (by walk_at "put") ?_))
local macro_rules | `(tactic| walk_at "fa") => `(tactic| (refine fa_in ?_; first | refine Has.v0 (by assumption) (by walk_at "len") (by walk_at "put") ?_ | refine Has.v1 (by assumption) (by walk_at "len") (by walk_at "put") ?_ | refine Has.v2 (by assumption) (by walk_at "len") (by walk_at "put") ?_ | refine Has.v3 (by assumption) (by walk_at "len") (by walk_at "put") ?_ | refine Has.v4 (by assumption) (by walk_at "len") (by walk_at "put") ?_ | refine Has.v5 (by assumption) (by walk_at "len") (by walk_at "put") ?_ | refine Has.v6 (by assumption) (by walk_at "len") (by walk_at "put") ?_ | refine Has.v7 (by assumption) (by walk_at "len") (by walk_at "put") ?_ | refine Has.v8 (by assumption) (by walk_at "len") (by walk_at "put") ?_ | refine Has.v9 (by assumption) (by walk_at "len") (by walk_at "put") ?_ | refine Has.v10 (by assumption) (by walk_at "len") (by walk_at "put") ?_))
local macro_rules | `(tactic| walk_at "me") => `(tactic| refine ⟨_, _, _, rfl, (by walk_at "at"), Nn.to (by walk_at "none"), ?_⟩)
local macro_rules | `(tactic| walk_at "go1") => `(tactic| first | walk_at "v" | walk_at "fr" | walk_at "i2" | refine ⟨rfl, ?_⟩ | walk_at "ph" | walk_at "me" | (walk_at "fw"; intro _ _ _) | walk_at "ti" | (walk_at "fa"; intro _ _ _))
/-! ### Memory -/
section
variable {P : Program} {w : World} {K : PySem.W.Frag} {mg : Str → Option Value} {base : Heap}
abbrev memO (K : PySem.W.Frag) (dm d : Addr) (n : Int) : HO := .ins (c_Memory K) dm (f_Memory (.ref d) (.int n))
/-- what a value of a cell is, as data -/
def spMemInit (P : Program) (w : World) (K : PySem.W.Frag) : Sp := fun vs H Q _ => ∃ (m dm : Addr) (R : List (Addr × HO)), vs = [.ref m] ∧ Has ((m, .ins (c_Memory K) dm []) :: R) H ∧
  ∀ (d : Addr) (H' : Hp), Has ((m, memO K dm d 0) :: (d, dicO P w d []) :: R) H' → Tk H H' → Q .non H'
def spRead (P : Program) (w : World) (K : PySem.W.Frag) (k : Int) : Sp := fun vs H Q _ => ∃ (m dm d c : Addr) (n : Int) (xs : List Ent) (ks : List Key) (R : List (Addr × HO)), vs = [.ref m, .ref c] ∧
  Has ((m, memO K dm d n) :: (d, dicO P w d xs) :: R) H ∧ KeysOk K H xs ∧ SqT K H c (ks.map kV) ∧
  ∀ H', Has ((m, memO K dm d (n + k)) :: (d, dicO P w d xs) :: R) H' → Tk H H' → Q ((lookE xs ks).getD (.int 0)) H'
def spWrite (P : Program) (w : World) (K : PySem.W.Frag) (k : Int) : Sp := fun vs H Q _ => ∃ (m dm d c : Addr) (v : V) (n : Int) (xs : List Ent) (ks : List Key) (R : List (Addr × HO)), vs = [.ref m, .ref c, v] ∧
  Has ((m, memO K dm d n) :: (d, dicO P w d xs) :: R) H ∧ KeysOk K H xs ∧ SqT K H c (ks.map kV) ∧ xs.length < sizeLine ∧
  ∀ H', Has ((m, memO K dm d (n + k)) :: (d, dicO P w d (putE xs ks c v)) :: R) H' → Tk H H' → Q .non H'
def spSwap (P : Program) (w : World) (K : PySem.W.Frag) : Sp := fun vs H Q _ => ∃ (m dm d c : Addr) (o v : V) (n : Int) (xs : List Ent) (ks : List Key) (R : List (Addr × HO)) (d1 d2 : PyData), vs = [.ref m, .ref c, o, v] ∧
  Has ((m, memO K dm d n) :: (d, dicO P w d xs) :: R) H ∧ KeysOk K H xs ∧ SqT K H c (ks.map kV) ∧ xs.length < sizeLine ∧
  (∀ H', Tk H H' → Dp K H' ((lookE xs ks).getD (.int 0)) d1 ∧ Dp K H' o d2) ∧ SeqAt.shaped d1 = true ∧ SeqAt.shaped d2 = true ∧
  ∀ H', Has ((m, memO K dm d (n + 1)) :: (d, dicO P w d (if PyData.eqv d1 d2 then putE xs ks c v else xs)) :: R) H' → Tk H H' → Q (.bl (PyData.eqv d1 d2)) H'
theorem ok_Memory_init (T : Tx K mg) : FnG P w K mg base (lv_Memory_init + 1) at_Memory_init ["self"] (spMemInit P w K) := by
  refine FnG.of (fd_Memory_init T) sc_Memory_init (by walk_at "ln") (fun cdv A outer s H vs Q E hr h => ?_)
  · obtain ⟨m, dm, R, rfl, h0, q⟩ := h
    have hu := hu_of hr
    refine ⟨_, (pss_cons (ps_fld (pv 0) pe_mnew rfl) (pss_one (ps_fld (pv 0) pe_int rfl))), ?_⟩
    walk_at "ds"
    intro d nd
    have h1 := (h0.new (o := dicO P w d []) nd).f1
    have t1 := Tk.new (o := dicO P w d []) nd
    walk_at "go"
    exact q d _ (by assumption) (by walk_at "tk")
theorem ok_Memory_read (T : Tx K mg) : FnG P w K mg base (lv_Memory_read + 1) at_Memory_read ["self", "cell"] (spRead P w K 1) := by
  refine FnG.of (fd_Memory_read T) sc_Memory_read (by walk_at "ln") (fun cdv A outer s H vs Q E hr h => ?_)
  · obtain ⟨m, dm, d, c, n, xs, ks, R, rfl, h0, hk, hc, q⟩ := h
    have hu := hu_of hr
    refine ⟨_, (pss_cons (ps_fldaug (pv 0) pe_int in_add) (pss_one (ps_ret (pe_mget hu (pe_fld (pv 0) rfl) (pv 1) pe_int ⟨rfl, rfl, rfl, rfl⟩)))), ?_⟩
    walk_at "ds"
    walk_at "go"
    refine ⟨_, _, rfl, (by walk_at "at"), _, rfl, _, _, _, rfl, (by walk_at "at"), (by walk_at "ko"), (by walk_at "sq"), ?_⟩
    exact q _ (by assumption) (by walk_at "tk")
theorem ok_Memory_peek (T : Tx K mg) : FnG P w K mg base (lv_Memory_peek + 1) at_Memory_peek ["self", "cell"] (spRead P w K 0) := by
  refine FnG.of (fd_Memory_peek T) sc_Memory_peek (by walk_at "ln") (fun cdv A outer s H vs Q E hr h => ?_)
  · obtain ⟨m, dm, d, c, n, xs, ks, R, rfl, h0, hk, hc, q⟩ := h
    have hu := hu_of hr
    refine ⟨_, (pss_one (ps_ret (pe_mget hu (pe_fld (pv 0) rfl) (pv 1) pe_int ⟨rfl, rfl, rfl, rfl⟩))), ?_⟩
    walk_at "ds"
    walk_at "go"
    refine ⟨_, _, rfl, (by walk_at "at"), _, rfl, _, _, _, rfl, (by walk_at "at"), (by walk_at "ko"), (by walk_at "sq"), ?_⟩
    exact q _ (by rw [Int.add_zero]; assumption) (by walk_at "tk")
theorem ok_Memory_write (T : Tx K mg) : FnG P w K mg base (lv_Memory_write + 1) at_Memory_write ["self", "cell", "value"] (spWrite P w K 1) := by
  refine FnG.of (fd_Memory_write T) sc_Memory_write (by walk_at "ln") (fun cdv A outer s H vs Q E hr h => ?_)
  · obtain ⟨m, dm, d, c, v, n, xs, ks, R, rfl, h0, hk, hc, hl, q⟩ := h
    have hu := hu_of hr
    refine ⟨_, (pss_cons (ps_fldaug (pv 0) pe_int in_add) (pss_one (ps_mput hu (pe_fld (pv 0) rfl) (pv 1) (pv 2) rfl))), ?_⟩
    walk_at "ds"
    walk_at "go"
    rename_i H1 h1 t1
    refine ⟨_, _, _, _, rfl, rfl, h1.g1, (by walk_at "ko"), (by walk_at "sq"), hl, ?_⟩
    exact q _ h1.u1 (t1.trans (Tk.mut h1.g1 rfl))
theorem ok_Memory_swap (T : Tx K mg) : FnG P w K mg base (lv_Memory_swap + 1) at_Memory_swap ["self", "cell", "old", "new"] (spSwap P w K) := by
  refine FnG.of (fd_Memory_swap T) sc_Memory_swap (by walk_at "ln") (fun cdv A outer s H vs Q E hr h => ?_)
  · obtain ⟨m, dm, d, c, o, v, n, xs, ks, R, d1, d2, rfl, h0, hk, hc, hl, hd, s1, s2, q⟩ := h
    have hu := hu_of hr
    refine ⟨_, (pss_cons (ps_fldaug (pv 0) pe_int in_add) (pss_cons (ps_if (pt_cmpR (op_neD hr.units) (pe_mget hu (pe_fld (pv 0) rfl) (pv 1) pe_int ⟨rfl, rfl, rfl, rfl⟩) (pv 2) (nomark _)) (pss_one (ps_ret pe_bl)) pss_nil) (pss_cons (ps_mput hu (pe_fld (pv 0) rfl) (pv 1) (pv 3) rfl) (pss_one (ps_ret pe_bl))))), ?_⟩
    walk_at "ds"
    walk_at "go"
    rename_i H1 h1 t1
    refine ⟨_, _, rfl, (by walk_at "at"), _, rfl, _, _, _, rfl, (by walk_at "at"), (by walk_at "ko"), (by walk_at "sq"), ?_⟩
    refine ⟨_, rfl, d1, d2, (hd _ t1).1, (hd _ t1).2, s1, s2, _, rfl, ?_⟩
    cases e : PyData.eqv d1 d2 with
    | false =>
      refine if_t rfl ?_
      rw [e] at q
      exact q _ h1 t1
    | true =>
      refine if_f rfl ?_
      rw [e] at q
      walk_at "go"
      refine ⟨_, _, _, _, rfl, rfl, h1.g1, (by walk_at "ko"), (by walk_at "sq"), hl, ?_⟩
      exact q _ h1.u1 (t1.trans (Tk.mut h1.g1 rfl))
end

/-! ## Law -/
set_option Elab.async false
set_option linter.all false
set_option maxRecDepth 100000
set_option maxHeartbeats 4000000
/-! ### the law's own state and draws -/
section
variable {P : Program} {w : World} {K : PySem.W.Frag} {mg : Str → Option Value} {base : Heap}
structure StOk (ns : List Int) : Prop where
  pos : 0 < ns.length
  len : ns.length ≤ 63
  nn : ∀ n ∈ ns, 0 ≤ n
/-- the law's state stands at st; beside it R -/
def LSt (st : Addr) (R : List (Addr × HO)) (H : Hp) : Prop := ∃ (cl : Addr) (pos : Int) (ns : List Int), StOk ns ∧ Has ((st, .lst [.int pos, .ref cl]) :: (cl, .lst (ns.map V.int)) :: R) H
theorem LSt.has {st : Addr} {R : List (Addr × HO)} {H : Hp} (h : LSt st R H) : Has R H := let ⟨_, _, _, _, h⟩ := h; h.tail.tail
def spState (K : PySem.W.Frag) : Sp := fun vs H Q _ => ∃ (a : Addr) (ns : List Int) (R : List (Addr × HO)), vs = [.ref a] ∧ SqL K H a (ns.map V.int) ∧ ns.length ≤ 63 ∧ Has R H ∧
  ∀ st H', LSt st R H' → Tk H H' → Q (.ref st) H'
def spTake : Sp := fun vs H Q _ => ∃ (st : Addr) (most : Int) (R : List (Addr × HO)), vs = [.ref st, .int most] ∧ 0 < most ∧ most < 1000 ∧ LSt st R H ∧
  ∀ r H', 0 ≤ r → r < most → LSt st R H' → Tk H H' → Q (.int r) H'
theorem cut63 (ns : List Int) (h : ns.length ≤ 63) : cutV (ns.map V.int) none (some 63) = ns.map V.int := by
  unfold cutV
  show ((ns.map V.int).drop 0).take (HT.sIx (ns.map V.int).length (ns.map V.int).length (some ((63 : Nat) : Int)) - 0) = ns.map V.int
  rw [HT.sIx_nat, List.drop_zero, List.take_of_length_le (by rw [List.length_map]; omega)]
theorem ok_law_state (T : Tx K mg) : FnG P w K mg base (lv_law_state + 1) at_law_state ["_law_script"] (spState K) := by
  refine FnG.of (fd_law_state T) sc_law_state (by walk_at "ln") (fun cdv A outer s H vs Q E hr h => ?_)
  · obtain ⟨a, ns, R, rfl, hS, hl, h0, q⟩ := h
    have hu := hu_of hr
    refine ⟨_, (pss_cons (ps_setLc (i := 1) (own := [("_law_cell", 2)]) (g := gName 2) (tt := _) rfl sc_law_state.nd rfl rfl (sw_true rfl rfl rfl (by decide +kernel)) (pi_list (pe_slice sl_list (pv 0) po_none (po_some pe_int))) (blkOk_by (own := [("_law_cell", 2)]) (N := n_law_state) (sc := defScope s_law_state) (by decide +kernel)) (fun _ _ _ _ _ => pg_name (i := 2) sc_law_state.nd rfl (Or.inl rfl)) (fun _ _ _ _ _ => pts_nil) (fun _ _ _ _ _ => (pe_callB call_abs (by rfl) (b_abs T) (by decide +kernel) (pa_cons (pv 2) pa_nil)))) (pss_cons (ps_if (pt_cmpR op_eq (pe_callB call_len_seq (by rfl) (b_len T) PySem.boot_len (pa_cons (pv 1) pa_nil)) pe_int (nomark _)) (pss_one (ps_set (i := 1) sc_law_state.nd rfl (Or.inl rfl) (pe_lst (pa_cons pe_int pa_nil)))) pss_nil) (pss_one (ps_ret (pe_lst (pa_cons pe_int (pa_cons (pv 1) pa_nil))))))), ?_⟩
    walk_at "ds"
    -- _law_cells = [abs(_law_cell) for _law_cell in _law_script[:63]]
    refine ⟨_, rfl, _, rfl, a, _, rfl, hS, fun p np => ?_⟩
    rw [cut63 ns hl]
    have h1 := h0.new (o := .lst (ns.map V.int)) np
    have t1 := Tk.new (o := .lst (ns.map V.int)) np
    refine ⟨p, rfl, ⟨_, SqL.of upd_same⟩, fun D nD => ?_⟩
    refine lc_fm (xs := ns.map V.int) (fun _ => true) (fun v => match v with | .int i => .int (if i < 0 then -i else i) | v => v) nD (SqL.of upd_same) (by rw [List.length_map]; exact Nat.lt_of_le_of_lt hl (by decide)) (fun x acc Q hx q => q) (fun x acc Q hx _ q => ?_) ?_
    · obtain ⟨i, hi, rfl⟩ := List.mem_map.mp hx
      exact ⟨_, rfl, i, rfl, q⟩
    have e : ((ns.map V.int).filter fun _ => true).map (fun v => match v with | .int i => .int (if i < 0 then -i else i) | v => v) = (ns.map fun i => if i < 0 then -i else i).map V.int := by
      rw [List.filter_eq_self.mpr (fun _ _ => rfl), List.map_map, List.map_map]
      rfl
    rw [e]
    generalize hms : (ns.map fun i => if i < 0 then -i else i) = ms
    have hml : ms.length ≤ 63 := by rw [← hms, List.length_map]; exact hl
    have hmn : ∀ n ∈ ms, 0 ≤ n := by
      intro n hn
      rw [← hms] at hn
      obtain ⟨i, _, rfl⟩ := List.mem_map.mp hn
      by_cases h : i < 0
      · rw [if_pos h]; omega
      · rw [if_neg h]; omega
    have h3 := (h1.new (o := .lst (ms.map V.int)) nD).b1.tail
    have t3 := t1.trans (Tk.new (o := .lst (ms.map V.int)) nD)
    -- if len(_law_cells) == 0
    refine ⟨_, rfl, D, _, rfl, .inl (SqL.of upd_same), rfl, _, rfl, ?_⟩
    refine ite2 (fun hz => ?_) (fun hz => ?_)
    · refine ⟨by show 1 ≤ sizeLine; decide, fun D2 nD2 => ?_⟩
      have h4 := (h3.new (o := .lst [V.int 0]) nD2).b1.tail
      have t4 := t3.trans (Tk.new (o := .lst [V.int 0]) nD2)
      refine ⟨_, rfl, by show 2 ≤ sizeLine; decide, fun st nst => ?_⟩
      exact q st _ ⟨D2, 0, [0], ⟨by decide, by decide, fun n hn => by rw [List.mem_singleton.mp hn]; decide⟩, h4.new nst⟩ (t4.trans (Tk.new nst))
    · refine ⟨_, rfl, by show 2 ≤ sizeLine; decide, fun st nst => ?_⟩
      refine q st _ ⟨D, 0, ms, ⟨?_, hml, hmn⟩, h3.new nst⟩ (t3.trans (Tk.new nst))
      have hz2 : ¬ ((ms.map V.int).length : Int) = 0 := fun e => hz (by rw [e]; decide)
      rw [List.length_map] at hz2
      omega
theorem ok_law_take (T : Tx K mg) : FnG P w K mg base (lv_law_take + 1) at_law_take ["_law_state_here", "_law_most"] spTake := by
  refine FnG.of (fd_law_take T) sc_law_take (by walk_at "ln") (fun cdv A outer s H vs Q E hr h => ?_)
  · obtain ⟨st, most, R, rfl, hm0, hm1, ⟨cl, pos, ns, ok, h0⟩, q⟩ := h
    have hu := hu_of hr
    refine ⟨_, (pss_cons (ps_set (i := 2) sc_law_take.nd rfl (Or.inl rfl) (pe_ix ix_list (pv 0) pe_int (fun _ _ => rfl))) (pss_cons (ps_set (i := 3) sc_law_take.nd rfl (Or.inl rfl) (pe_op op_mod (pe_ix ix_list (pv 0) pe_int (fun _ _ => rfl)) (pe_callB call_len_seq (by rfl) (b_len T) PySem.boot_len (pa_cons (pv 2) pa_nil)))) (pss_cons (ps_set (i := 4) sc_law_take.nd rfl (Or.inl rfl) (pe_ix ix_list (pv 2) (pv 3) (fun _ _ => rfl))) (pss_cons (ps_if (pt_cmpR op_ge (pv 4) pe_int (nomark _)) (pss_cons (ps_asg (pe_op op_fdiv (pv 4) (pv 1)) (pg_sub (pv 2) (pv 3) set_list)) (pss_one (ps_ret (pe_op op_mod (pv 4) (pv 1))))) pss_nil) (pss_cons (ps_asg (pe_op op_add (pe_ix ix_list (pv 0) pe_int (fun _ _ => rfl)) pe_int) (pg_sub (pv 0) pe_int set_list)) (pss_cons (ps_set (i := 5) sc_law_take.nd rfl (Or.inl rfl) (pe_op op_mod (pe_callTy call_int1 (by rfl) (b_int T) (by decide +kernel) (pa_cons (pe_op op_add (pe_op op_mul (pv 4) pe_int) (pe_op op_mul (pe_ix ix_list (pv 0) pe_int (fun _ _ => rfl)) pe_int)) pa_nil)) pe_int)) (pss_cons (ps_set (i := 5) sc_law_take.nd rfl (Or.inl rfl) (pe_op op_mod (pe_callTy call_int1 (by rfl) (b_int T) (by decide +kernel) (pa_cons (pe_op op_add (pe_op op_mul (pv 5) pe_int) (pe_op op_mul (pe_ix ix_list (pv 0) pe_int (fun _ _ => rfl)) pe_int)) pa_nil)) pe_int)) (pss_one (ps_ret (pe_op op_mod (pe_op op_fdiv (pv 5) pe_int) (pv 1))))))))))), ?_⟩
    walk_at "ds"
    have hp := ok.pos
    -- _law_cells, _law_at, _law_cell
    refine ⟨_, rfl, st, _, _, _, rfl, rfl, SqL.of h0.g0, atI_at 1 rfl rfl, ?_⟩
    refine ⟨_, rfl, st, _, _, _, rfl, rfl, SqL.of h0.g0, atI_at 0 rfl rfl, _, rfl, cl, _, rfl, .inl (SqL.of h0.g1), _, _, rfl, rfl, by rw [List.length_map]; omega, ?_⟩
    rw [List.length_map]
    dsimp only
    have a0 : 0 ≤ pos % (ns.length : Int) := Int.emod_nonneg _ (by omega)
    have a1 : pos % (ns.length : Int) < ns.length := Int.emod_lt_of_pos _ (by omega)
    generalize pos % (ns.length : Int) = at_ at a0 a1 ⊢
    obtain ⟨j, rfl⟩ : ∃ j : Nat, at_ = (j : Int) := ⟨at_.toNat, by omega⟩
    have hj : j < ns.length := by omega
    have c0 : 0 ≤ ns[j] := ok.nn _ (List.getElem_mem hj)
    have hg : (ns.map V.int)[j]? = some (V.int ns[j]) := by rw [List.getElem?_map, List.getElem?_eq_getElem hj]; rfl
    generalize ns[j] = c at c0 hg ⊢
    refine ⟨_, rfl, _, rfl, cl, _, _, _, rfl, rfl, SqL.of h0.g1, atI_at j rfl hg, ?_⟩
    -- if _law_cell >= 1000000000000000000
    refine ⟨_, rfl, _, _, rfl, rfl, _, rfl, ?_⟩
    refine ite2 (fun hc => ?_) (fun hc => ?_)
    · refine ⟨_, rfl, _, rfl, _, _, rfl, rfl, ⟨hm0, by omega⟩, _, rfl, _, rfl, cl, _, _, j, rfl, rfl, h0.g1, ixN_at j rfl (by rw [List.length_map]; exact hj), ?_⟩
      refine ⟨_, rfl, _, rfl, _, _, rfl, rfl, hm0, ?_⟩
      have e : (ns.map V.int).set j (V.int (c / most)) = (ns.set j (c / most)).map V.int := by rw [List.map_set]
      rw [e]
      refine q _ _ (Int.emod_nonneg _ (by omega)) (Int.emod_lt_of_pos _ hm0) ⟨cl, pos, ns.set j (c / most), ⟨by rw [List.length_set]; exact hp, by rw [List.length_set]; exact ok.len, fun n hn => ?_⟩, h0.u1⟩ (Tk.mut h0.g1 rfl)
      rcases List.mem_or_eq_of_mem_set hn with hn | hn
      · exact ok.nn n hn
      · rw [hn]; exact Int.ediv_nonneg c0 (by omega)
    · -- _law_state_here[0] = _law_state_here[0] + 1
      have hc2 : c < 1000000000000000000 := by
        have : ¬ 1000000000000000000 ≤ c := fun z => hc (decide_eq_true z)
        omega
      refine ⟨_, rfl, st, _, _, _, rfl, rfl, SqL.of h0.g0, atI_at 0 rfl rfl, _, _, rfl, rfl, _, rfl, st, _, _, 0, rfl, rfl, h0.g0, ixN_at 0 rfl (Nat.zero_lt_succ _), ?_⟩
      have h1 := h0.u0 (u := .lst ([V.int pos, .ref cl].set 0 (.int (pos + 1))))
      have t1 := Tk.mut (u := .lst ([V.int pos, .ref cl].set 0 (.int (pos + 1)))) h0.g0 rfl
      -- the two mixings
      refine ⟨_, rfl, _, _, rfl, rfl, .inr ⟨by decide, by decide⟩, _, rfl, st, _, _, _, rfl, rfl, SqL.of h1.g0, atI_at 0 rfl rfl, _, _, rfl, rfl, .inr ⟨by decide, by decide⟩, _, _, rfl, rfl, .inl ⟨_, rfl, _, _, rfl, rfl, (show (0 : Int) < 2147483647 by decide), ?_⟩⟩
      generalize (c * 48271 + (pos + 1) * 69621) % 2147483647 = m1
      refine ⟨_, rfl, _, _, rfl, rfl, .inr ⟨by decide, by decide⟩, _, rfl, st, _, _, _, rfl, rfl, SqL.of h1.g0, atI_at 0 rfl rfl, _, _, rfl, rfl, .inr ⟨by decide, by decide⟩, _, _, rfl, rfl, .inl ⟨_, rfl, _, _, rfl, rfl, (show (0 : Int) < 1000000007 by decide), ?_⟩⟩
      generalize (m1 * 16807 + (pos + 1) * 7919) % 1000000007 = m2
      refine ⟨_, rfl, _, _, rfl, rfl, ⟨by decide, by decide⟩, _, rfl, _, _, rfl, rfl, hm0, ?_⟩
      exact q _ _ (Int.emod_nonneg _ (by omega)) (Int.emod_lt_of_pos _ hm0) ⟨cl, pos + 1, ns, ok, h1⟩ t1
end

/-! ## Cel -/
set_option Elab.async false
set_option linter.all false
set_option maxRecDepth 100000
set_option maxHeartbeats 4000000
/-! ### memory by its cells -/
section
variable {P : Program} {w : World} {K : PySem.W.Frag} {mg : Str → Option Value} {base : Heap}
def MR (K : PySem.W.Frag) (H : Hp) (xs : List Ent) (m : Mem) : Prop := KeysOk K H xs ∧ MTy m ∧ ∀ c : Cell, VRel K H ((lookE xs c.key).getD (.int 0)) (m c)
theorem MR.tk {H H' : Hp} {xs : List Ent} {m : Mem} (h : MR K H xs m) (t : Tk H H') : MR K H' xs m := ⟨h.1.tk t, h.2.1, fun c => (h.2.2 c).tk t⟩
theorem MR.put {H : Hp} {xs : List Ent} {m : Mem} {c : Cell} {b : Addr} {v : V} {cv : CV} (h : MR K H xs m) (hb : SqT K H b (c.key.map kV)) (hv : VRel K H v cv) (t : tyOk c cv) : MR K H (putE xs c.key b v) (m.set c cv) := by
  refine ⟨h.1.put hb, h.2.1.set t, fun d => ?_⟩
  rw [lookE_put]
  unfold Mem.set
  by_cases e : d = c
  · rw [if_pos e, if_pos (by rw [e])]; exact hv
  · rw [if_neg e, if_neg (fun z => e (Cell.key_inj z))]; exact h.2.2 d
theorem rd_mem {H : Hp} {Q : VK} {E : XK} {m dm d c : Addr} {n k : Int} {xs : List Ent} {mm : Mem} {ce : Cell} {R : List (Addr × HO)} (h : Has ((m, memO K dm d n) :: (d, dicO P w d xs) :: R) H) (mr : MR K H xs mm) (hc : SqT K H c (ce.key.map kV))
    (q : ∀ H' v, Has ((m, memO K dm d (n + k)) :: (d, dicO P w d xs) :: R) H' → Tk H H' → MR K H' xs mm → VRel K H' v (mm ce) → Q v H') : spRead P w K k [.ref m, .ref c] H Q E :=
  ⟨m, dm, d, c, n, xs, ce.key, R, rfl, h, mr.1, hc, fun H' h' t' => q H' _ h' t' (mr.tk t') ((mr.tk t').2.2 ce)⟩
theorem wr_mem {H : Hp} {Q : VK} {E : XK} {m dm d c : Addr} {v : V} {cv : CV} {n k : Int} {xs : List Ent} {mm : Mem} {ce : Cell} {R : List (Addr × HO)} (h : Has ((m, memO K dm d n) :: (d, dicO P w d xs) :: R) H) (mr : MR K H xs mm) (hc : SqT K H c (ce.key.map kV))
    (hv : VRel K H v cv) (ty : tyOk ce cv) (hl : xs.length < sizeLine)
    (q : ∀ H' xs', Has ((m, memO K dm d (n + k)) :: (d, dicO P w d xs') :: R) H' → Tk H H' → MR K H' xs' (mm.set ce cv) → xs'.length ≤ xs.length + 1 → Q .non H') : spWrite P w K k [.ref m, .ref c, v] H Q E :=
  ⟨m, dm, d, c, v, n, xs, ce.key, R, rfl, h, mr.1, hc, hl, fun H' h' t' => q H' _ h' t' ((mr.put hc hv ty).tk t') (putE_len ..)⟩
theorem sw_mem {H : Hp} {Q : VK} {E : XK} {m dm d c : Addr} {o v : V} {co cv : CV} {n : Int} {xs : List Ent} {mm : Mem} {ce : Cell} {R : List (Addr × HO)} (h : Has ((m, memO K dm d n) :: (d, dicO P w d xs) :: R) H) (mr : MR K H xs mm) (hc : SqT K H c (ce.key.map kV))
    (ho : VRel K H o co) (hv : VRel K H v cv) (ty : tyOk ce cv) (hl : xs.length < sizeLine)
    (q : ∀ H' xs', Has ((m, memO K dm d (n + 1)) :: (d, dicO P w d xs') :: R) H' → Tk H H' → MR K H' xs' (if mm ce = co then mm.set ce cv else mm) → xs'.length ≤ xs.length + 1 → Q (.bl (decide (mm ce = co))) H') : spSwap P w K [.ref m, .ref c, o, v] H Q E := by
  refine ⟨m, dm, d, c, o, v, n, xs, ce.key, R, cvD (mm ce), cvD co, rfl, h, mr.1, hc, hl, fun H' t' => ⟨((mr.tk t').2.2 ce).dp, (ho.tk t').dp⟩, shp_cv _, shp_cv _, fun H' h' t' => ?_⟩
  rw [eqv_cv] at h' ⊢
  by_cases e : mm ce = co
  · rw [decide_eq_true e] at h' ⊢
    have := q H' _ h' t' (by rw [if_pos e]; exact (mr.put hc hv ty).tk t') (putE_len ..)
    rw [decide_eq_true e] at this
    exact this
  · rw [decide_eq_false e] at h' ⊢
    have := q H' xs h' t' (by rw [if_neg e]; exact mr.tk t') (Nat.le_succ _)
    rw [decide_eq_false e] at this
    exact this
end

/-! ## Stk -/
set_option Elab.async false
set_option linter.all false
set_option maxRecDepth 100000
set_option maxHeartbeats 4000000
/-! ### stacks.py: cells' names, head values, Pop, Push, TakeAll -/
section
variable {P : Program} {w : World} {K : PySem.W.Frag} {mg : Str → Option Value} {base : Heap}
/-- a cell's name: a new tuple | a tuple of the top -/
def spCell (K : PySem.W.Frag) (ce : Int → Cell) : Sp := fun vs H Q _ => ∃ (n : Int), vs = [.int n] ∧ ∀ (t : Addr) (H' : Hp), (∀ L, Has L H → Has L H') → Tk H H' → SqT K H' t ((ce n).key.map kV) → Q (.ref t) H'
theorem ok_free_cell (T : Tx K mg) : FnG P w K mg base (lv_free_cell + 1) at_free_cell ["size"] (spCell K .free) := by
  refine FnG.of (fd_free_cell T) sc_free_cell (by walk_at "ln") (fun cdv A outer s H vs Q E hr h => ?_)
  · obtain ⟨n, rfl, q⟩ := h
    have hu := hu_of hr
    refine ⟨_, (pss_one (ps_ret (pe_tup (pa_cons pe_str (pa_cons (pv 0) pa_nil))))), ?_⟩
    walk_at "ds"
    walk_at "v"
    refine ⟨by show 2 ≤ sizeLine; decide, fun p np => ?_⟩
    exact q p _ (fun L h => h.skip np) (Tk.new np) sqt_new
def spNext (K : PySem.W.Frag) : Sp := fun vs H Q _ => ∃ (h : Addr) (hd : Cell) (i : Int), vs = [.ref h, .int i] ∧ SqT K H h (hd.key.map kV) ∧ isHead hd = true ∧
  ∀ (t : Addr) (H' : Hp), (∀ L, Has L H → Has L H') → Tk H H' → SqT K H' t ((bel hd i).key.map kV) → Q (.ref t) H'
def kD : Key → PyData
  | .inl i => .int i
  | .inr s => .str s
theorem dp_key {H : Hp} {a : Addr} {ks : List Key} (h : SqT K H a (ks.map kV)) : Dp K H (.ref a) (.tuple (ks.map kD)) := .tup h (dp_all ks fun k _ => by cases k; exact .int _; exact .str _)
theorem pages_is (s : Int) : PyData.eqv (.tuple ((Cell.free s).key.map kD)) (.tuple (Cell.pages.key.map kD)) = false := by
  simp [Cell.key, kD, PyData.eqv, PyData.eqvAll]
theorem pages_same : PyData.eqv (.tuple (Cell.pages.key.map kD)) (.tuple (Cell.pages.key.map kD)) = true := by
  simp [Cell.key, kD, PyData.eqv, PyData.eqvAll]
theorem shp_pages : SeqAt.shaped (.tuple (Cell.pages.key.map kD)) = true := by decide +kernel
theorem shp_free (s : Int) : SeqAt.shaped (.tuple ((Cell.free s).key.map kD)) = true := by
  refine shaped_of ?_ ?_
  · show pln (.tuple [.str "free", .int s]) = true
    rw [pln, plnAll, plnAll, plnAll, pln, pln]
    decide +kernel
  · show PyData.depth (.tuple [.str "free", .int s]) ≤ 64
    simp [PyData.depth, PyData.depthAll]
theorem ok_next_cell (T : Tx K mg) : FnG P w K mg base (lv_next_cell + 1) at_next_cell ["head", "item"] (spNext K) := by
  refine FnG.of (fd_next_cell T) sc_next_cell (by walk_at "ln") (fun cdv A outer s H vs Q E hr h => ?_)
  · obtain ⟨a, hd, i, rfl, ha, hh, q⟩ := h
    have hu := hu_of hr
    refine ⟨_, (pss_cons (ps_if (pt_cmpR (op_eqD hr.units) (pv 0) (pe_glob (v := .ref (c_PAGES K)) rfl (g_PAGES T) rfl) (nomark _)) (pss_one (ps_ret (pe_tup (pa_cons pe_str (pa_cons (pv 1) pa_nil))))) pss_nil) (pss_one (ps_ret (pe_tup (pa_cons pe_str (pa_cons (pv 1) pa_nil)))))), ?_⟩
    walk_at "ds"
    cases hd with
    | pages =>
      refine ⟨_, rfl, _, _, dp_key ha, dp_key (ks := Cell.pages.key) (t_PAGES T H), shp_pages, shp_pages, _, rfl, if_t pages_same ?_⟩
      refine ⟨_, rfl, by show 2 ≤ sizeLine; decide, fun p np => ?_⟩
      exact q p _ (fun L h => h.skip np) (Tk.new np) sqt_new
    | free s =>
      refine ⟨_, rfl, _, _, dp_key ha, dp_key (ks := Cell.pages.key) (t_PAGES T H), shp_free s, shp_pages, _, rfl, if_f (pages_is s) ?_⟩
      refine ⟨_, rfl, by show 2 ≤ sizeLine; decide, fun p np => ?_⟩
      exact q p _ (fun L h => h.skip np) (Tk.new np) sqt_new
    | _ => cases hh
/-- a head's value: 0 or a pair -/
def HV (c : CV) : Prop := c = .n 0 ∨ ∃ a b, c = .p a b
def spHead (K : PySem.W.Frag) : Sp := fun vs H Q _ => ∃ (v : V) (c : CV), vs = [v] ∧ VRel K H v c ∧ HV c ∧ ∀ t, SqT K H t [.int (hdv c).1, .int (hdv c).2] → Q (.ref t) H
theorem ok_head_value (T : Tx K mg) : FnG P w K mg base (lv_head_value + 1) at_head_value ["value"] (spHead K) := by
  refine FnG.of (fd_head_value T) sc_head_value (by walk_at "ln") (fun cdv A outer s H vs Q E hr h => ?_)
  · obtain ⟨v, c, rfl, hv, hc, q⟩ := h
    have hu := hu_of hr
    refine ⟨_, (pss_cons (ps_if (pt_cmpR (op_eqD hr.units) (pv 0) pe_int (nomark _)) (pss_one (ps_ret (pe_glob (v := .ref (c_EMPTY K)) rfl (g_EMPTY T) rfl))) pss_nil) (pss_one (ps_ret (pv 0)))), ?_⟩
    walk_at "ds"
    refine ⟨_, rfl, _, _, hv.dp, .int 0, shp_cv c, by decide +kernel, _, rfl, ?_⟩
    rcases hc with rfl | ⟨a, b, rfl⟩
    · refine if_t (by simp [cvD, PyData.eqv]) ?_
      exact q _ (t_EMPTY T H)
    · refine if_f (by simp [cvD, PyData.eqv]) ?_
      obtain ⟨t, e, ht⟩ := hv
      subst e
      exact ⟨_, rfl, q t ht⟩
end

/-! ## Mch -/
set_option Elab.async false
set_option linter.all false
set_option maxRecDepth 100000
set_option maxHeartbeats 4000000
/-! ### Pop, Push, TakeAll -/
section
variable {P : Program} {w : World} {K : PySem.W.Frag} {mg : Str → Option Value} {base : Heap}
abbrev HasM (P : Program) (w : World) (K : PySem.W.Frag) (m dm d : Addr) (n : Int) (xs : List Ent) (R : List (Addr × HO)) (H : Hp) : Prop := Has ((m, memO K dm d n) :: (d, dicO P w d xs) :: R) H
def ovV : Option Int → V
  | none => .non
  | some i => .int i
def PopR (K : PySem.W.Frag) (H : Hp) (s : PopS) (o : HO) : Prop := ∃ (dx vh t : Addr) (vr : V), o = .ins (c_Pop K) dx (f_Pop (.ref vh) (.str s.ph.txt) vr (.ref t) (.int s.below) (.bl false) .non) ∧
  SqT K H vh (s.hd.key.map kV) ∧ VRel K H vr s.raw ∧ SqT K H t [.int (hdv s.raw).1, .int (hdv s.raw).2] ∧ isHead s.hd = true
def PopD (K : PySem.W.Frag) (H : Hp) (r : CV × Option Int) (o : HO) : Prop := ∃ (dx : Addr) (a b vr c d : V), o = .ins (c_Pop K) dx (f_Pop a b vr c d (.bl true) (ovV r.2)) ∧ VRel K H vr r.1
def PopO (K : PySem.W.Frag) (H : Hp) : PopS ⊕ (CV × Option Int) → HO → Prop
  | .inl s, o => PopR K H s o
  | .inr r, o => PopD K H r o
theorem PopR.tk {H H' : Hp} {s : PopS} {o : HO} (h : PopR K H s o) (t : Tk H H') : PopR K H' s o :=
  let ⟨dx, vh, a, vr, e, h1, h2, h3, h4⟩ := h; ⟨dx, vh, a, vr, e, t _ _ _ h1, h2.tk t, t _ _ _ h3, h4⟩
def PushR (K : PySem.W.Frag) (H : Hp) (s : PushS) (o : HO) : Prop := ∃ (dx vh t : Addr) (vr : V), o = .ins (c_Push K) dx (f_Push (.ref vh) (.int s.item) (.str s.ph.txt) vr (.ref t) (.bl false)) ∧
  SqT K H vh (s.hd.key.map kV) ∧ VRel K H vr s.raw ∧ SqT K H t [.int (hdv s.raw).1, .int (hdv s.raw).2] ∧ isHead s.hd = true
def PushD (K : PySem.W.Frag) (o : HO) : Prop := ∃ (dx : Addr) (a b c d e : V), o = .ins (c_Push K) dx (f_Push a b c d e (.bl true))
def PushO (K : PySem.W.Frag) (H : Hp) : Option PushS → HO → Prop
  | some s, o => PushR K H s o
  | none, o => PushD K o
theorem PushR.tk {H H' : Hp} {s : PushS} {o : HO} (h : PushR K H s o) (t : Tk H H') : PushR K H' s o :=
  let ⟨dx, vh, a, vr, e, h1, h2, h3, h4⟩ := h; ⟨dx, vh, a, vr, e, t _ _ _ h1, h2.tk t, t _ _ _ h3, h4⟩
def spPopInit (K : PySem.W.Frag) : Sp := fun vs H Q _ => ∃ (p h dx : Addr) (hd : Cell) (R : List (Addr × HO)), vs = [.ref p, .ref h] ∧ Has ((p, .ins (c_Pop K) dx []) :: R) H ∧ SqT K H h (hd.key.map kV) ∧ isHead hd = true ∧
  ∀ H' o, Has ((p, o) :: R) H' → Tk H H' → PopR K H' (popNew hd) o → Q .non H'
def spPopStep (P : Program) (w : World) (K : PySem.W.Frag) : Sp := fun vs H Q _ => ∃ (p m dm d : Addr) (n : Int) (xs : List Ent) (mm : Mem) (s : PopS) (o : HO) (R : List (Addr × HO)), vs = [.ref p, .ref m] ∧ HasM P w K m dm d n xs ((p, o) :: R) H ∧ PopR K H s o ∧ MR K H xs mm ∧ xs.length < sizeLine ∧
  ∀ H' xs' o', HasM P w K m dm d (n + 1) xs' ((p, o') :: R) H' → Tk H H' → MR K H' xs' (popStep s mm).1 → xs'.length ≤ xs.length + 1 → PopO K H' (popStep s mm).2 o' → Q .non H'
theorem hv_of {mm : Mem} {hd : Cell} (h : MTy mm) (g : isHead hd = true) : HV (mm hd) := by
  have := h hd
  cases hd <;> first | exact this | cases g
theorem ty_pair {hd : Cell} (g : isHead hd = true) (a b : Int) : tyOk hd (.p a b) := by
  cases hd <;> first | exact .inr ⟨_, _, rfl⟩ | cases g
theorem ty_bel (hd : Cell) (i z : Int) : tyOk (bel hd i) (.n z) := by
  cases hd <;> exact ⟨_, rfl⟩
theorem ok_Pop_init (T : Tx K mg) : FnG P w K mg base (lv_Pop_init + 1) at_Pop_init ["self", "head"] (spPopInit K) := by
  refine FnG.of (fd_Pop_init T) sc_Pop_init (by walk_at "ln") (fun cdv A outer s H vs Q E hr h => ?_)
  · obtain ⟨p, a, dx, hd, R, rfl, h0, ha, hh, q⟩ := h
    have hu := hu_of hr
    refine ⟨_, (pss_cons (ps_fld (pv 0) (pv 1) rfl) (pss_cons (ps_fld (pv 0) pe_str rfl) (pss_cons (ps_fld (pv 0) (pe_glob (v := .ref (c_EMPTY K)) rfl (g_EMPTY T) rfl) rfl) (pss_cons (ps_fld (pv 0) (pe_glob (v := .ref (c_EMPTY K)) rfl (g_EMPTY T) rfl) rfl) (pss_cons (ps_fld (pv 0) pe_int rfl) (pss_cons (ps_fld (pv 0) pe_bl rfl) (pss_one (ps_fld (pv 0) pe_non rfl)))))))), ?_⟩
    walk_at "ds"
    walk_at "go"
    rename_i H7 h7 t7
    have tt : Tk H H7 := by walk_at "tk"
    exact q _ _ h7 tt ⟨dx, a, _, _, rfl, sq_tk ha tt, ⟨_, rfl, t_EMPTY T _⟩, t_EMPTY T _, hh⟩
theorem ok_Pop_step (T : Tx K mg) : FnG P w K mg base (lv_Pop_step + 1) at_Pop_step ["self", "memory"] (spPopStep P w K) := by
  refine FnG.of (fd_Pop_step T) sc_Pop_step (by walk_at "ln") (fun cdv A outer s H vs Q E hr h => ?_)
  · obtain ⟨p, m, dm, d, n, xs, mm, ⟨hd, ph, raw, below⟩, o, R, rfl, h0, ⟨dx, vh, tt, vr, rfl, h1, h2, h3, h4⟩, mr, hl, q⟩ := h
    dsimp only at h1 h2 h3 h4 h0
    cases ph with
    | head =>
      have hu := hu_of hr
      refine ⟨_, (pss_one (ps_if (pt_cmpR op_eq (pe_fld (pv 0) rfl) pe_str (nomark _)) (pss_cons (ps_fld (pv 0) (pe_m (pv 1) (k_Memory T) (me_Memory_read T) (ok_Memory_read T) (hr.mono (by decide)) (pa_cons (pe_fld (pv 0) rfl) pa_nil)) rfl) (pss_cons (ps_fld (pv 0) (pe_g (ok_head_value T) (hr.mono (by decide)) (g_head_value T) (pa_cons (pe_fld (pv 0) rfl) pa_nil)) rfl) (pss_cons (ps_if (pt_cmpR op_eq (pe_ix ix_tup (pe_fld (pv 0) rfl) pe_int (fun _ _ => rfl)) pe_int (nomark _)) (pss_one (ps_fld (pv 0) pe_bl rfl)) pss_nil) (pss_one (ps_fld (pv 0) pe_str rfl))))) (pss_one (ps_if (pt_cmpR op_eq (pe_fld (pv 0) rfl) pe_str (nomark _)) (pss_cons (ps_fld (pv 0) (pe_m (pv 1) (k_Memory T) (me_Memory_read T) (ok_Memory_read T) (hr.mono (by decide)) (pa_cons (pe_g (ok_next_cell T) (hr.mono (by decide)) (g_next_cell T) (pa_cons (pe_fld (pv 0) rfl) (pa_cons (pe_op op_sub (pe_ix ix_tup (pe_fld (pv 0) rfl) pe_int (fun _ _ => rfl)) pe_int) pa_nil))) pa_nil)) rfl) (pss_one (ps_fld (pv 0) pe_str rfl))) (pss_one (ps_if (pt_val (pe_m (pv 1) (k_Memory T) (me_Memory_swap T) (ok_Memory_swap T) (hr.mono (by decide)) (pa_cons (pe_fld (pv 0) rfl) (pa_cons (pe_fld (pv 0) rfl) (pa_cons (pe_tup (pa_cons (pe_fld (pv 0) rfl) (pa_cons (pe_op op_add (pe_ix ix_tup (pe_fld (pv 0) rfl) pe_int (fun _ _ => rfl)) pe_int) pa_nil))) pa_nil))))) (pss_cons (ps_fld (pv 0) (pe_op op_sub (pe_ix ix_tup (pe_fld (pv 0) rfl) pe_int (fun _ _ => rfl)) pe_int) rfl) (pss_one (ps_fld (pv 0) pe_bl rfl))) (pss_one (ps_fld (pv 0) pe_str rfl)))))))), ?_⟩
      walk_at "ds"
      walk_at "go"
      walk_at "nil"
      refine rd_mem (ce := hd) (by walk_at "hp") mr (by walk_at "sq") ?_
      intro H1 v1 k1 t1 mr1 hv1
      walk_at "go"
      walk_at "nil"
      rename_i H2 k2 t2
      refine ⟨_, _, rfl, hv1.tk t2, hv_of mr.2.1 h4, fun t ht => ?_⟩
      walk_at "go"
      rename_i H3 k3 t3
      have ht3 := sq_tk ht t3
      have tt3 : Tk H H3 := by walk_at "tk"
      by_cases e : (hdv (mm hd)).1 = 0
      · refine if_t (decide_eq_true (by rw [e])) ?_
        walk_at "go"
        rename_i H5 k5 t5
        have tt5 : Tk H H5 := by walk_at "tk"
        have tt13 : Tk H1 H5 := by walk_at "tk"
        have e2 : popStep ⟨hd, .head, raw, below⟩ mm = (mm, .inr (mm hd, none)) := if_pos e
        refine q H5 xs _ (by walk_at "hp") tt5 (by rw [e2]; exact mr.tk tt5) (Nat.le_succ _) ?_
        rw [e2]
        exact ⟨dx, _, _, _, _, _, rfl, hv1.tk tt13⟩
      · refine if_f (decide_eq_false (fun z => e (by injection z))) ?_
        walk_at "go"
        rename_i H5 k5 t5
        have tt5 : Tk H H5 := by walk_at "tk"
        have tt13 : Tk H1 H5 := by walk_at "tk"
        have e2 : popStep ⟨hd, .head, raw, below⟩ mm = (mm, .inl ⟨hd, .below, mm hd, below⟩) := if_neg e
        refine q H5 xs _ (by walk_at "hp") tt5 (by rw [e2]; exact mr.tk tt5) (Nat.le_succ _) ?_
        rw [e2]
        exact ⟨dx, vh, t, v1, rfl, sq_tk h1 tt5, hv1.tk tt13, sq_tk ht3 t5, h4⟩
    | below =>
      have hu := hu_of hr
      refine ⟨_, (pss_one (ps_if (pt_cmpR op_eq (pe_fld (pv 0) rfl) pe_str (nomark _)) (pss_cons (ps_fld (pv 0) (pe_m (pv 1) (k_Memory T) (me_Memory_read T) (ok_Memory_read T) (hr.mono (by decide)) (pa_cons (pe_fld (pv 0) rfl) pa_nil)) rfl) (pss_cons (ps_fld (pv 0) (pe_g (ok_head_value T) (hr.mono (by decide)) (g_head_value T) (pa_cons (pe_fld (pv 0) rfl) pa_nil)) rfl) (pss_cons (ps_if (pt_cmpR op_eq (pe_ix ix_tup (pe_fld (pv 0) rfl) pe_int (fun _ _ => rfl)) pe_int (nomark _)) (pss_one (ps_fld (pv 0) pe_bl rfl)) pss_nil) (pss_one (ps_fld (pv 0) pe_str rfl))))) (pss_one (ps_if (pt_cmpR op_eq (pe_fld (pv 0) rfl) pe_str (nomark _)) (pss_cons (ps_fld (pv 0) (pe_m (pv 1) (k_Memory T) (me_Memory_read T) (ok_Memory_read T) (hr.mono (by decide)) (pa_cons (pe_g (ok_next_cell T) (hr.mono (by decide)) (g_next_cell T) (pa_cons (pe_fld (pv 0) rfl) (pa_cons (pe_op op_sub (pe_ix ix_tup (pe_fld (pv 0) rfl) pe_int (fun _ _ => rfl)) pe_int) pa_nil))) pa_nil)) rfl) (pss_one (ps_fld (pv 0) pe_str rfl))) (pss_one (ps_if (pt_val (pe_m (pv 1) (k_Memory T) (me_Memory_swap T) (ok_Memory_swap T) (hr.mono (by decide)) (pa_cons (pe_fld (pv 0) rfl) (pa_cons (pe_fld (pv 0) rfl) (pa_cons (pe_tup (pa_cons (pe_fld (pv 0) rfl) (pa_cons (pe_op op_add (pe_ix ix_tup (pe_fld (pv 0) rfl) pe_int (fun _ _ => rfl)) pe_int) pa_nil))) pa_nil))))) (pss_cons (ps_fld (pv 0) (pe_op op_sub (pe_ix ix_tup (pe_fld (pv 0) rfl) pe_int (fun _ _ => rfl)) pe_int) rfl) (pss_one (ps_fld (pv 0) pe_bl rfl))) (pss_one (ps_fld (pv 0) pe_str rfl)))))))), ?_⟩
      walk_at "ds"
      walk_at "go"
      walk_at "nil"
      refine ⟨vh, hd, _, rfl, (by walk_at "sq"), h4, fun t H1 g1 t1 ht => ?_⟩
      have k1 := g1 _ h0
      walk_at "nil"
      refine rd_mem (ce := bel hd ((hdv raw).1 - 1)) (by walk_at "hp") (mr.tk t1) ht ?_
      intro H2 v2 k2 t2 mr2 hv2
      have ev : v2 = .int (num (mm (bel hd ((hdv raw).1 - 1)))) := by
        rw [bel_num mr.2.1] at hv2
        exact hv2
      subst ev
      walk_at "go"
      rename_i H5 k5 t5
      have tt5 : Tk H H5 := by walk_at "tk"
      refine q H5 xs _ (by walk_at "hp") tt5 (mr.tk tt5) (Nat.le_succ _) ?_
      exact ⟨dx, vh, tt, vr, rfl, sq_tk h1 tt5, h2.tk tt5, sq_tk h3 tt5, h4⟩
    | swap =>
      have hu := hu_of hr
      refine ⟨_, (pss_one (ps_if (pt_cmpR op_eq (pe_fld (pv 0) rfl) pe_str (nomark _)) (pss_cons (ps_fld (pv 0) (pe_m (pv 1) (k_Memory T) (me_Memory_read T) (ok_Memory_read T) (hr.mono (by decide)) (pa_cons (pe_fld (pv 0) rfl) pa_nil)) rfl) (pss_cons (ps_fld (pv 0) (pe_g (ok_head_value T) (hr.mono (by decide)) (g_head_value T) (pa_cons (pe_fld (pv 0) rfl) pa_nil)) rfl) (pss_cons (ps_if (pt_cmpR op_eq (pe_ix ix_tup (pe_fld (pv 0) rfl) pe_int (fun _ _ => rfl)) pe_int (nomark _)) (pss_one (ps_fld (pv 0) pe_bl rfl)) pss_nil) (pss_one (ps_fld (pv 0) pe_str rfl))))) (pss_one (ps_if (pt_cmpR op_eq (pe_fld (pv 0) rfl) pe_str (nomark _)) (pss_cons (ps_fld (pv 0) (pe_m (pv 1) (k_Memory T) (me_Memory_read T) (ok_Memory_read T) (hr.mono (by decide)) (pa_cons (pe_g (ok_next_cell T) (hr.mono (by decide)) (g_next_cell T) (pa_cons (pe_fld (pv 0) rfl) (pa_cons (pe_op op_sub (pe_ix ix_tup (pe_fld (pv 0) rfl) pe_int (fun _ _ => rfl)) pe_int) pa_nil))) pa_nil)) rfl) (pss_one (ps_fld (pv 0) pe_str rfl))) (pss_one (ps_if (pt_val (pe_m (pv 1) (k_Memory T) (me_Memory_swap T) (ok_Memory_swap T) (hr.mono (by decide)) (pa_cons (pe_fld (pv 0) rfl) (pa_cons (pe_fld (pv 0) rfl) (pa_cons (pe_tup (pa_cons (pe_fld (pv 0) rfl) (pa_cons (pe_op op_add (pe_ix ix_tup (pe_fld (pv 0) rfl) pe_int (fun _ _ => rfl)) pe_int) pa_nil))) pa_nil))))) (pss_cons (ps_fld (pv 0) (pe_op op_sub (pe_ix ix_tup (pe_fld (pv 0) rfl) pe_int (fun _ _ => rfl)) pe_int) rfl) (pss_one (ps_fld (pv 0) pe_bl rfl))) (pss_one (ps_fld (pv 0) pe_str rfl)))))))), ?_⟩
      walk_at "ds"
      walk_at "go"
      refine ⟨by show 2 ≤ sizeLine; decide, fun t nt => ?_⟩
      have k1 := h0.skip (o := .tup [.int below, .int ((hdv raw).2 + 1)]) nt
      have t1 := Tk.new (o := .tup [.int below, .int ((hdv raw).2 + 1)]) nt
      have st : SqT K (upd H t (.tup [.int below, .int ((hdv raw).2 + 1)])) t [.int below, .int ((hdv raw).2 + 1)] := sqt_new
      generalize upd H t (.tup [.int below, .int ((hdv raw).2 + 1)]) = H1 at k1 t1 st ⊢
      walk_at "nil"
      refine sw_mem (ce := hd) (co := raw) (cv := .p below ((hdv raw).2 + 1)) (by walk_at "hp") (mr.tk t1) (by walk_at "sq") (h2.tk t1) ⟨t, rfl, st⟩ (ty_pair h4 _ _) hl ?_
      intro H2 xs2 k2 t2 mr2 l2
      refine ⟨_, rfl, ?_⟩
      by_cases e : mm hd = raw
      · refine if_t (decide_eq_true e) ?_
        rw [if_pos e] at mr2
        walk_at "go"
        rename_i H5 k5 t5
        have tt5 : Tk H H5 := by walk_at "tk"
        have tt2 : Tk H2 H5 := by walk_at "tk"
        have e2 : popStep ⟨hd, .swap, raw, below⟩ mm = (mm.set hd (.p below ((hdv raw).2 + 1)), .inr (raw, some ((hdv raw).1 - 1))) := if_pos e
        refine q H5 xs2 _ (by walk_at "hp") tt5 (by rw [e2]; exact mr2.tk tt2) l2 ?_
        rw [e2]
        exact ⟨dx, _, _, _, _, _, rfl, h2.tk tt5⟩
      · refine if_f (decide_eq_false e) ?_
        rw [if_neg e] at mr2
        walk_at "go"
        rename_i H5 k5 t5
        have tt5 : Tk H H5 := by walk_at "tk"
        have tt2 : Tk H2 H5 := by walk_at "tk"
        have e2 : popStep ⟨hd, .swap, raw, below⟩ mm = (mm, .inl ⟨hd, .head, raw, below⟩) := if_neg e
        refine q H5 xs2 _ (by walk_at "hp") tt5 (by rw [e2]; exact mr2.tk tt2) l2 ?_
        rw [e2]
        exact ⟨dx, vh, tt, vr, rfl, sq_tk h1 tt5, h2.tk tt5, sq_tk h3 tt5, h4⟩
end

/-! ## Mch2 -/
set_option Elab.async false
set_option linter.all false
set_option maxRecDepth 100000
set_option maxHeartbeats 4000000
section
variable {P : Program} {w : World} {K : PySem.W.Frag} {mg : Str → Option Value} {base : Heap}
def spPushInit (K : PySem.W.Frag) : Sp := fun vs H Q _ => ∃ (p h dx : Addr) (hd : Cell) (i : Int) (R : List (Addr × HO)), vs = [.ref p, .ref h, .int i] ∧ Has ((p, .ins (c_Push K) dx []) :: R) H ∧ SqT K H h (hd.key.map kV) ∧ isHead hd = true ∧
  ∀ H' o, Has ((p, o) :: R) H' → Tk H H' → PushR K H' (pushNew hd i) o → Q .non H'
def spPushStep (P : Program) (w : World) (K : PySem.W.Frag) : Sp := fun vs H Q _ => ∃ (p m dm d : Addr) (n : Int) (xs : List Ent) (mm : Mem) (s : PushS) (o : HO) (R : List (Addr × HO)), vs = [.ref p, .ref m] ∧ HasM P w K m dm d n xs ((p, o) :: R) H ∧ PushR K H s o ∧ MR K H xs mm ∧ xs.length < sizeLine ∧
  ∀ H' xs' o', HasM P w K m dm d (n + 1) xs' ((p, o') :: R) H' → Tk H H' → MR K H' xs' (pushStep s mm).1 → xs'.length ≤ xs.length + 1 → PushO K H' (pushStep s mm).2 o' → Q .non H'
theorem ok_Push_init (T : Tx K mg) : FnG P w K mg base (lv_Push_init + 1) at_Push_init ["self", "head", "item"] (spPushInit K) := by
  refine FnG.of (fd_Push_init T) sc_Push_init (by walk_at "ln") (fun cdv A outer s H vs Q E hr h => ?_)
  · obtain ⟨p, a, dx, hd, i, R, rfl, h0, ha, hh, q⟩ := h
    have hu := hu_of hr
    refine ⟨_, (pss_cons (ps_fld (pv 0) (pv 1) rfl) (pss_cons (ps_fld (pv 0) (pv 2) rfl) (pss_cons (ps_fld (pv 0) pe_str rfl) (pss_cons (ps_fld (pv 0) (pe_glob (v := .ref (c_EMPTY K)) rfl (g_EMPTY T) rfl) rfl) (pss_cons (ps_fld (pv 0) (pe_glob (v := .ref (c_EMPTY K)) rfl (g_EMPTY T) rfl) rfl) (pss_one (ps_fld (pv 0) pe_bl rfl))))))), ?_⟩
    walk_at "ds"
    walk_at "go"
    rename_i H7 h7 t7
    have tt : Tk H H7 := by walk_at "tk"
    exact q _ _ h7 tt ⟨dx, a, _, _, rfl, sq_tk ha tt, ⟨_, rfl, t_EMPTY T _⟩, t_EMPTY T _, hh⟩
theorem ok_Push_step (T : Tx K mg) : FnG P w K mg base (lv_Push_step + 1) at_Push_step ["self", "memory"] (spPushStep P w K) := by
  refine FnG.of (fd_Push_step T) sc_Push_step (by walk_at "ln") (fun cdv A outer s H vs Q E hr h => ?_)
  · obtain ⟨p, m, dm, d, n, xs, mm, ⟨hd, item, ph, raw⟩, o, R, rfl, h0, ⟨dx, vh, tt, vr, rfl, h1, h2, h3, h4⟩, mr, hl, q⟩ := h
    dsimp only at h1 h2 h3 h4 h0
    cases ph with
    | head =>
      have hu := hu_of hr
      refine ⟨_, (pss_one (ps_if (pt_cmpR op_eq (pe_fld (pv 0) rfl) pe_str (nomark _)) (pss_cons (ps_fld (pv 0) (pe_m (pv 1) (k_Memory T) (me_Memory_read T) (ok_Memory_read T) (hr.mono (by decide)) (pa_cons (pe_fld (pv 0) rfl) pa_nil)) rfl) (pss_cons (ps_fld (pv 0) (pe_g (ok_head_value T) (hr.mono (by decide)) (g_head_value T) (pa_cons (pe_fld (pv 0) rfl) pa_nil)) rfl) (pss_one (ps_fld (pv 0) pe_str rfl)))) (pss_one (ps_if (pt_cmpR op_eq (pe_fld (pv 0) rfl) pe_str (nomark _)) (pss_cons (ps_expr (pe_m (pv 1) (k_Memory T) (me_Memory_write T) (ok_Memory_write T) (hr.mono (by decide)) (pa_cons (pe_g (ok_next_cell T) (hr.mono (by decide)) (g_next_cell T) (pa_cons (pe_fld (pv 0) rfl) (pa_cons (pe_fld (pv 0) rfl) pa_nil))) (pa_cons (pe_ix ix_tup (pe_fld (pv 0) rfl) pe_int (fun _ _ => rfl)) pa_nil)))) (pss_one (ps_fld (pv 0) pe_str rfl))) (pss_one (ps_if (pt_val (pe_m (pv 1) (k_Memory T) (me_Memory_swap T) (ok_Memory_swap T) (hr.mono (by decide)) (pa_cons (pe_fld (pv 0) rfl) (pa_cons (pe_fld (pv 0) rfl) (pa_cons (pe_tup (pa_cons (pe_op op_add (pe_fld (pv 0) rfl) pe_int) (pa_cons (pe_op op_add (pe_ix ix_tup (pe_fld (pv 0) rfl) pe_int (fun _ _ => rfl)) pe_int) pa_nil))) pa_nil))))) (pss_one (ps_fld (pv 0) pe_bl rfl)) (pss_one (ps_fld (pv 0) pe_str rfl)))))))), ?_⟩
      walk_at "ds"
      walk_at "go"
      walk_at "nil"
      refine rd_mem (ce := hd) (by walk_at "hp") mr (by walk_at "sq") ?_
      intro H1 v1 k1 t1 mr1 hv1
      walk_at "go"
      walk_at "nil"
      rename_i H2 k2 t2
      refine ⟨_, _, rfl, hv1.tk t2, hv_of mr.2.1 h4, fun t ht => ?_⟩
      walk_at "go"
      rename_i H5 k5 t5
      have tt5 : Tk H H5 := by walk_at "tk"
      have tt13 : Tk H1 H5 := by walk_at "tk"
      have tt23 : Tk H2 H5 := by walk_at "tk"
      refine q H5 xs _ (by walk_at "hp") tt5 (mr.tk tt5) (Nat.le_succ _) ?_
      exact ⟨dx, vh, t, v1, rfl, sq_tk h1 tt5, hv1.tk tt13, sq_tk ht tt23, h4⟩
    | below =>
      have hu := hu_of hr
      refine ⟨_, (pss_one (ps_if (pt_cmpR op_eq (pe_fld (pv 0) rfl) pe_str (nomark _)) (pss_cons (ps_fld (pv 0) (pe_m (pv 1) (k_Memory T) (me_Memory_read T) (ok_Memory_read T) (hr.mono (by decide)) (pa_cons (pe_fld (pv 0) rfl) pa_nil)) rfl) (pss_cons (ps_fld (pv 0) (pe_g (ok_head_value T) (hr.mono (by decide)) (g_head_value T) (pa_cons (pe_fld (pv 0) rfl) pa_nil)) rfl) (pss_one (ps_fld (pv 0) pe_str rfl)))) (pss_one (ps_if (pt_cmpR op_eq (pe_fld (pv 0) rfl) pe_str (nomark _)) (pss_cons (ps_expr (pe_m (pv 1) (k_Memory T) (me_Memory_write T) (ok_Memory_write T) (hr.mono (by decide)) (pa_cons (pe_g (ok_next_cell T) (hr.mono (by decide)) (g_next_cell T) (pa_cons (pe_fld (pv 0) rfl) (pa_cons (pe_fld (pv 0) rfl) pa_nil))) (pa_cons (pe_ix ix_tup (pe_fld (pv 0) rfl) pe_int (fun _ _ => rfl)) pa_nil)))) (pss_one (ps_fld (pv 0) pe_str rfl))) (pss_one (ps_if (pt_val (pe_m (pv 1) (k_Memory T) (me_Memory_swap T) (ok_Memory_swap T) (hr.mono (by decide)) (pa_cons (pe_fld (pv 0) rfl) (pa_cons (pe_fld (pv 0) rfl) (pa_cons (pe_tup (pa_cons (pe_op op_add (pe_fld (pv 0) rfl) pe_int) (pa_cons (pe_op op_add (pe_ix ix_tup (pe_fld (pv 0) rfl) pe_int (fun _ _ => rfl)) pe_int) pa_nil))) pa_nil))))) (pss_one (ps_fld (pv 0) pe_bl rfl)) (pss_one (ps_fld (pv 0) pe_str rfl)))))))), ?_⟩
      walk_at "ds"
      walk_at "go"
      walk_at "nil"
      refine ⟨vh, hd, _, rfl, (by walk_at "sq"), h4, fun t H1 g1 t1 ht => ?_⟩
      have k1 := g1 _ h0
      clear g1
      walk_at "go"
      walk_at "nil"
      refine wr_mem (ce := bel hd item) (cv := .n (hdv raw).1) (by walk_at "hp") (mr.tk t1) ht rfl (ty_bel _ _ _) hl ?_
      intro H2 xs2 k2 t2 mr2 l2
      walk_at "go"
      rename_i H5 k5 t5
      have tt5 : Tk H H5 := by walk_at "tk"
      refine q H5 xs2 _ (by walk_at "hp") tt5 (mr2.tk t5) l2 ?_
      exact ⟨dx, vh, tt, vr, rfl, sq_tk h1 tt5, h2.tk tt5, sq_tk h3 tt5, h4⟩
    | swap =>
      have hu := hu_of hr
      refine ⟨_, (pss_one (ps_if (pt_cmpR op_eq (pe_fld (pv 0) rfl) pe_str (nomark _)) (pss_cons (ps_fld (pv 0) (pe_m (pv 1) (k_Memory T) (me_Memory_read T) (ok_Memory_read T) (hr.mono (by decide)) (pa_cons (pe_fld (pv 0) rfl) pa_nil)) rfl) (pss_cons (ps_fld (pv 0) (pe_g (ok_head_value T) (hr.mono (by decide)) (g_head_value T) (pa_cons (pe_fld (pv 0) rfl) pa_nil)) rfl) (pss_one (ps_fld (pv 0) pe_str rfl)))) (pss_one (ps_if (pt_cmpR op_eq (pe_fld (pv 0) rfl) pe_str (nomark _)) (pss_cons (ps_expr (pe_m (pv 1) (k_Memory T) (me_Memory_write T) (ok_Memory_write T) (hr.mono (by decide)) (pa_cons (pe_g (ok_next_cell T) (hr.mono (by decide)) (g_next_cell T) (pa_cons (pe_fld (pv 0) rfl) (pa_cons (pe_fld (pv 0) rfl) pa_nil))) (pa_cons (pe_ix ix_tup (pe_fld (pv 0) rfl) pe_int (fun _ _ => rfl)) pa_nil)))) (pss_one (ps_fld (pv 0) pe_str rfl))) (pss_one (ps_if (pt_val (pe_m (pv 1) (k_Memory T) (me_Memory_swap T) (ok_Memory_swap T) (hr.mono (by decide)) (pa_cons (pe_fld (pv 0) rfl) (pa_cons (pe_fld (pv 0) rfl) (pa_cons (pe_tup (pa_cons (pe_op op_add (pe_fld (pv 0) rfl) pe_int) (pa_cons (pe_op op_add (pe_ix ix_tup (pe_fld (pv 0) rfl) pe_int (fun _ _ => rfl)) pe_int) pa_nil))) pa_nil))))) (pss_one (ps_fld (pv 0) pe_bl rfl)) (pss_one (ps_fld (pv 0) pe_str rfl)))))))), ?_⟩
      walk_at "ds"
      walk_at "go"
      refine ⟨by show 2 ≤ sizeLine; decide, fun t nt => ?_⟩
      have k1 := h0.skip (o := .tup [.int (item + 1), .int ((hdv raw).2 + 1)]) nt
      have t1 := Tk.new (o := .tup [.int (item + 1), .int ((hdv raw).2 + 1)]) nt
      have st : SqT K (upd H t (.tup [.int (item + 1), .int ((hdv raw).2 + 1)])) t [.int (item + 1), .int ((hdv raw).2 + 1)] := sqt_new
      generalize upd H t (.tup [.int (item + 1), .int ((hdv raw).2 + 1)]) = H1 at k1 t1 st ⊢
      walk_at "nil"
      refine sw_mem (ce := hd) (co := raw) (cv := .p (item + 1) ((hdv raw).2 + 1)) (by walk_at "hp") (mr.tk t1) (by walk_at "sq") (h2.tk t1) ⟨t, rfl, st⟩ (ty_pair h4 _ _) hl ?_
      intro H2 xs2 k2 t2 mr2 l2
      refine ⟨_, rfl, ?_⟩
      by_cases e : mm hd = raw
      · refine if_t (decide_eq_true e) ?_
        rw [if_pos e] at mr2
        walk_at "go"
        rename_i H5 k5 t5
        have tt5 : Tk H H5 := by walk_at "tk"
        have e2 : pushStep ⟨hd, item, .swap, raw⟩ mm = (mm.set hd (.p (item + 1) ((hdv raw).2 + 1)), none) := if_pos e
        refine q H5 xs2 _ (by walk_at "hp") tt5 (by rw [e2]; exact mr2.tk t5) l2 ?_
        rw [e2]
        exact ⟨dx, _, _, _, _, _, rfl⟩
      · refine if_f (decide_eq_false e) ?_
        rw [if_neg e] at mr2
        walk_at "go"
        rename_i H5 k5 t5
        have tt5 : Tk H H5 := by walk_at "tk"
        have e2 : pushStep ⟨hd, item, .swap, raw⟩ mm = (mm, some ⟨hd, item, .head, raw⟩) := if_neg e
        refine q H5 xs2 _ (by walk_at "hp") tt5 (by rw [e2]; exact mr2.tk t5) l2 ?_
        rw [e2]
        exact ⟨dx, vh, tt, vr, rfl, sq_tk h1 tt5, h2.tk tt5, sq_tk h3 tt5, h4⟩
/-- TakeAll: beside it its list -/
def TakeR (K : PySem.W.Frag) (H : Hp) (s : TakeS) (l : Addr) (o : HO) : Prop := ∃ (dx vh t : Addr) (vr : V), o = .ins (c_TakeAll K) dx (f_TakeAll (.ref vh) (.str s.ph.txt) vr (.ref t) (.int s.top) (.ref l) (.bl false)) ∧
  SqT K H vh (s.hd.key.map kV) ∧ VRel K H vr s.raw ∧ SqT K H t [.int (hdv s.raw).1, .int (hdv s.raw).2] ∧ isHead s.hd = true
theorem TakeR.tk {H H' : Hp} {s : TakeS} {l : Addr} {o : HO} (h : TakeR K H s l o) (t : Tk H H') : TakeR K H' s l o :=
  let ⟨dx, vh, a, vr, e, h1, h2, h3, h4⟩ := h; ⟨dx, vh, a, vr, e, t _ _ _ h1, h2.tk t, t _ _ _ h3, h4⟩
/-- done: the phase is not asked again -/
def TakeD (K : PySem.W.Frag) (H : Hp) (hd : Cell) (l : Addr) (o : HO) : Prop := ∃ (dx vh : Addr) (ph : Str) (b c : V), o = .ins (c_TakeAll K) dx (f_TakeAll (.ref vh) (.str ph) b c (.int 0) (.ref l) (.bl true)) ∧ SqT K H vh (hd.key.map kV)
def TakeO (K : PySem.W.Frag) (H : Hp) (hd : Cell) (l : Addr) : TakeS ⊕ List Int → HO → Prop
  | .inl s, o => TakeR K H s l o
  | .inr _, o => TakeD K H hd l o
def takenOf : TakeS ⊕ List Int → List Int
  | .inl s => s.taken
  | .inr r => r
def spTakeInit (K : PySem.W.Frag) : Sp := fun vs H Q _ => ∃ (p h dx : Addr) (hd : Cell) (R : List (Addr × HO)), vs = [.ref p, .ref h] ∧ Has ((p, .ins (c_TakeAll K) dx []) :: R) H ∧ SqT K H h (hd.key.map kV) ∧ isHead hd = true ∧
  ∀ H' l o, Has ((p, o) :: (l, .lst []) :: R) H' → Tk H H' → TakeR K H' (takeNew hd) l o → Q .non H'
def spTakeStep (P : Program) (w : World) (K : PySem.W.Frag) : Sp := fun vs H Q _ => ∃ (p m dm d l : Addr) (n : Int) (xs : List Ent) (mm : Mem) (s : TakeS) (o : HO) (R : List (Addr × HO)), vs = [.ref p, .ref m] ∧
  HasM P w K m dm d n xs ((p, o) :: (l, .lst (s.taken.map V.int)) :: R) H ∧ TakeR K H s l o ∧ MR K H xs mm ∧ xs.length < sizeLine ∧ s.taken.length < 1000 ∧ (s.ph ≠ .walk → s.top = 0) ∧
  ∀ H' xs' o', HasM P w K m dm d (n + 1) xs' ((p, o') :: (l, .lst ((takenOf (takeStep s mm).2).map V.int)) :: R) H' → Tk H H' → MR K H' xs' (takeStep s mm).1 → xs'.length ≤ xs.length + 1 → TakeO K H' s.hd l (takeStep s mm).2 o' → Q .non H'
theorem ok_TakeAll_init (T : Tx K mg) : FnG P w K mg base (lv_TakeAll_init + 1) at_TakeAll_init ["self", "head"] (spTakeInit K) := by
  refine FnG.of (fd_TakeAll_init T) sc_TakeAll_init (by walk_at "ln") (fun cdv A outer s H vs Q E hr h => ?_)
  · obtain ⟨p, a, dx, hd, R, rfl, h0, ha, hh, q⟩ := h
    have hu := hu_of hr
    refine ⟨_, (pss_cons (ps_fld (pv 0) (pv 1) rfl) (pss_cons (ps_fld (pv 0) pe_str rfl) (pss_cons (ps_fld (pv 0) (pe_glob (v := .ref (c_EMPTY K)) rfl (g_EMPTY T) rfl) rfl) (pss_cons (ps_fld (pv 0) (pe_glob (v := .ref (c_EMPTY K)) rfl (g_EMPTY T) rfl) rfl) (pss_cons (ps_fld (pv 0) pe_int rfl) (pss_cons (ps_fld (pv 0) (pe_lst pa_nil) rfl) (pss_one (ps_fld (pv 0) pe_bl rfl)))))))), ?_⟩
    walk_at "ds"
    walk_at "go"
    refine ⟨Nat.zero_le _, fun l nl => ?_⟩
    rename_i H6 h6 t6
    have h7 := h6.new (o := .lst []) nl
    have t7 := Tk.new (o := .lst []) nl
    generalize upd H6 l (.lst []) = H7 at h7 t7 ⊢
    walk_at "go"
    rename_i H8 h8 t8
    have tt : Tk H H8 := by walk_at "tk"
    exact q _ l _ (by walk_at "hp") tt ⟨dx, a, _, _, rfl, sq_tk ha tt, ⟨_, rfl, t_EMPTY T _⟩, t_EMPTY T _, hh⟩
end

/-! ## Mch3 -/
set_option Elab.async false
set_option linter.all false
set_option maxRecDepth 100000
set_option maxHeartbeats 4000000
section
variable {P : Program} {w : World} {K : PySem.W.Frag} {mg : Str → Option Value} {base : Heap}
theorem ok_TakeAll_step (T : Tx K mg) : FnG P w K mg base (lv_TakeAll_step + 1) at_TakeAll_step ["self", "memory"] (spTakeStep P w K) := by
  refine FnG.of (fd_TakeAll_step T) sc_TakeAll_step (by walk_at "ln") (fun cdv A outer s H vs Q E hr h => ?_)
  · obtain ⟨p, m, dm, d, l, n, xs, mm, ⟨hd, ph, raw, top, taken⟩, o, R, rfl, h0, ⟨dx, vh, tt, vr, rfl, h1, h2, h3, h4⟩, mr, hl, hlt, htop, q⟩ := h
    dsimp only at h1 h2 h3 h4 h0 hlt htop
    cases ph with
    | head =>
      obtain rfl : top = 0 := htop (by decide)
      have hu := hu_of hr
      refine ⟨_, (pss_one (ps_if (pt_cmpR op_eq (pe_fld (pv 0) rfl) pe_str (nomark _)) (pss_cons (ps_fld (pv 0) (pe_m (pv 1) (k_Memory T) (me_Memory_read T) (ok_Memory_read T) (hr.mono (by decide)) (pa_cons (pe_fld (pv 0) rfl) pa_nil)) rfl) (pss_cons (ps_fld (pv 0) (pe_g (ok_head_value T) (hr.mono (by decide)) (g_head_value T) (pa_cons (pe_fld (pv 0) rfl) pa_nil)) rfl) (pss_cons (ps_fld (pv 0) pe_str rfl) (pss_one (ps_if (pt_cmpR op_eq (pe_ix ix_tup (pe_fld (pv 0) rfl) pe_int (fun _ _ => rfl)) pe_int (nomark _)) (pss_one (ps_fld (pv 0) pe_bl rfl)) pss_nil))))) (pss_one (ps_if (pt_cmpR op_eq (pe_fld (pv 0) rfl) pe_str (nomark _)) (pss_one (ps_if (pt_val (pe_m (pv 1) (k_Memory T) (me_Memory_swap T) (ok_Memory_swap T) (hr.mono (by decide)) (pa_cons (pe_fld (pv 0) rfl) (pa_cons (pe_fld (pv 0) rfl) (pa_cons (pe_tup (pa_cons pe_int (pa_cons (pe_op op_add (pe_ix ix_tup (pe_fld (pv 0) rfl) pe_int (fun _ _ => rfl)) pe_int) pa_nil))) pa_nil))))) (pss_cons (ps_fld (pv 0) pe_str rfl) (pss_one (ps_fld (pv 0) (pe_ix ix_tup (pe_fld (pv 0) rfl) pe_int (fun _ _ => rfl)) rfl))) (pss_one (ps_fld (pv 0) pe_str rfl)))) (pss_cons (ps_expr (pe_bm PySem.F.plainAttrs_list PySem.F.slot_list_append PySem.F.type_list_append mt_append (pe_fld (pv 0) rfl) (pa_cons (pe_op op_sub (pe_fld (pv 0) rfl) pe_int) pa_nil))) (pss_cons (ps_fld (pv 0) (pe_m (pv 1) (k_Memory T) (me_Memory_read T) (ok_Memory_read T) (hr.mono (by decide)) (pa_cons (pe_g (ok_next_cell T) (hr.mono (by decide)) (g_next_cell T) (pa_cons (pe_fld (pv 0) rfl) (pa_cons (pe_op op_sub (pe_fld (pv 0) rfl) pe_int) pa_nil))) pa_nil)) rfl) (pss_one (ps_if (pt_cmpR op_eq (pe_fld (pv 0) rfl) pe_int (nomark _)) (pss_one (ps_fld (pv 0) pe_bl rfl)) pss_nil)))))))), ?_⟩
      walk_at "ds"
      walk_at "go"
      walk_at "nil"
      refine rd_mem (ce := hd) (by walk_at "hp") mr (by walk_at "sq") ?_
      intro H1 v1 k1 t1 mr1 hv1
      walk_at "go"
      walk_at "nil"
      rename_i H2 k2 t2
      refine ⟨_, _, rfl, hv1.tk t2, hv_of mr.2.1 h4, fun t ht => ?_⟩
      walk_at "go"
      rename_i H4 k4 t4
      have ht4 : SqT K H4 t _ := (by walk_at "sq")
      by_cases e : (hdv (mm hd)).1 = 0
      · refine if_t (decide_eq_true (by rw [e])) ?_
        walk_at "go"
        rename_i H5 k5 t5
        have tt5 : Tk H H5 := by walk_at "tk"
        have e2 : takeStep ⟨hd, .head, raw, 0, taken⟩ mm = (mm, .inr taken) := if_pos e
        refine q H5 xs _ (by rw [e2]; walk_at "hp") tt5 (by rw [e2]; exact mr.tk tt5) (Nat.le_succ _) ?_
        rw [e2]
        exact ⟨dx, vh, _, _, _, rfl, sq_tk h1 tt5⟩
      · refine if_f (decide_eq_false (fun z => e (by injection z))) ?_
        walk_at "go"
        have tt5 : Tk H H4 := by walk_at "tk"
        have tt13 : Tk H1 H4 := by walk_at "tk"
        have e2 : takeStep ⟨hd, .head, raw, 0, taken⟩ mm = (mm, .inl ⟨hd, .swap, mm hd, 0, taken⟩) := if_neg e
        refine q H4 xs _ (by rw [e2]; walk_at "hp") tt5 (by rw [e2]; exact mr.tk tt5) (Nat.le_succ _) ?_
        rw [e2]
        exact ⟨dx, vh, t, v1, rfl, sq_tk h1 tt5, hv1.tk tt13, ht4, h4⟩
    | swap =>
      obtain rfl : top = 0 := htop (by decide)
      have hu := hu_of hr
      refine ⟨_, (pss_one (ps_if (pt_cmpR op_eq (pe_fld (pv 0) rfl) pe_str (nomark _)) (pss_cons (ps_fld (pv 0) (pe_m (pv 1) (k_Memory T) (me_Memory_read T) (ok_Memory_read T) (hr.mono (by decide)) (pa_cons (pe_fld (pv 0) rfl) pa_nil)) rfl) (pss_cons (ps_fld (pv 0) (pe_g (ok_head_value T) (hr.mono (by decide)) (g_head_value T) (pa_cons (pe_fld (pv 0) rfl) pa_nil)) rfl) (pss_cons (ps_fld (pv 0) pe_str rfl) (pss_one (ps_if (pt_cmpR op_eq (pe_ix ix_tup (pe_fld (pv 0) rfl) pe_int (fun _ _ => rfl)) pe_int (nomark _)) (pss_one (ps_fld (pv 0) pe_bl rfl)) pss_nil))))) (pss_one (ps_if (pt_cmpR op_eq (pe_fld (pv 0) rfl) pe_str (nomark _)) (pss_one (ps_if (pt_val (pe_m (pv 1) (k_Memory T) (me_Memory_swap T) (ok_Memory_swap T) (hr.mono (by decide)) (pa_cons (pe_fld (pv 0) rfl) (pa_cons (pe_fld (pv 0) rfl) (pa_cons (pe_tup (pa_cons pe_int (pa_cons (pe_op op_add (pe_ix ix_tup (pe_fld (pv 0) rfl) pe_int (fun _ _ => rfl)) pe_int) pa_nil))) pa_nil))))) (pss_cons (ps_fld (pv 0) pe_str rfl) (pss_one (ps_fld (pv 0) (pe_ix ix_tup (pe_fld (pv 0) rfl) pe_int (fun _ _ => rfl)) rfl))) (pss_one (ps_fld (pv 0) pe_str rfl)))) (pss_cons (ps_expr (pe_bm PySem.F.plainAttrs_list PySem.F.slot_list_append PySem.F.type_list_append mt_append (pe_fld (pv 0) rfl) (pa_cons (pe_op op_sub (pe_fld (pv 0) rfl) pe_int) pa_nil))) (pss_cons (ps_fld (pv 0) (pe_m (pv 1) (k_Memory T) (me_Memory_read T) (ok_Memory_read T) (hr.mono (by decide)) (pa_cons (pe_g (ok_next_cell T) (hr.mono (by decide)) (g_next_cell T) (pa_cons (pe_fld (pv 0) rfl) (pa_cons (pe_op op_sub (pe_fld (pv 0) rfl) pe_int) pa_nil))) pa_nil)) rfl) (pss_one (ps_if (pt_cmpR op_eq (pe_fld (pv 0) rfl) pe_int (nomark _)) (pss_one (ps_fld (pv 0) pe_bl rfl)) pss_nil)))))))), ?_⟩
      walk_at "ds"
      walk_at "go"
      refine ⟨by show 2 ≤ sizeLine; decide, fun t nt => ?_⟩
      have k1 := h0.skip (o := .tup [.int 0, .int ((hdv raw).2 + 1)]) nt
      have t1 := Tk.new (o := .tup [.int 0, .int ((hdv raw).2 + 1)]) nt
      have st : SqT K (upd H t (.tup [.int 0, .int ((hdv raw).2 + 1)])) t [.int 0, .int ((hdv raw).2 + 1)] := sqt_new
      generalize upd H t (.tup [.int 0, .int ((hdv raw).2 + 1)]) = H1 at k1 t1 st ⊢
      walk_at "nil"
      refine sw_mem (ce := hd) (co := raw) (cv := .p 0 ((hdv raw).2 + 1)) (by walk_at "hp") (mr.tk t1) (by walk_at "sq") (h2.tk t1) ⟨t, rfl, st⟩ (ty_pair h4 _ _) hl ?_
      intro H2 xs2 k2 t2 mr2 l2
      refine ⟨_, rfl, ?_⟩
      by_cases e : mm hd = raw
      · refine if_t (decide_eq_true e) ?_
        rw [if_pos e] at mr2
        walk_at "go"
        rename_i H5 k5 t5
        have tt5 : Tk H H5 := by walk_at "tk"
        have tt2 : Tk H2 H5 := by walk_at "tk"
        have e2 : takeStep ⟨hd, .swap, raw, 0, taken⟩ mm = (mm.set hd (.p 0 ((hdv raw).2 + 1)), .inl ⟨hd, .walk, raw, (hdv raw).1, taken⟩) := if_pos e
        refine q H5 xs2 _ (by rw [e2]; walk_at "hp") tt5 (by rw [e2]; exact mr2.tk tt2) l2 ?_
        rw [e2]
        exact ⟨dx, vh, tt, vr, rfl, sq_tk h1 tt5, h2.tk tt5, sq_tk h3 tt5, h4⟩
      · refine if_f (decide_eq_false e) ?_
        rw [if_neg e] at mr2
        walk_at "go"
        rename_i H5 k5 t5
        have tt5 : Tk H H5 := by walk_at "tk"
        have tt2 : Tk H2 H5 := by walk_at "tk"
        have e2 : takeStep ⟨hd, .swap, raw, 0, taken⟩ mm = (mm, .inl ⟨hd, .head, raw, 0, taken⟩) := if_neg e
        refine q H5 xs2 _ (by rw [e2]; walk_at "hp") tt5 (by rw [e2]; exact mr2.tk tt2) l2 ?_
        rw [e2]
        exact ⟨dx, vh, tt, vr, rfl, sq_tk h1 tt5, h2.tk tt5, sq_tk h3 tt5, h4⟩
    | walk =>
      have hs : sizeLine = 16777216 := sizeLine_eq
      have hu := hu_of hr
      refine ⟨_, (pss_one (ps_if (pt_cmpR op_eq (pe_fld (pv 0) rfl) pe_str (nomark _)) (pss_cons (ps_fld (pv 0) (pe_m (pv 1) (k_Memory T) (me_Memory_read T) (ok_Memory_read T) (hr.mono (by decide)) (pa_cons (pe_fld (pv 0) rfl) pa_nil)) rfl) (pss_cons (ps_fld (pv 0) (pe_g (ok_head_value T) (hr.mono (by decide)) (g_head_value T) (pa_cons (pe_fld (pv 0) rfl) pa_nil)) rfl) (pss_cons (ps_fld (pv 0) pe_str rfl) (pss_one (ps_if (pt_cmpR op_eq (pe_ix ix_tup (pe_fld (pv 0) rfl) pe_int (fun _ _ => rfl)) pe_int (nomark _)) (pss_one (ps_fld (pv 0) pe_bl rfl)) pss_nil))))) (pss_one (ps_if (pt_cmpR op_eq (pe_fld (pv 0) rfl) pe_str (nomark _)) (pss_one (ps_if (pt_val (pe_m (pv 1) (k_Memory T) (me_Memory_swap T) (ok_Memory_swap T) (hr.mono (by decide)) (pa_cons (pe_fld (pv 0) rfl) (pa_cons (pe_fld (pv 0) rfl) (pa_cons (pe_tup (pa_cons pe_int (pa_cons (pe_op op_add (pe_ix ix_tup (pe_fld (pv 0) rfl) pe_int (fun _ _ => rfl)) pe_int) pa_nil))) pa_nil))))) (pss_cons (ps_fld (pv 0) pe_str rfl) (pss_one (ps_fld (pv 0) (pe_ix ix_tup (pe_fld (pv 0) rfl) pe_int (fun _ _ => rfl)) rfl))) (pss_one (ps_fld (pv 0) pe_str rfl)))) (pss_cons (ps_expr (pe_bm PySem.F.plainAttrs_list PySem.F.slot_list_append PySem.F.type_list_append mt_append (pe_fld (pv 0) rfl) (pa_cons (pe_op op_sub (pe_fld (pv 0) rfl) pe_int) pa_nil))) (pss_cons (ps_fld (pv 0) (pe_m (pv 1) (k_Memory T) (me_Memory_read T) (ok_Memory_read T) (hr.mono (by decide)) (pa_cons (pe_g (ok_next_cell T) (hr.mono (by decide)) (g_next_cell T) (pa_cons (pe_fld (pv 0) rfl) (pa_cons (pe_op op_sub (pe_fld (pv 0) rfl) pe_int) pa_nil))) pa_nil)) rfl) (pss_one (ps_if (pt_cmpR op_eq (pe_fld (pv 0) rfl) pe_int (nomark _)) (pss_one (ps_fld (pv 0) pe_bl rfl)) pss_nil)))))))), ?_⟩
      walk_at "ds"
      walk_at "go"
      refine ⟨.inl ⟨rfl, _, SqL.of (by walk_at "at")⟩, ?_⟩
      walk_at "go"
      refine ⟨l, _, _, rfl, rfl, (by walk_at "at"), by rw [List.length_map]; omega, ?_⟩
      have e1 : taken.map V.int ++ [V.int (top - 1)] = (taken ++ [top - 1]).map V.int := by rw [List.map_append]; rfl
      rw [e1]
      have k1 := h0.u3 (u := .lst ((taken ++ [top - 1]).map V.int))
      have t1 := Tk.mut (u := .lst ((taken ++ [top - 1]).map V.int)) h0.g3 rfl
      generalize upd H l (.lst ((taken ++ [top - 1]).map V.int)) = H1 at k1 t1 ⊢
      walk_at "go"
      walk_at "nil"
      refine ⟨vh, hd, _, rfl, (by walk_at "sq"), h4, fun t H2 g2 t2 ht => ?_⟩
      have k2 := g2 _ k1
      clear g2
      walk_at "nil"
      refine rd_mem (ce := bel hd (top - 1)) (by walk_at "hp") (mr.tk (by walk_at "tk")) ht ?_
      intro H3 v3 k3 t3 mr3 hv3
      have ev : v3 = .int (num (mm (bel hd (top - 1)))) := by
        rw [bel_num mr.2.1] at hv3
        exact hv3
      subst ev
      walk_at "go"
      rename_i H4 k4 t4
      by_cases e : num (mm (bel hd (top - 1))) = 0
      · rw [e] at k4 ⊢
        walk_at "go"
        rename_i H5 k5 t5
        have tt5 : Tk H H5 := by walk_at "tk"
        have e2 : takeStep ⟨hd, .walk, raw, top, taken⟩ mm = (mm, .inr (taken ++ [top - 1])) := if_pos e
        refine q H5 xs _ (by rw [e2]; walk_at "hp") tt5 (by rw [e2]; exact mr.tk tt5) (Nat.le_succ _) ?_
        rw [e2]
        exact ⟨dx, vh, _, _, _, rfl, sq_tk h1 tt5⟩
      · refine if_f (decide_eq_false (fun z => e (by injection z))) ?_
        have tt5 : Tk H H4 := by walk_at "tk"
        have e2 : takeStep ⟨hd, .walk, raw, top, taken⟩ mm = (mm, .inl ⟨hd, .walk, raw, num (mm (bel hd (top - 1))), taken ++ [top - 1]⟩) := if_neg e
        refine q H4 xs _ (by rw [e2]; walk_at "hp") tt5 (by rw [e2]; exact mr.tk tt5) (Nat.le_succ _) ?_
        rw [e2]
        exact ⟨dx, vh, tt, vr, rfl, sq_tk h1 tt5, h2.tk tt5, sq_tk h3 tt5, h4⟩
end

/-! ## Itm -/
set_option Elab.async false
set_option linter.all false
set_option maxRecDepth 100000
set_option maxHeartbeats 4000000
/-! ### the items of a stack -/
section
variable {P : Program} {w : World} {K : PySem.W.Frag} {mg : Str → Option Value} {base : Heap}
def listAt (H : Hp) (a : Addr) : Nat := match H a with
  | some (.lst l) => l.length
  | _ => 0
theorem listAt_of {H : Hp} {a : Addr} {l : List V} (h : H a = some (.lst l)) : listAt H a = l.length := by unfold listAt; rw [h]
theorem ne_mono {i : Nat} (σ : St) (H : Hp) (Q Q' : Bool → Hp → Prop) (h : ∀ b H1, Q b H1 → Q' b H1) : tTest (tOp rNe (tVar i) (tC (.int 0))) σ H Q → tTest (tOp rNe (tVar i) (tC (.int 0))) σ H Q' :=
  fun ⟨v, hv, hs, b, e, q⟩ => ⟨v, hv, hs, b, e, h _ _ q⟩
def spItems (P : Program) (w : World) (K : PySem.W.Frag) : Sp := fun vs H Q _ => ∃ (m dm d a : Addr) (n : Int) (es : List Ent) (mm : Mem) (hd : Cell) (xs : List Int) (R : List (Addr × HO)), vs = [.ref m, .ref a] ∧ HasM P w K m dm d n es R H ∧ SqT K H a (hd.key.map kV) ∧ isHead hd = true ∧ MR K H es mm ∧
  Chain mm hd (hdv (mm hd)).1 xs ∧ xs.length < 1000 ∧ ∀ p H', HasM P w K m dm d n es ((p, .lst (xs.map V.int)) :: R) H' → Tk H H' → Q (.ref p) H'
theorem ok_items_of (T : Tx K mg) : FnG P w K mg base (lv_items_of + 1) at_items_of ["memory", "head"] (spItems P w K) := by
  refine FnG.of (fd_items_of T) sc_items_of (by walk_at "ln") (fun cdv A outer s H vs Q E hr h => ?_)
  · obtain ⟨m, dm, d, a, n, es, mm, hd, xs, R, rfl, h0, ha, hh, mr, hc, hl, q⟩ := h
    have hs : sizeLine = 16777216 := sizeLine_eq
    have hu := hu_of hr
    refine ⟨_, (pss_cons (ps_asg (pe_g (ok_head_value T) (hr.mono (by decide)) (g_head_value T) (pa_cons (pe_m (pv 0) (k_Memory T) (me_Memory_peek T) (ok_Memory_peek T) (hr.mono (by decide)) (pa_cons (pv 1) pa_nil)) pa_nil)) (pg_tup (by rfl) (pgs_cons (pg_name (i := 2) sc_items_of.nd rfl (Or.inl rfl)) (pgs_cons (pg_name (i := 3) sc_items_of.nd rfl (Or.inl rfl)) pgs_nil)))) (pss_cons (ps_set (i := 4) sc_items_of.nd rfl (Or.inl rfl) (pe_lst pa_nil)) (pss_cons (ps_while PassesOwn.never (pt_cmpR op_ne (pv 2) pe_int (nomark _)) (pss_cons (ps_expr (pe_bm PySem.F.plainAttrs_list PySem.F.slot_list_append PySem.F.type_list_append mt_append (pv 4) (pa_cons (pe_op op_sub (pv 2) pe_int) pa_nil))) (pss_one (ps_set (i := 2) sc_items_of.nd rfl (Or.inl rfl) (pe_m (pv 0) (k_Memory T) (me_Memory_peek T) (ok_Memory_peek T) (hr.mono (by decide)) (pa_cons (pe_g (ok_next_cell T) (hr.mono (by decide)) (g_next_cell T) (pa_cons (pv 1) (pa_cons (pe_op op_sub (pv 2) pe_int) pa_nil))) pa_nil)))))) (pss_one (ps_ret (pv 4)))))), ?_⟩
    walk_at "ds"
    walk_at "go"
    walk_at "nil"
    refine rd_mem (ce := hd) (by walk_at "hp") mr (by walk_at "sq") ?_
    intro H1 v1 k1 t1 mr1 hv1
    rw [Int.add_zero] at k1
    refine ⟨_, _, rfl, hv1, hv_of mr.2.1 hh, fun t ht => ?_⟩
    refine ⟨t, _, rfl, ht, rfl, _, _, rfl, _, _, rfl, rfl, ?_⟩
    refine ⟨Nat.zero_le _, fun l nl => ?_⟩
    have k2 := k1.new (o := .lst []) nl
    have t2 := Tk.new (o := .lst []) nl
    generalize upd H1 l (.lst []) = H2 at k2 t2 ⊢
    have tt2 : Tk H H2 := t1.trans t2
    refine while_by (fun σ H' => ∃ (top : Int) (ys zs : List Int) (v3 : Option V), σ = [some (.ref m), some (.ref a), some (.int top), v3, some (.ref l)] ∧ Chain mm hd top zs ∧ ys ++ zs = xs ∧ HasM P w K m dm d n es ((l, .lst (ys.map V.int)) :: R) H' ∧ Tk H H') (fun σ H' => xs.length - listAt H' l)
      ⟨_, [], xs, _, rfl, hc, rfl, k2.f2, tt2⟩ ?_ ne_mono
    rintro σ H3 ⟨top, ys, zs, v3, rfl, hz, e, k3, t3⟩
    refine ⟨_, rfl, rfl, _, rfl, ?_⟩
    cases hz with
    | nil =>
      refine if_f (by decide) ?_
      refine ⟨_, rfl, ?_⟩
      rw [List.append_nil] at e
      rw [e] at k3
      exact q l H3 k3 t3
    | @cons _ ws hn hw =>
      refine if_t (by rw [decide_eq_false (fun z => hn (by injection z))]; rfl) ?_
      have ey : (ys.map V.int).length = ys.length := List.length_map ..
      have el : ys.length < xs.length := by rw [← e, List.length_append, List.length_cons]; omega
      refine ⟨_, rfl, .inl ⟨rfl, _, SqL.of k3.g2⟩, ?_⟩
      refine ⟨_, rfl, _, _, rfl, rfl, ?_⟩
      refine ⟨l, _, _, rfl, rfl, k3.g2, by omega, ?_⟩
      have e1 : ys.map V.int ++ [V.int (top - 1)] = (ys ++ [top - 1]).map V.int := by rw [List.map_append]; rfl
      rw [e1]
      have k4 := k3.u2 (u := .lst ((ys ++ [top - 1]).map V.int))
      have t4 := Tk.mut (u := .lst ((ys ++ [top - 1]).map V.int)) k3.g2 rfl
      have m3 := listAt_of k3.g2
      generalize upd H3 l (.lst ((ys ++ [top - 1]).map V.int)) = H4 at k4 t4 ⊢
      walk_at "go"
      walk_at "nil"
      refine ⟨a, hd, _, rfl, (by walk_at "sq"), hh, fun t H5 g5 t5 ht5 => ?_⟩
      have k5 := g5 _ k4
      clear g5
      walk_at "nil"
      refine rd_mem (ce := bel hd (top - 1)) (by walk_at "hp") (mr.tk (by walk_at "tk")) ht5 ?_
      intro H6 v6 k6 t6 mr6 hv6
      rw [Int.add_zero] at k6
      have ev : v6 = .int (num (mm (bel hd (top - 1)))) := by
        rw [bel_num mr.2.1] at hv6
        exact hv6
      subst ev
      refine ⟨⟨_, ys ++ [top - 1], ws, v3, rfl, hw, by rw [← e, List.append_assoc]; rfl, (by walk_at "hp"), (by walk_at "tk")⟩, ?_⟩
      rw [m3, listAt_of k6.g2, List.length_map, List.length_map, List.length_append]
      show xs.length - (ys.length + 1) < xs.length - ys.length
      omega
def spTakeHold (P : Program) (w : World) (K : PySem.W.Frag) : Sp := fun vs H Q _ => ∃ (p m dm d l dx vh : Addr) (n : Int) (es : List Ent) (mm : Mem) (hd : Cell) (pt : Str) (b c e : V) (top0 : Int) (ys xs : List Int) (R : List (Addr × HO)), vs = [.ref p, .ref m] ∧
  HasM P w K m dm d n es ((p, .ins (c_TakeAll K) dx (f_TakeAll (.ref vh) (.str pt) b c (.int top0) (.ref l) e)) :: (l, .lst (ys.map V.int)) :: R) H ∧ SqT K H vh (hd.key.map kV) ∧ isHead hd = true ∧ MR K H es mm ∧ (pt = "walk" → Chain mm hd top0 xs) ∧ (pt ≠ "walk" → xs = []) ∧ ys.length + xs.length < 1000 ∧
  ∀ r H', HasM P w K m dm d n es ((r, .lst ((ys ++ xs).map V.int)) :: (p, .ins (c_TakeAll K) dx (f_TakeAll (.ref vh) (.str pt) b c (.int top0) (.ref l) e)) :: (l, .lst (ys.map V.int)) :: R) H' → Tk H H' → Q (.ref r) H'
theorem ok_TakeAll_holding (T : Tx K mg) : FnG P w K mg base (lv_TakeAll_holding + 1) at_TakeAll_holding ["self", "memory"] (spTakeHold P w K) := by
  refine FnG.of (fd_TakeAll_holding T) sc_TakeAll_holding (by walk_at "ln") (fun cdv A outer s H vs Q E hr h => ?_)
  · obtain ⟨p, m, dm, d, l, dx, vh, n, es, mm, hd, pt, b, c, e, top0, ys, xs, R, rfl, h0, ha, hh, mr, hw, hx, hl, q⟩ := h
    have hs : sizeLine = 16777216 := sizeLine_eq
    have hu := hu_of hr
    refine ⟨_, (pss_cons (ps_set (i := 2) sc_TakeAll_holding.nd rfl (Or.inl rfl) (pe_callTy call_list_of (by rfl) (b_list T) (by decide +kernel) (pa_cons (pe_fld (pv 0) rfl) pa_nil))) (pss_cons (ps_if (pt_cmpR op_eq (pe_fld (pv 0) rfl) pe_str (nomark _)) (pss_cons (ps_set (i := 3) sc_TakeAll_holding.nd rfl (Or.inl rfl) (pe_fld (pv 0) rfl)) (pss_one (ps_while PassesOwn.never (pt_cmpR op_ne (pv 3) pe_int (nomark _)) (pss_cons (ps_expr (pe_bm PySem.F.plainAttrs_list PySem.F.slot_list_append PySem.F.type_list_append mt_append (pv 2) (pa_cons (pe_op op_sub (pv 3) pe_int) pa_nil))) (pss_one (ps_set (i := 3) sc_TakeAll_holding.nd rfl (Or.inl rfl) (pe_m (pv 1) (k_Memory T) (me_Memory_peek T) (ok_Memory_peek T) (hr.mono (by decide)) (pa_cons (pe_g (ok_next_cell T) (hr.mono (by decide)) (g_next_cell T) (pa_cons (pe_fld (pv 0) rfl) (pa_cons (pe_op op_sub (pv 3) pe_int) pa_nil))) pa_nil)))))))) pss_nil) (pss_one (ps_ret (pv 2))))), ?_⟩
    walk_at "ds"
    walk_at "go"
    refine ⟨l, _, rfl, .inl (SqL.of (by walk_at "at")), fun r nr => ?_⟩
    have k1 := h0.new (o := .lst (ys.map V.int)) nr
    have t1 := Tk.new (o := .lst (ys.map V.int)) nr
    generalize upd H r (.lst (ys.map V.int)) = H1 at k1 t1 ⊢
    walk_at "go"
    by_cases ew : pt = "walk"
    · refine if_t (decide_eq_true (by rw [ew])) ?_
      walk_at "go"
      refine while_by (fun σ H' => ∃ (top : Int) (us zs : List Int), σ = [some (.ref p), some (.ref m), some (.ref r), some (.int top)] ∧ Chain mm hd top zs ∧ us ++ zs = ys ++ xs ∧
        HasM P w K m dm d n es ((r, .lst (us.map V.int)) :: (p, .ins (c_TakeAll K) dx (f_TakeAll (.ref vh) (.str pt) b c (.int top0) (.ref l) e)) :: (l, .lst (ys.map V.int)) :: R) H' ∧ Tk H H') (fun σ H' => (ys ++ xs).length - listAt H' r)
        ⟨_, ys, xs, rfl, hw ew, rfl, (by walk_at "hp"), t1⟩ ?_ ne_mono
      rintro σ H3 ⟨top, us, zs, rfl, hz, e1, k3, t3⟩
      refine ⟨_, rfl, rfl, _, rfl, ?_⟩
      cases hz with
      | nil =>
        refine if_f (by decide) ?_
        refine ⟨_, rfl, ?_⟩
        rw [List.append_nil] at e1
        rw [e1] at k3
        exact q r H3 k3 t3
      | @cons _ ws hn hw2 =>
        refine if_t (by rw [decide_eq_false (fun z => hn (by injection z))]; rfl) ?_
        have ey : (us.map V.int).length = us.length := List.length_map ..
        have ez : (ys ++ xs).length = ys.length + xs.length := List.length_append ..
        have el : us.length < (ys ++ xs).length := by rw [← e1, List.length_append, List.length_cons]; omega
        refine ⟨_, rfl, .inl ⟨rfl, _, SqL.of k3.g2⟩, ?_⟩
        refine ⟨_, rfl, _, _, rfl, rfl, ?_⟩
        refine ⟨r, _, _, rfl, rfl, k3.g2, by omega, ?_⟩
        have e2 : us.map V.int ++ [V.int (top - 1)] = (us ++ [top - 1]).map V.int := by rw [List.map_append]; rfl
        rw [e2]
        have k4 := k3.u2 (u := .lst ((us ++ [top - 1]).map V.int))
        have t4 := Tk.mut (u := .lst ((us ++ [top - 1]).map V.int)) k3.g2 rfl
        have m3 := listAt_of k3.g2
        generalize upd H3 r (.lst ((us ++ [top - 1]).map V.int)) = H4 at k4 t4 ⊢
        walk_at "go"
        walk_at "nil"
        refine ⟨vh, hd, _, rfl, (by walk_at "sq"), hh, fun t H5 g5 t5 ht5 => ?_⟩
        have k5 := g5 _ k4
        clear g5
        walk_at "nil"
        refine rd_mem (ce := bel hd (top - 1)) (by walk_at "hp") (mr.tk (by walk_at "tk")) ht5 ?_
        intro H6 v6 k6 t6 mr6 hv6
        rw [Int.add_zero] at k6
        have ev : v6 = .int (num (mm (bel hd (top - 1)))) := by
          rw [bel_num mr.2.1] at hv6
          exact hv6
        subst ev
        refine ⟨⟨_, us ++ [top - 1], ws, rfl, hw2, by rw [← e1, List.append_assoc]; rfl, (by walk_at "hp"), (by walk_at "tk")⟩, ?_⟩
        have ea : (us ++ [top - 1]).length = us.length + 1 := by rw [List.length_append]; rfl
        rw [m3, listAt_of k6.g2, List.length_map, List.length_map, ea]
        omega
    · refine if_f (decide_eq_false (fun z => ew (by injection z))) ?_
      obtain rfl := hx ew
      rw [List.append_nil] at q
      walk_at "go"
      exact q r H1 (by walk_at "hp") t1
end

/-! ## L02a -/
set_option Elab.async false
set_option linter.all false
set_option maxRecDepth 100000
set_option maxHeartbeats 4000000
/-! ### the second law: a machine's place, a new machine -/
section
variable {P : Program} {w : World} {K : PySem.W.Frag} {mg : Str → Option Value} {base : Heap}
structure E2 where
  t : Addr
  th : Addr
  p : Addr
  l : Addr
  o : HO
  mc : Mc
def wordOf : Mc → Str
  | .push _ => "push" | .all _ _ => "all" | .pop _ => "pop"
def itemOf : Mc → Int
  | .push s => s.item | _ => 0
def E2.cells (e : E2) : List (Addr × HO) := match e.mc with
  | .all s _ => [(e.p, e.o), (e.l, .lst (s.taken.map V.int))]
  | _ => [(e.p, e.o)]
def MaR (K : PySem.W.Frag) (H : Hp) (l : Addr) (o : HO) : Mc → Prop
  | .push s => PushR K H s o
  | .pop s => PopR K H s o
  | .all s _ => TakeR K H s l o
theorem MaR.tk {H H' : Hp} {l : Addr} {o : HO} {mc : Mc} (h : MaR K H l o mc) (t : Tk H H') : MaR K H' l o mc := by
  cases mc with
  | push s => exact PushR.tk h t
  | pop s => exact PopR.tk h t
  | all s r => exact TakeR.tk h t
def E2Ok (K : PySem.W.Frag) (H : Hp) (e : E2) : Prop := SqT K H e.t [.str (wordOf e.mc), .ref e.th, .ref e.p, .int (itemOf e.mc)] ∧ SqT K H e.th (e.mc.hd.key.map kV) ∧ MaR K H e.l e.o e.mc
theorem E2Ok.tk {H H' : Hp} {e : E2} (h : E2Ok K H e) (t : Tk H H') : E2Ok K H' e := ⟨t _ _ _ h.1, t _ _ _ h.2.1, h.2.2.tk t⟩
def spNew2 (K : PySem.W.Frag) : Sp := fun vs H Q _ => ∃ (st lo hl t0 t1 : Addr) (h0 h1 : Cell) (loose : List Int) (R : List (Addr × HO)), vs = [.ref st, .ref lo, .ref hl] ∧
  LSt st ((hl, .lst [.ref t0, .ref t1]) :: (lo, .lst (loose.map V.int)) :: R) H ∧ SqT K H t0 (h0.key.map kV) ∧ SqT K H t1 (h1.key.map kV) ∧ isHead h0 = true ∧ isHead h1 = true ∧ loose.length < 1000 ∧
  ∀ e loose' H', LSt st ((hl, .lst [.ref t0, .ref t1]) :: (lo, .lst (loose'.map V.int)) :: (e.cells ++ R)) H' → Tk H H' → E2Ok K H' e → (∀ m, McOk m e.mc) → (e.mc.hd = h0 ∨ e.mc.hd = h1) → (∀ x, cnt x loose' + cnt x e.mc.held = cnt x loose) → Q (.ref e.t) H'
theorem cnt_erase {loose : List Int} {j : Nat} (h : j < loose.length) (x : Option Int) : cnt x (loose.eraseIdx j) + cnt x [loose[j]] = cnt x loose := by
  cases x with
  | none => show (loose.eraseIdx j).length + 1 = loose.length; rw [List.length_eraseIdx_of_lt h]; omega
  | some x =>
    have e : loose = loose.take j ++ loose[j] :: loose.drop (j + 1) := by rw [List.getElem_cons_drop h, List.take_append_drop]
    show (loose.eraseIdx j).count x + [loose[j]].count x = loose.count x
    rw [List.eraseIdx_eq_take_drop_succ]
    conv => rhs; rw [e]
    rw [List.count_append, List.count_append, show loose[j] :: loose.drop (j + 1) = [loose[j]] ++ loose.drop (j + 1) from rfl, List.count_append]
    omega
theorem erase_map {α β : Type} (f : α → β) : ∀ (l : List α) (j : Nat), (l.map f).eraseIdx j = (l.eraseIdx j).map f
  | [], _ => rfl
  | _ :: _, 0 => rfl
  | x :: l, j + 1 => by show f x :: (l.map f).eraseIdx j = f x :: (l.eraseIdx j).map f; rw [erase_map f l j]
theorem ok_law_new (T : Tx K mg) : FnG P w K mg base (lv_law_new + 1) at_law_new ["_law_state_here", "_law_loose", "_law_heads"] (spNew2 K) := by
  refine FnG.of (fd_law_new T) sc_law_new (by walk_at "ln") (fun cdv A outer s H vs Q E hr h => ?_)
  · obtain ⟨st, lo, hl, t0, t1, h0, h1, loose, R, rfl, ⟨cl, pos, ns, ok, k0⟩, s0, s1, i0, i1, hlen, q⟩ := h
    have hs : sizeLine = 16777216 := sizeLine_eq
    have hu := hu_of hr
    refine ⟨_, (pss_cons (ps_set (i := 3) sc_law_new.nd rfl (Or.inl rfl) (pe_g (ok_law_take T) (hr.mono (by decide)) (g_law_take T) (pa_cons (pv 0) (pa_cons pe_int pa_nil)))) (pss_cons (ps_set (i := 4) sc_law_new.nd rfl (Or.inl rfl) (pe_ix ix_list (pv 2) (pe_g (ok_law_take T) (hr.mono (by decide)) (g_law_take T) (pa_cons (pv 0) (pa_cons pe_int pa_nil))) (fun _ _ => rfl))) (pss_cons (ps_if (PW.pt (pw_and (pt_cmpR op_lt (pv 3) pe_int (nomark _)) (pw_and1 (pt_cmpR op_gt (pe_callB call_len_seq (by rfl) (b_len T) PySem.boot_len (pa_cons (pv 1) pa_nil)) pe_int (nomark _))))) (pss_cons (ps_set (i := 5) sc_law_new.nd rfl (Or.inl rfl) (pe_bm PySem.F.plainAttrs_list PySem.F.slot_list_pop PySem.F.type_list_pop mt_popAt (pv 1) (pa_cons (pe_g (ok_law_take T) (hr.mono (by decide)) (g_law_take T) (pa_cons (pv 0) (pa_cons (pe_callB call_len_seq (by rfl) (b_len T) PySem.boot_len (pa_cons (pv 1) pa_nil)) pa_nil))) pa_nil))) (pss_one (ps_ret (pe_tup (pa_cons pe_str (pa_cons (pv 4) (pa_cons (pe_n (mk_Push T) (ok_Push_init T) (hr.mono (by decide)) (g_Push T) (pa_cons (pv 4) (pa_cons (pv 5) pa_nil))) (pa_cons (pv 5) pa_nil)))))))) pss_nil) (pss_cons (ps_if (pt_cmpR op_eq (pv 3) pe_int (nomark _)) (pss_one (ps_ret (pe_tup (pa_cons pe_str (pa_cons (pv 4) (pa_cons (pe_n (mk_TakeAll T) (ok_TakeAll_init T) (hr.mono (by decide)) (g_TakeAll T) (pa_cons (pv 4) pa_nil)) (pa_cons pe_int pa_nil))))))) pss_nil) (pss_one (ps_ret (pe_tup (pa_cons pe_str (pa_cons (pv 4) (pa_cons (pe_n (mk_Pop T) (ok_Pop_init T) (hr.mono (by decide)) (g_Pop T) (pa_cons (pv 4) pa_nil)) (pa_cons pe_int pa_nil))))))))))), ?_⟩
    walk_at "ds"
    walk_at "v"; walk_at "tk1"; rename_i kind H1 a1 b1 cl1 pos1 ns1 ok1 k1 u1
    walk_at "v"
    walk_at "v"; walk_at "tk1"; rename_i r2 H2 a2 b2 cl2 pos2 ns2 ok2 k2 u2
    obtain ⟨th, hd, hat, hth, hdi, hin⟩ : ∃ th hd, atI [V.ref t0, V.ref t1] r2 = some (.ref th) ∧ SqT K H2 th (hd.key.map kV) ∧ isHead hd = true ∧ (hd = h0 ∨ hd = h1) := by
      by_cases z : r2 = 0
      · exact ⟨t0, h0, by rw [z]; exact atI_nat (j := 0) rfl, by walk_at "sq", i0, .inl rfl⟩
      · have z1 : r2 = 1 := by omega
        exact ⟨t1, h1, by rw [z1]; exact atI_nat (j := 1) rfl, by walk_at "sq", i1, .inr rfl⟩
    refine ⟨hl, _, _, _, rfl, rfl, SqL.of (by walk_at "at"), hat, ?_⟩
    have k2' := k2.b2.b1
    have h2 := k2.f2.f2.tail.tail
    have u12 : Tk H H2 := by walk_at "tk"
    have mk : ∀ (H3 : Hp) (C : Addr) (L : List (Addr × HO)), Has L H3 → ∀ x dx, H3 x = none → H3 dx = none → dx ≠ x → Has ((x, .ins C dx []) :: L) (upd (upd H3 dx (.own x)) x (.ins C dx [])) ∧ Tk H3 (upd (upd H3 dx (.own x)) x (.ins C dx [])) := by
      intro H3 C L h x dx nx ndx ne
      have n2 : upd H3 dx (.own x) x = none := by rw [upd_ne (Ne.symm ne)]; exact nx
      exact ⟨(h.skip ndx).new n2, (Tk.new ndx).trans (Tk.new n2)⟩
    -- the push
    refine ⟨_, rfl, _, _, rfl, rfl, _, rfl, ?_⟩
    have kc : kind < 4 ∧ 0 < loose.length ∨ ¬ (kind < 4 ∧ 0 < loose.length) := Classical.em _
    have mid : ∀ (A B : Prop), (kind < 4 ∧ 0 < loose.length → A) → (¬ (kind < 4 ∧ 0 < loose.length) → B) → (if decide (kind < 4) = true then (∃ v, some (some (V.ref lo)) = some (some v) ∧ ∃ p ys, [v] = [V.ref p] ∧ (SqL K H2 p ys ∨ SqT K H2 p ys) ∧ ∃ i j, V.int ys.length = V.int i ∧ V.int 0 = V.int j ∧ ∃ k, V.bl (decide (j < i)) = V.bl k ∧ if k = true then A else B) else if false = true then A else B) := by
      intro A B ha hb
      by_cases h4 : kind < 4
      · refine if_t (decide_eq_true h4) ⟨_, rfl, _, _, rfl, .inl (SqL.of (k2.g3)), _, _, rfl, rfl, _, rfl, ?_⟩
        rw [List.length_map]
        by_cases hl0 : 0 < loose.length
        · exact if_t (decide_eq_true (by omega)) (ha ⟨h4, hl0⟩)
        · exact if_f (decide_eq_false (by omega)) (hb fun z => hl0 z.2)
      · exact if_f (decide_eq_false h4) (if_f rfl (hb fun z => h4 z.1))
    refine mid _ _ (fun hp => ?_) (fun hp => ?_)
    · clear mid
      refine ⟨_, rfl, .inl ⟨rfl, _, SqL.of k2.g3⟩, ?_⟩
      refine ⟨_, rfl, _, rfl, _, _, rfl, .inl (SqL.of k2.g3), ?_⟩
      rw [List.length_map]
      refine ⟨st, _, _, rfl, by omega, by omega, ⟨cl2, pos2, ns2, ok2, k2⟩, ?_⟩
      rintro r3 H3 a3 b3 ⟨cl3, pos3, ns3, ok3, k3⟩ u3
      obtain ⟨j, rfl⟩ : ∃ j : Nat, r3 = (j : Int) := ⟨r3.toNat, by omega⟩
      have hj : j < loose.length := by omega
      have hg : (loose.map V.int)[j]? = some (V.int loose[j]) := by rw [List.getElem?_map, List.getElem?_eq_getElem hj]; rfl
      refine ⟨lo, _, _, j, _, rfl, rfl, k3.g3, by omega, by omega, ?_, hg, ?_⟩
      · unfold seqIndex?
        rw [List.length_map]
        simp only [if_neg (show ¬ ((j : Int) < 0) by omega)]
        rw [if_pos (by rw [Bool.and_eq_true]; exact ⟨decide_eq_true (Int.natCast_nonneg j), decide_eq_true (by omega)⟩)]
        rfl
      rw [erase_map]
      have ec := cnt_erase hj
      generalize loose[j] = it at ec hg ⊢
      generalize loose.eraseIdx j = loose' at ec ⊢
      have k4 := k3.u3 (u := .lst (loose'.map V.int))
      have u4 := Tk.mut (u := .lst (loose'.map V.int)) k3.g3 rfl
      generalize upd H3 lo (.lst (loose'.map V.int)) = H4 at k4 u4 ⊢
      refine ⟨_, rfl, _, rfl, _, rfl, ?_⟩
      intro p dx np ndx nd
      obtain ⟨k5, u5⟩ := mk H4 (c_Push K) _ k4 p dx np ndx nd
      generalize upd (upd H4 dx (.own p)) p (.ins (c_Push K) dx []) = H5 at k5 u5 ⊢
      refine ⟨p, th, dx, hd, it, _, rfl, k5, (by walk_at "sq"), hdi, fun H6 o k6 u6 hr6 => ⟨rfl, ?_⟩⟩
      refine ⟨_, rfl, by show 4 ≤ sizeLine; decide, fun t nt => ?_⟩
      have k7 := k6.skip (o := .tup [.str "push", .ref th, .ref p, .int it]) nt
      have u7 := Tk.new (o := .tup [.str "push", .ref th, .ref p, .int it]) nt
      have st7 : SqT K (upd H6 t (.tup [.str "push", .ref th, .ref p, .int it])) t [.str "push", .ref th, .ref p, .int it] := sqt_new
      have tt : Tk H (upd H6 t (.tup [.str "push", .ref th, .ref p, .int it])) := by walk_at "tk"
      refine q ⟨t, th, p, p, o, .push (pushNew hd it)⟩ loose' _ ⟨cl3, pos3, ns3, ok3, (by walk_at "hp")⟩ tt ⟨st7, (by walk_at "sq"), hr6.tk u7⟩ (fun m => ⟨fun z => absurd rfl z, fun z => by cases z⟩) hin ec
    · refine ⟨_, rfl, rfl, _, rfl, ?_⟩
      refine ite2 (fun e => ?_) (fun e => ?_)
      · refine ⟨_, rfl, _, rfl, ?_⟩
        intro p dx np ndx nd
        obtain ⟨k5, u5⟩ := mk H2 (c_TakeAll K) _ k2 p dx np ndx nd
        generalize upd (upd H2 dx (.own p)) p (.ins (c_TakeAll K) dx []) = H5 at k5 u5 ⊢
        refine ⟨p, th, dx, hd, _, rfl, k5, (by walk_at "sq"), hdi, fun H6 l o k6 u6 hr6 => ⟨rfl, ?_⟩⟩
        refine ⟨by show 4 ≤ sizeLine; decide, fun t nt => ?_⟩
        have k7 := k6.skip (o := .tup [.str "all", .ref th, .ref p, .int 0]) nt
        have u7 := Tk.new (o := .tup [.str "all", .ref th, .ref p, .int 0]) nt
        have st7 : SqT K (upd H6 t (.tup [.str "all", .ref th, .ref p, .int 0])) t [.str "all", .ref th, .ref p, .int 0] := sqt_new
        have tt : Tk H (upd H6 t (.tup [.str "all", .ref th, .ref p, .int 0])) := by walk_at "tk"
        refine q ⟨t, th, p, l, o, .all (takeNew hd) []⟩ loose _ ⟨cl2, pos2, ns2, ok2, (by walk_at "hp")⟩ tt ⟨st7, (by walk_at "sq"), hr6.tk u7⟩ (fun m => ⟨fun z => (by cases z), fun z => (by cases z), fun _ => ⟨rfl, rfl, rfl⟩⟩) hin fun x => ?_
        show cnt x loose + cnt x [] = _
        rw [cnt_nil]; rfl
      · refine ⟨_, rfl, _, rfl, ?_⟩
        intro p dx np ndx nd
        obtain ⟨k5, u5⟩ := mk H2 (c_Pop K) _ k2 p dx np ndx nd
        generalize upd (upd H2 dx (.own p)) p (.ins (c_Pop K) dx []) = H5 at k5 u5 ⊢
        refine ⟨p, th, dx, hd, _, rfl, k5, (by walk_at "sq"), hdi, fun H6 o k6 u6 hr6 => ⟨rfl, ?_⟩⟩
        refine ⟨by show 4 ≤ sizeLine; decide, fun t nt => ?_⟩
        have k7 := k6.skip (o := .tup [.str "pop", .ref th, .ref p, .int 0]) nt
        have u7 := Tk.new (o := .tup [.str "pop", .ref th, .ref p, .int 0]) nt
        have st7 : SqT K (upd H6 t (.tup [.str "pop", .ref th, .ref p, .int 0])) t [.str "pop", .ref th, .ref p, .int 0] := sqt_new
        have tt : Tk H (upd H6 t (.tup [.str "pop", .ref th, .ref p, .int 0])) := by walk_at "tk"
        refine q ⟨t, th, p, p, o, .pop (popNew hd)⟩ loose _ ⟨cl2, pos2, ns2, ok2, (by walk_at "hp")⟩ tt ⟨st7, (by walk_at "sq"), hr6.tk u7⟩ (fun m => ⟨fun z => absurd rfl z, fun z => by cases z⟩) hin fun x => ?_
        show cnt x loose + cnt x [] = _
        rw [cnt_nil]; rfl
end

/-! ## L02b -/
set_option Elab.async false
set_option linter.all false
set_option maxRecDepth 100000
set_option maxHeartbeats 4000000
/-! ### the second law: what is asked behind a step -/
section
variable {P : Program} {w : World} {K : PySem.W.Frag} {mg : Str → Option Value} {base : Heap}
theorem Has.sub {L M : List (Addr × HO)} {H : Hp} (h : Has L H) (s : M.Sublist L) : Has M H := ⟨(s.map (·.1)).nodup h.1, fun x hx => h.2 x (s.subset hx)⟩
local macro_rules | `(tactic| walk_at "sb1") => `(tactic| first | exact List.Sublist.refl _ | (apply List.Sublist.cons_cons; walk_at "sb1") | (apply List.Sublist.cons; walk_at "sb1"))
local macro_rules | `(tactic| walk_at "sb") => `(tactic| exact Has.sub (by assumption) (by walk_at "sb1"))
theorem cut_from (xs : List V) (k : Nat) : cutV xs (some (k : Int)) none = xs.drop k := by
  unfold cutV
  rw [HT.sIx_nat, HT.sIx_none]
  by_cases h : k ≤ xs.length
  · rw [Nat.min_eq_left h, List.take_of_length_le (by rw [List.length_drop]; exact Nat.le_refl _)]
  · rw [List.drop_eq_nil_of_le (as := xs) (i := k) (by omega), List.drop_eq_nil_of_le (by omega)]
    exact List.take_nil
theorem cut_to (xs : List V) (k : Nat) : cutV xs none (some (k : Int)) = xs.take k := by
  unfold cutV
  show ((xs.drop 0).take (HT.sIx xs.length xs.length (some (k : Int)) - 0)) = _
  rw [HT.sIx_nat, List.drop_zero, Nat.sub_zero]
  by_cases h : k ≤ xs.length
  · rw [Nat.min_eq_left h]
  · rw [List.take_of_length_le (by omega), List.take_of_length_le (by omega)]
def Stk2 (P : Program) (w : World) (ld t0 t1 : Addr) (h0 h1 : Cell) (S : Cell → List Int) (R : List (Addr × HO)) (H : Hp) : Prop := ∃ s0 s1, Has ((ld, dicO P w ld [(h0.key, t0, .ref s0), (h1.key, t1, .ref s1)]) :: (s0, .lst ((S h0).map V.int)) :: (s1, .lst ((S h1).map V.int)) :: R) H
theorem Stk2.open {K : PySem.W.Frag} {H : Hp} {ld t0 t1 : Addr} {h0 h1 hd : Cell} {S : Cell → List Int} {R : List (Addr × HO)} (h : Stk2 P w ld t0 t1 h0 h1 S R H) (ne : h0 ≠ h1) (hc : hd = h0 ∨ hd = h1) (k0 : SqT K H t0 (h0.key.map kV)) (k1 : SqT K H t1 (h1.key.map kV)) :
    ∃ s s' es l', Has ((ld, dicO P w ld es) :: (s, .lst ((S hd).map V.int)) :: (s', .lst l') :: R) H ∧ lookE es hd.key = some (.ref s) ∧ KeysOk K H es ∧ es.length < sizeLine ∧
      (∀ R' H', Has ((ld, dicO P w ld es) :: (s, .lst ((S hd).map V.int)) :: (s', .lst l') :: R') H' → Stk2 P w ld t0 t1 h0 h1 S R' H') ∧
      (∀ n l b R' H', Has ((n, .lst (l.map V.int)) :: (ld, dicO P w ld (putE es hd.key b (.ref n))) :: (s', .lst l') :: R') H' → Stk2 P w ld t0 t1 h0 h1 (sset S hd l) R' H') := by
  obtain ⟨s0, s1, h⟩ := h
  have hs : sizeLine = 16777216 := sizeLine_eq
  have nk : ¬ h0.key = h1.key := fun e => ne (Cell.key_inj e)
  have ko : KeysOk K H [(h0.key, t0, .ref s0), (h1.key, t1, .ref s1)] := fun x hx => by
    rcases List.mem_cons.mp hx with e | hx
    · subst e; exact k0
    · rw [List.mem_singleton.mp hx]; exact k1
  have l0 : lookE [(h0.key, t0, V.ref s0), (h1.key, t1, .ref s1)] h0.key = some (.ref s0) := by
    unfold lookE
    rw [List.find?_cons, decide_eq_true rfl]; rfl
  have l1 : lookE [(h0.key, t0, V.ref s0), (h1.key, t1, .ref s1)] h1.key = some (.ref s1) := by
    unfold lookE
    rw [List.find?_cons, decide_eq_false nk, List.find?_cons, decide_eq_true rfl]; rfl
  rcases hc with rfl | rfl
  · refine ⟨s0, s1, _, _, h, l0, ko, by rw [hs]; show 2 < _; decide, fun R' H' h' => ⟨s0, s1, h'⟩, fun n l b R' H' h' => ⟨n, s1, ?_⟩⟩
    have e : putE [(hd.key, t0, V.ref s0), (h1.key, t1, .ref s1)] hd.key b (.ref n) = [(hd.key, t0, V.ref n), (h1.key, t1, .ref s1)] := by
      unfold putE
      rw [l0, if_pos (show (some (V.ref s0)).isSome = true from rfl)]
      show [putX _ _ _, putX _ _ _] = _
      unfold putX
      rw [if_pos rfl, if_neg (Ne.symm nk)]
    rw [e] at h'
    have e1 : sset S hd l hd = l := if_pos rfl
    have e2 : sset S hd l h1 = S h1 := if_neg (Ne.symm ne)
    rw [e1, e2]
    exact h'.b1
  · refine ⟨s1, s0, _, _, h.perm (.cons _ (.swap ..)), l1, ko, by rw [hs]; show 2 < _; decide, fun R' H' h' => ⟨s0, s1, h'.perm (.cons _ (.swap ..))⟩, fun n l b R' H' h' => ⟨s0, n, ?_⟩⟩
    have e : putE [(h0.key, t0, V.ref s0), (hd.key, t1, .ref s1)] hd.key b (.ref n) = [(h0.key, t0, V.ref s0), (hd.key, t1, .ref n)] := by
      unfold putE
      rw [l1, if_pos (show (some (V.ref s1)).isSome = true from rfl)]
      show [putX _ _ _, putX _ _ _] = _
      unfold putX
      rw [if_pos rfl, if_neg nk]
    rw [e] at h'
    have e1 : sset S hd l hd = l := if_pos rfl
    have e2 : sset S hd l h0 = S h0 := if_neg ne
    rw [e1, e2]
    exact h'.f2.perm (by walk_at "pm")
def spAfPush (P : Program) (w : World) (K : PySem.W.Frag) : Sp := fun vs H Q _ => ∃ (t ld lo th p t0 t1 dx : Addr) (vb vm a b c d e : V) (it : Int) (dn : Bool) (h0 h1 hd : Cell) (S : Cell → List Int) (R : List (Addr × HO)), vs = [.ref t, vb, .ref ld, .ref lo, vm] ∧
  SqT K H t [.str "push", .ref th, .ref p, .int it] ∧ SqT K H th (hd.key.map kV) ∧ SqT K H t0 (h0.key.map kV) ∧ SqT K H t1 (h1.key.map kV) ∧ h0 ≠ h1 ∧ (hd = h0 ∨ hd = h1) ∧ (S hd).length < 1000 ∧
  Stk2 P w ld t0 t1 h0 h1 S ((p, .ins (c_Push K) dx (f_Push a b c d e (.bl dn))) :: R) H ∧
  ∀ H', Stk2 P w ld t0 t1 h0 h1 (if dn = true then sset S hd (it :: S hd) else S) ((p, .ins (c_Push K) dx (f_Push a b c d e (.bl dn))) :: R) H' → Tk H H' → Q (.bl true) H'
def spAfPop (P : Program) (w : World) (K : PySem.W.Frag) : Sp := fun vs H Q _ => ∃ (t ld lo th p t0 t1 dx : Addr) (vb vm a b c d e vi : V) (dn : Bool) (res : Option Int) (h0 h1 hd : Cell) (S : Cell → List Int) (loose : List Int) (R : List (Addr × HO)), vs = [.ref t, vb, .ref ld, .ref lo, vm] ∧
  SqT K H t [.str "pop", .ref th, .ref p, vi] ∧ SqT K H th (hd.key.map kV) ∧ SqT K H t0 (h0.key.map kV) ∧ SqT K H t1 (h1.key.map kV) ∧ h0 ≠ h1 ∧ (hd = h0 ∨ hd = h1) ∧ loose.length < 1000 ∧ (S hd).length < 1000 ∧
  Stk2 P w ld t0 t1 h0 h1 S ((p, .ins (c_Pop K) dx (f_Pop a b c d e (.bl dn) (ovV res))) :: (lo, .lst (loose.map V.int)) :: R) H ∧
  ((dn = false ∧ ∀ H', Stk2 P w ld t0 t1 h0 h1 S ((p, .ins (c_Pop K) dx (f_Pop a b c d e (.bl dn) (ovV res))) :: (lo, .lst (loose.map V.int)) :: R) H' → Tk H H' → Q (.bl true) H') ∨
   (dn = true ∧ res = none ∧ S hd = [] ∧ ∀ H', Stk2 P w ld t0 t1 h0 h1 S ((p, .ins (c_Pop K) dx (f_Pop a b c d e (.bl dn) (ovV res))) :: (lo, .lst (loose.map V.int)) :: R) H' → Tk H H' → Q (.bl true) H') ∨
   (∃ i l, dn = true ∧ res = some i ∧ S hd = i :: l ∧ ∀ H', Stk2 P w ld t0 t1 h0 h1 (sset S hd l) ((p, .ins (c_Pop K) dx (f_Pop a b c d e (.bl dn) (ovV res))) :: (lo, .lst ((loose ++ [i]).map V.int)) :: R) H' → Tk H H' → Q (.bl true) H'))
def spAfAll (P : Program) (w : World) (K : PySem.W.Frag) : Sp := fun vs H Q _ => ∃ (t bf ld lo th p t0 t1 m dm d l dx vh : Addr) (n : Int) (es : List Ent) (mm : Mem) (pt : Str) (b c vi : V) (top0 : Int) (ys xs before : List Int) (dn : Bool) (h0 h1 hd : Cell) (S S' : Cell → List Int) (loose : List Int) (R : List (Addr × HO)), vs = [.ref t, .ref bf, .ref ld, .ref lo, .ref m] ∧
  SqT K H t [.str "all", .ref th, .ref p, vi] ∧ SqT K H th (hd.key.map kV) ∧ SqT K H t0 (h0.key.map kV) ∧ SqT K H t1 (h1.key.map kV) ∧ h0 ≠ h1 ∧ (hd = h0 ∨ hd = h1) ∧ loose.length < 1000 ∧ (S hd).length < 1000 ∧
  SqT K H vh (hd.key.map kV) ∧ isHead hd = true ∧ MR K H es mm ∧ (pt = "walk" → Chain mm hd top0 xs) ∧ (pt ≠ "walk" → xs = []) ∧ ys.length + xs.length < 1000 ∧
  Stk2 P w ld t0 t1 h0 h1 S ((m, memO K dm d n) :: (d, dicO P w d es) :: (p, .ins (c_TakeAll K) dx (f_TakeAll (.ref vh) (.str pt) b c (.int top0) (.ref l) (.bl dn))) :: (l, .lst (ys.map V.int)) :: (lo, .lst (loose.map V.int)) :: (bf, .lst (before.map V.int)) :: R) H ∧
  ((before = [] ∧ ys ++ xs ≠ [] ∧ ys ++ xs = S hd ∧ dn = false ∧ S' = sset S hd []) ∨ (ys ++ xs = before ∧ S' = S ∧ (dn = true → xs = [] ∧ (ys ++ xs = [] → S hd = [])))) ∧
  ∀ H', Stk2 P w ld t0 t1 h0 h1 S' ((m, memO K dm d n) :: (d, dicO P w d es) :: (p, .ins (c_TakeAll K) dx (f_TakeAll (.ref vh) (.str pt) b c (.int top0) (.ref l) (.bl dn))) :: (l, .lst (ys.map V.int)) :: (lo, .lst ((if dn = true then loose ++ (ys ++ xs) else loose).map V.int)) :: R) H' → Tk H H' → Q (.bl true) H'
theorem ok_law_after (T : Tx K mg) : FnG P w K mg base (lv_law_after + 1) at_law_after ["_law_machine", "_law_before", "_law_stacks", "_law_loose", "_law_memory"] (fun vs H Q E => spAfPush P w K vs H Q E ∨ spAfPop P w K vs H Q E ∨ spAfAll P w K vs H Q E) := by
  refine FnG.of (fd_law_after T) sc_law_after ?_ (fun cdv A outer s H vs Q E hr h => ?_)
  · intro vs H Q E h
    rcases h with h | h | h
    · obtain ⟨_, _, _, _, _, _, _, _, _, _, _, _, _, _, _, _, _, _, _, _, _, _, e, _⟩ := h; rw [e]; rfl
    · obtain ⟨_, _, _, _, _, _, _, _, _, _, _, _, _, _, _, _, _, _, _, _, _, _, _, _, e, _⟩ := h; rw [e]; rfl
    · obtain ⟨_, _, _, _, _, _, _, _, _, _, _, _, _, _, _, _, _, _, _, _, _, _, _, _, _, _, _, _, _, _, _, _, _, e, _⟩ := h; rw [e]; rfl
  · rcases h with h | h | h
    · obtain ⟨t, ld, lo, th, p, t0, t1, dx, vb, vm, a, b, c, d, e, it, dn, h0, h1, hd, S, R, rfl, st, sh, s0, s1, ne, hc, hl, sk, q⟩ := h
      have hs : sizeLine = 16777216 := sizeLine_eq
      obtain ⟨s, s', es, l', k0, lk, ko, hle, cl0, cl1⟩ := sk.open ne hc s0 s1
      have hu := hu_of hr
      refine ⟨_, (pss_cons (ps_asg (pv 0) (pg_tup (by rfl) (pgs_cons (pg_name (i := 5) sc_law_after.nd rfl (Or.inl rfl)) (pgs_cons (pg_name (i := 6) sc_law_after.nd rfl (Or.inl rfl)) (pgs_cons (pg_name (i := 7) sc_law_after.nd rfl (Or.inl rfl)) (pgs_cons (pg_name (i := 8) sc_law_after.nd rfl (Or.inl rfl)) pgs_nil)))))) (pss_cons (ps_set (i := 9) sc_law_after.nd rfl (Or.inl rfl) (pe_mitem hu (pv 2) (pv 6) (fun _ _ => rfl))) (pss_cons (ps_if (PW.pt (pw_and (pt_cmpR op_eq (pv 5) pe_str (nomark _)) (pw_and1 (pt_val (pe_fld (pv 7) rfl))))) (pss_one (ps_mput hu (pv 2) (pv 6) (pe_op op_cat (pe_lst (pa_cons (pv 8) pa_nil)) (pv 9)) rfl)) pss_nil) (pss_cons (ps_if (PW.pt (pw_and (pt_cmpR op_eq (pv 5) pe_str (nomark _)) (pw_and1 (pt_val (pe_fld (pv 7) rfl))))) (pss_cons (ps_if (pt_cmpR op_isN (pe_fld (pv 7) rfl) pe_non (nomark _)) (pss_one (ps_ret (pe_cmpR (op_eqD hr.units) (pv 9) (pe_lst pa_nil) (nomark _)))) pss_nil) (pss_cons (ps_if (PW.pt (pw_or (pt_cmpR (op_eqD hr.units) (pv 9) (pe_lst pa_nil) (nomark _)) (pw_or1 (pt_cmpR op_ne (pe_ix ix_list (pv 9) pe_int (fun _ _ => rfl)) (pe_fld (pv 7) rfl) (nomark _))))) (pss_one (ps_ret pe_bl)) pss_nil) (pss_cons (ps_mput hu (pv 2) (pv 6) (pe_slice sl_list (pv 9) (po_some pe_int) po_none) rfl) (pss_one (ps_expr (pe_bm PySem.F.plainAttrs_list PySem.F.slot_list_append PySem.F.type_list_append mt_append (pv 3) (pa_cons (pe_fld (pv 7) rfl) pa_nil))))))) pss_nil) (pss_cons (ps_if (pt_cmpR op_eq (pv 5) pe_str (nomark _)) (pss_cons (ps_set (i := 10) sc_law_after.nd rfl (Or.inl rfl) (pe_m (pv 7) (k_TakeAll T) (me_TakeAll_holding T) (ok_TakeAll_holding T) (hr.mono (by decide)) (pa_cons (pv 4) pa_nil))) (pss_cons (ps_if (PW.pt (pw_and (pt_cmpR (op_eqD hr.units) (pv 1) (pe_lst pa_nil) (nomark _)) (pw_and1 (pt_cmpR (op_neD hr.units) (pv 10) (pe_lst pa_nil) (nomark _))))) (pss_cons (ps_if (pt_cmpR (op_neD hr.units) (pv 10) (pv 9) (nomark _)) (pss_one (ps_ret pe_bl)) pss_nil) (pss_one (ps_mput hu (pv 2) (pv 6) (pe_lst pa_nil) rfl))) (pss_one (ps_if (pt_cmpR (op_neD hr.units) (pv 10) (pv 1) (nomark _)) (pss_one (ps_ret pe_bl)) pss_nil))) (pss_one (ps_if (pt_val (pe_fld (pv 7) rfl)) (pss_cons (ps_if (PW.pt (pw_or (PW.pt (pw_and (pt_cmpR (op_eqD hr.units) (pv 10) (pe_lst pa_nil) (nomark _)) (pw_and1 (pt_cmpR (op_neD hr.units) (pv 9) (pe_lst pa_nil) (nomark _))))) (pw_or1 (pt_cmpR (op_neD hr.units) (pe_fld (pv 7) rfl) (pv 10) (nomark _))))) (pss_one (ps_ret pe_bl)) pss_nil) (pss_one (ps_for PassesOwn.never rfl (pi_list (pv 10)) (pg_name (i := 11) sc_law_after.nd rfl (Or.inl rfl)) (pss_one (ps_expr (pe_bm PySem.F.plainAttrs_list PySem.F.slot_list_append PySem.F.type_list_append mt_append (pv 3) (pa_cons (pv 11) pa_nil))))))) pss_nil)))) pss_nil) (pss_one (ps_ret pe_bl))))))), ?_⟩
      walk_at "ds"
      refine ⟨_, rfl, t, _, rfl, st, rfl, _, _, rfl, _, _, rfl, _, _, rfl, _, _, rfl, rfl, ?_⟩
      refine ⟨_, rfl, _, rfl, ld, th, hd.key, es, .ref s, rfl, rfl, k0.g0, ko, sh, lk, ?_⟩
      walk_at "go"
      cases dn
      · refine if_f rfl ?_
        walk_at "go"
        exact q _ (cl0 _ _ k0) Tk.refl
      · refine if_t rfl ?_
        refine ⟨_, rfl, by show 1 ≤ sizeLine; omega, fun n1 nn1 => ?_⟩
        have k1 := k0.new (o := .lst [V.int it]) nn1
        have u1 := Tk.new (o := .lst [V.int it]) nn1
        generalize upd H n1 (.lst [V.int it]) = H1 at k1 u1 ⊢
        refine ⟨_, rfl, n1, s, _, _, rfl, rfl, k1.g0, k1.g2, by rw [List.length_map]; show 1 + _ ≤ _; omega, fun n2 nn2 => ?_⟩
        have k2 := k1.new (o := .lst ([V.int it] ++ (S hd).map V.int)) nn2
        have u2 := Tk.new (o := .lst ([V.int it] ++ (S hd).map V.int)) nn2
        generalize upd H1 n2 (.lst ([V.int it] ++ (S hd).map V.int)) = H2 at k2 u2 ⊢
        refine ⟨_, rfl, _, rfl, ld, th, hd.key, es, rfl, rfl, k2.g2, (by walk_at "ko"), (by walk_at "sq"), hle, ?_⟩
        have k3 := k2.u2 (u := dicO P w ld (putE es hd.key th (.ref n2)))
        have u3 := Tk.mut (u := dicO P w ld (putE es hd.key th (.ref n2))) k2.g2 rfl
        generalize upd H2 ld (dicO P w ld (putE es hd.key th (.ref n2))) = H3 at k3 u3 ⊢
        have tt : Tk H H3 := by walk_at "tk"
        walk_at "go"
        refine q _ (cl1 n2 (it :: S hd) th _ _ ?_) tt
        walk_at "sb"
    · obtain ⟨t, ld, lo, th, p, t0, t1, dx, vb, vm, a, b, c, d, e, vi, dn, res, h0, h1, hd, S, loose, R, rfl, st, sh, s0, s1, ne, hc, hlo, hl, sk, q⟩ := h
      have hs : sizeLine = 16777216 := sizeLine_eq
      obtain ⟨s, s', es, l', k0, lk, ko, hle, cl0, cl1⟩ := sk.open ne hc s0 s1
      have hu := hu_of hr
      refine ⟨_, (pss_cons (ps_asg (pv 0) (pg_tup (by rfl) (pgs_cons (pg_name (i := 5) sc_law_after.nd rfl (Or.inl rfl)) (pgs_cons (pg_name (i := 6) sc_law_after.nd rfl (Or.inl rfl)) (pgs_cons (pg_name (i := 7) sc_law_after.nd rfl (Or.inl rfl)) (pgs_cons (pg_name (i := 8) sc_law_after.nd rfl (Or.inl rfl)) pgs_nil)))))) (pss_cons (ps_set (i := 9) sc_law_after.nd rfl (Or.inl rfl) (pe_mitem hu (pv 2) (pv 6) (fun _ _ => rfl))) (pss_cons (ps_if (PW.pt (pw_and (pt_cmpR op_eq (pv 5) pe_str (nomark _)) (pw_and1 (pt_val (pe_fld (pv 7) rfl))))) (pss_one (ps_mput hu (pv 2) (pv 6) (pe_op op_cat (pe_lst (pa_cons (pv 8) pa_nil)) (pv 9)) rfl)) pss_nil) (pss_cons (ps_if (PW.pt (pw_and (pt_cmpR op_eq (pv 5) pe_str (nomark _)) (pw_and1 (pt_val (pe_fld (pv 7) rfl))))) (pss_cons (ps_if (pt_cmpR op_isN (pe_fld (pv 7) rfl) pe_non (nomark _)) (pss_one (ps_ret (pe_cmpR (op_eqD hr.units) (pv 9) (pe_lst pa_nil) (nomark _)))) pss_nil) (pss_cons (ps_if (PW.pt (pw_or (pt_cmpR (op_eqD hr.units) (pv 9) (pe_lst pa_nil) (nomark _)) (pw_or1 (pt_cmpR op_ne (pe_ix ix_list (pv 9) pe_int (fun _ _ => rfl)) (pe_fld (pv 7) rfl) (nomark _))))) (pss_one (ps_ret pe_bl)) pss_nil) (pss_cons (ps_mput hu (pv 2) (pv 6) (pe_slice sl_list (pv 9) (po_some pe_int) po_none) rfl) (pss_one (ps_expr (pe_bm PySem.F.plainAttrs_list PySem.F.slot_list_append PySem.F.type_list_append mt_append (pv 3) (pa_cons (pe_fld (pv 7) rfl) pa_nil))))))) pss_nil) (pss_cons (ps_if (pt_cmpR op_eq (pv 5) pe_str (nomark _)) (pss_cons (ps_set (i := 10) sc_law_after.nd rfl (Or.inl rfl) (pe_m (pv 7) (k_TakeAll T) (me_TakeAll_holding T) (ok_TakeAll_holding T) (hr.mono (by decide)) (pa_cons (pv 4) pa_nil))) (pss_cons (ps_if (PW.pt (pw_and (pt_cmpR (op_eqD hr.units) (pv 1) (pe_lst pa_nil) (nomark _)) (pw_and1 (pt_cmpR (op_neD hr.units) (pv 10) (pe_lst pa_nil) (nomark _))))) (pss_cons (ps_if (pt_cmpR (op_neD hr.units) (pv 10) (pv 9) (nomark _)) (pss_one (ps_ret pe_bl)) pss_nil) (pss_one (ps_mput hu (pv 2) (pv 6) (pe_lst pa_nil) rfl))) (pss_one (ps_if (pt_cmpR (op_neD hr.units) (pv 10) (pv 1) (nomark _)) (pss_one (ps_ret pe_bl)) pss_nil))) (pss_one (ps_if (pt_val (pe_fld (pv 7) rfl)) (pss_cons (ps_if (PW.pt (pw_or (PW.pt (pw_and (pt_cmpR (op_eqD hr.units) (pv 10) (pe_lst pa_nil) (nomark _)) (pw_and1 (pt_cmpR (op_neD hr.units) (pv 9) (pe_lst pa_nil) (nomark _))))) (pw_or1 (pt_cmpR (op_neD hr.units) (pe_fld (pv 7) rfl) (pv 10) (nomark _))))) (pss_one (ps_ret pe_bl)) pss_nil) (pss_one (ps_for PassesOwn.never rfl (pi_list (pv 10)) (pg_name (i := 11) sc_law_after.nd rfl (Or.inl rfl)) (pss_one (ps_expr (pe_bm PySem.F.plainAttrs_list PySem.F.slot_list_append PySem.F.type_list_append mt_append (pv 3) (pa_cons (pv 11) pa_nil))))))) pss_nil)))) pss_nil) (pss_one (ps_ret pe_bl))))))), ?_⟩
      walk_at "ds"
      refine ⟨_, rfl, t, _, rfl, st, rfl, _, _, rfl, _, _, rfl, _, _, rfl, _, _, rfl, rfl, ?_⟩
      refine ⟨_, rfl, _, rfl, ld, th, hd.key, es, .ref s, rfl, rfl, k0.g0, ko, sh, lk, ?_⟩
      walk_at "go"
      rcases q with ⟨rfl, q⟩ | ⟨rfl, rfl, hn, q⟩ | ⟨i, l, rfl, rfl, hn, q⟩
      · refine if_f rfl ?_
        walk_at "go"
        exact q _ (cl0 _ _ k0) Tk.refl
      · refine if_t rfl ?_
        walk_at "go"
        refine ⟨Nat.zero_le _, fun n1 nn1 => ?_⟩
        have k1 := k0.new (o := .lst []) nn1
        have u1 := Tk.new (o := .lst []) nn1
        generalize upd H n1 (.lst []) = H1 at k1 u1 ⊢
        refine ⟨dIs (S hd), dIs [], dp_is (SqL.of k1.g2), dp_is (ns := []) (SqL.of k1.g0), shp_is _, shp_is _, ?_⟩
        rw [eqv_is, decide_eq_true hn]
        exact q H1 (cl0 _ _ k1.tail) u1
      · refine if_t rfl ?_
        walk_at "go"
        refine ⟨Nat.zero_le _, fun n1 nn1 => ?_⟩
        have k1 := k0.new (o := .lst []) nn1
        have u1 := Tk.new (o := .lst []) nn1
        generalize upd H n1 (.lst []) = H1 at k1 u1 ⊢
        refine ⟨dIs (S hd), dIs [], dp_is (SqL.of k1.g2), dp_is (ns := []) (SqL.of k1.g0), shp_is _, shp_is _, ?_⟩
        rw [eqv_is, decide_eq_false (by rw [hn]; exact List.cons_ne_nil _ _)]
        refine ⟨_, rfl, if_f rfl ?_⟩
        refine ⟨_, rfl, s, _, _, .int i, rfl, rfl, SqL.of k1.g2, by rw [hn]; exact atI_at 0 rfl rfl, ?_⟩
        walk_at "go"
        refine if_f (by show (!decide (V.int i = V.int i)) = false; rw [decide_eq_true rfl]; rfl) ?_
        refine ⟨_, rfl, _, rfl, s, _, rfl, SqL.of k1.g2, fun n2 nn2 => ?_⟩
        have ed : cutV ((S hd).map V.int) (some 1) none = l.map V.int := by
          have := cut_from ((S hd).map V.int) 1
          rw [hn] at this ⊢
          exact this
        rw [ed]
        have k2 := k1.new (o := .lst (l.map V.int)) nn2
        have u2 := Tk.new (o := .lst (l.map V.int)) nn2
        generalize upd H1 n2 (.lst (l.map V.int)) = H2 at k2 u2 ⊢
        refine ⟨_, rfl, _, rfl, ld, th, hd.key, es, rfl, rfl, k2.g2, (by walk_at "ko"), (by walk_at "sq"), hle, ?_⟩
        have k3 := k2.u2 (u := dicO P w ld (putE es hd.key th (.ref n2)))
        have u3 := Tk.mut (u := dicO P w ld (putE es hd.key th (.ref n2))) k2.g2 rfl
        generalize upd H2 ld (dicO P w ld (putE es hd.key th (.ref n2))) = H3 at k3 u3 ⊢
        refine ⟨_, rfl, .inl ⟨rfl, _, SqL.of k3.g6⟩, ?_⟩
        walk_at "go"
        refine ⟨lo, _, _, rfl, rfl, k3.g6, by rw [List.length_map]; omega, ?_⟩
        have e1 : loose.map V.int ++ [ovV (some i)] = (loose ++ [i]).map V.int := by rw [List.map_append]; rfl
        rw [e1]
        have k4 := k3.u6 (u := .lst ((loose ++ [i]).map V.int))
        have u4 := Tk.mut (u := .lst ((loose ++ [i]).map V.int)) k3.g6 rfl
        generalize upd H3 lo (.lst ((loose ++ [i]).map V.int)) = H4 at k4 u4 ⊢
        have tt : Tk H H4 := by walk_at "tk"
        walk_at "go"
        refine q _ (cl1 n2 l th _ _ ?_) tt
        walk_at "sb"
    · obtain ⟨t, bf, ld, lo, th, p, t0, t1, m, dm, d, l, dx, vh, n, ms, mm, pt, b, c, vi, top0, ys, xs, before, dn, h0, h1, hd, S, S', loose, R, rfl, st, sh, s0, s1, ne, hc, hlo, hl, hvh, hih, mr, hw, hx, hyx, sk, cs, q⟩ := h
      have hs : sizeLine = 16777216 := sizeLine_eq
      obtain ⟨s, s', es, l', k0, lk, ko, hle, cl0, cl1⟩ := sk.open ne hc s0 s1
      have hu := hu_of hr
      refine ⟨_, (pss_cons (ps_asg (pv 0) (pg_tup (by rfl) (pgs_cons (pg_name (i := 5) sc_law_after.nd rfl (Or.inl rfl)) (pgs_cons (pg_name (i := 6) sc_law_after.nd rfl (Or.inl rfl)) (pgs_cons (pg_name (i := 7) sc_law_after.nd rfl (Or.inl rfl)) (pgs_cons (pg_name (i := 8) sc_law_after.nd rfl (Or.inl rfl)) pgs_nil)))))) (pss_cons (ps_set (i := 9) sc_law_after.nd rfl (Or.inl rfl) (pe_mitem hu (pv 2) (pv 6) (fun _ _ => rfl))) (pss_cons (ps_if (PW.pt (pw_and (pt_cmpR op_eq (pv 5) pe_str (nomark _)) (pw_and1 (pt_val (pe_fld (pv 7) rfl))))) (pss_one (ps_mput hu (pv 2) (pv 6) (pe_op op_cat (pe_lst (pa_cons (pv 8) pa_nil)) (pv 9)) rfl)) pss_nil) (pss_cons (ps_if (PW.pt (pw_and (pt_cmpR op_eq (pv 5) pe_str (nomark _)) (pw_and1 (pt_val (pe_fld (pv 7) rfl))))) (pss_cons (ps_if (pt_cmpR op_isN (pe_fld (pv 7) rfl) pe_non (nomark _)) (pss_one (ps_ret (pe_cmpR (op_eqD hr.units) (pv 9) (pe_lst pa_nil) (nomark _)))) pss_nil) (pss_cons (ps_if (PW.pt (pw_or (pt_cmpR (op_eqD hr.units) (pv 9) (pe_lst pa_nil) (nomark _)) (pw_or1 (pt_cmpR op_ne (pe_ix ix_list (pv 9) pe_int (fun _ _ => rfl)) (pe_fld (pv 7) rfl) (nomark _))))) (pss_one (ps_ret pe_bl)) pss_nil) (pss_cons (ps_mput hu (pv 2) (pv 6) (pe_slice sl_list (pv 9) (po_some pe_int) po_none) rfl) (pss_one (ps_expr (pe_bm PySem.F.plainAttrs_list PySem.F.slot_list_append PySem.F.type_list_append mt_append (pv 3) (pa_cons (pe_fld (pv 7) rfl) pa_nil))))))) pss_nil) (pss_cons (ps_if (pt_cmpR op_eq (pv 5) pe_str (nomark _)) (pss_cons (ps_set (i := 10) sc_law_after.nd rfl (Or.inl rfl) (pe_m (pv 7) (k_TakeAll T) (me_TakeAll_holding T) (ok_TakeAll_holding T) (hr.mono (by decide)) (pa_cons (pv 4) pa_nil))) (pss_cons (ps_if (PW.pt (pw_and (pt_cmpR (op_eqD hr.units) (pv 1) (pe_lst pa_nil) (nomark _)) (pw_and1 (pt_cmpR (op_neD hr.units) (pv 10) (pe_lst pa_nil) (nomark _))))) (pss_cons (ps_if (pt_cmpR (op_neD hr.units) (pv 10) (pv 9) (nomark _)) (pss_one (ps_ret pe_bl)) pss_nil) (pss_one (ps_mput hu (pv 2) (pv 6) (pe_lst pa_nil) rfl))) (pss_one (ps_if (pt_cmpR (op_neD hr.units) (pv 10) (pv 1) (nomark _)) (pss_one (ps_ret pe_bl)) pss_nil))) (pss_one (ps_if (pt_val (pe_fld (pv 7) rfl)) (pss_cons (ps_if (PW.pt (pw_or (PW.pt (pw_and (pt_cmpR (op_eqD hr.units) (pv 10) (pe_lst pa_nil) (nomark _)) (pw_and1 (pt_cmpR (op_neD hr.units) (pv 9) (pe_lst pa_nil) (nomark _))))) (pw_or1 (pt_cmpR (op_neD hr.units) (pe_fld (pv 7) rfl) (pv 10) (nomark _))))) (pss_one (ps_ret pe_bl)) pss_nil) (pss_one (ps_for PassesOwn.never rfl (pi_list (pv 10)) (pg_name (i := 11) sc_law_after.nd rfl (Or.inl rfl)) (pss_one (ps_expr (pe_bm PySem.F.plainAttrs_list PySem.F.slot_list_append PySem.F.type_list_append mt_append (pv 3) (pa_cons (pv 11) pa_nil))))))) pss_nil)))) pss_nil) (pss_one (ps_ret pe_bl))))))), ?_⟩
      walk_at "ds"
      refine ⟨_, rfl, t, _, rfl, st, rfl, _, _, rfl, _, _, rfl, _, _, rfl, _, _, rfl, rfl, ?_⟩
      refine ⟨_, rfl, _, rfl, ld, th, hd.key, es, .ref s, rfl, rfl, k0.g0, ko, sh, lk, ?_⟩
      walk_at "go"
      refine ⟨p, m, dm, d, l, dx, vh, n, ms, mm, hd, pt, _, _, _, top0, ys, xs, _, rfl, (by walk_at "hp"), hvh, hih, mr, hw, hx, hyx, fun r H1 k1 u1 => ?_⟩
      clear k0
      generalize eh : ys ++ xs = held at k1 cs q ⊢
      -- the tests' answers
      have eqn : ∀ (H2 : Hp) (n1 a : Addr) (zs us : List Int), SqL K H2 a (zs.map V.int) → SqL K H2 n1 (us.map V.int) → ∃ d e, Dp K H2 (.ref a) d ∧ Dp K H2 (.ref n1) e ∧ SeqAt.shaped d = true ∧ SeqAt.shaped e = true ∧ PyData.eqv d e = decide (zs = us) :=
        fun H2 n1 a zs us ha hn => ⟨_, _, dp_is ha, dp_is hn, shp_is _, shp_is _, eqv_is _ _⟩
      refine ⟨_, rfl, Nat.zero_le _, fun n1 nn1 => ?_⟩
      have k2 := k1.new (o := .lst (([] : List Int).map V.int)) nn1
      have u2 := Tk.new (o := .lst (([] : List Int).map V.int)) nn1
      obtain ⟨d1, e1, pd1, pe1, sd1, se1, q1⟩ := eqn _ n1 bf before [] (SqL.of k2.g10) (SqL.of k2.g0)
      refine ⟨d1, e1, pd1, pe1, sd1, se1, _, rfl, ?_⟩
      rw [q1]
      have k3 := k2.tail
      clear q1 pd1 pe1
      rcases cs with ⟨rfl, c1, c2, rfl, rfl⟩ | ⟨c1, rfl, c2⟩
      · refine if_t (decide_eq_true rfl) ?_
        refine ⟨_, rfl, Nat.zero_le _, fun n2 nn2 => ?_⟩
        have k4 := k3.new (o := .lst (([] : List Int).map V.int)) nn2
        have u4 := Tk.new (o := .lst (([] : List Int).map V.int)) nn2
        obtain ⟨d2, e2, pd2, pe2, sd2, se2, q2⟩ := eqn _ n2 r held [] (SqL.of k4.g3) (SqL.of k4.g0)
        refine ⟨d2, e2, pd2, pe2, sd2, se2, _, rfl, ?_⟩
        rw [q2, decide_eq_false c1]
        refine if_t rfl ?_
        obtain ⟨d3, e3, pd3, pe3, sd3, se3, q3⟩ := eqn _ s r held (S hd) (SqL.of k4.g3) (SqL.of k4.g7)
        refine ⟨_, rfl, _, rfl, d3, e3, pd3, pe3, sd3, se3, _, rfl, ?_⟩
        rw [q3, decide_eq_true c2]
        refine if_f rfl ?_
        have k5 := k4.tail
        refine ⟨Nat.zero_le _, fun n5 nn5 => ?_⟩
        have k6 := k5.new (o := .lst (([] : List Int).map V.int)) nn5
        have u6 := Tk.new (o := .lst (([] : List Int).map V.int)) nn5
        have t6 : Tk H _ := u1.trans (u2.trans (u4.trans u6))
        refine ⟨_, rfl, _, rfl, ld, th, hd.key, es, rfl, rfl, k6.g6, ko.tk t6, sq_tk sh t6, hle, ?_⟩
        have k7 := k6.u6 (u := dicO P w ld (putE es hd.key th (.ref n5)))
        have u7 := t6.trans (Tk.mut (u := dicO P w ld (putE es hd.key th (.ref n5))) k6.g6 rfl)
        walk_at "go"
        refine q _ (cl1 n5 [] th _ _ ?_) u7
        have k8 := k7.b10.tail.b7.tail.b3.tail
        walk_at "hp"
      · have mid : ∀ (σ : St) (Y Z : Hp → Prop), σ[10]? = some (some (V.ref r)) → (∀ H3, HasM P w K m dm d n ms ((r, .lst (held.map V.int)) :: (p, .ins (c_TakeAll K) dx (f_TakeAll (.ref vh) (.str pt) b c (.int top0) (.ref l) (.bl dn))) :: (l, .lst (ys.map V.int)) :: (ld, dicO P w ld es) :: (s, .lst ((S' hd).map V.int)) :: (s', .lst l') :: (lo, .lst (loose.map V.int)) :: (bf, .lst (before.map V.int)) :: R) H3 → Tk H H3 → Z H3) →
          (if decide (before = []) = true then tTest (tOp (rNeD K) (tVar 10) (tLst tNil)) σ (upd H1 n1 (.lst (([] : List Int).map V.int))) (fun b H1 => if b = true then Y H1 else Z H1) else Z (upd H1 n1 (.lst (([] : List Int).map V.int)))) := by
          intro σ Y Z e10 hz
          by_cases eb : before = []
          · refine if_t (decide_eq_true eb) ⟨_, e10, Nat.zero_le _, fun n2 nn2 => ?_⟩
            have k4 := k3.new (o := .lst (([] : List Int).map V.int)) nn2
            have u4 := Tk.new (o := .lst (([] : List Int).map V.int)) nn2
            obtain ⟨d2, e2, pd2, pe2, sd2, se2, q2⟩ := eqn _ n2 r held [] (SqL.of k4.g3) (SqL.of k4.g0)
            refine ⟨d2, e2, pd2, pe2, sd2, se2, _, rfl, ?_⟩
            rw [q2, decide_eq_true (by rw [c1]; exact eb)]
            exact if_f rfl (hz _ k4.tail (u1.trans (u2.trans u4)))
          · exact if_f (decide_eq_false eb) (hz _ k3 (u1.trans u2))
        refine mid _ _ _ rfl fun H3 k5 u5 => ?_
        clear mid
        obtain ⟨d3, e3, pd3, pe3, sd3, se3, q3⟩ := eqn _ bf r held before (SqL.of k5.g2) (SqL.of k5.g9)
        refine ⟨_, rfl, _, rfl, d3, e3, pd3, pe3, sd3, se3, _, rfl, ?_⟩
        rw [q3, decide_eq_true c1]
        refine if_f rfl ?_
        clear q3 pd3 pe3
        walk_at "go"
        cases dn with
        | false =>
          refine if_f rfl ?_
          walk_at "go"
          refine q _ (cl0 _ _ ?_) u5
          have k8 := k5.b9.tail.b2.tail
          walk_at "hp"
        | true =>
          refine if_t rfl ?_
          obtain ⟨c3, c4⟩ := c2 rfl
          subst c3
          rw [List.append_nil] at eh
          subst eh
          have mid : ∀ (σ : St) (Y Z : Hp → Prop), σ[10]? = some (some (V.ref r)) → σ[9]? = some (some (V.ref s)) → σ[7]? = some (some (V.ref p)) → (∀ H4, HasM P w K m dm d n ms ((r, .lst (ys.map V.int)) :: (p, .ins (c_TakeAll K) dx (f_TakeAll (.ref vh) (.str pt) b c (.int top0) (.ref l) (.bl true))) :: (l, .lst (ys.map V.int)) :: (ld, dicO P w ld es) :: (s, .lst ((S' hd).map V.int)) :: (s', .lst l') :: (lo, .lst (loose.map V.int)) :: (bf, .lst (before.map V.int)) :: R) H4 → Tk H H4 → Z H4) →
            tOr (tAnd (tTest (tOp (rEqD K) (tVar 10) (tLst tNil))) (tTest (tOp (rNeD K) (tVar 9) (tLst tNil)))) (tTest (tOp (rNeD K) (tFld K (tVar 7) ("taken" : Str)) (tVar 10))) σ H3 (fun b H1 => if b = true then Y H1 else Z H1) := by
            intro σ Y Z e10 e9 e7 hz
            have last : ∀ H4, HasM P w K m dm d n ms ((r, .lst (ys.map V.int)) :: (p, .ins (c_TakeAll K) dx (f_TakeAll (.ref vh) (.str pt) b c (.int top0) (.ref l) (.bl true))) :: (l, .lst (ys.map V.int)) :: (ld, dicO P w ld es) :: (s, .lst ((S' hd).map V.int)) :: (s', .lst l') :: (lo, .lst (loose.map V.int)) :: (bf, .lst (before.map V.int)) :: R) H4 → Tk H H4 →
                tTest (tOp (rNeD K) (tFld K (tVar 7) ("taken" : Str)) (tVar 10)) σ H4 (fun b H1 => if b = true then Y H1 else Z H1) := by
              intro H4 k6 u6
              refine ⟨_, e7, ?_⟩
              walk_at "fr"
              obtain ⟨d4, e4, pd4, pe4, sd4, se4, q4⟩ := eqn _ r l ys ys (SqL.of k6.g4) (SqL.of k6.g2)
              refine ⟨_, e10, d4, e4, pd4, pe4, sd4, se4, _, rfl, ?_⟩
              rw [q4, decide_eq_true rfl]
              exact if_f rfl (hz _ k6 u6)
            refine ⟨_, e10, Nat.zero_le _, fun n6 nn6 => ?_⟩
            have k6 := k5.new (o := .lst (([] : List Int).map V.int)) nn6
            have u6 := Tk.new (o := .lst (([] : List Int).map V.int)) nn6
            obtain ⟨d5, e5, pd5, pe5, sd5, se5, q5⟩ := eqn _ n6 r ys [] (SqL.of k6.g3) (SqL.of k6.g0)
            refine ⟨d5, e5, pd5, pe5, sd5, se5, _, rfl, ?_⟩
            rw [q5]
            by_cases en : ys = []
            · refine if_t (decide_eq_true en) ⟨_, e9, Nat.zero_le _, fun n7 nn7 => ?_⟩
              have k7 := k6.new (o := .lst (([] : List Int).map V.int)) nn7
              have u7 := Tk.new (o := .lst (([] : List Int).map V.int)) nn7
              obtain ⟨d6, e6, pd6, pe6, sd6, se6, q6⟩ := eqn _ n7 s (S' hd) [] (SqL.of k7.g8) (SqL.of k7.g0)
              refine ⟨d6, e6, pd6, pe6, sd6, se6, _, rfl, ?_⟩
              rw [q6, decide_eq_true (c4 en)]
              exact if_f rfl (last _ k7.tail.tail (u5.trans (u6.trans u7)))
            · exact if_f (decide_eq_false en) (if_f rfl (last _ k6.tail (u5.trans u6)))
          refine mid _ _ _ rfl rfl rfl fun H4 k6 u6 => ?_
          clear mid
          refine ⟨_, rfl, r, rfl, ⟨_, SqL.of k6.g2⟩, ?_⟩
          refine for_list (xs := ys.map V.int) (fun i σ H' => ∃ v11, σ = [some (.ref t), some (.ref bf), some (.ref ld), some (.ref lo), some (.ref m), some (.str "all"), some (.ref th), some (.ref p), some vi, some (.ref s), some (.ref r), v11] ∧ Tk H H' ∧
            HasM P w K m dm d n ms ((r, .lst (ys.map V.int)) :: (p, .ins (c_TakeAll K) dx (f_TakeAll (.ref vh) (.str pt) b c (.int top0) (.ref l) (.bl true))) :: (l, .lst (ys.map V.int)) :: (ld, dicO P w ld es) :: (s, .lst ((S' hd).map V.int)) :: (s', .lst l') :: (lo, .lst ((loose ++ ys.take i).map V.int)) :: (bf, .lst (before.map V.int)) :: R) H')
            ⟨none, rfl, u6, by rw [List.take_zero, List.append_nil]; exact k6⟩ (fun i σ H' _ ⟨_, _, _, h⟩ => SqL.of h.g2) ?_ ?_
          · rintro i x σ H5 hx ⟨v11, rfl, u7, k7⟩
            rw [List.getElem?_map] at hx
            obtain ⟨z, hz, rfl⟩ := Option.map_eq_some_iff.mp hx
            have hi : i < ys.length := (List.getElem?_eq_some_iff.mp hz).1
            refine ⟨_, rfl, .inl ⟨rfl, _, SqL.of k7.g8⟩, ?_⟩
            refine ⟨_, rfl, lo, _, _, rfl, rfl, k7.g8, ?_, ?_⟩
            · rw [List.length_map, List.length_append, List.length_take]
              have := List.length_nil (α := Int)
              omega
            have e1 : (loose ++ ys.take i).map V.int ++ [V.int z] = (loose ++ ys.take (i + 1)).map V.int := by
              rw [List.take_add_one, hz, List.map_append, List.map_append, List.map_append, List.append_assoc]; rfl
            rw [e1]
            exact ⟨_, rfl, u7.trans (Tk.mut k7.g8 rfl), k7.u8⟩
          · rintro σ H5 ⟨v11, rfl, u7, k7⟩
            rw [List.length_map, List.take_length] at k7
            refine q _ (cl0 _ _ ?_) u7
            have k8 := k7.b9.tail.b2.tail
            walk_at "hp"
end

/-! ## L02c -/
set_option Elab.async false
set_option linter.all false
set_option maxRecDepth 100000
set_option maxHeartbeats 4000000
/-! ### the second law: the items of both stacks -/
section
variable {P : Program} {w : World} {K : PySem.W.Frag} {mg : Str → Option Value} {base : Heap}
structure G2 where
  (a st m dm d hl lo ld t0 t1 : Addr) (h0 h1 : Cell) (mo : Int)
def B2 (P : Program) (w : World) (K : PySem.W.Frag) (g : G2) (n : Int) (xs : List Ent) (loose : List Int) (R : List (Addr × HO)) : List (Addr × HO) :=
  (g.m, memO K g.dm g.d n) :: (g.d, dicO P w g.d xs) :: (g.hl, .lst [.ref g.t0, .ref g.t1]) :: (g.lo, .lst (loose.map V.int)) :: R
def W2 (P : Program) (w : World) (K : PySem.W.Frag) (g : G2) (n : Int) (xs : List Ent) (S : Cell → List Int) (loose : List Int) (ml : Addr) (ts : List Addr) (R : List (Addr × HO)) (H : Hp) : Prop := ∃ cl pos ns, StOk ns ∧
  Stk2 P w g.ld g.t0 g.t1 g.h0 g.h1 S ((g.st, .lst [.int pos, .ref cl]) :: (cl, .lst (ns.map V.int)) :: (g.m, memO K g.dm g.d n) :: (g.d, dicO P w g.d xs) :: (g.hl, .lst [.ref g.t0, .ref g.t1]) :: (g.lo, .lst (loose.map V.int)) :: (ml, .lst (ts.map V.ref)) :: R) H
def J2 (P : Program) (w : World) (K : PySem.W.Frag) (g : G2) (i : Nat) (σ : St) (H : Hp) : Prop := ∃ (ml : Addr) (n : Int) (xs : List Ent) (mm : Mem) (S : Cell → List Int) (loose : List Int) (es : List E2) (v8 v9 v10 v11 v12 v13 v14 : Option V),
  σ = [some (.ref g.a), some (.ref g.st), some (.ref g.m), some (.ref g.hl), some (.ref g.ld), some (.int g.mo), some (.ref g.lo), some (.ref ml), v8, v9, v10, v11, v12, v13, v14] ∧
  W2 P w K g n xs S loose ml (es.map E2.t) (es.flatMap E2.cells) H ∧ K2 mm g.h0 g.h1 S loose (es.map E2.mc) ∧ MR K H xs mm ∧ (∀ e ∈ es, E2Ok K H e) ∧ SqT K H g.t0 (g.h0.key.map kV) ∧ SqT K H g.t1 (g.h1.key.map kV) ∧ es.length ≤ 5 ∧ xs.length ≤ i
theorem K2.len {mm : Mem} {h0 h1 : Cell} {S : Cell → List Int} {loose : List Int} {ms : List Mc} (k : K2 mm h0 h1 S loose ms) : loose.length + (S h0).length + (S h1).length + cntM none ms ≤ 100 := k.one none
theorem K2.lenS {mm : Mem} {h0 h1 : Cell} {S : Cell → List Int} {loose : List Int} {ms : List Mc} (k : K2 mm h0 h1 S loose ms) {c : Cell} (hc : c = h0 ∨ c = h1) : (S c).length ≤ 100 := by
  have := k.len
  rcases hc with e | e <;> (subst e; omega)
theorem its2 {g : G2} {i : Nat} {σ : St} {H : Hp} {D : Ends} (j : J2 P w K g i σ H) (q : ∀ σ H, J2 P w K g i σ H → D.nx σ H) :
    tFor (iList K (tVar 3)) (gName 13) (tIfS (tTest (tOp (rNeD K) (tCall (spItems P w K) [] E0 (tCons (tVar 2) (tCons (tVar 13) tNil))) (tMItem P w K (tVar 4) (tVar 13)))) (tRet (tC (V.bl false))) tNext) D σ H := by
  have j0 := j
  obtain ⟨ml, n, xs, mm, S, loose, es, v8, v9, v10, v11, v12, v13, v14, rfl, ⟨cl, pos, ns, ok, s0, s1, k0⟩, _⟩ := j
  refine ⟨_, rfl, g.hl, rfl, ⟨_, SqL.of k0.g7⟩, ?_⟩
  clear k0
  refine for_list (xs := [.ref g.t0, .ref g.t1]) (fun _ σ H => J2 P w K g i σ H) j0 (fun k σ H _ h => ?_) ?_ (fun σ H h => q σ H h)
  · obtain ⟨ml, n, xs, mm, S, loose, es, v8, v9, v10, v11, v12, v13, v14, rfl, ⟨cl, pos, ns, ok, s0, s1, k0⟩, _⟩ := h
    exact SqL.of k0.g7
  · rintro k x σ H1 hx ⟨ml, n, xs, mm, S, loose, es, v8, v9, v10, v11, v12, v13, v14, rfl, ⟨cl, pos, ns, ok, sk⟩, kk, mr, he, e0, e1, hl, hb⟩
    obtain ⟨t, hd, rfl, ht, hin⟩ : ∃ t hd, x = .ref t ∧ SqT K H1 t (hd.key.map kV) ∧ (hd = g.h0 ∨ hd = g.h1) := by
      have hm := List.mem_of_getElem? hx
      rcases List.mem_cons.mp hm with e | hm
      · exact ⟨_, _, e, e0, .inl rfl⟩
      · exact ⟨_, _, List.mem_singleton.mp hm, e1, .inr rfl⟩
    obtain ⟨s, s', ds, l', k0, lk, ko, hle, cl0, cl1⟩ := sk.open kk.ne hin e0 e1
    have hS := kk.lenS hin
    refine ⟨_, rfl, _, rfl, g.m, g.dm, g.d, t, n, xs, mm, hd, S hd, _, rfl, (by walk_at "hp"), ht, kk.ih hd hin, mr, kk.ch hd hin, by omega, fun p H2 k2 t2 => ?_⟩
    have k3 := k2.b2.tail
    refine ⟨_, rfl, _, rfl, g.ld, t, hd.key, ds, .ref s, rfl, rfl, k3.g2, ko.tk t2, sq_tk ht t2, lk, ?_⟩
    refine ⟨dIs (S hd), dIs (S hd), dp_is (SqL.of k2.g2), dp_is (SqL.of k3.g3), shp_is _, shp_is _, _, rfl, ?_⟩
    refine if_f (by rw [eqv_is, decide_eq_true rfl]; rfl) ?_
    exact ⟨ml, n, xs, mm, S, loose, es, _, _, _, _, _, _, _, rfl, ⟨cl, pos, ns, ok, cl0 _ _ (by walk_at "hp")⟩, kk, mr.tk t2, fun e h => (he e h).tk t2, sq_tk e0 t2, sq_tk e1 t2, hl, hb⟩
end

/-! ## L02d -/
set_option Elab.async false
set_option linter.all false
set_option maxRecDepth 100000
set_option maxHeartbeats 4000000
/-! ### the second law: a machine that is done leaves -/
section
variable {P : Program} {w : World} {K : PySem.W.Frag} {mg : Str → Option Value} {base : Heap}
theorem W2.perm {g : G2} {n : Int} {xs : List Ent} {S : Cell → List Int} {loose : List Int} {ml : Addr} {ts : List Addr} {R R' : List (Addr × HO)} {H : Hp} (h : W2 P w K g n xs S loose ml ts R H) (p : R.Perm R') : W2 P w K g n xs S loose ml ts R' H := by
  obtain ⟨cl, pos, ns, ok, s0, s1, k⟩ := h
  exact ⟨cl, pos, ns, ok, s0, s1, k.perm (.cons _ (.cons _ (.cons _ (.cons _ (.cons _ (.cons _ (.cons _ (.cons _ (.cons _ (.cons _ p))))))))))⟩
theorem W2.drop {g : G2} {n : Int} {xs : List Ent} {S : Cell → List Int} {loose : List Int} {ml : Addr} {ts : List Addr} {C R : List (Addr × HO)} {H : Hp} (h : W2 P w K g n xs S loose ml ts (C ++ R) H) : W2 P w K g n xs S loose ml ts R H := by
  obtain ⟨cl, pos, ns, ok, s0, s1, k⟩ := h
  have p : (C ++ R).Perm (R ++ C) := List.perm_append_comm
  have k2 := k.perm (.cons _ (.cons _ (.cons _ (.cons _ (.cons _ (.cons _ (.cons _ (.cons _ (.cons _ (.cons _ p))))))))))
  exact ⟨cl, pos, ns, ok, s0, s1, Has.app1 (L := _ :: _ :: _ :: _ :: _ :: _ :: _ :: _ :: _ :: _ :: R) (M := C) k2⟩
theorem fm_mid (A B : List E2) (e : E2) : (e.cells ++ (A.flatMap E2.cells ++ B.flatMap E2.cells)).Perm ((A ++ e :: B).flatMap E2.cells) := by
  rw [List.flatMap_append, List.flatMap_cons]
  exact List.perm_append_comm_assoc ..
theorem fin2 {g : G2} {i : Nat} {σ : St} {H : Hp} {D : Ends} {ml : Addr} {n : Int} {xs : List Ent} {mm : Mem} {S : Cell → List Int} {loose : List Int} {A B : List E2} {t p : Addr} {ts : List Addr} {C' : List (Addr × HO)} {C dx : Addr} {fs : List (Str × V)} {dn : Bool} {v8 v11 v12 v13 v14 : Option V} {wd vt vi : V}
    (es : σ = [some (.ref g.a), some (.ref g.st), some (.ref g.m), some (.ref g.hl), some (.ref g.ld), some (.int g.mo), some (.ref g.lo), some (.ref ml), v8, some (.int A.length), some (.ref t), v11, v12, v13, v14])
    (hW : W2 P w K g n xs S loose ml ts (C' ++ (A.flatMap E2.cells ++ B.flatMap E2.cells)) H) (hts : ts = A.map E2.t ++ t :: B.map E2.t) (ho : H p = some (.ins C dx fs)) (hc : Cls K C) (hn : NoAttr K C ("done" : Str)) (hf : fs.lookup ("done" : Str) = some (V.bl dn)) (ht : SqT K H t [wd, vt, .ref p, vi])
    (cs : (dn = false ∧ ∃ e' : E2, e'.t = t ∧ C' = e'.cells ∧ E2Ok K H e' ∧ K2 mm g.h0 g.h1 S loose ((A ++ e' :: B).map E2.mc)) ∨ (dn = true ∧ K2 mm g.h0 g.h1 S loose ((A ++ B).map E2.mc)))
    (mr : MR K H xs mm) (he : ∀ e ∈ A ++ B, E2Ok K H e) (e0 : SqT K H g.t0 (g.h0.key.map kV)) (e1 : SqT K H g.t1 (g.h1.key.map kV)) (hl : A.length + B.length + 1 ≤ 5) (hb : xs.length ≤ i) (q : ∀ σ H, J2 P w K g i σ H → D.nx σ H) :
    tSeq (tIfS (tB (tFld K (tOp (rIxT K) (tVar 10) (tC (V.int 2))) (Str.ofString "done"))) (tAsg (tOp rCat (tSl (rSlL K) (tVar 7) tNoPart (tPart (tVar 9))) (tSl (rSlL K) (tVar 7) (tPart (tOp (rI0 fun i j => V.int (i + j)) (tVar 9) (tC (V.int 1)))) tNoPart)) (gName 7)) tNext)
      (tFor (iList K (tVar 3)) (gName 13) (tIfS (tTest (tOp (rNeD K) (tCall (spItems P w K) [] E0 (tCons (tVar 2) (tCons (tVar 13) tNil))) (tMItem P w K (tVar 4) (tVar 13)))) (tRet (tC (V.bl false))) tNext)) D σ H := by
  subst es
  have hs : sizeLine = 16777216 := sizeLine_eq
  refine ⟨_, rfl, _, _, _, _, rfl, rfl, ht, atI_at 2 rfl rfl, ?_⟩
  refine ⟨_, _, _, _, _, rfl, ho, hc, hn, hf, _, rfl, ?_⟩
  rcases cs with ⟨rfl, e', et, rfl, hk, kk⟩ | ⟨rfl, kk⟩
  · refine if_f rfl ?_
    refine its2 ⟨ml, n, xs, mm, S, loose, A ++ e' :: B, _, _, _, _, _, _, _, rfl, ?_, kk, mr, fun z hz => ?_, e0, e1, ?_, hb⟩ q
    · have et2 : (A ++ e' :: B).map E2.t = ts := by rw [hts, List.map_append, List.map_cons, et]
      rw [et2]
      exact hW.perm (fm_mid A B e')
    · rcases List.mem_append.mp hz with h | h
      · exact he z (List.mem_append_left _ h)
      · rcases List.mem_cons.mp h with rfl | h
        · exact hk
        · exact he z (List.mem_append_right _ h)
    · rw [List.length_append, List.length_cons]; omega
  · refine if_t rfl ?_
    obtain ⟨cl, pos, ns, ok, s0, s1, k⟩ := hW.drop
    have la : ts.map V.ref = A.map (fun x => V.ref x.t) ++ V.ref t :: B.map (fun x => V.ref x.t) := by rw [hts, List.map_append, List.map_cons, List.map_map, List.map_map]; rfl
    rw [la] at k
    refine ⟨_, rfl, _, rfl, _, rfl, ml, _, rfl, SqL.of k.g9, fun n1 nn1 => ?_⟩
    rw [cut_to, List.take_append_of_le_length (by rw [List.length_map]; exact Nat.le_refl _), List.take_of_length_le (by rw [List.length_map]; exact Nat.le_refl _)]
    have k1 := k.new (o := .lst (A.map fun x => V.ref x.t)) nn1
    have t1 := Tk.new (o := .lst (A.map fun x => V.ref x.t)) nn1
    generalize upd H n1 (.lst (A.map fun x => V.ref x.t)) = H1 at k1 t1 ⊢
    refine ⟨_, rfl, _, rfl, _, _, rfl, rfl, _, rfl, ml, _, rfl, SqL.of k1.g10, fun n2 nn2 => ?_⟩
    have e2 : (A.length : Int) + 1 = ((A.length + 1 : Nat) : Int) := rfl
    have e3 : (A.map (fun x => V.ref x.t) ++ V.ref t :: B.map (fun x => V.ref x.t)).drop (A.length + 1) = B.map (fun x => V.ref x.t) := by
      rw [List.drop_append, List.drop_eq_nil_of_le (by rw [List.length_map]; omega), List.length_map, Nat.add_sub_cancel_left]
      rfl
    rw [e2, cut_from, e3]
    have k2 := k1.new (o := .lst (B.map fun x => V.ref x.t)) nn2
    have t2 := Tk.new (o := .lst (B.map fun x => V.ref x.t)) nn2
    generalize upd H1 n2 (.lst (B.map fun x => V.ref x.t)) = H2 at k2 t2 ⊢
    refine ⟨n1, n2, _, _, rfl, rfl, k2.g1, k2.g0, by rw [List.length_map, List.length_map]; omega, fun n3 nn3 => ?_⟩
    have e4 : A.map (fun x => V.ref x.t) ++ B.map (fun x => V.ref x.t) = ((A ++ B).map E2.t).map V.ref := by rw [List.map_map, List.map_append]; rfl
    rw [e4]
    have k3 := k2.new (o := .lst (((A ++ B).map E2.t).map V.ref)) nn3
    have t3 := Tk.new (o := .lst (((A ++ B).map E2.t).map V.ref)) nn3
    generalize upd H2 n3 (.lst (((A ++ B).map E2.t).map V.ref)) = H3 at k3 t3 ⊢
    have tt : Tk H H3 := t1.trans (t2.trans t3)
    refine its2 ⟨n3, n, xs, mm, S, loose, A ++ B, _, _, _, _, _, _, _, rfl, ⟨cl, pos, ns, ok, s0, s1, ?_⟩, kk, mr.tk tt, fun z hz => (he z hz).tk tt, sq_tk e0 tt, sq_tk e1 tt, ?_, hb⟩ q
    · rw [List.flatMap_append]
      have k4 := k3.b1.tail.b1.tail.b10.tail
      walk_at "hp"
    · rw [List.length_append]; omega
end

/-! ## L02e -/
set_option Elab.async false
set_option linter.all false
set_option maxRecDepth 100000
set_option maxHeartbeats 4000000
/-! ### the second law: a turn -/
section
variable {P : Program} {w : World} {K : PySem.W.Frag} {mg : Str → Option Value} {base : Heap}
theorem take_w1 {m : Mem} {s : TakeS} {rest : List Int} (h : TakeOk m s rest) : s.ph.txt = "walk" → Chain m s.hd s.top rest := by
  obtain ⟨hd, ph, raw, top, taken⟩ := s
  intro e
  cases ph with
  | walk => exact (h.2.1 rfl).1
  | head => exact absurd (show Pt.head.txt = "walk" from e) (by decide +kernel)
  | swap => exact absurd (show Pt.swap.txt = "walk" from e) (by decide +kernel)
theorem take_w2 {m : Mem} {s : TakeS} {rest : List Int} (h : TakeOk m s rest) : s.ph.txt ≠ "walk" → rest = [] := by
  obtain ⟨hd, ph, raw, top, taken⟩ := s
  intro e
  cases ph with
  | walk => exact absurd rfl e
  | head => exact (h.2.2 (fun z => by cases z)).1
  | swap => exact (h.2.2 (fun z => by cases z)).1
theorem turn2 (T : Tx K mg) {g : G2} {i : Nat} {σ : St} {H : Hp} {D : Ends} {ml : Addr} {n : Int} {xs : List Ent} {mm : Mem} {S : Cell → List Int} {loose : List Int} {es : List E2} {v8 v9 v10 v11 v12 v13 v14 : Option V}
    (eσ : σ = [some (.ref g.a), some (.ref g.st), some (.ref g.m), some (.ref g.hl), some (.ref g.ld), some (.int g.mo), some (.ref g.lo), some (.ref ml), v8, v9, v10, v11, v12, v13, v14])
    (hW : W2 P w K g n xs S loose ml (es.map E2.t) (es.flatMap E2.cells) H) (kk : K2 mm g.h0 g.h1 S loose (es.map E2.mc)) (mr : MR K H xs mm) (he : ∀ e ∈ es, E2Ok K H e) (e0 : SqT K H g.t0 (g.h0.key.map kV)) (e1 : SqT K H g.t1 (g.h1.key.map kV))
    (hl : es.length ≤ 5) (hb : xs.length ≤ i) (hi : i < 1000) (hn : 0 < es.length) (q : ∀ σ H, J2 P w K g (i + 1) σ H → D.nx σ H) :
    (tSeq (tAsg (tCall spTake [] L2.E0 (tCons (tVar 1) (tCons (tCB (fun xs H Q => ∃ p ys, xs = [V.ref p] ∧ (SqL K H p ys ∨ SqT K H p ys) ∧ Q (V.int ↑ys.length) H) (tCons (tVar 7) tNil)) tNil))) (gName 9)) (tSeq (tAsg (tOp (rIxL K) (tVar 7) (tVar 9)) (gName 10)) (tSeq (tAsg (tLst tNil) (gName 11)) (tSeq (tIfS (tTest (tOp rEq (tOp (rIxT K) (tVar 10) (tC (V.int 0))) (tC (V.str (Str.ofString "all"))))) (tAsg (tMeth (c_TakeAll K) (Str.ofString "holding") (spTakeHold P w K) [] L2.E0 (tOp (rIxT K) (tVar 10) (tC (V.int 2))) (tCons (tVar 2) tNil)) (gName 11)) tNext) (tSeq (tAsg (tFld K (tVar 2) (Str.ofString "accesses")) (gName 12)) (tSeq (tDrop fun σ H Q => tMeth (c_Push K) (Str.ofString "step") (spPushStep P w K) [] L2.E0 (tOp (rIxT K) (tVar 10) (tC (V.int 2))) (tCons (tVar 2) tNil) σ H Q ∨ tMeth (c_TakeAll K) (Str.ofString "step") (spTakeStep P w K) [] L2.E0 (tOp (rIxT K) (tVar 10) (tC (V.int 2))) (tCons (tVar 2) tNil) σ H Q ∨ tMeth (c_Pop K) (Str.ofString "step") (spPopStep P w K) [] L2.E0 (tOp (rIxT K) (tVar 10) (tC (V.int 2))) (tCons (tVar 2) tNil) σ H Q) (tSeq (tIfS (tOr (tTest (tOp rNe (tFld K (tVar 2) (Str.ofString "accesses")) (tOp (rI0 fun i j => V.int (i + j)) (tVar 12) (tC (V.int 1))))) (tNot (tB (tCall (fun vs H Q E => spAfPush P w K vs H Q E ∨ spAfPop P w K vs H Q E ∨ spAfAll P w K vs H Q E) [] L2.E0 (tCons (tVar 10) (tCons (tVar 11) (tCons (tVar 4) (tCons (tVar 6) (tCons (tVar 2) tNil))))))))) (tRet (tC (V.bl false))) tNext) (tSeq (tIfS (tB (tFld K (tOp (rIxT K) (tVar 10) (tC (V.int 2))) (Str.ofString "done"))) (tAsg (tOp rCat (tSl (rSlL K) (tVar 7) tNoPart (tPart (tVar 9))) (tSl (rSlL K) (tVar 7) (tPart (tOp (rI0 fun i j => V.int (i + j)) (tVar 9) (tC (V.int 1)))) tNoPart)) (gName 7)) tNext) (tFor (iList K (tVar 3)) (gName 13) (tIfS (tTest (tOp (rNeD K) (tCall (spItems P w K) [] L2.E0 (tCons (tVar 2) (tCons (tVar 13) tNil))) (tMItem P w K (tVar 4) (tVar 13)))) (tRet (tC (V.bl false))) tNext)))))))))) D σ H := by
  subst eσ
  have hs : sizeLine = 16777216 := sizeLine_eq
  obtain ⟨cl, pos, ns, ok, s0, s1, k0⟩ := hW
  refine ⟨_, rfl, _, rfl, _, _, rfl, .inl (SqL.of k0.g9), ?_⟩
  rw [List.length_map, List.length_map]
  refine ⟨g.st, _, _, rfl, by omega, by omega, ⟨cl, pos, ns, ok, (by walk_at "hp")⟩, ?_⟩
  rintro r H1 a1 b1 ⟨cl1, pos1, ns1, ok1, k1⟩ u1
  obtain ⟨A, e, B, rfl, rfl⟩ : ∃ A e B, es = A ++ e :: B ∧ r = ((A.length : Nat) : Int) := by
    have hj : r.toNat < es.length := by omega
    refine ⟨es.take r.toNat, es[r.toNat], es.drop (r.toNat + 1), ?_, ?_⟩
    · rw [List.getElem_cons_drop hj, List.take_append_drop]
    · rw [List.length_take]; omega
  have hat : ((((A ++ e :: B).map E2.t).map V.ref)[A.length]?) = some (.ref e.t) := by
    rw [List.map_map, List.map_append, List.getElem?_append_right (by rw [List.length_map]; exact Nat.le_refl _), List.length_map, Nat.sub_self]; rfl
  refine ⟨_, rfl, _, rfl, ml, _, _, _, rfl, rfl, SqL.of k1.g9, atI_at A.length rfl hat, ?_⟩
  refine ⟨Nat.zero_le _, fun bf nbf => ?_⟩
  have k2 := k1.new (o := .lst []) nbf
  have u2 := Tk.new (o := .lst []) nbf
  generalize upd H1 bf (.lst []) = H2 at k2 u2 ⊢
  have k3 := (Has.perm k2 (M := [(bf, .lst []), (g.st, .lst [.int pos1, .ref cl1]), (cl1, .lst (ns1.map V.int)), (g.ld, dicO P w g.ld [(g.h0.key, g.t0, .ref s0), (g.h1.key, g.t1, .ref s1)]), (s0, .lst ((S g.h0).map V.int)), (s1, .lst ((S g.h1).map V.int)), (g.m, memO K g.dm g.d n), (g.d, dicO P w g.d xs), (g.hl, .lst [.ref g.t0, .ref g.t1]), (g.lo, .lst (loose.map V.int)), (ml, .lst (((A ++ e :: B).map E2.t).map V.ref))] ++ (e.cells ++ (A.flatMap E2.cells ++ B.flatMap E2.cells)))
    (.cons _ (.cons _ (.cons _ (.cons _ (.cons _ (.cons _ (.cons _ (.cons _ (.cons _ (.cons _ (.cons _ (fm_mid A B e).symm)))))))))))).perm (List.perm_append_comm_assoc ..)
  have tt : Tk H H2 := u1.trans u2
  have hme := he e (List.mem_append_right _ (List.mem_cons_self ..))
  have heo : ∀ z ∈ A ++ B, E2Ok K H2 z := fun z hz => (he z (by
    rcases List.mem_append.mp hz with h | h
    · exact List.mem_append_left _ h
    · exact List.mem_append_right _ (List.mem_cons_of_mem _ h))).tk tt
  have hme2 := hme.tk tt
  have e02 := sq_tk e0 tt
  have e12 := sq_tk e1 tt
  have mr2 := mr.tk tt
  have hlen : A.length + B.length + 1 ≤ 5 := by rw [List.length_append, List.length_cons] at hl; omega
  have kl : loose.length ≤ 100 ∧ cnt none e.mc.held ≤ 100 := by
    have := kk.len
    rw [List.map_append, List.map_cons, cntM_app, cntM_cons] at this
    omega
  rw [List.map_append, List.map_cons] at kk
  clear k0 k1 k2 u1 u2 he hme e0 e1 mr tt hat ok hl hn a1 b1
  have hts : (A ++ e :: B).map E2.t = A.map E2.t ++ e.t :: B.map E2.t := by rw [List.map_append, List.map_cons]
  generalize (A ++ e :: B).map E2.t = ts at k3 hts
  generalize eFA : A.flatMap E2.cells ++ B.flatMap E2.cells = F at k3
  obtain ⟨t, th, p, l, o, mc⟩ := e
  obtain ⟨ht, hth, hma⟩ := hme2
  obtain ⟨mok, hin⟩ := kk.ok mc (List.mem_append_right _ (List.mem_cons_self ..))
  have hSl := kk.lenS hin
  cases mc with
  | push s =>
    obtain ⟨dx, vh, tr, vr, rfl, p1, p2, p3, p4⟩ := hma
    dsimp only [wordOf, itemOf, Mc.hd, E2.cells, List.cons_append, List.nil_append] at ht hth k3 hin hSl hts kl kk ⊢
    refine ⟨_, rfl, _, _, _, _, rfl, rfl, ht, atI_at 0 rfl rfl, rfl, _, rfl, ?_⟩
    refine if_f (by decide +kernel) ?_
    walk_at "go"
    refine .inl ?_
    walk_at "go"
    refine ⟨p, g.m, g.dm, g.d, n, xs, mm, s, _, _, rfl, (by walk_at "hp"), ⟨dx, vh, tr, vr, rfl, p1, p2, p3, p4⟩, mr2, by omega, fun H3 xs' o' k4 u4 mr4 hx4 ho4 => ?_⟩
    walk_at "go"
    refine if_f (by show (!decide (V.int (n + 1) = V.int (n + 1))) = false; rw [decide_eq_true rfl]; rfl) ?_
    refine ⟨_, rfl, _, rfl, _, rfl, _, rfl, _, rfl, .inl ?_⟩
    have ht3 := sq_tk ht u4
    have hth3 := sq_tk hth u4
    have e03 := sq_tk e02 u4
    have e13 := sq_tk e12 u4
    rcases push_step kk with ⟨s', es', eh', ei', kk'⟩ | ⟨es', kk'⟩
    · rw [es'] at ho4
      obtain ⟨dx', vh', tr', vr', rfl, p1', p2', p3', p4'⟩ := ho4
      refine ⟨t, g.ld, g.lo, th, p, g.t0, g.t1, dx', _, _, _, _, _, _, _, s.item, false, g.h0, g.h1, s.hd, S, _, rfl, ht3, hth3, e03, e13, kk.ne, hin, by omega, ⟨s0, s1, (by walk_at "hp")⟩, fun H4 k5 u5 => ?_⟩
      rw [if_neg Bool.false_ne_true] at k5
      refine ⟨_, rfl, if_f rfl ?_⟩
      obtain ⟨z0, z1, k5⟩ := k5
      have k6 := k5.b6.tail
      refine fin2 (n := n + 1) (S := S) (loose := loose) (mm := (pushStep s mm).1) (A := A) (B := B) (t := t) (p := p) (C' := [(p, .ins (c_Push K) dx' (f_Push (.ref vh') (.int s'.item) (.str s'.ph.txt) vr' (.ref tr') (.bl false)))]) rfl ⟨cl1, pos1, ns1, ok1, z0, z1, ?_⟩ hts k5.g3 (k_Push T) (na_Push_done T) l_Push_done (sq_tk ht3 u5)
        (.inl ⟨rfl, ⟨t, th, p, l, _, .push s'⟩, rfl, rfl, ⟨?_, ?_, ?_⟩, ?_⟩) (mr4.tk u5) (fun z hz => (heo z hz).tk (u4.trans u5)) (sq_tk e03 u5) (sq_tk e13 u5) hlen (by omega) q
      · rw [eFA]; walk_at "hp"
      · show SqT K H4 t [.str "push", .ref th, .ref p, .int s'.item]
        rw [ei']; exact sq_tk ht3 u5
      · show SqT K H4 th (s'.hd.key.map kV)
        rw [eh']; exact sq_tk hth3 u5
      · exact PushR.tk ⟨dx', vh', tr', vr', rfl, p1', p2', p3', p4'⟩ u5
      · rw [List.map_append, List.map_cons]; exact kk'
    · rw [es'] at ho4
      obtain ⟨dx', x1, x2, x3, x4, x5, rfl⟩ := ho4
      refine ⟨t, g.ld, g.lo, th, p, g.t0, g.t1, dx', _, _, _, _, _, _, _, s.item, true, g.h0, g.h1, s.hd, S, _, rfl, ht3, hth3, e03, e13, kk.ne, hin, by omega, ⟨s0, s1, (by walk_at "hp")⟩, fun H4 k5 u5 => ?_⟩
      rw [if_pos rfl] at k5
      refine ⟨_, rfl, if_f rfl ?_⟩
      obtain ⟨z0, z1, k5⟩ := k5
      have k6 := k5.b6.tail
      refine fin2 (n := n + 1) (S := sset S s.hd (s.item :: S s.hd)) (loose := loose) (mm := (pushStep s mm).1) (A := A) (B := B) (t := t) (p := p) (C' := [(p, .ins (c_Push K) dx' (f_Push x1 x2 x3 x4 x5 (.bl true)))]) rfl ⟨cl1, pos1, ns1, ok1, z0, z1, ?_⟩ hts k5.g3 (k_Push T) (na_Push_done T) l_Push_done (sq_tk ht3 u5)
        (.inr ⟨rfl, ?_⟩) (mr4.tk u5) (fun z hz => (heo z hz).tk (u4.trans u5)) (sq_tk e03 u5) (sq_tk e13 u5) hlen (by omega) q
      · rw [eFA]; walk_at "hp"
      · rw [List.map_append]; exact kk'
  | pop s =>
    obtain ⟨dx, vh, tr, vr, rfl, p1, p2, p3, p4⟩ := hma
    dsimp only [wordOf, itemOf, Mc.hd, E2.cells, List.cons_append, List.nil_append] at ht hth k3 hin hSl hts kl kk ⊢
    refine ⟨_, rfl, _, _, _, _, rfl, rfl, ht, atI_at 0 rfl rfl, rfl, _, rfl, ?_⟩
    refine if_f (by decide +kernel) ?_
    walk_at "go"
    refine .inr (.inr ?_)
    walk_at "go"
    refine ⟨p, g.m, g.dm, g.d, n, xs, mm, s, _, _, rfl, (by walk_at "hp"), ⟨dx, vh, tr, vr, rfl, p1, p2, p3, p4⟩, mr2, by omega, fun H3 xs' o' k4 u4 mr4 hx4 ho4 => ?_⟩
    walk_at "go"
    refine if_f (by show (!decide (V.int (n + 1) = V.int (n + 1))) = false; rw [decide_eq_true rfl]; rfl) ?_
    refine ⟨_, rfl, _, rfl, _, rfl, _, rfl, _, rfl, .inr (.inl ?_)⟩
    have ht3 := sq_tk ht u4
    have hth3 := sq_tk hth u4
    have e03 := sq_tk e02 u4
    have e13 := sq_tk e12 u4
    cases er : (popStep s mm).2 with
    | inl s' =>
      obtain ⟨em, eh', kk'⟩ := pop_go kk er
      rw [er] at ho4
      rw [em] at mr4
      obtain ⟨dx', vh', tr', vr', rfl, p1', p2', p3', p4'⟩ := ho4
      refine ⟨t, g.ld, g.lo, th, p, g.t0, g.t1, dx', _, _, _, _, _, _, _, _, false, none, g.h0, g.h1, s.hd, S, loose, _, rfl, ht3, hth3, e03, e13, kk.ne, hin, by omega, by omega, ⟨s0, s1, (by walk_at "hp")⟩, .inl ⟨rfl, fun H4 k5 u5 => ?_⟩⟩
      refine ⟨_, rfl, if_f rfl ?_⟩
      obtain ⟨z0, z1, k5⟩ := k5
      have k6 := k5.b7.tail
      refine fin2 (n := n + 1) (S := S) (loose := loose) (mm := mm) (A := A) (B := B) (t := t) (p := p) (C' := [(p, .ins (c_Pop K) dx' (f_Pop (.ref vh') (.str s'.ph.txt) vr' (.ref tr') (.int s'.below) (.bl false) .non))]) rfl ⟨cl1, pos1, ns1, ok1, z0, z1, ?_⟩ hts k5.g3 (k_Pop T) (na_Pop_done T) l_Pop_done (sq_tk ht3 u5)
        (.inl ⟨rfl, ⟨t, th, p, l, _, .pop s'⟩, rfl, rfl, ⟨?_, ?_, ?_⟩, ?_⟩) (mr4.tk u5) (fun z hz => (heo z hz).tk (u4.trans u5)) (sq_tk e03 u5) (sq_tk e13 u5) hlen (by omega) q
      · rw [eFA]; walk_at "hp"
      · exact sq_tk ht3 u5
      · show SqT K H4 th (s'.hd.key.map kV)
        rw [eh']; exact sq_tk hth3 u5
      · exact PopR.tk ⟨dx', vh', tr', vr', rfl, p1', p2', p3', p4'⟩ u5
      · rw [List.map_append, List.map_cons]; exact kk'
    | inr rr =>
      rw [er] at ho4
      obtain ⟨dx', x1, x2, x3, x4, x5, rfl, _⟩ := ho4
      rcases pop_end kk er with ⟨en, eS, kk'⟩ | ⟨i0, l0, en, eS, kk'⟩
      · refine ⟨t, g.ld, g.lo, th, p, g.t0, g.t1, dx', _, _, _, _, _, _, _, _, true, rr.2, g.h0, g.h1, s.hd, S, loose, _, rfl, ht3, hth3, e03, e13, kk.ne, hin, by omega, by omega, ⟨s0, s1, (by walk_at "hp")⟩, .inr (.inl ⟨rfl, en, eS, fun H4 k5 u5 => ?_⟩)⟩
        refine ⟨_, rfl, if_f rfl ?_⟩
        obtain ⟨z0, z1, k5⟩ := k5
        have k6 := k5.b7.tail
        refine fin2 (n := n + 1) (S := S) (loose := loose) (mm := (popStep s mm).1) (A := A) (B := B) (t := t) (p := p) (C' := [(p, .ins (c_Pop K) dx' (f_Pop x1 x2 x3 x4 x5 (.bl true) (ovV rr.2)))]) rfl ⟨cl1, pos1, ns1, ok1, z0, z1, ?_⟩ hts k5.g3 (k_Pop T) (na_Pop_done T) l_Pop_done (sq_tk ht3 u5)
          (.inr ⟨rfl, ?_⟩) (mr4.tk u5) (fun z hz => (heo z hz).tk (u4.trans u5)) (sq_tk e03 u5) (sq_tk e13 u5) hlen (by omega) q
        · rw [eFA]; walk_at "hp"
        · rw [List.map_append]; exact kk'
      · refine ⟨t, g.ld, g.lo, th, p, g.t0, g.t1, dx', _, _, _, _, _, _, _, _, true, rr.2, g.h0, g.h1, s.hd, S, loose, _, rfl, ht3, hth3, e03, e13, kk.ne, hin, by omega, by omega, ⟨s0, s1, (by walk_at "hp")⟩, .inr (.inr ⟨i0, l0, rfl, en, eS, fun H4 k5 u5 => ?_⟩)⟩
        refine ⟨_, rfl, if_f rfl ?_⟩
        obtain ⟨z0, z1, k5⟩ := k5
        have k6 := k5.b7.tail
        refine fin2 (n := n + 1) (S := sset S s.hd l0) (loose := loose ++ [i0]) (mm := (popStep s mm).1) (A := A) (B := B) (t := t) (p := p) (C' := [(p, .ins (c_Pop K) dx' (f_Pop x1 x2 x3 x4 x5 (.bl true) (ovV rr.2)))]) rfl ⟨cl1, pos1, ns1, ok1, z0, z1, ?_⟩ hts k5.g3 (k_Pop T) (na_Pop_done T) l_Pop_done (sq_tk ht3 u5)
          (.inr ⟨rfl, ?_⟩) (mr4.tk u5) (fun z hz => (heo z hz).tk (u4.trans u5)) (sq_tk e03 u5) (sq_tk e13 u5) hlen (by omega) q
        · rw [eFA]; walk_at "hp"
        · rw [List.map_append]; exact kk'
  | all s rest =>
    obtain ⟨dx, vh, tr, vr, eo, p1, p2, p3, p4⟩ := hma
    dsimp only at eo
    subst eo
    dsimp only [wordOf, itemOf, Mc.hd, E2.cells, List.cons_append, List.nil_append] at ht hth k3 hin hSl hts kl kk ⊢
    have kl2 : (s.taken ++ rest).length ≤ 100 := kl.2
    rw [List.length_append] at kl2
    have mok2 : TakeOk mm s rest := mok
    refine ⟨_, rfl, _, _, _, _, rfl, rfl, ht, atI_at 0 rfl rfl, rfl, _, rfl, ?_⟩
    refine if_t (by decide +kernel) ?_
    walk_at "go"
    refine ⟨p, g.m, g.dm, g.d, l, dx, vh, n, xs, mm, s.hd, s.ph.txt, _, _, _, s.top, s.taken, rest, _, rfl, (by walk_at "hp"), p1, p4, mr2, take_w1 mok2, take_w2 mok2, by omega, fun bf2 H3 k4 u4 => ?_⟩
    walk_at "go"
    refine .inr (.inl ?_)
    have ht3 := sq_tk ht u4
    walk_at "go"
    refine ⟨p, g.m, g.dm, g.d, l, n, xs, mm, s, _, _, rfl, (by walk_at "hp"), TakeR.tk ⟨dx, vh, tr, vr, rfl, p1, p2, p3, p4⟩ u4, mr2.tk u4, by omega, by omega, fun z => (mok2.2.2 z).2.2, fun H5 xs' o' k5 u5 mr5 hx5 ho5 => ?_⟩
    walk_at "go"
    refine if_f (by show (!decide (V.int (n + 1) = V.int (n + 1))) = false; rw [decide_eq_true rfl]; rfl) ?_
    refine ⟨_, rfl, _, rfl, _, rfl, _, rfl, _, rfl, .inr (.inr ?_)⟩
    have ht5 := sq_tk ht3 u5
    have hth5 := sq_tk hth (u4.trans u5)
    have e05 := sq_tk e02 (u4.trans u5)
    have e15 := sq_tk e12 (u4.trans u5)
    have ish := kk.ih _ hin
    rcases take_step kk with ⟨s', rest', er, eh', et, kk'⟩ | ⟨s', er, eh', en, et, eS, kk'⟩ | ⟨er, eS, en, kk'⟩ | ⟨en, er, kk'⟩
    · rw [er] at ho5 k5
      obtain ⟨dx', vh', tr', vr', rfl, q1, q2, q3, q4⟩ := ho5
      have hok := (kk'.ok (.all s' rest') (List.mem_append_right _ (List.mem_cons_self ..))).1
      have hok : TakeOk (takeStep s mm).1 s' rest' := hok
      rw [eh'] at q1
      have kl3 : s'.taken.length + rest'.length ≤ 100 := by rw [← List.length_append, et, List.length_append]; exact kl2
      have k5 : HasM P w K g.m g.dm g.d (n + 1) xs' ((p, .ins (c_TakeAll K) dx' (f_TakeAll (.ref vh') (.str s'.ph.txt) vr' (.ref tr') (.int s'.top) (.ref l) (.bl false))) :: (l, .lst (s'.taken.map V.int)) :: _) H5 := k5
      refine ⟨t, bf2, g.ld, g.lo, th, p, g.t0, g.t1, g.m, g.dm, g.d, l, dx', vh', n + 1, xs', (takeStep s mm).1, s'.ph.txt, vr', .ref tr', _, s'.top, s'.taken, rest', s.taken ++ rest, false, g.h0, g.h1, s.hd, S, S, loose, _, rfl, ht5, hth5, e05, e15, kk.ne, hin, by omega, by omega, q1, ish, mr5,
        (by rw [← eh']; exact take_w1 hok), take_w2 hok, by omega, ⟨s0, s1, (by walk_at "hp")⟩, .inr ⟨et, rfl, fun z => (by cases z)⟩, fun H6 k6 u6 => ?_⟩
      refine ⟨_, rfl, if_f rfl ?_⟩
      rw [if_neg Bool.false_ne_true] at k6
      obtain ⟨z0, z1, k6⟩ := k6
      have k7 := k6.b8.tail
      refine fin2 (n := n + 1) (S := S) (loose := loose) (mm := (takeStep s mm).1) (A := A) (B := B) (t := t) (p := p) (C' := [(p, (.ins (c_TakeAll K) dx' (f_TakeAll (.ref vh') (.str s'.ph.txt) vr' (.ref tr') (.int s'.top) (.ref l) (.bl false)))), (l, .lst (s'.taken.map V.int))]) rfl ⟨cl1, pos1, ns1, ok1, z0, z1, ?_⟩ hts k6.g5 (k_TakeAll T) (na_TakeAll_done T) l_TakeAll_done (sq_tk ht5 u6)
        (.inl ⟨rfl, ⟨t, th, p, l, _, .all s' rest'⟩, rfl, rfl, ⟨?_, ?_, ?_⟩, ?_⟩) (mr5.tk u6) (fun z hz => (heo z hz).tk (u4.trans (u5.trans u6))) (sq_tk e05 u6) (sq_tk e15 u6) hlen (by omega) q
      · rw [eFA]; walk_at "hp"
      · exact sq_tk ht5 u6
      · show SqT K H6 th (s'.hd.key.map kV)
        rw [eh']; exact sq_tk hth5 u6
      · exact TakeR.tk (s := s') ⟨dx', vh', tr', vr', rfl, by rw [eh']; exact q1, q2, q3, q4⟩ u6
      · rw [List.map_append, List.map_cons]; exact kk'
    · rw [er] at ho5 k5
      obtain ⟨dx', vh', tr', vr', rfl, q1, q2, q3, q4⟩ := ho5
      have hok := (kk'.ok (.all s' (S s.hd)) (List.mem_append_right _ (List.mem_cons_self ..))).1
      have hok : TakeOk (takeStep s mm).1 s' (S s.hd) := hok
      rw [eh'] at q1
      have k5 : HasM P w K g.m g.dm g.d (n + 1) xs' ((p, .ins (c_TakeAll K) dx' (f_TakeAll (.ref vh') (.str s'.ph.txt) vr' (.ref tr') (.int s'.top) (.ref l) (.bl false))) :: (l, .lst (s'.taken.map V.int)) :: _) H5 := k5
      refine ⟨t, bf2, g.ld, g.lo, th, p, g.t0, g.t1, g.m, g.dm, g.d, l, dx', vh', n + 1, xs', (takeStep s mm).1, s'.ph.txt, vr', .ref tr', _, s'.top, s'.taken, S s.hd, s.taken ++ rest, false, g.h0, g.h1, s.hd, S, sset S s.hd [], loose, _, rfl, ht5, hth5, e05, e15, kk.ne, hin, by omega, by omega, q1, ish, mr5,
        (by rw [← eh']; have := take_w1 hok; rw [eh'] at this ⊢; exact this), take_w2 hok, by rw [et]; show 0 + _ < _; omega, ⟨s0, s1, (by walk_at "hp")⟩, .inl ⟨en, by rw [et]; exact eS, by rw [et]; rfl, rfl, rfl⟩, fun H6 k6 u6 => ?_⟩
      refine ⟨_, rfl, if_f rfl ?_⟩
      rw [if_neg Bool.false_ne_true] at k6
      obtain ⟨z0, z1, k6⟩ := k6
      have k7 := k6.b8.tail
      refine fin2 (n := n + 1) (S := sset S s.hd []) (loose := loose) (mm := (takeStep s mm).1) (A := A) (B := B) (t := t) (p := p) (C' := [(p, (.ins (c_TakeAll K) dx' (f_TakeAll (.ref vh') (.str s'.ph.txt) vr' (.ref tr') (.int s'.top) (.ref l) (.bl false)))), (l, .lst (s'.taken.map V.int))]) rfl ⟨cl1, pos1, ns1, ok1, z0, z1, ?_⟩ hts k6.g5 (k_TakeAll T) (na_TakeAll_done T) l_TakeAll_done (sq_tk ht5 u6)
        (.inl ⟨rfl, ⟨t, th, p, l, _, .all s' (S s.hd)⟩, rfl, rfl, ⟨?_, ?_, ?_⟩, ?_⟩) (mr5.tk u6) (fun z hz => (heo z hz).tk (u4.trans (u5.trans u6))) (sq_tk e05 u6) (sq_tk e15 u6) hlen (by omega) q
      · rw [eFA]; walk_at "hp"
      · exact sq_tk ht5 u6
      · show SqT K H6 th (s'.hd.key.map kV)
        rw [eh']; exact sq_tk hth5 u6
      · exact TakeR.tk (s := s') ⟨dx', vh', tr', vr', rfl, by rw [eh']; exact q1, q2, q3, q4⟩ u6
      · rw [List.map_append, List.map_cons]; exact kk'
    · rw [er] at ho5 k5
      obtain ⟨dx', vh', ph', x1, x2, rfl, q1⟩ := ho5
      have k5 : HasM P w K g.m g.dm g.d (n + 1) xs' ((p, .ins (c_TakeAll K) dx' (f_TakeAll (.ref vh') (.str ph') x1 x2 (.int 0) (.ref l) (.bl true))) :: (l, .lst (([] : List Int).map V.int)) :: _) H5 := k5
      refine ⟨t, bf2, g.ld, g.lo, th, p, g.t0, g.t1, g.m, g.dm, g.d, l, dx', vh', n + 1, xs', (takeStep s mm).1, ph', x1, x2, _, 0, [], [], s.taken ++ rest, true, g.h0, g.h1, s.hd, S, S, loose, _, rfl, ht5, hth5, e05, e15, kk.ne, hin, by omega, by omega, q1, ish, mr5,
        (fun _ => .nil), (fun _ => rfl), by show 0 + 0 < _; omega, ⟨s0, s1, (by walk_at "hp")⟩, .inr ⟨en.symm, rfl, fun _ => ⟨rfl, fun _ => eS⟩⟩, fun H6 k6 u6 => ?_⟩
      refine ⟨_, rfl, if_f rfl ?_⟩
      rw [if_pos rfl, show loose ++ (([] : List Int) ++ []) = loose from List.append_nil _] at k6
      obtain ⟨z0, z1, k6⟩ := k6
      have k7 := k6.b8.tail
      refine fin2 (n := n + 1) (S := S) (loose := loose) (mm := (takeStep s mm).1) (A := A) (B := B) (t := t) (p := p) (C' := [(p, .ins (c_TakeAll K) dx' (f_TakeAll (.ref vh') (.str ph') x1 x2 (.int 0) (.ref l) (.bl true))), (l, .lst (([] : List Int).map V.int))]) rfl ⟨cl1, pos1, ns1, ok1, z0, z1, ?_⟩ hts k6.g5 (k_TakeAll T) (na_TakeAll_done T) l_TakeAll_done (sq_tk ht5 u6)
        (.inr ⟨rfl, ?_⟩) (mr5.tk u6) (fun z hz => (heo z hz).tk (u4.trans (u5.trans u6))) (sq_tk e05 u6) (sq_tk e15 u6) hlen (by omega) q
      · rw [eFA]; walk_at "hp"
      · rw [List.map_append]; exact kk'
    · rw [er] at ho5 k5
      obtain ⟨dx', vh', ph', x1, x2, rfl, q1⟩ := ho5
      have k5 : HasM P w K g.m g.dm g.d (n + 1) xs' ((p, .ins (c_TakeAll K) dx' (f_TakeAll (.ref vh') (.str ph') x1 x2 (.int 0) (.ref l) (.bl true))) :: (l, .lst ((s.taken ++ rest).map V.int)) :: _) H5 := k5
      refine ⟨t, bf2, g.ld, g.lo, th, p, g.t0, g.t1, g.m, g.dm, g.d, l, dx', vh', n + 1, xs', (takeStep s mm).1, ph', x1, x2, _, 0, (s.taken ++ rest), [], s.taken ++ rest, true, g.h0, g.h1, s.hd, S, S, loose, _, rfl, ht5, hth5, e05, e15, kk.ne, hin, by omega, by omega, q1, ish, mr5,
        (fun _ => .nil), (fun _ => rfl), by rw [List.length_append]; show _ + 0 < _; omega, ⟨s0, s1, (by walk_at "hp")⟩, .inr ⟨List.append_nil _, rfl, fun _ => ⟨rfl, fun z => absurd (by rw [List.append_nil] at z; exact z) en⟩⟩, fun H6 k6 u6 => ?_⟩
      refine ⟨_, rfl, if_f rfl ?_⟩
      rw [if_pos rfl, List.append_nil] at k6
      obtain ⟨z0, z1, k6⟩ := k6
      have k7 := k6.b8.tail
      refine fin2 (n := n + 1) (S := S) (loose := loose ++ (s.taken ++ rest)) (mm := (takeStep s mm).1) (A := A) (B := B) (t := t) (p := p) (C' := [(p, .ins (c_TakeAll K) dx' (f_TakeAll (.ref vh') (.str ph') x1 x2 (.int 0) (.ref l) (.bl true))), (l, .lst ((s.taken ++ rest).map V.int))]) rfl ⟨cl1, pos1, ns1, ok1, z0, z1, ?_⟩ hts k6.g5 (k_TakeAll T) (na_TakeAll_done T) l_TakeAll_done (sq_tk ht5 u6)
        (.inr ⟨rfl, ?_⟩) (mr5.tk u6) (fun z hz => (heo z hz).tk (u4.trans (u5.trans u6))) (sq_tk e05 u6) (sq_tk e15 u6) hlen (by omega) q
      · rw [eFA]; walk_at "hp"
      · rw [List.map_append]; exact kk'
end

/-! ## L02f -/
set_option Elab.async false
set_option linter.all false
set_option maxRecDepth 100000
set_option maxHeartbeats 4000000
/-! ### the second law -/
section
variable {P : Program} {w : World} {K : PySem.W.Frag} {mg : Str → Option Value} {base : Heap}
def spLaw (K : PySem.W.Frag) : Sp := fun vs H Q _ => ∃ (a : Addr) (ns : List Int), vs = [.ref a] ∧ SqL K H a (ns.map V.int) ∧ ns.length ≤ 63 ∧ ∀ H', Q (.bl true) H'
theorem rng_cnt (k : Nat) (hk : k ≤ 9) (x : Option Int) : cnt x ((List.range k).map fun (j : Nat) => (j : Int)) ≤ lim x := by
  cases x with
  | none => show ((List.range k).map fun (j : Nat) => (j : Int)).length ≤ 100; rw [List.length_map, List.length_range]; omega
  | some x =>
    show ((List.range k).map fun (j : Nat) => (j : Int)).count x ≤ if x < 0 then 0 else 1
    have nd : ((List.range k).map fun (j : Nat) => (j : Int)).Nodup := by
      rw [List.nodup_iff_pairwise_ne, List.pairwise_map]
      exact List.Pairwise.imp (fun {a b} (h : a ≠ b) => (fun e => h (by omega))) (List.nodup_iff_pairwise_ne.mp List.nodup_range)
    by_cases e : x ∈ (List.range k).map fun (j : Nat) => (j : Int)
    · rw [if_neg (by obtain ⟨j, _, rfl⟩ := List.mem_map.mp e; omega)]
      exact List.nodup_iff_count.mp nd x
    · rw [List.count_eq_zero_of_not_mem e]; exact Nat.zero_le _
theorem K2.new {mm : Mem} {h0 h1 : Cell} {S : Cell → List Int} {loose loose' : List Int} {ms : List Mc} {mc : Mc} (k : K2 mm h0 h1 S loose ms) (ok : McOk mm mc) (hin : mc.hd = h0 ∨ mc.hd = h1) (hc : ∀ x, cnt x loose' + cnt x mc.held = cnt x loose) : K2 mm h0 h1 S loose' (ms ++ [mc]) where
  ty := k.ty
  ne := k.ne
  ih := k.ih
  ch := k.ch
  ok := fun p hp => by
    rcases List.mem_append.mp hp with h | h
    · exact k.ok p h
    · rw [List.mem_singleton.mp h]; exact ⟨ok, hin⟩
  one := fun x => by
    have h1 := k.one x
    have h2 := hc x
    have h3 : cntM x [mc] = cnt x mc.held + 0 := cntM_cons ..
    rw [cntM_app]
    omega
theorem ok_law (T : Tx K mg) : FnG P w K mg base (lv_law + 1) at_law ["_law_script"] (spLaw K) := by
  refine FnG.of (fd_law T) sc_law (by walk_at "ln") (fun cdv A outer s H vs Q E hr h => ?_)
  · obtain ⟨a, ns, rfl, hS, hl, q⟩ := h
    have hs : sizeLine = 16777216 := sizeLine_eq
    have hu := hu_of hr
    refine ⟨_, (pss_cons (ps_set (i := 1) sc_law.nd rfl (Or.inl rfl) (pe_g (ok_law_state T) (hr.mono (by decide)) (g_law_state T) (pa_cons (pv 0) pa_nil))) (pss_cons (ps_set (i := 2) sc_law.nd rfl (Or.inl rfl) (pe_n0 (mk_Memory T) (ok_Memory_init T) (hr.mono (by decide)) (g_Memory T))) (pss_cons (ps_set (i := 3) sc_law.nd rfl (Or.inl rfl) (pe_lst (pa_cons (pe_g (ok_free_cell T) (hr.mono (by decide)) (g_free_cell T) (pa_cons pe_int pa_nil)) (pa_cons (pe_ix ix_list (pe_lst (pa_cons (pe_glob (v := .ref (c_PAGES K)) rfl (g_PAGES T) rfl) (pa_cons (pe_g (ok_free_cell T) (hr.mono (by decide)) (g_free_cell T) (pa_cons pe_int pa_nil)) pa_nil))) (pe_g (ok_law_take T) (hr.mono (by decide)) (g_law_take T) (pa_cons (pv 1) (pa_cons pe_int pa_nil))) (fun _ _ => rfl)) pa_nil)))) (pss_cons (ps_set (i := 4) sc_law.nd rfl (Or.inl rfl) (pe_mdisp hu (pps_cons (pe_ix ix_list (pv 3) pe_int (fun _ _ => rfl)) (pe_lst pa_nil) (pps_cons (pe_ix ix_list (pv 3) pe_int (fun _ _ => rfl)) (pe_lst pa_nil) pps_nil)) rfl rfl (List.cons_ne_nil _ _) (by decide))) (pss_cons (ps_set (i := 5) sc_law.nd rfl (Or.inl rfl) (pe_op op_add pe_int (pe_g (ok_law_take T) (hr.mono (by decide)) (g_law_take T) (pa_cons (pv 1) (pa_cons pe_int pa_nil))))) (pss_cons (ps_setLc (i := 6) (own := [("_law_k", 14)]) (g := gName 14) (tt := _) rfl sc_law.nd rfl rfl (sw_true rfl rfl rfl (by decide +kernel)) (pi_range1 (by rfl) (b_range T) (pa_cons (pv 5) pa_nil)) (blkOk_by (own := [("_law_k", 14)]) (N := n_law) (sc := defScope s_law) (by decide +kernel)) (fun _ _ _ _ _ => pg_name (i := 14) sc_law.nd rfl (Or.inl rfl)) (fun _ _ _ _ _ => pts_nil) (fun _ _ _ _ _ => (pv 14))) (pss_cons (ps_set (i := 7) sc_law.nd rfl (Or.inl rfl) (pe_lst pa_nil)) (pss_cons (ps_for PassesOwn.never rfl (pi_range1 (by rfl) (b_range T) (pa_cons (pe_g (ok_law_take T) (hr.mono (by decide)) (g_law_take T) (pa_cons (pv 1) (pa_cons pe_int pa_nil))) pa_nil)) (pg_name (i := 8) sc_law.nd rfl (Or.inl rfl)) (pss_cons (ps_if (pt_cmpR op_lt (pe_callB call_len_seq (by rfl) (b_len T) PySem.boot_len (pa_cons (pv 7) pa_nil)) (pe_op op_add pe_int (pe_g (ok_law_take T) (hr.mono (by decide)) (g_law_take T) (pa_cons (pv 1) (pa_cons pe_int pa_nil)))) (nomark _)) (pss_one (ps_expr (pe_bm PySem.F.plainAttrs_list PySem.F.slot_list_append PySem.F.type_list_append mt_append (pv 7) (pa_cons (pe_g (ok_law_new T) (hr.mono (by decide)) (g_law_new T) (pa_cons (pv 1) (pa_cons (pv 6) (pa_cons (pv 3) pa_nil)))) pa_nil)))) pss_nil) (pss_cons (ps_set (i := 9) sc_law.nd rfl (Or.inl rfl) (pe_g (ok_law_take T) (hr.mono (by decide)) (g_law_take T) (pa_cons (pv 1) (pa_cons (pe_callB call_len_seq (by rfl) (b_len T) PySem.boot_len (pa_cons (pv 7) pa_nil)) pa_nil)))) (pss_cons (ps_set (i := 10) sc_law.nd rfl (Or.inl rfl) (pe_ix ix_list (pv 7) (pv 9) (fun _ _ => rfl))) (pss_cons (ps_set (i := 11) sc_law.nd rfl (Or.inl rfl) (pe_lst pa_nil)) (pss_cons (ps_if (pt_cmpR op_eq (pe_ix ix_tup (pv 10) pe_int (fun _ _ => rfl)) pe_str (nomark _)) (pss_one (ps_set (i := 11) sc_law.nd rfl (Or.inl rfl) (pe_m (pe_ix ix_tup (pv 10) pe_int (fun _ _ => rfl)) (k_TakeAll T) (me_TakeAll_holding T) (ok_TakeAll_holding T) (hr.mono (by decide)) (pa_cons (pv 2) pa_nil)))) pss_nil) (pss_cons (ps_set (i := 12) sc_law.nd rfl (Or.inl rfl) (pe_fld (pv 2) rfl)) (pss_cons (ps_expr (Sw.pe_or (pe_m (pe_ix ix_tup (pv 10) pe_int (fun _ _ => rfl)) (k_Push T) (me_Push_step T) (ok_Push_step T) (hr.mono (by decide)) (pa_cons (pv 2) pa_nil)) (Sw.pe_or (pe_m (pe_ix ix_tup (pv 10) pe_int (fun _ _ => rfl)) (k_TakeAll T) (me_TakeAll_step T) (ok_TakeAll_step T) (hr.mono (by decide)) (pa_cons (pv 2) pa_nil)) (pe_m (pe_ix ix_tup (pv 10) pe_int (fun _ _ => rfl)) (k_Pop T) (me_Pop_step T) (ok_Pop_step T) (hr.mono (by decide)) (pa_cons (pv 2) pa_nil))))) (pss_cons (ps_if (PW.pt (pw_or (pt_cmpR op_ne (pe_fld (pv 2) rfl) (pe_op op_add (pv 12) pe_int) (nomark _)) (pw_or1 (pt_not (pt_val (pe_g (ok_law_after T) (hr.mono (by decide)) (g_law_after T) (pa_cons (pv 10) (pa_cons (pv 11) (pa_cons (pv 4) (pa_cons (pv 6) (pa_cons (pv 2) pa_nil))))))))))) (pss_one (ps_ret pe_bl)) pss_nil) (pss_cons (ps_if (pt_val (pe_fld (pe_ix ix_tup (pv 10) pe_int (fun _ _ => rfl)) rfl)) (pss_one (ps_set (i := 7) sc_law.nd rfl (Or.inl rfl) (pe_op op_cat (pe_slice sl_list (pv 7) po_none (po_some (pv 9))) (pe_slice sl_list (pv 7) (po_some (pe_op op_add (pv 9) pe_int)) po_none)))) pss_nil) (pss_one (ps_for PassesOwn.never rfl (pi_list (pv 3)) (pg_name (i := 13) sc_law.nd rfl (Or.inl rfl)) (pss_one (ps_if (pt_cmpR (op_neD hr.units) (pe_g (ok_items_of T) (hr.mono (by decide)) (g_items_of T) (pa_cons (pv 2) (pa_cons (pv 13) pa_nil))) (pe_mitem hu (pv 4) (pv 13) (fun _ _ => rfl)) (nomark _)) (pss_one (ps_ret pe_bl)) pss_nil)))))))))))))) (pss_one (ps_ret pe_bl)))))))))), ?_⟩
    walk_at "ds"
    refine ⟨_, rfl, a, ns, [], rfl, hS, hl, Has.nil, fun st H1 s1 t1 => ?_⟩
    intro m dm nm ndm nex
    obtain ⟨cl, pos, ms, ok, k1⟩ := s1
    have k2 := (k1.skip (o := .own m) ndm)
    have n2 : upd H1 dm (.own m) m = none := by rw [upd_ne (Ne.symm nex)]; exact nm
    have k3 := k2.new (o := .ins (c_Memory K) dm []) n2
    generalize upd (upd H1 dm (.own m)) m (.ins (c_Memory K) dm []) = H3 at k3 ⊢
    refine ⟨m, dm, _, rfl, k3, fun d H4 k4 u4 => ⟨rfl, ?_⟩⟩
    clear k1 k2 k3 n2 t1 nm ndm nex u4
    -- the heads
    refine ⟨0, rfl, fun t0 H5 g5 u5 e0 => ?_⟩
    have k5 := g5 _ k4
    refine ⟨1, rfl, fun tx H6 g6 u6 ex => ?_⟩
    have k6 := g6 _ k5
    refine ⟨by show 2 ≤ sizeLine; omega, fun lp nlp => ?_⟩
    have k7 := k6.new (o := .lst [.ref (c_PAGES K), .ref tx]) nlp
    have u7 := Tk.new (o := .lst [.ref (c_PAGES K), .ref tx]) nlp
    generalize upd H6 lp (.lst [.ref (c_PAGES K), .ref tx]) = H7 at k7 u7 ⊢
    walk_at "v"; walk_at "tk1"; rename_i r8 H8 a8 b8 cl8 pos8 ns8 ok8 k8 u8
    clear g5 g6 k4 k5 k6 k7
    obtain ⟨t1, h1, hat, e1, hh, hne⟩ : ∃ t1 h1, atI [V.ref (c_PAGES K), V.ref tx] r8 = some (.ref t1) ∧ SqT K H8 t1 (h1.key.map kV) ∧ isHead h1 = true ∧ Cell.free 0 ≠ h1 := by
      by_cases z : r8 = 0
      · exact ⟨_, .pages, by rw [z]; exact atI_nat (j := 0) rfl, t_PAGES T H8, rfl, fun z => by cases z⟩
      · have z1 : r8 = 1 := by omega
        exact ⟨tx, .free 1, by rw [z1]; exact atI_nat (j := 1) rfl, by walk_at "sq", rfl, fun z => by cases z⟩
    have e0' : SqT K H8 t0 ((Cell.free 0).key.map kV) := by walk_at "sq"
    refine ⟨lp, _, _, _, rfl, rfl, SqL.of (by walk_at "at"), hat, ?_⟩
    have k9 := k8.b2.tail
    clear k8 u8 u7 u6 u5 ex e0
    refine ⟨by show 2 ≤ sizeLine; omega, fun hl nhl => ?_⟩
    have k10 := k9.new (o := .lst [.ref t0, .ref t1]) nhl
    have u10 := Tk.new (o := .lst [.ref t0, .ref t1]) nhl
    generalize upd H8 hl (.lst [.ref t0, .ref t1]) = H10 at k10 u10 ⊢
    -- the stacks
    intro ld nld
    have k11 := k10.new (o := dicO P w ld []) nld
    have u11 := Tk.new (o := dicO P w ld []) nld
    generalize upd H10 ld (dicO P w ld []) = H11 at k11 u11 ⊢
    refine ⟨_, rfl, hl, _, _, _, rfl, rfl, SqL.of k11.g1, atI_at 0 rfl rfl, ?_⟩
    refine ⟨Nat.zero_le _, fun s0 ns0 => ?_⟩
    have k12 := k11.new (o := .lst []) ns0
    have u12 := Tk.new (o := .lst []) ns0
    generalize upd H11 s0 (.lst []) = H12 at k12 u12 ⊢
    refine ⟨_, rfl, hl, _, _, _, rfl, rfl, SqL.of k12.g2, atI_at 1 rfl rfl, ?_⟩
    refine ⟨Nat.zero_le _, fun s1 ns1 => ?_⟩
    have k13 := k12.new (o := .lst []) ns1
    have u13 := Tk.new (o := .lst []) ns1
    generalize upd H12 s1 (.lst []) = H13 at k13 u13 ⊢
    have tt : Tk H8 H13 := by walk_at "tk"
    refine ⟨k13.g2, [((Cell.free 0).key, t0, .ref s0), (h1.key, t1, .ref s1)], rfl, ?_, ?_, by show 2 ≤ 15; omega, ?_⟩
    · intro x hx
      rcases List.mem_cons.mp hx with e | hx
      · subst e; exact sq_tk e0' tt
      · rw [List.mem_singleton.mp hx]; exact sq_tk e1 tt
    · show [(Cell.free 0).key, h1.key].Nodup
      exact List.nodup_cons.mpr ⟨fun z => hne (Cell.key_inj (List.mem_singleton.mp z)), List.nodup_cons.mpr ⟨fun z => (nomatch z), List.nodup_nil⟩⟩
    have k14 := k13.u2 (u := dicO P w ld [((Cell.free 0).key, t0, .ref s0), (h1.key, t1, .ref s1)])
    have u14 := Tk.mut (u := dicO P w ld [((Cell.free 0).key, t0, .ref s0), (h1.key, t1, .ref s1)]) k13.g2 rfl
    generalize upd H13 ld (dicO P w ld [((Cell.free 0).key, t0, .ref s0), (h1.key, t1, .ref s1)]) = H14 at k14 u14 ⊢
    have E0 : SqT K H14 t0 ((Cell.free 0).key.map kV) := sq_tk e0' (tt.trans u14)
    have E1 : SqT K H14 t1 (h1.key.map kV) := sq_tk e1 (tt.trans u14)
    clear k13 k12 k11 k10 k9 tt u14 u13 u12 u11 u10 e0' e1
    walk_at "v"; walk_at "tk1"; rename_i r15 H15 a15 b15 cl15 pos15 ns15 ok15 k15 u15
    refine ⟨_, _, rfl, rfl, ?_⟩
    obtain ⟨mo, hmo⟩ : ∃ mo : Nat, 1 + r15 = (mo : Int) := ⟨(1 + r15).toNat, by omega⟩
    dsimp only
    rw [hmo]
    have E0' : SqT K H15 t0 ((Cell.free 0).key.map kV) := sq_tk E0 u15
    have E1' : SqT K H15 t1 (h1.key.map kV) := sq_tk E1 u15
    refine ⟨_, rfl, mo, rfl, by omega, by omega, fun lo nlo => ?_⟩
    refine lc_rng (fun k => .int (k : Int)) nlo (by omega) (fun k acc Q' hk q' => ⟨_, rfl, by rw [Int.zero_add]; exact q'⟩) ?_
    rw [Int.toNat_natCast]
    have eo : (List.range mo).map (fun (k : Nat) => V.int (k : Int)) = ((List.range mo).map fun (k : Nat) => (k : Int)).map V.int := by rw [List.map_map]; rfl
    rw [eo]
    have k16 := k15.new (o := .lst (((List.range mo).map fun (k : Nat) => (k : Int)).map V.int)) nlo
    have u16 := Tk.new (o := .lst (((List.range mo).map fun (k : Nat) => (k : Int)).map V.int)) nlo
    generalize upd H15 lo (.lst (((List.range mo).map fun (k : Nat) => (k : Int)).map V.int)) = H16 at k16 u16 ⊢
    refine ⟨Nat.zero_le _, fun ml nml => ?_⟩
    have k17 := k16.new (o := .lst []) nml
    have u17 := Tk.new (o := .lst []) nml
    generalize upd H16 ml (.lst []) = H17 at k17 u17 ⊢
    clear k16 k15 k14 E0 E1 eo
    walk_at "v"; walk_at "tk1"; rename_i r18 H18 a18 b18 cl18 pos18 ns18 ok18 k18 u18
    have tt : Tk H15 H18 := by walk_at "tk"
    let g : G2 := ⟨a, st, m, dm, d, hl, lo, ld, t0, t1, .free 0, h1, mo⟩
    have j0 : J2 P w K g 0 [some (.ref a), some (.ref st), some (.ref m), some (.ref hl), some (.ref ld), some (.int mo), some (.ref lo), some (.ref ml), none, none, none, none, none, none, none] H18 := by
      refine ⟨ml, 0, [], fun _ => .n 0, fun _ => [], (List.range mo).map fun (k : Nat) => (k : Int), [], none, none, none, none, none, none, none, rfl, ⟨cl18, pos18, ns18, ok18, s0, s1, (by walk_at "hp")⟩, ?_, ?_, fun e h => (nomatch h), sq_tk E0' tt, sq_tk E1' tt, by show 0 ≤ 5; omega, Nat.le_refl _⟩
      · refine ⟨fun c => ?_, hne, fun c hc => ?_, fun c hc => .nil, fun p h => (nomatch h), fun x => ?_⟩
        · cases c <;> first | exact .inl rfl | exact ⟨_, rfl⟩ | trivial
        · rcases hc with rfl | rfl
          · rfl
          · exact hh
        · have := rng_cnt mo (by omega) x
          show cnt x _ + cnt x [] + cnt x [] + 0 ≤ _
          rw [cnt_nil]
          exact this
      · refine ⟨fun _ h => (nomatch h), fun c => ?_, fun c => rfl⟩
        cases c <;> first | exact .inl rfl | exact ⟨_, rfl⟩ | trivial
    clear k18 k17
    refine ⟨r18, rfl, by omega, by omega, ?_⟩
    refine for_range (lo := 0) (n := r18.toNat) (fun i σ H => J2 P w K g i σ H) j0 ?_ (fun σ H _ => q H)
    rintro i σ H19 hi ⟨ml, n, xs, mm, S, loose, es, v8, v9, v10, v11, v12, v13, v14, rfl, ⟨cl, pos, ns, ok, s0, s1, k0⟩, kk, mr, he, e0, e1, hl5, hb⟩
    have kl := kk.len
    refine ⟨_, rfl, _, _, rfl, .inl (SqL.of k0.g9), ?_⟩
    rw [List.length_map, List.length_map]
    walk_at "v"; walk_at "tk1"; rename_i r20 H20 a20 b20 cl20 pos20 ns20 ok20 k20 u20
    refine ⟨_, _, rfl, rfl, _, _, rfl, rfl, _, rfl, ?_⟩
    have e0' := sq_tk e0 u20
    have e1' := sq_tk e1 u20
    refine ite2 (fun hlt => ?_) (fun hge => ?_)
    · have hlt : (es.length : Int) < 2 + r20 := of_decide_eq_true hlt
      refine ⟨_, rfl, .inl ⟨rfl, _, SqL.of k20.g9⟩, ?_⟩
      refine ⟨_, rfl, _, rfl, _, rfl, st, lo, hl, t0, t1, .free 0, h1, loose, _, rfl, ⟨cl20, pos20, ns20, ok20, (by walk_at "hp")⟩, e0', e1', rfl, hh, by omega, ?_⟩
      rintro e loose' H21 ⟨cl21, pos21, ns21, ok21, k21⟩ u21 eok mok hin hcnt
      have k22 := k21.perm (.cons _ (.cons _ (.cons _ (.cons _ List.perm_append_comm))))
      simp only [List.cons_append] at k22
      walk_at "nil"
      refine ⟨ml, _, _, rfl, rfl, k22.g9, by rw [List.length_map, List.length_map]; omega, ?_⟩
      have ea : (es.map E2.t).map V.ref ++ [V.ref e.t] = ((es ++ [e]).map E2.t).map V.ref := by rw [List.map_append, List.map_append]; rfl
      rw [ea]
      have k23 := k22.u9 (u := .lst (((es ++ [e]).map E2.t).map V.ref))
      have u23 := Tk.mut (u := .lst (((es ++ [e]).map E2.t).map V.ref)) k22.g9 rfl
      generalize upd H21 ml (.lst (((es ++ [e]).map E2.t).map V.ref)) = H23 at k23 u23 ⊢
      have ef : es.flatMap E2.cells ++ e.cells = (es ++ [e]).flatMap E2.cells := by rw [List.flatMap_append, List.flatMap_cons, List.flatMap_nil, List.append_nil]
      rw [ef] at k23
      clear k22 k21 k20 k0
      have tt : Tk H20 H23 := u21.trans u23
      have tt2 : Tk H19 H23 := u20.trans tt
      refine turn2 T (g := g) (i := i) rfl ⟨cl21, pos21, ns21, ok21, s0, s1, (by walk_at "hp")⟩ ?_ (mr.tk tt2) (fun z hz => ?_) (sq_tk e0' tt) (sq_tk e1' tt) ?_ hb (by omega) ?_ (fun σ H z => z)
      · rw [List.map_append]; exact kk.new (mok mm) hin hcnt
      · rcases List.mem_append.mp hz with h | h
        · exact (he z h).tk tt2
        · rw [List.mem_singleton.mp h]; exact eok.tk u23
      · rw [List.length_append]; show es.length + 1 ≤ 5; omega
      · rw [List.length_append]; show 0 < es.length + 1; omega
    · have hge : ¬ (es.length : Int) < 2 + r20 := fun z => hge (decide_eq_true z)
      refine turn2 T (g := g) (i := i) rfl ⟨cl20, pos20, ns20, ok20, s0, s1, (by walk_at "hp")⟩ kk (mr.tk u20) (fun e h => (he e h).tk u20) e0' e1' hl5 hb (by omega) (by omega) (fun σ H z => z)
end

/-! ## End -/
end Sw
set_option Elab.async false
set_option linter.all false
set_option maxRecDepth 100000
set_option maxHeartbeats 0
namespace Sw
open PySem PySem.Spec PyProof.Rows L2
abbrev Rr : PySem.W.OpenRow := PySem.W.OpenLaw.row PySem.Challenge.rw_slabwarren_k02_woven_stacks
abbrev hk : PySem.W.Hook := hookM 7 fa fn tb
def ob (s : PySem.W.SharedT) : AlM := obsMG 7 fa fn tb (HandSHeadRun.getT s)
theorem ob_eq (s : PySem.W.SharedT) : ob s = hk.obs s.abs := obsMG_eq (HandSHeadRun.getT_eq s)
theorem run (w : World) : HandSHeadRun.RunEq Rr (PySem.W.view Rr.prog [19]) hk ob 3000 loose w := by
  intro os
  kernel_rfl
theorem facts {P : Program} {w : World} {K : PySem.W.Frag} {h : Heap} {mg : Str → Option Value} {f : Addr} (X : K.In h) (G : h.Ns mainGlobals mg) (hfa : mg ("law" : Str) = some (.ref f)) (c : obsM fa fn tb K = (true, He.valD fn)) :
    ∃ fd : FuncData, (∀ (s : Shared) (v : Value), BindsTo s fd ⟨[v], []⟩ [("_law_script", v)]) ∧ ∀ base : Heap, K.In base → base.Ns mainGlobals mg → FnOk P w K mg base CX0 (lv_law + 1) f fd ["_law_script"] (spLaw K) := by
  have T : Tx K mg := Tx0.of X G c
  have e := hfa.symm.trans (g_law T)
  cases e
  obtain ⟨fd0, F0⟩ := T.says.def_ 23 (d := dd_law) rfl
  have b := FunD.bindsA (ps := ["_law_script"]) F0 fun _ _ _ _ _ _ us hl => match us, hl with | [_], _ => rfl
  refine ⟨fd0, fun s v => b s [v] rfl, fun base _ _ => ?_⟩
  obtain ⟨fd, F, _, _, oc2, od2, osl2, lk2⟩ := ok_law (P := P) (w := w) (base := base) T
  obtain ⟨oc, od, dV, kV, doc, pm, an, cdv, ct, osl, _, lk, _⟩ := F0.ex
  have e2 : fd = fd0 := by
    have lk3 : K.lookup (He.fAd K at_law) = some ⟨oc, od, .func fd0, osl⟩ := lk
    rw [lk3] at lk2
    cases lk2
    rfl
  rw [← e2]
  exact F
end Sw
open PySem PySem.W PySem.Calls PyProof.Rows
theorem PySem.Challenge.cw_slabwarren_k02_woven_stacks_holds : PySem.Challenge.rw_slabwarren_k02_woven_stacks.Holds := by
  w_on; o_law
  refine HandSHeadRun.head_any (r := OpenLaw.row PySem.Challenge.rw_slabwarren_k02_woven_stacks) (q := view (OpenLaw.row PySem.Challenge.rw_slabwarren_k02_woven_stacks).prog [19]) (H := Sw.hk) (ob := Sw.ob) (M := 3000) (loose := Sw.loose) (d := HandSHeadRun.topDef (OpenLaw.row PySem.Challenge.rw_slabwarren_k02_woven_stacks).prog 19) (kwd := []) Sw.ob_eq
    (by kernel_rfl) (fun s => by kernel_rfl) Sw.run (by kernel_rfl) (by kernel_rfl) (by kernel_rfl) (by rfl) (by first | assumption | decide +kernel) (by decide +kernel) ⟨rfl, rfl, rfl, rfl, rfl, by decide +kernel⟩ ?hw ?hc
  case hw => w_witness2
  case hc =>
    refine L2.walk_ofE (l := PySem.Challenge.rw_slabwarren_k02_woven_stacks) (n := 63) (k := Sw.lv_law + 1) (x := "_law_script") (CX := L2.CX0) rfl (by decide) (by kernel_rfl) ⟨rfl, by decide, by decide⟩ ?F (fun _ _ _ _ z => z)
    intro w mg fa h Y G hmg0
    obtain ⟨K, KX, c⟩ := Y
    have hmg : mg ("law" : PySem.Str) = some (.ref fa) := by
      have e : (HandSHeadRun.topDef (OpenLaw.row PySem.Challenge.rw_slabwarren_k02_woven_stacks).prog 19).name = ("law" : PySem.Str) := by kernel_rfl
      rw [← e]
      exact hmg0
    obtain ⟨fd, hb, hF⟩ := Sw.facts (P := (PySem.Challenge.rw_slabwarren_k02_woven_stacks).prog) (w := w) KX G hmg c
    exact ⟨K, fd, Sw.spLaw K, KX, hb, fun H a ns hl _ hS => ⟨a, ns, rfl, hS, hl, fun _ => rfl⟩, hF⟩
