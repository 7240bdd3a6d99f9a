import PyProof.Rows.All
import Wide.All
import OpenK.AllK
import Wide.FinOn
import HandS.ForMost
import HandS.Defaults
import HandS.Flow
import HandS.Style
import HandS.Wide
import HandS.SortInts
import HandS.More
import HandS.Exc
import HandS.Head0
import HandS.Head1
import HandS.Head2
import HandS.HeadEnd
import HandS.HeadHook1
import HandS.HeadHook2
import HandS.EndBits
import PySem.Challenge.RW_slabwarren_k01_memory_and_layout
/-! ## Base -/
set_option Elab.async false
set_option linter.all false
set_option maxRecDepth 100000
set_option maxHeartbeats 4000000
/-! Slabwarren: the ground. What the top has left (Tx0), a def's promise by its place (FnG), owned objects (Has), tuples that stay (Tk), a dict with tuple keys of any origin (dicO). Own work. -/
namespace Sw
open PySem PySem.Spec PyProof.Rows L2
abbrev St := L2.St

/-! ### what the top has left -/
structure Tx0 (fa : List He.Fa) (fn : List He.DefD) (tb : List (Str × List He.Dv)) (K : PySem.W.Frag) (mg : Str → Option Value) : Prop where
  says : He.SaysD fa fn K
  tabs : (tb.all fun t => He.tupB K t.1 t.2) = true
  ns : ∃ h : Heap, K.In h ∧ h.Ns mainGlobals mg
section
variable {fa : List He.Fa} {fn : List He.DefD} {tb : List (Str × List He.Dv)} {K : PySem.W.Frag} {mg : Str → Option Value}
theorem Tx0.glo (T : Tx0 fa fn tb K mg) (i : Nat) {x : Str} (h : fa[i]? = some (.glo x)) : mg x = some (.ref (He.ga K x)) := by
  obtain ⟨hp, X, G⟩ := T.ns
  exact He.glo_ok X G (T.says.fact i h)
theorem Tx0.free (T : Tx0 fa fn tb K mg) (i : Nat) {x : Str} (h : fa[i]? = some (.free x)) : mg x = none := by
  obtain ⟨hp, X, G⟩ := T.ns
  exact He.free_ok X G (T.says.fact i h)
theorem Tx0.int (T : Tx0 fa fn tb K mg) (i : Nat) {x : Str} {n : Int} (h : fa[i]? = some (.int x n)) : ∃ t, mg x = some (.int n t) := by
  obtain ⟨hp, X, G⟩ := T.ns
  exact He.int_ok X G (T.says.fact i h)
theorem Tx0.cls (T : Tx0 fa fn tb K mg) (i : Nat) {x : Str} (h : fa[i]? = some (.cls x)) : Cls K (He.ga K x) := He.cls_ok (T.says.fact i h)
theorem Tx0.noat (T : Tx0 fa fn tb K mg) (i : Nat) {x f : Str} (h : fa[i]? = some (.noat x f)) : NoAttr K (He.ga K x) f := He.noat_ok (T.says.fact i h)
theorem Tx0.meth (T : Tx0 fa fn tb K mg) (i : Nat) {x m : Str} (h : fa[i]? = some (.meth x m)) : Meth K (He.ga K x) m (He.ma K (He.ga K x) m) := He.meth_ok (T.says.fact i h)
theorem Tx0.mkr (T : Tx0 fa fn tb K mg) (i : Nat) {x : Str} (h : fa[i]? = some (.mkr x)) : Mk K (He.ga K x) (He.ma K (He.ga K x) "__init__") := He.mkr_ok (T.says.fact i h)
theorem Tx0.tab (T : Tx0 fa fn tb K mg) (i : Nat) {x : Str} {vs : List He.Dv} (h : tb[i]? = some (x, vs)) (H : Hp) : SqT K H (He.ga K x) (vs.map (He.Dv.v K)) :=
  He.tupB_ok (List.all_eq_true.mp T.tabs (x, vs) (List.mem_of_getElem? h)) H
end

/-! ### a def's promise, by its place -/
def FnG (P : Program) (w : World) (K : PySem.W.Frag) (mg : Str → Option Value) (base : Heap) (k : Nat) (at_ : Str × Option Str) (ps : List Str) (sp : Sp) : Prop :=
  ∃ fd, FnOk P w K mg base CX0 k (He.fAd K at_) fd ps sp ∧ Binds K fd ps [] ∧ PySem.W.keepIn K (.ref (He.fAd K at_)) = true ∧ ∃ (oc : Value) (od : Option Addr) (osl : Array (Option Value)), K.lookup (He.fAd K at_) = some ⟨oc, od, .func fd, osl⟩
section
variable {P : Program} {w : World} {K : PySem.W.Frag} {mg : Str → Option Value} {base : Heap} {k : Nat} {at_ : Str × Option Str} {ps : List Str} {sp sp' : Sp}
theorem FnG.mono {j : Nat} (G : FnG P w K mg base k at_ ps sp) (h : k ≤ j) : FnG P w K mg base j at_ ps sp :=
  let ⟨fd, F, b, kp, lk⟩ := G
  ⟨fd, F.mono h, b, kp, lk⟩
/-- a def from its body -/
theorem FnG.of {x qual : Str} {st : Stmt} {N : List Str} (hF : ∃ fd, FunD K x qual (defArgs st) (defBody st) (defScope st) [] [] (He.fAd K at_) fd ∧ Binds K fd ps []) (S : FnScope N ps (defScope st))
    (len : ∀ vs H Q E, sp vs H Q E → vs.length = ps.length)
    (hbody : ∀ (cdv : Value) (A : Around) (outer : List Env) (s : Shared) (H : Hp) (vs : List V) (Q : VK) (E : XK), Room k (A.deeper (envOfC qual (defScope st) s.heap.objs.size (He.fAd K at_) cdv)) → sp vs H Q E →
      ∃ t, PSs (cxOf CX0 P w K mg base N qual (defScope st) (He.fAd K at_) cdv A outer s H E).nox (defBody st) t ∧ t { nx := fun _ H' => Q .non H', rt := Q } (start N vs) H) :
    FnG P w K mg base (k + 1) at_ ps sp := by
  obtain ⟨fd, F, b⟩ := hF
  obtain ⟨oc, od, dV, kV, doc, pm, an, cdv0, ct, osl, _, lk, _⟩ := F.ex
  refine ⟨fd, F.ok S len fun cdv A outer s H vs Q E hr h => ?_, b, F.kp, oc, od, osl, lk⟩
  obtain ⟨t, h1, h2⟩ := hbody cdv A outer s H vs Q E hr h
  exact ⟨t, h1.nox, h2⟩
end
section
variable {X : Cx} {k : Nat} {at_ : Str × Option Str} {C : Addr} {ps : List Str} {sp : Sp} {x m : Str} {p pos apos : Pos} {e o : Expr} {es : List Expr} {ta : TE} {t t1 t2 : TA} {c : Str}
theorem pe_g (G : FnG X.prog X.w X.K X.mg X.base k at_ ps sp) (hr : Room k X.A) (hm : X.mg x = some (.ref (He.fAd X.K at_))) (ha : PA X (e :: es) t) (hg : Gl X x := by rfl) (hdb : (x == ("__debug__" : Str)) = false := by decide)
    (he : starEach (e :: es) X.env = (false, eval e X.env) :: starEach es X.env := by rfl) (hpl : (backTo pos (starEach es X.env)).any (·.1) = false := by rfl) : PE X (.Call (.Name x p) (e :: es) [] pos) (tCall sp [] E0 t) := by
  obtain ⟨fd, F, b, kp, _⟩ := G
  exact pe_call F hr hg hm kp b .nil pass0 ha hdb he hpl
theorem pe_g0 (G : FnG X.prog X.w X.K X.mg X.base k at_ ps sp) (hr : Room k X.A) (hm : X.mg x = some (.ref (He.fAd X.K at_))) (hg : Gl X x := by rfl) (hdb : (x == ("__debug__" : Str)) = false := by decide) :
    PE X (.Call (.Name x p) [] [] pos) (tCall sp [] E0 tNil) := by
  obtain ⟨fd, F, b, kp, _⟩ := G
  exact pe_call0 F hr hg hm kp b .nil pass0 hdb
theorem pe_m {pl : Sem Bool} (he : PE X o ta) (c : Cls X.K C) (hm : Meth X.K C m (He.fAd X.K at_)) (G : FnG X.prog X.w X.K X.mg X.base k at_ ps sp) (hr : Room k X.A) (ha : PA X (e :: es) t)
    (hst : starEach (e :: es) X.env = (false, eval e X.env) :: starEach es X.env := by rfl) (hpl : (backTo pos (starEach es X.env)).any (·.1) = false := by rfl)
    (ht : eval (.Call (.Attribute o m apos) (e :: es) [] pos) X.env = (do
      let ov ← eval o X.env
      standAt apos.atName
      let (f, first) ← holding [ov] (getMethod ov m pl)
      callWith pos f first (backTo pos (starEach (e :: es) X.env)) (backToKw pos (keywordEach [] X.env))) := by rfl) :
    PE X (.Call (.Attribute o m apos) (e :: es) [] pos) (tMeth C m sp [] E0 ta t) := by
  obtain ⟨fd, F, b, kp, _⟩ := G
  exact pe_meth he c hm F hr b .nil pass0 ha hst hpl ht
theorem pe_m0 {pl : Sem Bool} (he : PE X o ta) (c : Cls X.K C) (hm : Meth X.K C m (He.fAd X.K at_)) (G : FnG X.prog X.w X.K X.mg X.base k at_ ps sp) (hr : Room k X.A)
    (ht : eval (.Call (.Attribute o m apos) [] [] pos) X.env = (do
      let ov ← eval o X.env
      standAt apos.atName
      let (f, first) ← holding [ov] (getMethod ov m pl)
      callWith pos f first (backTo pos (starEach [] X.env)) (backToKw pos (keywordEach [] X.env))) := by rfl) :
    PE X (.Call (.Attribute o m apos) [] [] pos) (tMeth C m sp [] E0 ta tNil) := by
  obtain ⟨fd, F, b, kp, _⟩ := G
  exact pe_meth0 he c hm F hr b .nil pass0 ht
theorem pe_n (M : Mk X.K C (He.fAd X.K at_)) (G : FnG X.prog X.w X.K X.mg X.base k at_ ps sp) (hr : Room (k + 1) X.A) (hm : X.mg x = some (.ref C)) (ha : PA X (e :: es) t) (hg : Gl X x := by rfl) (hdb : (x == ("__debug__" : Str)) = false := by decide)
    (he : starEach (e :: es) X.env = (false, eval e X.env) :: starEach es X.env := by rfl) (hpl : (backTo pos (starEach es X.env)).any (·.1) = false := by rfl) : PE X (.Call (.Name x p) (e :: es) [] pos) (tMake C sp [] E0 t) := by
  obtain ⟨fd, F, b, kp, _⟩ := G
  exact pe_make M F hr hg hm b .nil pass0 ha hdb he hpl
theorem pe_n0 (M : Mk X.K C (He.fAd X.K at_)) (G : FnG X.prog X.w X.K X.mg X.base k at_ ps sp) (hr : Room (k + 1) X.A) (hm : X.mg x = some (.ref C)) (hg : Gl X x := by rfl) (hdb : (x == ("__debug__" : Str)) = false := by decide) :
    PE X (.Call (.Name x p) [] [] pos) (tMake C sp [] E0 tNil) := by
  obtain ⟨fd, F, b, kp, _⟩ := G
  exact pe_make0 M F hr hg hm b .nil pass0 hdb
/-- two readings of one expression -/
theorem pe_or {u1 u2 : TE} (h1 : PE X e u1) (h2 : PE X e u2) : PE X e (fun σ H Q => u1 σ H Q ∨ u2 σ H Q) :=
  ⟨fun pins s σ H Q I h => h.elim (h1.run pins s σ H Q I) (h2.run pins s σ H Q I)⟩
end

/-! ### owned objects -/
/-- at these addresses, no two alike, stand these things -/
def Has (L : List (Addr × HO)) (H : Hp) : Prop := (L.map (·.1)).Nodup ∧ ∀ x ∈ L, H x.1 = some x.2
section
variable {L M : List (Addr × HO)} {H : Hp} {a b : Addr} {o u : HO} {x0 x1 x2 x3 x4 x5 x6 x7 x8 x9 x10 x11 : Addr × HO}
theorem Has.nil : Has [] H := ⟨List.nodup_nil, fun _ h => nomatch h⟩
theorem Has.at_ (h : Has L H) (m : (a, o) ∈ L) : H a = some o := h.2 _ m
theorem Has.perm (h : Has L H) (p : L.Perm M) : Has M H := ⟨(p.map (·.1)).nodup_iff.mp h.1, fun x hx => h.2 x (p.mem_iff.mpr hx)⟩
theorem Has.tail (h : Has (x0 :: L) H) : Has L H := ⟨(List.nodup_cons.mp h.1).2, fun x hx => h.2 x (List.mem_cons_of_mem _ hx)⟩
theorem Has.app1 (h : Has (L ++ M) H) : Has L H := ⟨by
  have := h.1
  rw [List.map_append] at this
  exact (List.nodup_append.mp this).1, fun x hx => h.2 x (List.mem_append_left _ hx)⟩
theorem Has.app2 (h : Has (L ++ M) H) : Has M H := ⟨by
  have := h.1
  rw [List.map_append] at this
  exact (List.nodup_append.mp this).2.1, fun x hx => h.2 x (List.mem_append_right _ hx)⟩
theorem Has.g0 (h : Has ((a, o) :: L) H) : H a = some o := h.2 _ (List.mem_cons_self ..)
theorem Has.g1 (h : Has (x0 :: (a, o) :: L) H) : H a = some o := h.tail.g0
theorem Has.g2 (h : Has (x0 :: x1 :: (a, o) :: L) H) : H a = some o := h.tail.g1
theorem Has.g3 (h : Has (x0 :: x1 :: x2 :: (a, o) :: L) H) : H a = some o := h.tail.g2
theorem Has.g4 (h : Has (x0 :: x1 :: x2 :: x3 :: (a, o) :: L) H) : H a = some o := h.tail.g3
theorem Has.g5 (h : Has (x0 :: x1 :: x2 :: x3 :: x4 :: (a, o) :: L) H) : H a = some o := h.tail.g4
theorem Has.g6 (h : Has (x0 :: x1 :: x2 :: x3 :: x4 :: x5 :: (a, o) :: L) H) : H a = some o := h.tail.g5
theorem Has.g7 (h : Has (x0 :: x1 :: x2 :: x3 :: x4 :: x5 :: x6 :: (a, o) :: L) H) : H a = some o := h.tail.g6
theorem Has.g8 (h : Has (x0 :: x1 :: x2 :: x3 :: x4 :: x5 :: x6 :: x7 :: (a, o) :: L) H) : H a = some o := h.tail.g7
theorem Has.g9 (h : Has (x0 :: x1 :: x2 :: x3 :: x4 :: x5 :: x6 :: x7 :: x8 :: (a, o) :: L) H) : H a = some o := h.tail.g8
theorem Has.g10 (h : Has (x0 :: x1 :: x2 :: x3 :: x4 :: x5 :: x6 :: x7 :: x8 :: x9 :: (a, o) :: L) H) : H a = some o := h.tail.g9
/-- the thing at a is changed -/
theorem Has.u0 (h : Has ((a, o) :: L) H) : Has ((a, u) :: L) (upd H a u) := ⟨h.1, fun x hx => by
  rcases List.mem_cons.mp hx with e | hx
  · subst e; exact upd_same
  · have ne : x.1 ≠ a := fun e => (List.nodup_cons.mp h.1).1 (List.mem_map.mpr ⟨x, hx, e⟩)
    rw [upd_ne ne]
    exact h.2 x (List.mem_cons_of_mem _ hx)⟩
theorem perm1 : (x0 :: x1 :: L).Perm (x1 :: x0 :: L) := List.Perm.swap ..
theorem perm2 : (x0 :: x1 :: x2 :: L).Perm (x2 :: x0 :: x1 :: L) := (List.Perm.cons _ perm1).trans perm1
theorem perm3 : (x0 :: x1 :: x2 :: x3 :: L).Perm (x3 :: x0 :: x1 :: x2 :: L) := (List.Perm.cons _ perm2).trans perm1
theorem perm4 : (x0 :: x1 :: x2 :: x3 :: x4 :: L).Perm (x4 :: x0 :: x1 :: x2 :: x3 :: L) := (List.Perm.cons _ perm3).trans perm1
theorem perm5 : (x0 :: x1 :: x2 :: x3 :: x4 :: x5 :: L).Perm (x5 :: x0 :: x1 :: x2 :: x3 :: x4 :: L) := (List.Perm.cons _ perm4).trans perm1
theorem perm6 : (x0 :: x1 :: x2 :: x3 :: x4 :: x5 :: x6 :: L).Perm (x6 :: x0 :: x1 :: x2 :: x3 :: x4 :: x5 :: L) := (List.Perm.cons _ perm5).trans perm1
theorem perm7 : (x0 :: x1 :: x2 :: x3 :: x4 :: x5 :: x6 :: x7 :: L).Perm (x7 :: x0 :: x1 :: x2 :: x3 :: x4 :: x5 :: x6 :: L) := (List.Perm.cons _ perm6).trans perm1
theorem perm8 : (x0 :: x1 :: x2 :: x3 :: x4 :: x5 :: x6 :: x7 :: x8 :: L).Perm (x8 :: x0 :: x1 :: x2 :: x3 :: x4 :: x5 :: x6 :: x7 :: L) := (List.Perm.cons _ perm7).trans perm1
theorem perm9 : (x0 :: x1 :: x2 :: x3 :: x4 :: x5 :: x6 :: x7 :: x8 :: x9 :: L).Perm (x9 :: x0 :: x1 :: x2 :: x3 :: x4 :: x5 :: x6 :: x7 :: x8 :: L) := (List.Perm.cons _ perm8).trans perm1
theorem perm10 : (x0 :: x1 :: x2 :: x3 :: x4 :: x5 :: x6 :: x7 :: x8 :: x9 :: x10 :: L).Perm (x10 :: x0 :: x1 :: x2 :: x3 :: x4 :: x5 :: x6 :: x7 :: x8 :: x9 :: L) := (List.Perm.cons _ perm9).trans perm1
/-- the i-th to the front -/
theorem Has.b1 (h : Has (x0 :: x1 :: L) H) : Has (x1 :: x0 :: L) H := h.perm perm1
theorem Has.b2 (h : Has (x0 :: x1 :: x2 :: L) H) : Has (x2 :: x0 :: x1 :: L) H := h.perm perm2
theorem Has.b3 (h : Has (x0 :: x1 :: x2 :: x3 :: L) H) : Has (x3 :: x0 :: x1 :: x2 :: L) H := h.perm perm3
theorem Has.b4 (h : Has (x0 :: x1 :: x2 :: x3 :: x4 :: L) H) : Has (x4 :: x0 :: x1 :: x2 :: x3 :: L) H := h.perm perm4
theorem Has.b5 (h : Has (x0 :: x1 :: x2 :: x3 :: x4 :: x5 :: L) H) : Has (x5 :: x0 :: x1 :: x2 :: x3 :: x4 :: L) H := h.perm perm5
theorem Has.b6 (h : Has (x0 :: x1 :: x2 :: x3 :: x4 :: x5 :: x6 :: L) H) : Has (x6 :: x0 :: x1 :: x2 :: x3 :: x4 :: x5 :: L) H := h.perm perm6
theorem Has.b7 (h : Has (x0 :: x1 :: x2 :: x3 :: x4 :: x5 :: x6 :: x7 :: L) H) : Has (x7 :: x0 :: x1 :: x2 :: x3 :: x4 :: x5 :: x6 :: L) H := h.perm perm7
theorem Has.b8 (h : Has (x0 :: x1 :: x2 :: x3 :: x4 :: x5 :: x6 :: x7 :: x8 :: L) H) : Has (x8 :: x0 :: x1 :: x2 :: x3 :: x4 :: x5 :: x6 :: x7 :: L) H := h.perm perm8
theorem Has.b9 (h : Has (x0 :: x1 :: x2 :: x3 :: x4 :: x5 :: x6 :: x7 :: x8 :: x9 :: L) H) : Has (x9 :: x0 :: x1 :: x2 :: x3 :: x4 :: x5 :: x6 :: x7 :: x8 :: L) H := h.perm perm9
theorem Has.b10 (h : Has (x0 :: x1 :: x2 :: x3 :: x4 :: x5 :: x6 :: x7 :: x8 :: x9 :: x10 :: L) H) : Has (x10 :: x0 :: x1 :: x2 :: x3 :: x4 :: x5 :: x6 :: x7 :: x8 :: x9 :: L) H := h.perm perm10
/-- the front to the i-th place -/
theorem Has.f1 (h : Has (x0 :: x1 :: L) H) : Has (x1 :: x0 :: L) H := h.perm perm1
theorem Has.f2 (h : Has (x0 :: x1 :: x2 :: L) H) : Has (x1 :: x2 :: x0 :: L) H := h.perm perm2.symm
theorem Has.f3 (h : Has (x0 :: x1 :: x2 :: x3 :: L) H) : Has (x1 :: x2 :: x3 :: x0 :: L) H := h.perm perm3.symm
theorem Has.f4 (h : Has (x0 :: x1 :: x2 :: x3 :: x4 :: L) H) : Has (x1 :: x2 :: x3 :: x4 :: x0 :: L) H := h.perm perm4.symm
theorem Has.f5 (h : Has (x0 :: x1 :: x2 :: x3 :: x4 :: x5 :: L) H) : Has (x1 :: x2 :: x3 :: x4 :: x5 :: x0 :: L) H := h.perm perm5.symm
theorem Has.f6 (h : Has (x0 :: x1 :: x2 :: x3 :: x4 :: x5 :: x6 :: L) H) : Has (x1 :: x2 :: x3 :: x4 :: x5 :: x6 :: x0 :: L) H := h.perm perm6.symm
theorem Has.f7 (h : Has (x0 :: x1 :: x2 :: x3 :: x4 :: x5 :: x6 :: x7 :: L) H) : Has (x1 :: x2 :: x3 :: x4 :: x5 :: x6 :: x7 :: x0 :: L) H := h.perm perm7.symm
theorem Has.f8 (h : Has (x0 :: x1 :: x2 :: x3 :: x4 :: x5 :: x6 :: x7 :: x8 :: L) H) : Has (x1 :: x2 :: x3 :: x4 :: x5 :: x6 :: x7 :: x8 :: x0 :: L) H := h.perm perm8.symm
theorem Has.f9 (h : Has (x0 :: x1 :: x2 :: x3 :: x4 :: x5 :: x6 :: x7 :: x8 :: x9 :: L) H) : Has (x1 :: x2 :: x3 :: x4 :: x5 :: x6 :: x7 :: x8 :: x9 :: x0 :: L) H := h.perm perm9.symm
theorem Has.f10 (h : Has (x0 :: x1 :: x2 :: x3 :: x4 :: x5 :: x6 :: x7 :: x8 :: x9 :: x10 :: L) H) : Has (x1 :: x2 :: x3 :: x4 :: x5 :: x6 :: x7 :: x8 :: x9 :: x10 :: x0 :: L) H := h.perm perm10.symm
theorem Has.u1 (h : Has (x0 :: (a, o) :: L) H) : Has (x0 :: (a, u) :: L) (upd H a u) := h.b1.u0.f1
theorem Has.u2 (h : Has (x0 :: x1 :: (a, o) :: L) H) : Has (x0 :: x1 :: (a, u) :: L) (upd H a u) := h.b2.u0.f2
theorem Has.u3 (h : Has (x0 :: x1 :: x2 :: (a, o) :: L) H) : Has (x0 :: x1 :: x2 :: (a, u) :: L) (upd H a u) := h.b3.u0.f3
theorem Has.u4 (h : Has (x0 :: x1 :: x2 :: x3 :: (a, o) :: L) H) : Has (x0 :: x1 :: x2 :: x3 :: (a, u) :: L) (upd H a u) := h.b4.u0.f4
theorem Has.u5 (h : Has (x0 :: x1 :: x2 :: x3 :: x4 :: (a, o) :: L) H) : Has (x0 :: x1 :: x2 :: x3 :: x4 :: (a, u) :: L) (upd H a u) := h.b5.u0.f5
theorem Has.u6 (h : Has (x0 :: x1 :: x2 :: x3 :: x4 :: x5 :: (a, o) :: L) H) : Has (x0 :: x1 :: x2 :: x3 :: x4 :: x5 :: (a, u) :: L) (upd H a u) := h.b6.u0.f6
theorem Has.u7 (h : Has (x0 :: x1 :: x2 :: x3 :: x4 :: x5 :: x6 :: (a, o) :: L) H) : Has (x0 :: x1 :: x2 :: x3 :: x4 :: x5 :: x6 :: (a, u) :: L) (upd H a u) := h.b7.u0.f7
theorem Has.u8 (h : Has (x0 :: x1 :: x2 :: x3 :: x4 :: x5 :: x6 :: x7 :: (a, o) :: L) H) : Has (x0 :: x1 :: x2 :: x3 :: x4 :: x5 :: x6 :: x7 :: (a, u) :: L) (upd H a u) := h.b8.u0.f8
theorem Has.u9 (h : Has (x0 :: x1 :: x2 :: x3 :: x4 :: x5 :: x6 :: x7 :: x8 :: (a, o) :: L) H) : Has (x0 :: x1 :: x2 :: x3 :: x4 :: x5 :: x6 :: x7 :: x8 :: (a, u) :: L) (upd H a u) := h.b9.u0.f9
theorem Has.u10 (h : Has (x0 :: x1 :: x2 :: x3 :: x4 :: x5 :: x6 :: x7 :: x8 :: x9 :: (a, o) :: L) H) : Has (x0 :: x1 :: x2 :: x3 :: x4 :: x5 :: x6 :: x7 :: x8 :: x9 :: (a, u) :: L) (upd H a u) := h.b10.u0.f10
theorem Has.notin (h : Has L H) (n : H a = none) : a ∉ L.map (·.1) := fun m => by
  obtain ⟨x, hx, e⟩ := List.mem_map.mp m
  have := h.2 x hx
  rw [e, n] at this
  cases this
/-- a new object that is not kept -/
theorem Has.skip (h : Has L H) (n : H a = none) : Has L (upd H a o) := ⟨h.1, fun x hx => by
  have ne : x.1 ≠ a := fun e => h.notin n (List.mem_map.mpr ⟨x, hx, e⟩)
  rw [upd_ne ne]
  exact h.2 x hx⟩
/-- a new object -/
theorem Has.new (h : Has L H) (n : H a = none) : Has ((a, o) :: L) (upd H a o) := ⟨List.nodup_cons.mpr ⟨h.notin n, h.1⟩, fun x hx => by
  rcases List.mem_cons.mp hx with e | hx
  · subst e; exact upd_same
  · exact (h.skip n).2 x hx⟩
theorem Has.free (h : Has L H) (n : H a = none) (m : b ∈ L.map (·.1)) : b ≠ a := fun e => h.notin n (by rw [← e]; exact m)
theorem Has.wk (h : Has L H) (s : M.Sublist L) : Has M H := ⟨(s.map (·.1)).nodup h.1, fun x hx => h.2 x (s.subset hx)⟩
end

/-! ### tuples stay -/
def Tk (H H' : Hp) : Prop := ∀ (K : PySem.W.Frag) (t : Addr) (xs : List V), SqT K H t xs → SqT K H' t xs
def noTup : HO → Bool
  | .tup _ => false
  | .frz _ _ => false
  | _ => true
section
variable {K : PySem.W.Frag} {H H1 H2 : Hp} {a : Addr} {o u : HO}
theorem Tk.refl : Tk H H := fun _ _ _ h => h
theorem Tk.trans (h : Tk H H1) (g : Tk H1 H2) : Tk H H2 := fun K t xs x => g K t xs (h K t xs x)
theorem Tk.new (n : H a = none) : Tk H (upd H a o) := fun K t xs h => by
  rcases h with h | h
  · refine .inl ?_
    rcases h with h | ⟨ob, h⟩
    · exact .inl (by rw [upd_ne (ne_of_none h n)]; exact h)
    · exact .inr ⟨ob, by rw [upd_ne (ne_of_none h n)]; exact h⟩
  · exact .inr h
theorem Tk.mut (e : H a = some o) (n : noTup o = true) : Tk H (upd H a u) := fun K t xs h => by
  rcases h with h | h
  · refine .inl ?_
    rcases h with h | ⟨ob, h⟩
    · exact .inl (by rw [upd_ne (ne_of h e (fun z => by rw [← z] at n; cases n))]; exact h)
    · exact .inr ⟨ob, by rw [upd_ne (ne_of h e (fun z => by rw [← z] at n; cases n))]; exact h⟩
  · exact .inr h
theorem sqt_new {xs : List V} : SqT K (upd H a (.tup xs)) a xs := SqT.of upd_same
end
/-! ### stores to fields of owned objects -/
section
variable {K : PySem.W.Frag} {H : Hp} {L : List (Addr × HO)} {R : Hp → Prop} {p C dx : Addr} {f : Str} {y : V} {fs fs' : List (Str × V)} {o u : HO} {a : Addr} {x0 x1 x2 x3 x4 x5 x6 x7 x8 x9 x10 x11 : Addr × HO}
theorem Has.w0 (h : Has ((p, .ins C dx fs) :: L) H) (hc : Cls K C) (hn : NoAttr K C f) (hl : fs.length < 1000) (e : putF f y fs = fs') (q : ∀ H1, Has ((p, .ins C dx fs') :: L) H1 → Tk H H1 → R H1) :
    ∃ a C dx fs, V.ref p = .ref a ∧ H a = some (.ins C dx fs) ∧ Cls K C ∧ NoAttr K C f ∧ fs.length < 1000 ∧ R (upd H a (.ins C dx (putF f y fs))) :=
  ⟨p, C, dx, fs, rfl, h.g0, hc, hn, hl, q _ (by rw [e]; exact h.u0) (Tk.mut h.g0 rfl)⟩
theorem Has.v0 (h : Has ((p, .ins C dx fs) :: L) H) (hl : fs.length < 1000) (e : putF f y fs = fs') (q : ∀ H1, Has ((p, .ins C dx fs') :: L) H1 → Tk H H1 → R H1) :
    ∃ dx fs, H p = some (.ins C dx fs) ∧ fs.length < 1000 ∧ R (upd H p (.ins C dx (putF f y fs))) :=
  ⟨dx, fs, h.g0, hl, q _ (by rw [e]; exact h.u0) (Tk.mut h.g0 rfl)⟩
/-- another thing there -/
theorem Has.s0 (h : Has ((a, o) :: L) H) (n : noTup o = true) (q : ∀ H1, Has ((a, u) :: L) H1 → Tk H H1 → R H1) : R (upd H a u) := q _ h.u0 (Tk.mut h.g0 n)
theorem Has.w1 (h : Has (x0 :: (p, .ins C dx fs) :: L) H) (hc : Cls K C) (hn : NoAttr K C f) (hl : fs.length < 1000) (e : putF f y fs = fs') (q : ∀ H1, Has (x0 :: (p, .ins C dx fs') :: L) H1 → Tk H H1 → R H1) :
    ∃ a C dx fs, V.ref p = .ref a ∧ H a = some (.ins C dx fs) ∧ Cls K C ∧ NoAttr K C f ∧ fs.length < 1000 ∧ R (upd H a (.ins C dx (putF f y fs))) :=
  ⟨p, C, dx, fs, rfl, h.g1, hc, hn, hl, q _ (by rw [e]; exact h.u1) (Tk.mut h.g1 rfl)⟩
theorem Has.v1 (h : Has (x0 :: (p, .ins C dx fs) :: L) H) (hl : fs.length < 1000) (e : putF f y fs = fs') (q : ∀ H1, Has (x0 :: (p, .ins C dx fs') :: L) H1 → Tk H H1 → R H1) :
    ∃ dx fs, H p = some (.ins C dx fs) ∧ fs.length < 1000 ∧ R (upd H p (.ins C dx (putF f y fs))) :=
  ⟨dx, fs, h.g1, hl, q _ (by rw [e]; exact h.u1) (Tk.mut h.g1 rfl)⟩
/-- another thing there -/
theorem Has.s1 (h : Has (x0 :: (a, o) :: L) H) (n : noTup o = true) (q : ∀ H1, Has (x0 :: (a, u) :: L) H1 → Tk H H1 → R H1) : R (upd H a u) := q _ h.u1 (Tk.mut h.g1 n)
theorem Has.w2 (h : Has (x0 :: x1 :: (p, .ins C dx fs) :: L) H) (hc : Cls K C) (hn : NoAttr K C f) (hl : fs.length < 1000) (e : putF f y fs = fs') (q : ∀ H1, Has (x0 :: x1 :: (p, .ins C dx fs') :: L) H1 → Tk H H1 → R H1) :
    ∃ a C dx fs, V.ref p = .ref a ∧ H a = some (.ins C dx fs) ∧ Cls K C ∧ NoAttr K C f ∧ fs.length < 1000 ∧ R (upd H a (.ins C dx (putF f y fs))) :=
  ⟨p, C, dx, fs, rfl, h.g2, hc, hn, hl, q _ (by rw [e]; exact h.u2) (Tk.mut h.g2 rfl)⟩
theorem Has.v2 (h : Has (x0 :: x1 :: (p, .ins C dx fs) :: L) H) (hl : fs.length < 1000) (e : putF f y fs = fs') (q : ∀ H1, Has (x0 :: x1 :: (p, .ins C dx fs') :: L) H1 → Tk H H1 → R H1) :
    ∃ dx fs, H p = some (.ins C dx fs) ∧ fs.length < 1000 ∧ R (upd H p (.ins C dx (putF f y fs))) :=
  ⟨dx, fs, h.g2, hl, q _ (by rw [e]; exact h.u2) (Tk.mut h.g2 rfl)⟩
/-- another thing there -/
theorem Has.s2 (h : Has (x0 :: x1 :: (a, o) :: L) H) (n : noTup o = true) (q : ∀ H1, Has (x0 :: x1 :: (a, u) :: L) H1 → Tk H H1 → R H1) : R (upd H a u) := q _ h.u2 (Tk.mut h.g2 n)
theorem Has.w3 (h : Has (x0 :: x1 :: x2 :: (p, .ins C dx fs) :: L) H) (hc : Cls K C) (hn : NoAttr K C f) (hl : fs.length < 1000) (e : putF f y fs = fs') (q : ∀ H1, Has (x0 :: x1 :: x2 :: (p, .ins C dx fs') :: L) H1 → Tk H H1 → R H1) :
    ∃ a C dx fs, V.ref p = .ref a ∧ H a = some (.ins C dx fs) ∧ Cls K C ∧ NoAttr K C f ∧ fs.length < 1000 ∧ R (upd H a (.ins C dx (putF f y fs))) :=
  ⟨p, C, dx, fs, rfl, h.g3, hc, hn, hl, q _ (by rw [e]; exact h.u3) (Tk.mut h.g3 rfl)⟩
theorem Has.v3 (h : Has (x0 :: x1 :: x2 :: (p, .ins C dx fs) :: L) H) (hl : fs.length < 1000) (e : putF f y fs = fs') (q : ∀ H1, Has (x0 :: x1 :: x2 :: (p, .ins C dx fs') :: L) H1 → Tk H H1 → R H1) :
    ∃ dx fs, H p = some (.ins C dx fs) ∧ fs.length < 1000 ∧ R (upd H p (.ins C dx (putF f y fs))) :=
  ⟨dx, fs, h.g3, hl, q _ (by rw [e]; exact h.u3) (Tk.mut h.g3 rfl)⟩
/-- another thing there -/
theorem Has.s3 (h : Has (x0 :: x1 :: x2 :: (a, o) :: L) H) (n : noTup o = true) (q : ∀ H1, Has (x0 :: x1 :: x2 :: (a, u) :: L) H1 → Tk H H1 → R H1) : R (upd H a u) := q _ h.u3 (Tk.mut h.g3 n)
theorem Has.w4 (h : Has (x0 :: x1 :: x2 :: x3 :: (p, .ins C dx fs) :: L) H) (hc : Cls K C) (hn : NoAttr K C f) (hl : fs.length < 1000) (e : putF f y fs = fs') (q : ∀ H1, Has (x0 :: x1 :: x2 :: x3 :: (p, .ins C dx fs') :: L) H1 → Tk H H1 → R H1) :
    ∃ a C dx fs, V.ref p = .ref a ∧ H a = some (.ins C dx fs) ∧ Cls K C ∧ NoAttr K C f ∧ fs.length < 1000 ∧ R (upd H a (.ins C dx (putF f y fs))) :=
  ⟨p, C, dx, fs, rfl, h.g4, hc, hn, hl, q _ (by rw [e]; exact h.u4) (Tk.mut h.g4 rfl)⟩
theorem Has.v4 (h : Has (x0 :: x1 :: x2 :: x3 :: (p, .ins C dx fs) :: L) H) (hl : fs.length < 1000) (e : putF f y fs = fs') (q : ∀ H1, Has (x0 :: x1 :: x2 :: x3 :: (p, .ins C dx fs') :: L) H1 → Tk H H1 → R H1) :
    ∃ dx fs, H p = some (.ins C dx fs) ∧ fs.length < 1000 ∧ R (upd H p (.ins C dx (putF f y fs))) :=
  ⟨dx, fs, h.g4, hl, q _ (by rw [e]; exact h.u4) (Tk.mut h.g4 rfl)⟩
/-- another thing there -/
theorem Has.s4 (h : Has (x0 :: x1 :: x2 :: x3 :: (a, o) :: L) H) (n : noTup o = true) (q : ∀ H1, Has (x0 :: x1 :: x2 :: x3 :: (a, u) :: L) H1 → Tk H H1 → R H1) : R (upd H a u) := q _ h.u4 (Tk.mut h.g4 n)
theorem Has.w5 (h : Has (x0 :: x1 :: x2 :: x3 :: x4 :: (p, .ins C dx fs) :: L) H) (hc : Cls K C) (hn : NoAttr K C f) (hl : fs.length < 1000) (e : putF f y fs = fs') (q : ∀ H1, Has (x0 :: x1 :: x2 :: x3 :: x4 :: (p, .ins C dx fs') :: L) H1 → Tk H H1 → R H1) :
    ∃ a C dx fs, V.ref p = .ref a ∧ H a = some (.ins C dx fs) ∧ Cls K C ∧ NoAttr K C f ∧ fs.length < 1000 ∧ R (upd H a (.ins C dx (putF f y fs))) :=
  ⟨p, C, dx, fs, rfl, h.g5, hc, hn, hl, q _ (by rw [e]; exact h.u5) (Tk.mut h.g5 rfl)⟩
theorem Has.v5 (h : Has (x0 :: x1 :: x2 :: x3 :: x4 :: (p, .ins C dx fs) :: L) H) (hl : fs.length < 1000) (e : putF f y fs = fs') (q : ∀ H1, Has (x0 :: x1 :: x2 :: x3 :: x4 :: (p, .ins C dx fs') :: L) H1 → Tk H H1 → R H1) :
    ∃ dx fs, H p = some (.ins C dx fs) ∧ fs.length < 1000 ∧ R (upd H p (.ins C dx (putF f y fs))) :=
  ⟨dx, fs, h.g5, hl, q _ (by rw [e]; exact h.u5) (Tk.mut h.g5 rfl)⟩
/-- another thing there -/
theorem Has.s5 (h : Has (x0 :: x1 :: x2 :: x3 :: x4 :: (a, o) :: L) H) (n : noTup o = true) (q : ∀ H1, Has (x0 :: x1 :: x2 :: x3 :: x4 :: (a, u) :: L) H1 → Tk H H1 → R H1) : R (upd H a u) := q _ h.u5 (Tk.mut h.g5 n)
theorem Has.w6 (h : Has (x0 :: x1 :: x2 :: x3 :: x4 :: x5 :: (p, .ins C dx fs) :: L) H) (hc : Cls K C) (hn : NoAttr K C f) (hl : fs.length < 1000) (e : putF f y fs = fs') (q : ∀ H1, Has (x0 :: x1 :: x2 :: x3 :: x4 :: x5 :: (p, .ins C dx fs') :: L) H1 → Tk H H1 → R H1) :
    ∃ a C dx fs, V.ref p = .ref a ∧ H a = some (.ins C dx fs) ∧ Cls K C ∧ NoAttr K C f ∧ fs.length < 1000 ∧ R (upd H a (.ins C dx (putF f y fs))) :=
  ⟨p, C, dx, fs, rfl, h.g6, hc, hn, hl, q _ (by rw [e]; exact h.u6) (Tk.mut h.g6 rfl)⟩
theorem Has.v6 (h : Has (x0 :: x1 :: x2 :: x3 :: x4 :: x5 :: (p, .ins C dx fs) :: L) H) (hl : fs.length < 1000) (e : putF f y fs = fs') (q : ∀ H1, Has (x0 :: x1 :: x2 :: x3 :: x4 :: x5 :: (p, .ins C dx fs') :: L) H1 → Tk H H1 → R H1) :
    ∃ dx fs, H p = some (.ins C dx fs) ∧ fs.length < 1000 ∧ R (upd H p (.ins C dx (putF f y fs))) :=
  ⟨dx, fs, h.g6, hl, q _ (by rw [e]; exact h.u6) (Tk.mut h.g6 rfl)⟩
/-- another thing there -/
theorem Has.s6 (h : Has (x0 :: x1 :: x2 :: x3 :: x4 :: x5 :: (a, o) :: L) H) (n : noTup o = true) (q : ∀ H1, Has (x0 :: x1 :: x2 :: x3 :: x4 :: x5 :: (a, u) :: L) H1 → Tk H H1 → R H1) : R (upd H a u) := q _ h.u6 (Tk.mut h.g6 n)
theorem Has.w7 (h : Has (x0 :: x1 :: x2 :: x3 :: x4 :: x5 :: x6 :: (p, .ins C dx fs) :: L) H) (hc : Cls K C) (hn : NoAttr K C f) (hl : fs.length < 1000) (e : putF f y fs = fs') (q : ∀ H1, Has (x0 :: x1 :: x2 :: x3 :: x4 :: x5 :: x6 :: (p, .ins C dx fs') :: L) H1 → Tk H H1 → R H1) :
    ∃ a C dx fs, V.ref p = .ref a ∧ H a = some (.ins C dx fs) ∧ Cls K C ∧ NoAttr K C f ∧ fs.length < 1000 ∧ R (upd H a (.ins C dx (putF f y fs))) :=
  ⟨p, C, dx, fs, rfl, h.g7, hc, hn, hl, q _ (by rw [e]; exact h.u7) (Tk.mut h.g7 rfl)⟩
theorem Has.v7 (h : Has (x0 :: x1 :: x2 :: x3 :: x4 :: x5 :: x6 :: (p, .ins C dx fs) :: L) H) (hl : fs.length < 1000) (e : putF f y fs = fs') (q : ∀ H1, Has (x0 :: x1 :: x2 :: x3 :: x4 :: x5 :: x6 :: (p, .ins C dx fs') :: L) H1 → Tk H H1 → R H1) :
    ∃ dx fs, H p = some (.ins C dx fs) ∧ fs.length < 1000 ∧ R (upd H p (.ins C dx (putF f y fs))) :=
  ⟨dx, fs, h.g7, hl, q _ (by rw [e]; exact h.u7) (Tk.mut h.g7 rfl)⟩
/-- another thing there -/
theorem Has.s7 (h : Has (x0 :: x1 :: x2 :: x3 :: x4 :: x5 :: x6 :: (a, o) :: L) H) (n : noTup o = true) (q : ∀ H1, Has (x0 :: x1 :: x2 :: x3 :: x4 :: x5 :: x6 :: (a, u) :: L) H1 → Tk H H1 → R H1) : R (upd H a u) := q _ h.u7 (Tk.mut h.g7 n)
theorem Has.w8 (h : Has (x0 :: x1 :: x2 :: x3 :: x4 :: x5 :: x6 :: x7 :: (p, .ins C dx fs) :: L) H) (hc : Cls K C) (hn : NoAttr K C f) (hl : fs.length < 1000) (e : putF f y fs = fs') (q : ∀ H1, Has (x0 :: x1 :: x2 :: x3 :: x4 :: x5 :: x6 :: x7 :: (p, .ins C dx fs') :: L) H1 → Tk H H1 → R H1) :
    ∃ a C dx fs, V.ref p = .ref a ∧ H a = some (.ins C dx fs) ∧ Cls K C ∧ NoAttr K C f ∧ fs.length < 1000 ∧ R (upd H a (.ins C dx (putF f y fs))) :=
  ⟨p, C, dx, fs, rfl, h.g8, hc, hn, hl, q _ (by rw [e]; exact h.u8) (Tk.mut h.g8 rfl)⟩
theorem Has.v8 (h : Has (x0 :: x1 :: x2 :: x3 :: x4 :: x5 :: x6 :: x7 :: (p, .ins C dx fs) :: L) H) (hl : fs.length < 1000) (e : putF f y fs = fs') (q : ∀ H1, Has (x0 :: x1 :: x2 :: x3 :: x4 :: x5 :: x6 :: x7 :: (p, .ins C dx fs') :: L) H1 → Tk H H1 → R H1) :
    ∃ dx fs, H p = some (.ins C dx fs) ∧ fs.length < 1000 ∧ R (upd H p (.ins C dx (putF f y fs))) :=
  ⟨dx, fs, h.g8, hl, q _ (by rw [e]; exact h.u8) (Tk.mut h.g8 rfl)⟩
/-- another thing there -/
theorem Has.s8 (h : Has (x0 :: x1 :: x2 :: x3 :: x4 :: x5 :: x6 :: x7 :: (a, o) :: L) H) (n : noTup o = true) (q : ∀ H1, Has (x0 :: x1 :: x2 :: x3 :: x4 :: x5 :: x6 :: x7 :: (a, u) :: L) H1 → Tk H H1 → R H1) : R (upd H a u) := q _ h.u8 (Tk.mut h.g8 n)
theorem Has.w9 (h : Has (x0 :: x1 :: x2 :: x3 :: x4 :: x5 :: x6 :: x7 :: x8 :: (p, .ins C dx fs) :: L) H) (hc : Cls K C) (hn : NoAttr K C f) (hl : fs.length < 1000) (e : putF f y fs = fs') (q : ∀ H1, Has (x0 :: x1 :: x2 :: x3 :: x4 :: x5 :: x6 :: x7 :: x8 :: (p, .ins C dx fs') :: L) H1 → Tk H H1 → R H1) :
    ∃ a C dx fs, V.ref p = .ref a ∧ H a = some (.ins C dx fs) ∧ Cls K C ∧ NoAttr K C f ∧ fs.length < 1000 ∧ R (upd H a (.ins C dx (putF f y fs))) :=
  ⟨p, C, dx, fs, rfl, h.g9, hc, hn, hl, q _ (by rw [e]; exact h.u9) (Tk.mut h.g9 rfl)⟩
theorem Has.v9 (h : Has (x0 :: x1 :: x2 :: x3 :: x4 :: x5 :: x6 :: x7 :: x8 :: (p, .ins C dx fs) :: L) H) (hl : fs.length < 1000) (e : putF f y fs = fs') (q : ∀ H1, Has (x0 :: x1 :: x2 :: x3 :: x4 :: x5 :: x6 :: x7 :: x8 :: (p, .ins C dx fs') :: L) H1 → Tk H H1 → R H1) :
    ∃ dx fs, H p = some (.ins C dx fs) ∧ fs.length < 1000 ∧ R (upd H p (.ins C dx (putF f y fs))) :=
  ⟨dx, fs, h.g9, hl, q _ (by rw [e]; exact h.u9) (Tk.mut h.g9 rfl)⟩
/-- another thing there -/
theorem Has.s9 (h : Has (x0 :: x1 :: x2 :: x3 :: x4 :: x5 :: x6 :: x7 :: x8 :: (a, o) :: L) H) (n : noTup o = true) (q : ∀ H1, Has (x0 :: x1 :: x2 :: x3 :: x4 :: x5 :: x6 :: x7 :: x8 :: (a, u) :: L) H1 → Tk H H1 → R H1) : R (upd H a u) := q _ h.u9 (Tk.mut h.g9 n)
theorem Has.w10 (h : Has (x0 :: x1 :: x2 :: x3 :: x4 :: x5 :: x6 :: x7 :: x8 :: x9 :: (p, .ins C dx fs) :: L) H) (hc : Cls K C) (hn : NoAttr K C f) (hl : fs.length < 1000) (e : putF f y fs = fs') (q : ∀ H1, Has (x0 :: x1 :: x2 :: x3 :: x4 :: x5 :: x6 :: x7 :: x8 :: x9 :: (p, .ins C dx fs') :: L) H1 → Tk H H1 → R H1) :
    ∃ a C dx fs, V.ref p = .ref a ∧ H a = some (.ins C dx fs) ∧ Cls K C ∧ NoAttr K C f ∧ fs.length < 1000 ∧ R (upd H a (.ins C dx (putF f y fs))) :=
  ⟨p, C, dx, fs, rfl, h.g10, hc, hn, hl, q _ (by rw [e]; exact h.u10) (Tk.mut h.g10 rfl)⟩
theorem Has.v10 (h : Has (x0 :: x1 :: x2 :: x3 :: x4 :: x5 :: x6 :: x7 :: x8 :: x9 :: (p, .ins C dx fs) :: L) H) (hl : fs.length < 1000) (e : putF f y fs = fs') (q : ∀ H1, Has (x0 :: x1 :: x2 :: x3 :: x4 :: x5 :: x6 :: x7 :: x8 :: x9 :: (p, .ins C dx fs') :: L) H1 → Tk H H1 → R H1) :
    ∃ dx fs, H p = some (.ins C dx fs) ∧ fs.length < 1000 ∧ R (upd H p (.ins C dx (putF f y fs))) :=
  ⟨dx, fs, h.g10, hl, q _ (by rw [e]; exact h.u10) (Tk.mut h.g10 rfl)⟩
/-- another thing there -/
theorem Has.s10 (h : Has (x0 :: x1 :: x2 :: x3 :: x4 :: x5 :: x6 :: x7 :: x8 :: x9 :: (a, o) :: L) H) (n : noTup o = true) (q : ∀ H1, Has (x0 :: x1 :: x2 :: x3 :: x4 :: x5 :: x6 :: x7 :: x8 :: x9 :: (a, u) :: L) H1 → Tk H H1 → R H1) : R (upd H a u) := q _ h.u10 (Tk.mut h.g10 n)
theorem Has.nw {SR : Addr → Hp → Prop} (h : Has L H) (q : ∀ p H1, H p = none → Has ((p, o) :: L) H1 → Tk H H1 → (∀ K xs, o = .tup xs → SqT K H1 p xs) → SR p H1) : ∀ p, H p = none → SR p (upd H p o) :=
  fun p n => q p _ n (h.new n) (Tk.new n) (fun K xs e => by rw [e]; exact sqt_new)
end
/-! ### small words -/
theorem ln_ex {α : Sort _} {p : α → Prop} {q : Prop} (h : ∀ x, p x → q) : (∃ x, p x) → q := fun ⟨x, hx⟩ => h x hx
theorem ln_and {n : Nat} {vs us : List V} {r : Prop} (h : us.length = n) : (vs = us ∧ r) → vs.length = n := fun ⟨e, _⟩ => by rw [e]; exact h
theorem if_t {c : Bool} {A B : Prop} (h : c = true) (a : A) : if c = true then A else B := by rw [if_pos h]; exact a
theorem if_f {c : Bool} {A B : Prop} (h : c = false) (b : B) : if c = true then A else B := by rw [h, if_neg Bool.false_ne_true]; exact b
theorem Tk.back {H H1 H2 : Hp} (g : Tk H1 H2) (h : Tk H H1) : Tk H H2 := h.trans g
theorem sq_tk {K : PySem.W.Frag} {H H' : Hp} {t : Addr} {xs : List V} (h : SqT K H t xs) (k : Tk H H') : SqT K H' t xs := k K t xs h
/-! ### comprehensions whose element and test change nothing -/
section
variable {K : PySem.W.Frag} {a D : Addr} {xs : List V} {tt : TT} {te : TE} {i : Nat} {σ : St} {H1 : Hp} {Qd : Hp → Prop}
theorem sql_upd {H : Hp} {o : HO} (h : SqL K H a xs) (n : H D = none) : SqL K (upd H D o) a xs := by
  rcases h with h | h
  · refine .inl ?_
    rcases h with h | ⟨ob, h⟩
    · exact .inl (by rw [upd_ne (ne_of_none h n)]; exact h)
    · exact .inr ⟨ob, by rw [upd_ne (ne_of_none h n)]; exact h⟩
  · exact .inr h
theorem wipe_set (σ : St) (i : Nat) (v : Option V) : wipe (List.set (wipe σ [i]) i v) [i] = wipe σ [i] := by
  show List.set (List.set (List.set σ i none) i v) i none = List.set σ i none
  rw [List.set_set, List.set_set]
theorem lc_fm (p : V → Bool) (f : V → V) (hD : H1 D = none) (hx : SqL K H1 a xs) (hl : xs.length < sizeLine)
    (ht : ∀ x acc (Q : Bool → Hp → Prop), x ∈ xs → Q (p x) (upd H1 D (.lst acc)) → tt (List.set (wipe σ [i]) i (some x)) (upd H1 D (.lst acc)) Q)
    (he : ∀ x acc (Q : VK), x ∈ xs → p x = true → Q (f x) (upd H1 D (.lst acc)) → te (List.set (wipe σ [i]) i (some x)) (upd H1 D (.lst acc)) Q) (hd : Qd (upd H1 D (.lst ((xs.filter p).map f)))) :
    ∃ W : Nat → Nat → Hp → Prop, (∃ m, W 0 m (upd H1 D (.lst []))) ∧ ∀ j m H, W j m H →
      ((Itl K a).stop j H ∧ Qd H) ∨ ((Itl K a).go j H ∧ ∃ Nx : Hp → Prop, (∀ H', Nx H' → ∃ m', m' < m ∧ W (j + 1) m' H') ∧ ∀ x H', (Itl K a).yld j H x H' → gName i x (wipe σ [i]) H' fun σ2 H2 => wipe σ2 [i] = wipe σ [i] ∧ tt σ2 H2 fun b H3 =>
        if b = true then te σ2 H3 fun y H4 => ∃ acc, H4 D = some (.lst acc) ∧ acc.length < sizeLine ∧ Nx (upd H4 D (.lst (acc ++ [y]))) else Nx H3) := by
  refine lc_list (K := K) (a := a) (xs := xs) (fun j H => H = upd H1 D (.lst (((xs.take j).filter p).map f))) (by rw [List.take_zero]; rfl) (fun j H _ e => by rw [e]; exact sql_upd hx hD) (fun j x H hj e => ?_) (fun H e => by rw [e, List.take_of_length_le (Nat.le_refl _)]; exact hd)
  subst e
  have hm : x ∈ xs := List.mem_of_getElem? hj
  have hlt : j < xs.length := (List.getElem?_eq_some_iff.mp hj).1
  have tk : xs.take (j + 1) = xs.take j ++ [x] := by rw [List.take_succ, hj]; rfl
  have len : (((xs.take j).filter p).map f).length < sizeLine := by
    rw [List.length_map]
    have h1 := List.length_filter_le p (xs.take j)
    have h2 : (xs.take j).length ≤ xs.length := by rw [List.length_take]; omega
    omega
  refine ⟨wipe_set σ i _, ht x _ _ hm ?_⟩
  cases e : p x with
  | true =>
    refine iteT (he x _ _ hm e ?_)
    refine ⟨_, upd_same, len, ?_⟩
    rw [upd_upd, tk, List.filter_append, List.map_append, List.filter_cons, e]
    rfl
  | false =>
    refine iteF ?_
    rw [tk, List.filter_append, List.filter_cons, e]
    show upd H1 D _ = upd H1 D (.lst ((List.filter p (xs.take j) ++ List.filter p []).map f))
    rw [List.filter_nil, List.append_nil]
end
section
variable {K : PySem.W.Frag} {D : Addr} {te : TE} {i : Nat} {σ : St} {H1 : Hp} {Qd : Hp → Prop}
theorem lc_rng {lo : Int} {n : Nat} (f : Nat → V) (hD : H1 D = none) (hl : n < sizeLine)
    (he : ∀ j acc (Q : VK), j < n → Q (f j) (upd H1 D (.lst acc)) → te (List.set (wipe σ [i]) i (some (.int (lo + j)))) (upd H1 D (.lst acc)) Q) (hd : Qd (upd H1 D (.lst ((List.range n).map f)))) :
    ∃ W : Nat → Nat → Hp → Prop, (∃ m, W 0 m (upd H1 D (.lst []))) ∧ ∀ j m H, W j m H →
      ((Itr lo n).stop j H ∧ Qd H) ∨ ((Itr lo n).go j H ∧ ∃ Nx : Hp → Prop, (∀ H', Nx H' → ∃ m', m' < m ∧ W (j + 1) m' H') ∧ ∀ x H', (Itr lo n).yld j H x H' → gName i x (wipe σ [i]) H' fun σ2 H2 => wipe σ2 [i] = wipe σ [i] ∧ tYes σ2 H2 fun b H3 =>
        if b = true then te σ2 H3 fun y H4 => ∃ acc, H4 D = some (.lst acc) ∧ acc.length < sizeLine ∧ Nx (upd H4 D (.lst (acc ++ [y]))) else Nx H3) := by
  refine lc_range (fun j H => H = upd H1 D (.lst ((List.range j).map f))) (by rw [List.range_zero]; rfl) (fun j H hj e => ?_) (fun H e => by rw [e]; exact hd)
  subst e
  refine ⟨wipe_set σ i _, ?_⟩
  unfold tYes
  dsimp only
  rw [if_pos rfl]
  refine he j _ _ hj ?_
  refine ⟨_, upd_same, by rw [List.length_map, List.length_range]; omega, ?_⟩
  rw [upd_upd, List.range_succ, List.map_append]
  rfl
end
theorem lk_hd {f : Str} {v : V} {r : List (Str × V)} : List.lookup f ((f, v) :: r) = some v := by simp [List.lookup]
theorem lk_tl {f g : Str} {v x : V} {r : List (Str × V)} (n : (f == g) = false) (h : List.lookup f r = some v) : List.lookup f ((g, x) :: r) = some v := by rw [List.lookup, n]; exact h
/-! ### rules that name the written part (for what stands within a comprehension) -/
section
variable {X : Cx} {K : PySem.W.Frag}
theorem pe_fldK (hK : X.K = K) {e : Expr} {f : Str} {pos : Pos} {ta : TE} (he : PE X e ta) (hb : attributeBase e f X.env (eval e X.env) = eval e X.env) : PE X (.Attribute e f pos) (tFld K ta f) := by rw [← hK]; exact pe_fld he hb
theorem op_eqDK (hK : X.K = K) (hu : X.A.units + 64 < cLine) : OpR X (compareOp .Eq) (rEqD K) := by rw [← hK]; exact op_eqD hu
theorem op_neDK (hK : X.K = K) (hu : X.A.units + 64 < cLine) : OpR X (compareOp .NotEq) (rNeD K) := by rw [← hK]; exact op_neD hu
theorem op_in_seqK (hK : X.K = K) : OpR X (compareOp .In) (rIn K false) := by rw [← hK]; exact op_in_seq
theorem op_notIn_seqK (hK : X.K = K) : OpR X (compareOp .NotIn) (rIn K true) := by rw [← hK]; exact op_notIn_seq
theorem op_catTK (hK : X.K = K) : OpR X (binaryOp .Add) (rCatT K) := by rw [← hK]; exact op_catT
theorem ix_listK (hK : X.K = K) : IxR X (rIxL K) := by rw [← hK]; exact ix_list
theorem ix_tupK (hK : X.K = K) : IxR X (rIxT K) := by rw [← hK]; exact ix_tup
theorem cr_maxK (hK : X.K = K) (hc : X.calm = true) : CallR X (.builtin "max") (rMax K) := by rw [← hK]; exact cr_max hc
theorem cr_minK (hK : X.K = K) (hc : X.calm = true) : CallR X (.builtin "min") (rMin K) := by rw [← hK]; exact cr_min hc
theorem call_len_seqK (hK : X.K = K) : CallR X (.builtin "len") (fun xs H Q => ∃ p ys, xs = [.ref p] ∧ (SqL K H p ys ∨ SqT K H p ys) ∧ Q (.int ys.length) H) := by rw [← hK]; exact call_len_seq
end
theorem ty_if {σ : St} {H : Hp} {F G : Hp → Prop} (h : F H) : tYes σ H fun b H3 => if b = true then F H3 else G H3 := by
  show if true = true then F H else G H
  rw [if_pos rfl]
  exact h
section
variable {K : PySem.W.Frag} {a D : Addr} {tt : TT} {te : TE} {i : Nat} {σ : St} {H1 : Hp} {Qd : Hp → Prop} {ns : List Int}
/-- the same over a list of numbers, to numbers -/
theorem lc_int (p : Int → Bool) (f : Int → Int) (hD : H1 D = none) (hx : SqL K H1 a (ns.map V.int)) (hl : ns.length < sizeLine)
    (ht : ∀ x acc (Q : Bool → Hp → Prop), x ∈ ns → Q (p x) (upd H1 D (.lst acc)) → tt (List.set (wipe σ [i]) i (some (.int x))) (upd H1 D (.lst acc)) Q)
    (he : ∀ x acc (Q : VK), x ∈ ns → p x = true → Q (.int (f x)) (upd H1 D (.lst acc)) → te (List.set (wipe σ [i]) i (some (.int x))) (upd H1 D (.lst acc)) Q) (hd : Qd (upd H1 D (.lst (((ns.filter p).map f).map V.int)))) :
    ∃ W : Nat → Nat → Hp → Prop, (∃ m, W 0 m (upd H1 D (.lst []))) ∧ ∀ j m H, W j m H →
      ((Itl K a).stop j H ∧ Qd H) ∨ ((Itl K a).go j H ∧ ∃ Nx : Hp → Prop, (∀ H', Nx H' → ∃ m', m' < m ∧ W (j + 1) m' H') ∧ ∀ x H', (Itl K a).yld j H x H' → gName i x (wipe σ [i]) H' fun σ2 H2 => wipe σ2 [i] = wipe σ [i] ∧ tt σ2 H2 fun b H3 =>
        if b = true then te σ2 H3 fun y H4 => ∃ acc, H4 D = some (.lst acc) ∧ acc.length < sizeLine ∧ Nx (upd H4 D (.lst (acc ++ [y]))) else Nx H3) := by
  let q : V → Bool := fun v => match v with | .int x => p x | _ => false
  let g : V → V := fun v => match v with | .int x => .int (f x) | v => v
  refine lc_fm (xs := ns.map V.int) q g hD hx (by rw [List.length_map]; exact hl) (fun x acc Q hx h => ?_) (fun x acc Q hx hp h => ?_) ?_
  · obtain ⟨z, hz, rfl⟩ := List.mem_map.mp hx
    exact ht z acc Q hz h
  · obtain ⟨z, hz, rfl⟩ := List.mem_map.mp hx
    exact he z acc Q hz hp h
  · have e : ((ns.map V.int).filter q).map g = ((ns.filter p).map f).map V.int := by
      clear hd he ht hx hl hD
      induction ns with
      | nil => rfl
      | cons x r ih =>
        rw [List.map_cons, List.filter_cons, List.filter_cons]
        show (if p x = true then V.int x :: List.filter q (List.map V.int r) else List.filter q (List.map V.int r)).map g = _
        by_cases h : p x = true
        · rw [if_pos h, if_pos h, List.map_cons, List.map_cons, List.map_cons, ih]
        · rw [if_neg h, if_neg h]; exact ih
    rw [e]
    exact hd
end
end Sw

/-! ## Dic -/
set_option Elab.async false
set_option linter.all false
set_option maxRecDepth 100000
set_option maxHeartbeats 4000000
/-! Slabwarren: a dict with tuple keys, its keys' tuples told by their addresses (they may stand in the written part). Own work. -/
namespace Sw
open PySem PySem.Spec PyProof.Rows L2
abbrev Ent := List Key × Addr × V
def lookE (xs : List Ent) (k : List Key) : Option V := (xs.find? fun x => decide (x.1 = k)).map (·.2.2)
def putX (k : List Key) (v : V) (x : Ent) : Ent := if x.1 = k then (x.1, x.2.1, v) else x
def putE (xs : List Ent) (k : List Key) (b : Addr) (v : V) : List Ent := if (lookE xs k).isSome then xs.map (putX k v) else xs ++ [(k, b, v)]
def RelX (x : Ent) (y : List Key × Addr × Value) : Prop := x.1 = y.1 ∧ x.2.1 = y.2.1 ∧ RelV x.2.2 y.2.2
theorem lookE_rel {xs : List Ent} {ys : List (List Key × Addr × Value)} (r : Paired RelX xs ys) (k : List Key) : RelO (lookE xs k) ((atKey ys k).map (·.2)) := by
  unfold lookE atKey
  induction r with
  | nil => exact True.intro
  | @cons p q ps qs h t ih =>
    obtain ⟨h1, h2, h3⟩ := h
    rw [List.find?_cons, List.find?_cons]
    by_cases e : p.1 = k
    · rw [decide_eq_true e, decide_eq_true (h1.symm.trans e)]
      exact h3
    · rw [decide_eq_false e, decide_eq_false (fun z => e (h1.trans z))]
      exact ih
theorem putE_rel {xs : List Ent} {ys : List (List Key × Addr × Value)} (r : Paired RelX xs ys) (k : List Key) {b : Addr} {v : V} {u : Value} (rv : RelV v u) : Paired RelX (putE xs k b v) (storedH ys k b u) := by
  have mp : Paired RelX (xs.map (putX k v)) (ys.map (putAt k u)) := by
    induction r with
    | nil => exact .nil
    | @cons p q ps qs h t ih =>
      refine .cons ?_ ih
      obtain ⟨h1, h2, h3⟩ := h
      unfold putX putAt
      by_cases e : p.1 = k
      · rw [if_pos e, if_pos (h1.symm.trans e)]; exact ⟨h1, h2, rv⟩
      · rw [if_neg e, if_neg (fun z => e (h1.trans z))]; exact ⟨h1, h2, h3⟩
  have hs : (lookE xs k).isSome = (atKey ys k).isSome := by
    rw [(lookE_rel r k).isSome_eq, Option.isSome_map]
  unfold putE storedH
  rw [hs]
  by_cases q : (atKey ys k).isSome = true
  · rw [if_pos q, if_pos q]; exact mp
  · rw [if_neg q, if_neg q]; exact Paired.snoc r ⟨rfl, rfl, rv⟩
section
variable (P : Program) (w : World)
def DExt (a : Addr) (xs : List Ent) (h : Heap) : Prop := xs.length ≤ sizeLine ∧ (a == sysModules) = false ∧ ∃ ys : List (List Key × Addr × Value), Paired RelX xs ys ∧
  ∃ o es ep, h.get? a = some o ∧ o.ExactDict ∧ o.data = .dict es ep ∧ es.toList = ys.map (entryOfKey (tupleKind (mixKind P w))) ∧ (ys.map (·.1)).Nodup
def dicO (a : Addr) (xs : List Ent) : HO := .ext (DExt P w a xs)
end
/-- every key's tuple stands -/
def KeysOk (K : PySem.W.Frag) (H : Hp) (xs : List Ent) : Prop := ∀ x ∈ xs, SqT K H x.2.1 (x.1.map kV)
theorem KeysOk.tk {K : PySem.W.Frag} {H H' : Hp} {xs : List Ent} (h : KeysOk K H xs) (t : Tk H H') : KeysOk K H' xs := fun x hx => t _ _ _ (h x hx)
theorem KeysOk.put {K : PySem.W.Frag} {H : Hp} {xs : List Ent} {k : List Key} {b : Addr} {v : V} (h : KeysOk K H xs) (hb : SqT K H b (k.map kV)) : KeysOk K H (putE xs k b v) := by
  unfold putE
  split
  · intro x hx
    obtain ⟨y, hy, e⟩ := List.mem_map.mp hx
    subst e
    unfold putX
    split
    · exact h y hy
    · exact h y hy
  · intro x hx
    rcases List.mem_append.mp hx with hx | hx
    · exact h x hx
    · rw [List.mem_singleton.mp hx]; exact hb
theorem putE_len (xs : List Ent) (k : List Key) (b : Addr) (v : V) : (putE xs k b v).length ≤ xs.length + 1 := by
  unfold putE
  split
  · rw [List.length_map]; omega
  · rw [List.length_append]; exact Nat.le_refl _
section
variable {P : Program} {w : World} {H H' : Hp} {h : Heap} {a : Addr} {xs : List Ent}
theorem dext_ok (l : xs.length ≤ sizeLine) (hd : (a == sysModules) = false) {ys : List (List Key × Addr × Value)} (r : Paired RelX xs ys) {o : Obj} {es : Array DictEntry} {ep : Nat} (h1 : h.get? a = some o) (h2 : o.ExactDict) (h3 : o.data = .dict es ep)
    (h4 : es.toList = ys.map (entryOfKey (tupleKind (mixKind P w)))) (h5 : (ys.map (·.1)).Nodup) : ObjOk P w H h a (dicO P w a xs) :=
  ⟨⟨l, hd, ys, r, o, es, ep, h1, h2, h3, h4, h5⟩, ⟨o, h1⟩, fun g1 g2 ⟨l', hd', ys', r', o', es', ep', k1, k2, k3, k4, k5⟩ hg => ⟨l', hd', ys', r', o', es', ep', hg o' k1, k2, k3, k4, k5⟩⟩
theorem dicO_mut : Mut (some (dicO P w a xs)) := True.intro
end
section
variable {X : Cx} {pins : List (Addr × Obj)} {σ : St} {H : Hp} {s : Shared} {a b : Addr} {k : List Key} {xs : List Ent} {A : Around} {E : Value → Shared → Prop}
theorem sq_key (I : Inv X pins σ H s) (e : SqT X.K H b (k.map kV)) : (tupleKind (mixKind X.prog X.w)).is s.heap k b := by
  obtain ⟨its, r, ⟨o, h1, h2, n, h3⟩, _⟩ := I.tuple e
  exact ⟨o, its.toArray, n, h1, h2, h3, by simpa using items_are r⟩
theorem dic_at (I : Inv X pins σ H s) (e : H a = some (dicO X.prog X.w a xs)) (ks : KeysOk X.K H xs) : xs.length ≤ sizeLine ∧ (a == sysModules) = false ∧
    ∃ ys : List (List Key × Addr × Value), Paired RelX xs ys ∧ s.heap.DictOfH (tupleKind (mixKind X.prog X.w)) a ys := by
  obtain ⟨⟨l, hd, ys, r, o, es, ep, h1, h2, h3, h4, h5⟩, _⟩ := (show ObjOk X.prog X.w H s.heap a (dicO X.prog X.w a xs) from I.hok a _ e)
  refine ⟨l, hd, ys, r, o, es, ep, h1, h2, h3, h4, ?_, h5⟩
  clear h1 h2 h3 h4 h5 l hd e
  rename_i hmut
  clear hmut
  induction r with
  | nil => intro x hx; exact nomatch hx
  | @cons p q ps qs hq t ih =>
    intro x hx
    rcases List.mem_cons.mp hx with ex | hx
    · subst ex
      obtain ⟨e1, e2, _⟩ := hq
      have := ks p (List.mem_cons_self ..)
      rw [e1, e2] at this
      exact sq_key I this
    · exact ih (fun z hz => ks z (List.mem_cons_of_mem _ hz)) x hx
theorem dic_ty (I : Inv X pins σ H s) (e : H a = some (dicO X.prog X.w a xs)) : s.TypeIs (.ref a) "dict" ∧ ∀ b, Value.ref a = .ref b → ∃ ob, s.heap.get? b = some ob ∧ ob.dict = none := by
  obtain ⟨⟨l, hd, ys, r, o, es, ep, h1, h2, h3, h4, h5⟩, _⟩ := (show ObjOk X.prog X.w H s.heap a (dicO X.prog X.w a xs) from I.hok a _ e)
  refine ⟨⟨o, h1, h2.1⟩, fun b q => ?_⟩
  cases q
  exact ⟨o, h1, h2.2.1⟩
/-- d.get(k, x) -/
theorem dic_get {d : V} {r : Value} {Q : Value → Shared → Prop} (hu : A.units + 1 < cLine) (I : Inv X pins σ H s) (e : H a = some (dicO X.prog X.w a xs)) (ks : KeysOk X.K H xs) (hb : SqT X.K H b (k.map kV)) (rd : RelV d r)
    (h : ∀ w' s', Inv X pins σ H s' → RelV ((lookE xs k).getD d) w' → Q w' s') : wpAny (model X.prog X.w) A (call (.builtin "dict.get") [.ref a, .ref b, r]) Q E s := by
  obtain ⟨l, hd, ys, rel, dd⟩ := dic_at I e ks
  refine call_meetsIn PySem.F.slot_dict_get (dic_ty I e).1 PySem.F.entry_dict_get (PySem.F.args_dict_get_3 _ _ _) (meetsH_dict_get_default (tupleKind (mixKind X.prog X.w)) a b hd r)
    ⟨tupleKind_room_in1 hu, k, ys, sq_key I hb, dd, h _ _ (I.tok _) ((lookE_rel rel k).getD rd)⟩
/-- d[k] = v -/
theorem dic_set {v : V} {u : Value} {Q : Unit → Shared → Prop} (hu : A.units + 1 < cLine) (I : Inv X pins σ H s) (e : H a = some (dicO X.prog X.w a xs)) (ks : KeysOk X.K H xs) (hb : SqT X.K H b (k.map kV)) (rv : RelV v u) (hl : xs.length < sizeLine)
    (h : ∀ s', Inv X pins σ (upd H a (dicO X.prog X.w a (putE xs k b v))) s' → Q () s') : wpAny (model X.prog X.w) A (setItem (.ref a) (.ref b) u) Q E s := by
  obtain ⟨l, hd, ys, rel, dd⟩ := dic_at I e ks
  have hz : ys.length ≤ sizeLine := by rw [← Paired.length rel]; exact l
  refine wpAny_setItem_heap (hsz := hz) (tupleKind_room_in1 hu) (sq_key I hb) dd fun h' dd' hs => h _ ?_
  obtain ⟨q, es, ep, hq, h2, h3, h4, _, h5⟩ := dd'
  have hl' := putE_len xs k b v
  exact d_write I (by rw [e]; exact True.intro) hs ⟨q, hq⟩ (dext_ok (by omega) hd (putE_rel rel k rv) hq h2 h3 h4 h5)
end
/-! ### the rules -/
def tMNew (P : Program) (w : World) : TE := fun _ H Q => ∀ p, H p = none → Q (.ref p) (upd H p (dicO P w p []))
def tMGet (P : Program) (w : World) (K : PySem.W.Frag) (td tk tx : TE) : TE := fun σ H Q => td σ H fun x H1 => ∃ a xs0, x = .ref a ∧ H1 a = some (dicO P w a xs0) ∧ tk σ H1 fun y H2 => tx σ H2 fun z H3 =>
  ∃ b k xs, y = .ref b ∧ H3 a = some (dicO P w a xs) ∧ KeysOk K H3 xs ∧ SqT K H3 b (k.map kV) ∧ Q ((lookE xs k).getD z) H3
def sMPut (P : Program) (w : World) (K : PySem.W.Frag) (td tk tv : TE) : TS := fun D σ H => tv σ H fun v H1 => td σ H1 fun x H2 => tk σ H2 fun y H3 =>
  ∃ a b k xs, x = .ref a ∧ y = .ref b ∧ H3 a = some (dicO P w a xs) ∧ KeysOk K H3 xs ∧ SqT K H3 b (k.map kV) ∧ xs.length < sizeLine ∧ D.nx σ (upd H3 a (dicO P w a (putE xs k b v)))
section
variable {X : Cx} {o i e f value : Expr} {pos pos' apos cpos : Pos} {td tk tx tv : TE}
theorem pe_mnew : PE X (.Dict [] [] pos) (tMNew X.prog X.w) := ⟨fun pins s σ H Q I h => by
  refine wpAny_Dict_empty ⟨.ref s.heap.objs.size, _, I.laid (a := s.heap.objs.size) (o := dicO X.prog X.w s.heap.objs.size []) (t' := s.toks) (fun _ _ q => Heap.get?_push_of_some _ q) (Nat.le_refl _) ?_, rfl, h _ (I.hok.fresh (Nat.le_refl _))⟩
  exact dext_ok (Nat.zero_le _) (beq_eq_false_iff_ne.mpr (Ne.symm (Nat.ne_of_lt I.big))) .nil (Heap.get?_push_size _ rfl) ⟨rfl, rfl, rfl⟩ rfl rfl List.nodup_nil⟩
theorem pe_mget (hu : X.A.units + 1 < cLine) (ho : PE X o td) (he : PE X e tk) (hf : PE X f tx) (m : M2 X o "get" apos e f cpos) : PE X (.Call (.Attribute o "get" apos) [e, f] [] cpos) (tMGet X.prog X.w X.K td tk tx) := by
  refine ⟨fun pins s σ H Q I h => ?_⟩
  refine wpAny_Call_method m.base m.few m.line PySem.F.plainAttrs_dict PySem.F.slot_dict_get PySem.F.type_dict_get (thn (ho.run pins s σ H _ I h) fun u s1 ⟨x, H1, I1, rx, a, xs0, ex, d, q1⟩ => ?_)
  subst ex
  obtain rfl := (show u = Value.ref a from rx)
  obtain ⟨t1, t2⟩ := dic_ty I1 d
  refine ⟨t1, t2, ?_⟩
  rw [m.trees]
  refine Calls.callWith_builtin rfl (Calls.evalArgs_plain (Calls.spliced_cons (thn (he.run pins s1 σ H1 _ I1 q1) fun iv s2 ⟨y, H2, I2, ry, q2⟩ =>
    Calls.spliced_cons (thn (hf.run pins s2 σ H2 _ I2 q2) fun fv s3 ⟨z, H3, I3, rz, b, k, xs, ey, ea, ks, kb, q3⟩ => Calls.spliced_nil ?_))))
  subst ey
  obtain rfl := (show iv = Value.ref b from ry)
  exact dic_get hu I3 ea ks kb rz fun w' s4 I4 rw' => ⟨_, H3, I4, rw', q3⟩
theorem ps_mput (hu : X.A.units + 1 < cLine) (ho : PE X o td) (hi : PE X i tk) (hv : PE X value tv) (hs : swapsWith value (some (.Subscript o i pos')) pos.line X.env = pure false) :
    PS X (.Assign [.Subscript o i pos'] value pos) (sMPut X.prog X.w X.K td tk tv) := by
  refine ⟨fun pins s σ H D I h => ?_⟩
  refine wpAny_Assign_Subscript (thn (hv.run pins s σ H _ I h) fun r s1 ⟨v, H1, I1, rv, q1⟩ => thn (ho.run pins s1 σ H1 _ I1 q1) fun u s2 ⟨x, H2, I2, rx, q2⟩ =>
    thn (hi.run pins s2 σ H2 _ I2 q2) fun iv s3 ⟨y, H3, I3, ry, a, b, k, xs, ex, ey, ea, ks, kb, hl, q3⟩ => ?_) hs
  subst ex ey
  obtain rfl := (show u = Value.ref a from rx)
  obtain rfl := (show iv = Value.ref b from ry)
  exact dic_set hu I3 ea ks kb rv hl fun s4 I4 => ⟨σ, _, I4, q3⟩
end
/-! ### what a look-up gives behind a store -/
theorem lookE_map_same (xs : List Ent) (k : List Key) (v : V) (h : (lookE xs k).isSome = true) : lookE (xs.map (putX k v)) k = some v := by
  induction xs with
  | nil => cases h
  | cons x r ih =>
    unfold lookE at h ⊢
    rw [List.map_cons, List.find?_cons]
    rw [List.find?_cons] at h
    by_cases e : x.1 = k
    · have e2 : (putX k v x).1 = k := by unfold putX; rw [if_pos e]; exact e
      rw [decide_eq_true e2]
      unfold putX
      rw [if_pos e]
      rfl
    · have e2 : ¬ (putX k v x).1 = k := by unfold putX; rw [if_neg e]; exact e
      rw [decide_eq_false e] at h
      rw [decide_eq_false e2]
      exact ih h
theorem lookE_map_other (xs : List Ent) (k k' : List Key) (v : V) (h : k' ≠ k) : lookE (xs.map (putX k v)) k' = lookE xs k' := by
  induction xs with
  | nil => rfl
  | cons x r ih =>
    unfold lookE
    rw [List.map_cons, List.find?_cons, List.find?_cons]
    by_cases e : x.1 = k
    · have e2 : (putX k v x).1 = k := by unfold putX; rw [if_pos e]; exact e
      rw [decide_eq_false (fun z => h (z.symm.trans e2)), decide_eq_false (fun z => h (z.symm.trans e))]
      exact ih
    · have e2 : putX k v x = x := by unfold putX; rw [if_neg e]
      rw [e2]
      by_cases q : x.1 = k'
      · rw [decide_eq_true q]
      · rw [decide_eq_false q]
        exact ih
theorem lookE_put (xs : List Ent) (k k' : List Key) (b : Addr) (v : V) : lookE (putE xs k b v) k' = if k' = k then some v else lookE xs k' := by
  unfold putE
  by_cases h : (lookE xs k).isSome = true
  · rw [if_pos h]
    by_cases e : k' = k
    · rw [if_pos e, e]; exact lookE_map_same xs k v h
    · rw [if_neg e]; exact lookE_map_other xs k k' v e
  · rw [if_neg h]
    have hn : xs.find? (fun x => decide (x.1 = k)) = none := by
      unfold lookE at h
      cases q : xs.find? (fun x => decide (x.1 = k)) with
      | none => rfl
      | some z => rw [q] at h; exact absurd rfl h
    unfold lookE
    rw [List.find?_append]
    by_cases e : k' = k
    · rw [if_pos e, e, hn]
      show Option.map _ (Option.or none (List.find? _ [(k, b, v)])) = _
      rw [List.find?_cons, decide_eq_true rfl]
      rfl
    · rw [if_neg e]
      have h1 : List.find? (fun x : Ent => decide (x.1 = k')) [(k, b, v)] = none := by
        rw [List.find?_cons, decide_eq_false (fun z => e (Eq.symm z))]
        rfl
      rw [h1, Option.or_none]
end Sw

/-! ## Data -/
set_option Elab.async false
set_option linter.all false
set_option maxRecDepth 100000
set_option maxHeartbeats 4000000
/-! Slabwarren: data that are compared. Own work. -/
namespace Sw
open PySem PySem.Spec PyProof.Rows L2
mutual
/-- None, numbers, texts, lists and tuples of such -/
def pln : PyData → Bool
  | .none => true
  | .int _ => true
  | .str x => PyData.canLay0 (.str x)
  | .list xs => plnAll xs
  | .tuple xs => plnAll xs
  | _ => false
def plnAll : List PyData → Bool
  | [] => true
  | x :: xs => pln x && plnAll xs
end
mutual
theorem pln_lay : ∀ d : PyData, pln d = true → d.canLay0 = true
  | .none, _ => by simp [PyData.canLay0]
  | .bool _, h => by simp [pln] at h
  | .int _, _ => by simp [PyData.canLay0]
  | .str x, h => by simpa [pln] using h
  | .list xs, h => by rw [pln] at h; rw [PyData.canLay0]; exact plnAll_lay xs h
  | .tuple xs, h => by rw [pln] at h; rw [PyData.canLay0]; exact plnAll_lay xs h
  | .dict _, h => by simp [pln] at h
theorem plnAll_lay : ∀ xs : List PyData, plnAll xs = true → PyData.canLayAll0 xs = true
  | [], _ => by simp [PyData.canLayAll0]
  | x :: xs, h => by
    rw [plnAll, Bool.and_eq_true] at h
    rw [PyData.canLayAll0, Bool.and_eq_true]
    exact ⟨pln_lay x h.1, plnAll_lay xs h.2⟩
end
mutual
theorem eqv_pln : ∀ d e : PyData, pln d = true → pln e = true → PyData.eqv d e = true → d = e
  | .none, e, _, he, h => by cases e <;> simp [PyData.eqv, pln] at h he ⊢
  | .int i, e, _, he, h => by cases e <;> simp [PyData.eqv, pln] at h he ⊢; exact h
  | .str x, e, _, he, h => by cases e <;> simp [PyData.eqv, pln] at h he ⊢; exact h
  | .list xs, e, hd, he, h => by
    cases e with
    | list ys =>
      rw [PyData.eqv] at h
      rw [pln] at hd he
      rw [eqvAll_pln xs ys hd he h]
    | _ => simp [PyData.eqv, pln] at h he
  | .tuple xs, e, hd, he, h => by
    cases e with
    | tuple ys =>
      rw [PyData.eqv] at h
      rw [pln] at hd he
      rw [eqvAll_pln xs ys hd he h]
    | _ => simp [PyData.eqv, pln] at h he
  | .bool _, _, hd, _, _ => by simp [pln] at hd
  | .dict _, _, hd, _, _ => by simp [pln] at hd
theorem eqvAll_pln : ∀ xs ys : List PyData, plnAll xs = true → plnAll ys = true → PyData.eqvAll xs ys = true → xs = ys
  | [], [], _, _, _ => rfl
  | [], y :: ys, _, _, h => by simp [PyData.eqvAll] at h
  | x :: xs, [], _, _, h => by simp [PyData.eqvAll] at h
  | x :: xs, y :: ys, hd, he, h => by
    rw [PyData.eqvAll, Bool.and_eq_true] at h
    rw [plnAll, Bool.and_eq_true] at hd he
    rw [eqv_pln x y hd.1 he.1 h.1, eqvAll_pln xs ys hd.2 he.2 h.2]
end
theorem eqv_same {d e : PyData} (hd : pln d = true) (he : pln e = true) (h : d = e) : PyData.eqv d e = true := by
  subst h
  exact SeqAt.eqv_refl d (pln_lay d hd)
theorem eqv_iff {d e : PyData} (hd : pln d = true) (he : pln e = true) : PyData.eqv d e = true ↔ d = e := ⟨eqv_pln d e hd he, eqv_same hd he⟩
theorem eqv_false {d e : PyData} (hd : pln d = true) (he : pln e = true) (h : d ≠ e) : PyData.eqv d e = false := by
  cases q : PyData.eqv d e with
  | false => rfl
  | true => exact absurd (eqv_pln d e hd he q) h
theorem shaped_of {d : PyData} (h : pln d = true) (l : d.depth ≤ 64) : SeqAt.shaped d = true := by
  unfold SeqAt.shaped
  rw [Bool.and_eq_true]
  exact ⟨pln_lay d h, decide_eq_true l⟩
/-! lists -/
theorem plnAll_iff : ∀ xs : List PyData, plnAll xs = true ↔ ∀ x ∈ xs, pln x = true
  | [] => by simp [plnAll]
  | x :: xs => by
    rw [plnAll, Bool.and_eq_true, plnAll_iff xs]
    simp
theorem depthAll_le {k : Nat} : ∀ xs : List PyData, (∀ x ∈ xs, x.depth ≤ k) → PyData.depthAll xs ≤ k
  | [], _ => by simp [PyData.depthAll]
  | x :: xs, h => by
    have h1 := h x (List.mem_cons_self ..)
    have h2 := depthAll_le xs fun y hy => h y (List.mem_cons_of_mem _ hy)
    simp only [PyData.depthAll]
    omega
/-- a list, a tuple of things of one kind -/
theorem pln_list {α : Type} (f : α → PyData) (xs : List α) (h : ∀ x ∈ xs, pln (f x) = true) : pln (.list (xs.map f)) = true := by
  rw [pln, plnAll_iff]
  intro y hy
  obtain ⟨x, hx, rfl⟩ := List.mem_map.mp hy
  exact h x hx
theorem dep_list {α : Type} {k : Nat} (f : α → PyData) (xs : List α) (h : ∀ x ∈ xs, (f x).depth ≤ k) : (PyData.list (xs.map f)).depth ≤ k + 1 := by
  have := depthAll_le (xs.map f) (k := k) fun y hy => by
    obtain ⟨x, hx, rfl⟩ := List.mem_map.mp hy
    exact h x hx
  simp only [PyData.depth]
  omega
def dIs (ns : List Int) : PyData := .list (ns.map .int)
theorem pln_is (ns : List Int) : pln (dIs ns) = true := pln_list _ ns fun x _ => by simp [pln]
theorem dep_is (ns : List Int) : (dIs ns).depth ≤ 1 := dep_list _ ns fun x _ => by simp [PyData.depth]
theorem shp_is (ns : List Int) : SeqAt.shaped (dIs ns) = true := shaped_of (pln_is ns) (by have := dep_is ns; omega)
theorem map_inj {α β : Type} {f : α → β} (hf : ∀ a b, f a = f b → a = b) : ∀ {xs ys : List α}, xs.map f = ys.map f → xs = ys
  | [], [], _ => rfl
  | [], _ :: _, h => by cases h
  | _ :: _, [], h => by cases h
  | x :: xs, y :: ys, h => by
    rw [List.map_cons, List.map_cons] at h
    injection h with h1 h2
    rw [hf _ _ h1, map_inj hf h2]
theorem is_inj {ns ms : List Int} (h : dIs ns = dIs ms) : ns = ms := by
  unfold dIs at h
  injection h with h
  exact map_inj (fun a b e => by injection e) h
theorem eqv_is (ns ms : List Int) : PyData.eqv (dIs ns) (dIs ms) = decide (ns = ms) := by
  by_cases h : ns = ms
  · rw [decide_eq_true h, eqv_same (pln_is _) (pln_is _) (by rw [h])]
  · rw [decide_eq_false h, eqv_false (pln_is _) (pln_is _) fun e => h (is_inj e)]
theorem dp_all {α : Type} {K : PySem.W.Frag} {H : Hp} {f : α → V} {g : α → PyData} : ∀ xs : List α, (∀ x ∈ xs, Dp K H (f x) (g x)) → DpAll K H (xs.map f) (xs.map g)
  | [], _ => .nil
  | x :: xs, h => .cons (h x (List.mem_cons_self ..)) (dp_all xs fun y hy => h y (List.mem_cons_of_mem _ hy))
theorem dp_is {K : PySem.W.Frag} {H : Hp} {a : Addr} {ns : List Int} (h : SqL K H a (ns.map V.int)) : Dp K H (.ref a) (dIs ns) := .lst h (dp_all ns fun x _ => .int x)
/-! a cell's value: a number, or a pair of numbers -/
inductive CV where
  | n (i : Int)
  | p (a b : Int)
  deriving DecidableEq
def cvD : CV → PyData
  | .n i => .int i
  | .p a b => .tuple [.int a, .int b]
def VRel (K : PySem.W.Frag) (H : Hp) (v : V) : CV → Prop
  | .n i => v = .int i
  | .p a b => ∃ t, v = .ref t ∧ SqT K H t [.int a, .int b]
theorem VRel.tk {K : PySem.W.Frag} {H H' : Hp} {v : V} {c : CV} (h : VRel K H v c) (t : Tk H H') : VRel K H' v c := by
  cases c with
  | n i => exact h
  | p a b => exact let ⟨x, e, q⟩ := h; ⟨x, e, t _ _ _ q⟩
theorem VRel.dp {K : PySem.W.Frag} {H : Hp} {v : V} {c : CV} (h : VRel K H v c) : Dp K H v (cvD c) := by
  cases c with
  | n i => cases (show v = .int i from h); exact .int i
  | p a b =>
    obtain ⟨x, e, q⟩ := h
    subst e
    exact .tup q (.cons (.int a) (.cons (.int b) .nil))
theorem pln_cv (c : CV) : pln (cvD c) = true := by cases c <;> simp [cvD, pln, plnAll]
theorem dep_cv (c : CV) : (cvD c).depth ≤ 1 := by cases c <;> simp [cvD, PyData.depth, PyData.depthAll]
theorem shp_cv (c : CV) : SeqAt.shaped (cvD c) = true := shaped_of (pln_cv c) (by have := dep_cv c; omega)
theorem cvD_inj {a b : CV} (h : cvD a = cvD b) : a = b := by
  cases a <;> cases b <;> simp [cvD] at h ⊢ <;> exact h
theorem eqv_cv (a b : CV) : PyData.eqv (cvD a) (cvD b) = decide (a = b) := by
  by_cases h : a = b
  · rw [decide_eq_true h, eqv_same (pln_cv _) (pln_cv _) (by rw [h])]
  · rw [decide_eq_false h, eqv_false (pln_cv _) (pln_cv _) fun e => h (cvD_inj e)]
end Sw

/-! ## Hook -/
set_option Elab.async false
set_option linter.all false
set_option maxRecDepth 100000
set_option maxHeartbeats 4000000
/-! Slabwarren: the head's facts read by one look (defs, classes, tuples of the top). Own work. -/
namespace Sw
open PySem PySem.Spec PyProof.Rows L2
abbrev AlM : Type := Bool × He.AlD
def obsM (fa : List He.Fa) (fn : List He.DefD) (tb : List (Str × List He.Dv)) (K : PySem.W.Frag) : AlM := (tb.all fun t => He.tupB K t.1 t.2, He.obsD fa fn K)
def obsMG (n : Nat) (fa : List He.Fa) (fn : List He.DefD) (tb : List (Str × List He.Dv)) (g : Addr → Option Obj) : AlM := obsM fa fn tb (He.frG g (He.asD g n))
def hookM (n : Nat) (fa : List He.Fa) (fn : List He.DefD) (tb : List (Str × List He.Dv)) : PySem.W.Hook where
  α := AlM
  obs := fun s => obsMG n fa fn tb s.heap.get?
  val := fun _ => (true, He.valD fn)
  says := fun _ h => ∃ K : PySem.W.Frag, K.In h ∧ obsM fa fn tb K = (true, He.valD fn)
  of := fun _ _ e => ⟨_, He.frG_in, e⟩
  keeps := fun _ _ _ ⟨K, hK, c⟩ k => ⟨K, PySem.W.Frag.In.keeps hK k, c⟩
theorem obsMG_eq {n : Nat} {fa : List He.Fa} {fn : List He.DefD} {tb : List (Str × List He.Dv)} {g : Addr → Option Obj} {s : Shared} (h : ∀ a, g a = s.heap.get? a) : obsMG n fa fn tb g = (hookM n fa fn tb).obs s := by
  have e : g = s.heap.get? := funext h
  rw [e]
  all_goals rfl
theorem Tx0.of {fa : List He.Fa} {fn : List He.DefD} {tb : List (Str × List He.Dv)} {K : PySem.W.Frag} {mg : Str → Option Value} {h : Heap} (X : K.In h) (G : h.Ns mainGlobals mg) (e : obsM fa fn tb K = (true, He.valD fn)) : Tx0 fa fn tb K mg :=
  ⟨congrArg (fun z : AlM => z.2) e, congrArg (fun z : AlM => z.1) e, h, X, G⟩
end Sw

/-! ## Tx -/
set_option Elab.async false
set_option linter.all false
set_option maxRecDepth 100000
set_option maxHeartbeats 4000000
/-! the text of the law, printed by gentx.py -/
namespace Sw
open PySem L2
def top (i : Nat) : Stmt := PySem.Challenge.pw_slabwarren_k01_memory_and_layout.main.body.getD i (.Pass ⟨0, 0, 0, 0⟩)
abbrev s_Memory_init : Stmt := inClass (top 1) 0
abbrev s_Memory_read : Stmt := inClass (top 1) 1
abbrev s_Memory_write : Stmt := inClass (top 1) 2
abbrev s_Memory_swap : Stmt := inClass (top 1) 3
abbrev s_Memory_peek : Stmt := inClass (top 1) 4
abbrev s_Memory_set_up : Stmt := inClass (top 1) 5
abbrev s_Layout_init : Stmt := inClass (top 3) 0
abbrev s_Layout_object_of : Stmt := inClass (top 3) 1
abbrev s_Layout_page_of : Stmt := inClass (top 3) 2
abbrev s_Layout_objects : Stmt := inClass (top 3) 3
abbrev s_law_state : Stmt := top 5
abbrev s_law_take : Stmt := top 6
abbrev s_law_bits : Stmt := top 7
abbrev s_law_access : Stmt := top 8
abbrev s_law : Stmt := top 9
abbrev n_Memory_init : List Str := ["self"]
theorem sc_Memory_init : FnScope n_Memory_init ["self"] (defScope s_Memory_init) := ⟨rfl, rfl, rfl, by decide +kernel, rfl, by decide +kernel, by decide +kernel⟩
abbrev n_Memory_read : List Str := ["self", "cell"]
theorem sc_Memory_read : FnScope n_Memory_read ["self", "cell"] (defScope s_Memory_read) := ⟨rfl, rfl, rfl, by decide +kernel, rfl, by decide +kernel, by decide +kernel⟩
abbrev n_Memory_write : List Str := ["self", "cell", "value"]
theorem sc_Memory_write : FnScope n_Memory_write ["self", "cell", "value"] (defScope s_Memory_write) := ⟨rfl, rfl, rfl, by decide +kernel, rfl, by decide +kernel, by decide +kernel⟩
abbrev n_Memory_swap : List Str := ["self", "cell", "old", "new"]
theorem sc_Memory_swap : FnScope n_Memory_swap ["self", "cell", "old", "new"] (defScope s_Memory_swap) := ⟨rfl, rfl, rfl, by decide +kernel, rfl, by decide +kernel, by decide +kernel⟩
abbrev n_Memory_peek : List Str := ["self", "cell"]
theorem sc_Memory_peek : FnScope n_Memory_peek ["self", "cell"] (defScope s_Memory_peek) := ⟨rfl, rfl, rfl, by decide +kernel, rfl, by decide +kernel, by decide +kernel⟩
abbrev n_Memory_set_up : List Str := ["self", "cell", "value"]
theorem sc_Memory_set_up : FnScope n_Memory_set_up ["self", "cell", "value"] (defScope s_Memory_set_up) := ⟨rfl, rfl, rfl, by decide +kernel, rfl, by decide +kernel, by decide +kernel⟩
abbrev n_Layout_init : List Str := ["self", "pages", "sizes"]
theorem sc_Layout_init : FnScope n_Layout_init ["self", "pages", "sizes"] (defScope s_Layout_init) := ⟨rfl, rfl, rfl, by decide +kernel, rfl, by decide +kernel, by decide +kernel⟩
abbrev n_Layout_object_of : List Str := ["self", "page", "index"]
theorem sc_Layout_object_of : FnScope n_Layout_object_of ["self", "page", "index"] (defScope s_Layout_object_of) := ⟨rfl, rfl, rfl, by decide +kernel, rfl, by decide +kernel, by decide +kernel⟩
abbrev n_Layout_page_of : List Str := ["self", "number"]
theorem sc_Layout_page_of : FnScope n_Layout_page_of ["self", "number"] (defScope s_Layout_page_of) := ⟨rfl, rfl, rfl, by decide +kernel, rfl, by decide +kernel, by decide +kernel⟩
abbrev n_Layout_objects : List Str := ["self", "page", "size", "index"]
theorem sc_Layout_objects : FnScope n_Layout_objects ["self", "page", "size"] (defScope s_Layout_objects) := ⟨rfl, rfl, rfl, by decide +kernel, rfl, by decide +kernel, by decide +kernel⟩
abbrev n_law_state : List Str := ["_law_script", "_law_cells", "_law_cell"]
theorem sc_law_state : FnScope n_law_state ["_law_script"] (defScope s_law_state) := ⟨rfl, rfl, rfl, by decide +kernel, rfl, by decide +kernel, by decide +kernel⟩
abbrev n_law_take : List Str := ["_law_state_here", "_law_most", "_law_cells", "_law_at", "_law_cell", "_law_mixed"]
theorem sc_law_take : FnScope n_law_take ["_law_state_here", "_law_most"] (defScope s_law_take) := ⟨rfl, rfl, rfl, by decide +kernel, rfl, by decide +kernel, by decide +kernel⟩
abbrev n_law_bits : List Str := ["_law_state_here", "_law_count", "_law_k"]
theorem sc_law_bits : FnScope n_law_bits ["_law_state_here", "_law_count"] (defScope s_law_bits) := ⟨rfl, rfl, rfl, by decide +kernel, rfl, by decide +kernel, by decide +kernel⟩
abbrev n_law_access : List Str := ["_law_state_here", "_law_memory", "_law_cells", "_law_kind", "_law_cell", "_law_value", "_law_old", "_law_due"]
theorem sc_law_access : FnScope n_law_access ["_law_state_here", "_law_memory", "_law_cells", "_law_kind", "_law_cell"] (defScope s_law_access) := ⟨rfl, rfl, rfl, by decide +kernel, rfl, by decide +kernel, by decide +kernel⟩
abbrev n_law : List Str := ["_law_script", "_law_state_here", "_law_memory", "_law_cells", "_law_count", "_law_turn", "_law_kind", "_law_cell", "_law_sizes", "_law_pages", "_law_layout", "_law_page", "_law_size", "_law_due", "_law_k", "_law_number"]
theorem sc_law : FnScope n_law ["_law_script"] (defScope s_law) := ⟨rfl, rfl, rfl, by decide +kernel, rfl, by decide +kernel, by decide +kernel⟩
def at_Memory_init : Str × Option Str := ("Memory", some "__init__")
def dd_Memory_init : He.DefD := ⟨at_Memory_init, "__init__", "Memory.__init__", defArgs s_Memory_init, defBody s_Memory_init, defScope s_Memory_init, [], []⟩
def at_Memory_read : Str × Option Str := ("Memory", some "read")
def dd_Memory_read : He.DefD := ⟨at_Memory_read, "read", "Memory.read", defArgs s_Memory_read, defBody s_Memory_read, defScope s_Memory_read, [], []⟩
def at_Memory_write : Str × Option Str := ("Memory", some "write")
def dd_Memory_write : He.DefD := ⟨at_Memory_write, "write", "Memory.write", defArgs s_Memory_write, defBody s_Memory_write, defScope s_Memory_write, [], []⟩
def at_Memory_swap : Str × Option Str := ("Memory", some "swap")
def dd_Memory_swap : He.DefD := ⟨at_Memory_swap, "swap", "Memory.swap", defArgs s_Memory_swap, defBody s_Memory_swap, defScope s_Memory_swap, [], []⟩
def at_Memory_peek : Str × Option Str := ("Memory", some "peek")
def dd_Memory_peek : He.DefD := ⟨at_Memory_peek, "peek", "Memory.peek", defArgs s_Memory_peek, defBody s_Memory_peek, defScope s_Memory_peek, [], []⟩
def at_Memory_set_up : Str × Option Str := ("Memory", some "set_up")
def dd_Memory_set_up : He.DefD := ⟨at_Memory_set_up, "set_up", "Memory.set_up", defArgs s_Memory_set_up, defBody s_Memory_set_up, defScope s_Memory_set_up, [], []⟩
def at_Layout_init : Str × Option Str := ("Layout", some "__init__")
def dd_Layout_init : He.DefD := ⟨at_Layout_init, "__init__", "Layout.__init__", defArgs s_Layout_init, defBody s_Layout_init, defScope s_Layout_init, [], []⟩
def at_Layout_object_of : Str × Option Str := ("Layout", some "object_of")
def dd_Layout_object_of : He.DefD := ⟨at_Layout_object_of, "object_of", "Layout.object_of", defArgs s_Layout_object_of, defBody s_Layout_object_of, defScope s_Layout_object_of, [], []⟩
def at_Layout_page_of : Str × Option Str := ("Layout", some "page_of")
def dd_Layout_page_of : He.DefD := ⟨at_Layout_page_of, "page_of", "Layout.page_of", defArgs s_Layout_page_of, defBody s_Layout_page_of, defScope s_Layout_page_of, [], []⟩
def at_Layout_objects : Str × Option Str := ("Layout", some "objects")
def dd_Layout_objects : He.DefD := ⟨at_Layout_objects, "objects", "Layout.objects", defArgs s_Layout_objects, defBody s_Layout_objects, defScope s_Layout_objects, [], []⟩
def at_law_state : Str × Option Str := ("_law_state", none)
def dd_law_state : He.DefD := ⟨at_law_state, "_law_state", "_law_state", defArgs s_law_state, defBody s_law_state, defScope s_law_state, [], []⟩
def at_law_take : Str × Option Str := ("_law_take", none)
def dd_law_take : He.DefD := ⟨at_law_take, "_law_take", "_law_take", defArgs s_law_take, defBody s_law_take, defScope s_law_take, [], []⟩
def at_law_bits : Str × Option Str := ("_law_bits", none)
def dd_law_bits : He.DefD := ⟨at_law_bits, "_law_bits", "_law_bits", defArgs s_law_bits, defBody s_law_bits, defScope s_law_bits, [], []⟩
def at_law_access : Str × Option Str := ("_law_access", none)
def dd_law_access : He.DefD := ⟨at_law_access, "_law_access", "_law_access", defArgs s_law_access, defBody s_law_access, defScope s_law_access, [], []⟩
def at_law : Str × Option Str := ("law", none)
def dd_law : He.DefD := ⟨at_law, "law", "law", defArgs s_law, defBody s_law, defScope s_law, [], []⟩
abbrev lv_Memory_init : Nat := 0
abbrev lv_Memory_read : Nat := 0
abbrev lv_Memory_write : Nat := 0
abbrev lv_Memory_swap : Nat := 0
abbrev lv_Memory_peek : Nat := 0
abbrev lv_Memory_set_up : Nat := 0
abbrev lv_Layout_init : Nat := 0
abbrev lv_Layout_object_of : Nat := 0
abbrev lv_Layout_page_of : Nat := 0
abbrev lv_Layout_objects : Nat := 1
abbrev lv_law_state : Nat := 0
abbrev lv_law_take : Nat := 0
abbrev lv_law_bits : Nat := 1
abbrev lv_law_access : Nat := 1
abbrev lv_law : Nat := 2
def fa : List He.Fa := [.glo "Memory", .cls "Memory", .noat "Memory" "cells", .noat "Memory" "accesses", .mkr "Memory", .meth "Memory" "read", .meth "Memory" "write", .meth "Memory" "swap", .meth "Memory" "peek", .meth "Memory" "set_up", .glo "Layout", .cls "Layout", .noat "Layout" "pages", .noat "Layout" "sizes", .noat "Layout" "most", .mkr "Layout", .meth "Layout" "object_of", .meth "Layout" "page_of", .meth "Layout" "objects", .glo "_law_state", .glo "_law_take", .glo "_law_bits", .glo "_law_access", .glo "law", .free "abs", .free "int", .free "len", .free "list", .free "max", .free "range", .free "repr"]
def fn : List He.DefD := [dd_Memory_init, dd_Memory_read, dd_Memory_write, dd_Memory_swap, dd_Memory_peek, dd_Memory_set_up, dd_Layout_init, dd_Layout_object_of, dd_Layout_page_of, dd_Layout_objects, dd_law_state, dd_law_take, dd_law_bits, dd_law_access, dd_law]
def tb : List (Str × List He.Dv) := []
@[irreducible] def f_Memory (a0 a1 : V) : List (Str × V) := [(("cells" : Str), a0), (("accesses" : Str), a1)]
theorem e_Memory (a0 a1 : V) : f_Memory a0 a1 = [(("cells" : Str), a0), (("accesses" : Str), a1)] := by unfold f_Memory; rfl
theorem l_Memory_cells {a0 a1 : V} : (f_Memory a0 a1).lookup ("cells" : Str) = some a0 := by rw [e_Memory]; kernel_rfl
theorem p_Memory_cells {a0 a1 v : V} : putF "cells" v (f_Memory a0 a1) = f_Memory v a1 := by rw [e_Memory, e_Memory]; kernel_rfl
theorem q_Memory_cells {a0 : V} : putF "cells" a0 ([] : List (Str × V)) = [(("cells" : Str), a0)] := by kernel_rfl
theorem l_Memory_accesses {a0 a1 : V} : (f_Memory a0 a1).lookup ("accesses" : Str) = some a1 := by rw [e_Memory]; kernel_rfl
theorem p_Memory_accesses {a0 a1 v : V} : putF "accesses" v (f_Memory a0 a1) = f_Memory a0 v := by rw [e_Memory, e_Memory]; kernel_rfl
theorem q_Memory_accesses {a0 a1 : V} : putF "accesses" a1 ([(("cells" : Str), a0)] : List (Str × V)) = f_Memory a0 a1 := by rw [e_Memory]; kernel_rfl
theorem n_Memory {a0 a1 : V} : (f_Memory a0 a1).length < 1000 := by rw [e_Memory]; show 2 < 1000; decide
theorem o_Memory_read {a0 a1 : V} : (f_Memory a0 a1).lookup ("read" : Str) = none := by rw [e_Memory]; kernel_rfl
theorem o_Memory_write {a0 a1 : V} : (f_Memory a0 a1).lookup ("write" : Str) = none := by rw [e_Memory]; kernel_rfl
theorem o_Memory_swap {a0 a1 : V} : (f_Memory a0 a1).lookup ("swap" : Str) = none := by rw [e_Memory]; kernel_rfl
theorem o_Memory_peek {a0 a1 : V} : (f_Memory a0 a1).lookup ("peek" : Str) = none := by rw [e_Memory]; kernel_rfl
theorem o_Memory_set_up {a0 a1 : V} : (f_Memory a0 a1).lookup ("set_up" : Str) = none := by rw [e_Memory]; kernel_rfl
@[irreducible] def f_Layout (a0 a1 a2 : V) : List (Str × V) := [(("pages" : Str), a0), (("sizes" : Str), a1), (("most" : Str), a2)]
theorem e_Layout (a0 a1 a2 : V) : f_Layout a0 a1 a2 = [(("pages" : Str), a0), (("sizes" : Str), a1), (("most" : Str), a2)] := by unfold f_Layout; rfl
theorem l_Layout_pages {a0 a1 a2 : V} : (f_Layout a0 a1 a2).lookup ("pages" : Str) = some a0 := by rw [e_Layout]; kernel_rfl
theorem p_Layout_pages {a0 a1 a2 v : V} : putF "pages" v (f_Layout a0 a1 a2) = f_Layout v a1 a2 := by rw [e_Layout, e_Layout]; kernel_rfl
theorem q_Layout_pages {a0 : V} : putF "pages" a0 ([] : List (Str × V)) = [(("pages" : Str), a0)] := by kernel_rfl
theorem l_Layout_sizes {a0 a1 a2 : V} : (f_Layout a0 a1 a2).lookup ("sizes" : Str) = some a1 := by rw [e_Layout]; kernel_rfl
theorem p_Layout_sizes {a0 a1 a2 v : V} : putF "sizes" v (f_Layout a0 a1 a2) = f_Layout a0 v a2 := by rw [e_Layout, e_Layout]; kernel_rfl
theorem q_Layout_sizes {a0 a1 : V} : putF "sizes" a1 ([(("pages" : Str), a0)] : List (Str × V)) = [(("pages" : Str), a0), (("sizes" : Str), a1)] := by kernel_rfl
theorem l_Layout_most {a0 a1 a2 : V} : (f_Layout a0 a1 a2).lookup ("most" : Str) = some a2 := by rw [e_Layout]; kernel_rfl
theorem p_Layout_most {a0 a1 a2 v : V} : putF "most" v (f_Layout a0 a1 a2) = f_Layout a0 a1 v := by rw [e_Layout, e_Layout]; kernel_rfl
theorem q_Layout_most {a0 a1 a2 : V} : putF "most" a2 ([(("pages" : Str), a0), (("sizes" : Str), a1)] : List (Str × V)) = f_Layout a0 a1 a2 := by rw [e_Layout]; kernel_rfl
theorem n_Layout {a0 a1 a2 : V} : (f_Layout a0 a1 a2).length < 1000 := by rw [e_Layout]; show 3 < 1000; decide
theorem o_Layout_object_of {a0 a1 a2 : V} : (f_Layout a0 a1 a2).lookup ("object_of" : Str) = none := by rw [e_Layout]; kernel_rfl
theorem o_Layout_page_of {a0 a1 a2 : V} : (f_Layout a0 a1 a2).lookup ("page_of" : Str) = none := by rw [e_Layout]; kernel_rfl
theorem o_Layout_objects {a0 a1 a2 : V} : (f_Layout a0 a1 a2).lookup ("objects" : Str) = none := by rw [e_Layout]; kernel_rfl
abbrev Tx (K : PySem.W.Frag) (mg : Str → Option Value) : Prop := Tx0 fa fn tb K mg
def loose : List Str := ["Memory", "Layout", "_law_state", "_law_take", "_law_bits", "_law_access"]
section
variable {K : PySem.W.Frag} {mg : Str → Option Value}
@[irreducible] def c_Memory (K : PySem.W.Frag) : Addr := He.ga K "Memory"
theorem x_Memory (K : PySem.W.Frag) : c_Memory K = He.ga K "Memory" := by unfold c_Memory; rfl
theorem g_Memory (T : Tx K mg) : mg "Memory" = some (.ref (c_Memory K)) := by rw [x_Memory]; exact T.glo 0 rfl
theorem k_Memory (T : Tx K mg) : Cls K (c_Memory K) := by rw [x_Memory]; exact T.cls 1 rfl
theorem na_Memory_cells (T : Tx K mg) : NoAttr K (c_Memory K) "cells" := by rw [x_Memory]; exact T.noat 2 rfl
theorem na_Memory_accesses (T : Tx K mg) : NoAttr K (c_Memory K) "accesses" := by rw [x_Memory]; exact T.noat 3 rfl
theorem mk_Memory (T : Tx K mg) : Mk K (c_Memory K) (He.fAd K at_Memory_init) := by rw [x_Memory]; exact T.mkr 4 rfl
theorem me_Memory_read (T : Tx K mg) : Meth K (c_Memory K) "read" (He.fAd K at_Memory_read) := by rw [x_Memory]; exact T.meth 5 rfl
theorem me_Memory_write (T : Tx K mg) : Meth K (c_Memory K) "write" (He.fAd K at_Memory_write) := by rw [x_Memory]; exact T.meth 6 rfl
theorem me_Memory_swap (T : Tx K mg) : Meth K (c_Memory K) "swap" (He.fAd K at_Memory_swap) := by rw [x_Memory]; exact T.meth 7 rfl
theorem me_Memory_peek (T : Tx K mg) : Meth K (c_Memory K) "peek" (He.fAd K at_Memory_peek) := by rw [x_Memory]; exact T.meth 8 rfl
theorem me_Memory_set_up (T : Tx K mg) : Meth K (c_Memory K) "set_up" (He.fAd K at_Memory_set_up) := by rw [x_Memory]; exact T.meth 9 rfl
@[irreducible] def c_Layout (K : PySem.W.Frag) : Addr := He.ga K "Layout"
theorem x_Layout (K : PySem.W.Frag) : c_Layout K = He.ga K "Layout" := by unfold c_Layout; rfl
theorem g_Layout (T : Tx K mg) : mg "Layout" = some (.ref (c_Layout K)) := by rw [x_Layout]; exact T.glo 10 rfl
theorem k_Layout (T : Tx K mg) : Cls K (c_Layout K) := by rw [x_Layout]; exact T.cls 11 rfl
theorem na_Layout_pages (T : Tx K mg) : NoAttr K (c_Layout K) "pages" := by rw [x_Layout]; exact T.noat 12 rfl
theorem na_Layout_sizes (T : Tx K mg) : NoAttr K (c_Layout K) "sizes" := by rw [x_Layout]; exact T.noat 13 rfl
theorem na_Layout_most (T : Tx K mg) : NoAttr K (c_Layout K) "most" := by rw [x_Layout]; exact T.noat 14 rfl
theorem mk_Layout (T : Tx K mg) : Mk K (c_Layout K) (He.fAd K at_Layout_init) := by rw [x_Layout]; exact T.mkr 15 rfl
theorem me_Layout_object_of (T : Tx K mg) : Meth K (c_Layout K) "object_of" (He.fAd K at_Layout_object_of) := by rw [x_Layout]; exact T.meth 16 rfl
theorem me_Layout_page_of (T : Tx K mg) : Meth K (c_Layout K) "page_of" (He.fAd K at_Layout_page_of) := by rw [x_Layout]; exact T.meth 17 rfl
theorem me_Layout_objects (T : Tx K mg) : Meth K (c_Layout K) "objects" (He.fAd K at_Layout_objects) := by rw [x_Layout]; exact T.meth 18 rfl
theorem fd_Memory_init (T : Tx K mg) : ∃ fd, FunD K "__init__" "Memory.__init__" (defArgs s_Memory_init) (defBody s_Memory_init) (defScope s_Memory_init) [] [] (He.fAd K at_Memory_init) fd ∧ Binds K fd ["self"] [] := by
  obtain ⟨fd, F⟩ := T.says.def_ 0 rfl
  exact ⟨fd, F, F.bindsN fun _ _ _ _ _ _ us hl => match us, hl with | [_], _ => rfl⟩
theorem fd_Memory_read (T : Tx K mg) : ∃ fd, FunD K "read" "Memory.read" (defArgs s_Memory_read) (defBody s_Memory_read) (defScope s_Memory_read) [] [] (He.fAd K at_Memory_read) fd ∧ Binds K fd ["self", "cell"] [] := by
  obtain ⟨fd, F⟩ := T.says.def_ 1 rfl
  exact ⟨fd, F, F.bindsN fun _ _ _ _ _ _ us hl => match us, hl with | [_, _], _ => rfl⟩
theorem fd_Memory_write (T : Tx K mg) : ∃ fd, FunD K "write" "Memory.write" (defArgs s_Memory_write) (defBody s_Memory_write) (defScope s_Memory_write) [] [] (He.fAd K at_Memory_write) fd ∧ Binds K fd ["self", "cell", "value"] [] := by
  obtain ⟨fd, F⟩ := T.says.def_ 2 rfl
  exact ⟨fd, F, F.bindsN fun _ _ _ _ _ _ us hl => match us, hl with | [_, _, _], _ => rfl⟩
theorem fd_Memory_swap (T : Tx K mg) : ∃ fd, FunD K "swap" "Memory.swap" (defArgs s_Memory_swap) (defBody s_Memory_swap) (defScope s_Memory_swap) [] [] (He.fAd K at_Memory_swap) fd ∧ Binds K fd ["self", "cell", "old", "new"] [] := by
  obtain ⟨fd, F⟩ := T.says.def_ 3 rfl
  exact ⟨fd, F, F.bindsN fun _ _ _ _ _ _ us hl => match us, hl with | [_, _, _, _], _ => rfl⟩
theorem fd_Memory_peek (T : Tx K mg) : ∃ fd, FunD K "peek" "Memory.peek" (defArgs s_Memory_peek) (defBody s_Memory_peek) (defScope s_Memory_peek) [] [] (He.fAd K at_Memory_peek) fd ∧ Binds K fd ["self", "cell"] [] := by
  obtain ⟨fd, F⟩ := T.says.def_ 4 rfl
  exact ⟨fd, F, F.bindsN fun _ _ _ _ _ _ us hl => match us, hl with | [_, _], _ => rfl⟩
theorem fd_Memory_set_up (T : Tx K mg) : ∃ fd, FunD K "set_up" "Memory.set_up" (defArgs s_Memory_set_up) (defBody s_Memory_set_up) (defScope s_Memory_set_up) [] [] (He.fAd K at_Memory_set_up) fd ∧ Binds K fd ["self", "cell", "value"] [] := by
  obtain ⟨fd, F⟩ := T.says.def_ 5 rfl
  exact ⟨fd, F, F.bindsN fun _ _ _ _ _ _ us hl => match us, hl with | [_, _, _], _ => rfl⟩
theorem fd_Layout_init (T : Tx K mg) : ∃ fd, FunD K "__init__" "Layout.__init__" (defArgs s_Layout_init) (defBody s_Layout_init) (defScope s_Layout_init) [] [] (He.fAd K at_Layout_init) fd ∧ Binds K fd ["self", "pages", "sizes"] [] := by
  obtain ⟨fd, F⟩ := T.says.def_ 6 rfl
  exact ⟨fd, F, F.bindsN fun _ _ _ _ _ _ us hl => match us, hl with | [_, _, _], _ => rfl⟩
theorem fd_Layout_object_of (T : Tx K mg) : ∃ fd, FunD K "object_of" "Layout.object_of" (defArgs s_Layout_object_of) (defBody s_Layout_object_of) (defScope s_Layout_object_of) [] [] (He.fAd K at_Layout_object_of) fd ∧ Binds K fd ["self", "page", "index"] [] := by
  obtain ⟨fd, F⟩ := T.says.def_ 7 rfl
  exact ⟨fd, F, F.bindsN fun _ _ _ _ _ _ us hl => match us, hl with | [_, _, _], _ => rfl⟩
theorem fd_Layout_page_of (T : Tx K mg) : ∃ fd, FunD K "page_of" "Layout.page_of" (defArgs s_Layout_page_of) (defBody s_Layout_page_of) (defScope s_Layout_page_of) [] [] (He.fAd K at_Layout_page_of) fd ∧ Binds K fd ["self", "number"] [] := by
  obtain ⟨fd, F⟩ := T.says.def_ 8 rfl
  exact ⟨fd, F, F.bindsN fun _ _ _ _ _ _ us hl => match us, hl with | [_, _], _ => rfl⟩
theorem fd_Layout_objects (T : Tx K mg) : ∃ fd, FunD K "objects" "Layout.objects" (defArgs s_Layout_objects) (defBody s_Layout_objects) (defScope s_Layout_objects) [] [] (He.fAd K at_Layout_objects) fd ∧ Binds K fd ["self", "page", "size"] [] := by
  obtain ⟨fd, F⟩ := T.says.def_ 9 rfl
  exact ⟨fd, F, F.bindsN fun _ _ _ _ _ _ us hl => match us, hl with | [_, _, _], _ => rfl⟩
theorem fd_law_state (T : Tx K mg) : ∃ fd, FunD K "_law_state" "_law_state" (defArgs s_law_state) (defBody s_law_state) (defScope s_law_state) [] [] (He.fAd K at_law_state) fd ∧ Binds K fd ["_law_script"] [] := by
  obtain ⟨fd, F⟩ := T.says.def_ 10 rfl
  exact ⟨fd, F, F.bindsN fun _ _ _ _ _ _ us hl => match us, hl with | [_], _ => rfl⟩
theorem g_law_state (T : Tx K mg) : mg "_law_state" = some (.ref (He.fAd K at_law_state)) := T.glo 19 rfl
theorem fd_law_take (T : Tx K mg) : ∃ fd, FunD K "_law_take" "_law_take" (defArgs s_law_take) (defBody s_law_take) (defScope s_law_take) [] [] (He.fAd K at_law_take) fd ∧ Binds K fd ["_law_state_here", "_law_most"] [] := by
  obtain ⟨fd, F⟩ := T.says.def_ 11 rfl
  exact ⟨fd, F, F.bindsN fun _ _ _ _ _ _ us hl => match us, hl with | [_, _], _ => rfl⟩
theorem g_law_take (T : Tx K mg) : mg "_law_take" = some (.ref (He.fAd K at_law_take)) := T.glo 20 rfl
theorem fd_law_bits (T : Tx K mg) : ∃ fd, FunD K "_law_bits" "_law_bits" (defArgs s_law_bits) (defBody s_law_bits) (defScope s_law_bits) [] [] (He.fAd K at_law_bits) fd ∧ Binds K fd ["_law_state_here", "_law_count"] [] := by
  obtain ⟨fd, F⟩ := T.says.def_ 12 rfl
  exact ⟨fd, F, F.bindsN fun _ _ _ _ _ _ us hl => match us, hl with | [_, _], _ => rfl⟩
theorem g_law_bits (T : Tx K mg) : mg "_law_bits" = some (.ref (He.fAd K at_law_bits)) := T.glo 21 rfl
theorem fd_law_access (T : Tx K mg) : ∃ fd, FunD K "_law_access" "_law_access" (defArgs s_law_access) (defBody s_law_access) (defScope s_law_access) [] [] (He.fAd K at_law_access) fd ∧ Binds K fd ["_law_state_here", "_law_memory", "_law_cells", "_law_kind", "_law_cell"] [] := by
  obtain ⟨fd, F⟩ := T.says.def_ 13 rfl
  exact ⟨fd, F, F.bindsN fun _ _ _ _ _ _ us hl => match us, hl with | [_, _, _, _, _], _ => rfl⟩
theorem g_law_access (T : Tx K mg) : mg "_law_access" = some (.ref (He.fAd K at_law_access)) := T.glo 22 rfl
theorem fd_law (T : Tx K mg) : ∃ fd, FunD K "law" "law" (defArgs s_law) (defBody s_law) (defScope s_law) [] [] (He.fAd K at_law) fd ∧ Binds K fd ["_law_script"] [] := by
  obtain ⟨fd, F⟩ := T.says.def_ 14 rfl
  exact ⟨fd, F, F.bindsN fun _ _ _ _ _ _ us hl => match us, hl with | [_], _ => rfl⟩
theorem g_law (T : Tx K mg) : mg "law" = some (.ref (He.fAd K at_law)) := T.glo 23 rfl
theorem b_abs (T : Tx K mg) : mg "abs" = none := T.free 24 rfl
theorem b_int (T : Tx K mg) : mg "int" = none := T.free 25 rfl
theorem b_len (T : Tx K mg) : mg "len" = none := T.free 26 rfl
theorem b_list (T : Tx K mg) : mg "list" = none := T.free 27 rfl
theorem b_max (T : Tx K mg) : mg "max" = none := T.free 28 rfl
theorem b_range (T : Tx K mg) : mg "range" = none := T.free 29 rfl
theorem b_repr (T : Tx K mg) : mg "repr" = none := T.free 30 rfl
end
end Sw

/-! ## Mem -/
set_option Elab.async false
set_option linter.all false
set_option maxRecDepth 100000
set_option maxHeartbeats 4000000
namespace Sw
open PySem PySem.Spec PyProof.Rows L2
/-! a class, a name that is no attribute of a class, a field's value, a field's store -/
local macro_rules | `(tactic| walk_at "cls") => `(tactic| first | exact k_Memory (by assumption) | exact k_Layout (by assumption))
local macro_rules | `(tactic| walk_at "na") => `(tactic| first | exact na_Memory_cells (by assumption) | exact na_Memory_accesses (by assumption) | exact na_Layout_pages (by assumption) | exact na_Layout_sizes (by assumption) | exact na_Layout_most (by assumption))
local macro_rules | `(tactic| walk_at "lk") => `(tactic| first | exact l_Memory_cells | exact l_Memory_accesses | exact l_Layout_pages | exact l_Layout_sizes | exact l_Layout_most | exact lk_hd | exact lk_tl (by decide +kernel) (by walk_at "lk"))
local macro_rules | `(tactic| walk_at "put") => `(tactic| first | exact p_Memory_cells | exact p_Memory_accesses | exact p_Layout_pages | exact p_Layout_sizes | exact p_Layout_most | exact q_Memory_cells | exact q_Memory_accesses | exact q_Layout_pages | exact q_Layout_sizes | exact q_Layout_most)
local macro_rules | `(tactic| walk_at "len") => `(tactic| first | exact n_Memory | exact n_Layout | exact Nat.le_of_ble_eq_true rfl)
local macro_rules | `(tactic| walk_at "none") => `(tactic| first | exact o_Memory_read | exact o_Memory_write | exact o_Memory_swap | exact o_Memory_peek | exact o_Memory_set_up | exact o_Layout_object_of | exact o_Layout_page_of | exact o_Layout_objects)
local macro_rules | `(tactic| walk_at "at") => `(tactic| first | exact Has.g0 (by assumption) | exact Has.g1 (by assumption) | exact Has.g2 (by assumption) | exact Has.g3 (by assumption) | exact Has.g4 (by assumption) | exact Has.g5 (by assumption) | exact Has.g6 (by assumption) | exact Has.g7 (by assumption) | exact Has.g8 (by assumption) | exact Has.g9 (by assumption) | exact Has.g10 (by assumption))
local macro_rules | `(tactic| walk_at "v") => `(tactic| refine ⟨_, rfl, ?_⟩)
local macro_rules | `(tactic| walk_at "fr") => `(tactic| (refine ⟨_, _, _, _, _, rfl, (by walk_at "at"), (by walk_at "cls"), (by walk_at "na"), (by walk_at "lk"), ?_⟩))
local macro_rules | `(tactic| walk_at "fw") => `(tactic| first | refine Has.w0 (by assumption) (by walk_at "cls") (by walk_at "na") (by walk_at "len") (by walk_at "put") ?_ | refine Has.w1 (by assumption) (by walk_at "cls") (by walk_at "na") (by walk_at "len") (by walk_at "put") ?_ | refine Has.w2 (by assumption) (by walk_at "cls") (by walk_at "na") (by walk_at "len") (by walk_at "put") ?_ | refine Has.w3 (by assumption) (by walk_at "cls") (by walk_at "na") (by walk_at "len") (by walk_at "put") ?_ | refine Has.w4 (by assumption) (by walk_at "cls") (by walk_at "na") (by walk_at "len") (by walk_at "put") ?_ | refine Has.w5 (by assumption) (by walk_at "cls") (by walk_at "na") (by walk_at "len") (by walk_at "put") ?_ | refine Has.w6 (by assumption) (by walk_at "cls") (by walk_at "na") (by walk_at "len") (by walk_at "put") ?_ | refine Has.w7 (by assumption) (by walk_at "cls") (by walk_at "na") (by walk_at "len") (by walk_at "put") ?_ | refine Has.w8 (by assumption) (by walk_at "cls") (by walk_at "na") (by walk_at "len") (by walk_at "put") ?_ | refine Has.w9 (by assumption) (by walk_at "cls") (by walk_at "na") (by walk_at "len") (by walk_at "put") ?_ | refine Has.w10 (by assumption) (by walk_at "cls") (by walk_at "na") (by walk_at "len") (by walk_at "put") ?_)
local macro_rules | `(tactic| walk_at "fa") => `(tactic| first | refine Has.v0 (by assumption) (by walk_at "len") (by walk_at "put") ?_ | refine Has.v1 (by assumption) (by walk_at "len") (by walk_at "put") ?_ | refine Has.v2 (by assumption) (by walk_at "len") (by walk_at "put") ?_ | refine Has.v3 (by assumption) (by walk_at "len") (by walk_at "put") ?_ | refine Has.v4 (by assumption) (by walk_at "len") (by walk_at "put") ?_ | refine Has.v5 (by assumption) (by walk_at "len") (by walk_at "put") ?_ | refine Has.v6 (by assumption) (by walk_at "len") (by walk_at "put") ?_ | refine Has.v7 (by assumption) (by walk_at "len") (by walk_at "put") ?_ | refine Has.v8 (by assumption) (by walk_at "len") (by walk_at "put") ?_ | refine Has.v9 (by assumption) (by walk_at "len") (by walk_at "put") ?_ | refine Has.v10 (by assumption) (by walk_at "len") (by walk_at "put") ?_)
local macro_rules | `(tactic| walk_at "ds") => `(tactic| dsimp only [cxOf, Cx.nox, Cx.wish])
local macro_rules | `(tactic| walk_at "ln") => `(tactic| (intro vs H Q E; (repeat (refine ln_ex fun _ => ?_)); exact ln_and rfl))
local macro_rules | `(tactic| walk_at "i2") => `(tactic| refine ⟨_, _, rfl, rfl, ?_⟩)
local macro_rules | `(tactic| walk_at "me") => `(tactic| refine ⟨_, _, _, rfl, (by walk_at "at"), (by walk_at "none"), ?_⟩)
local macro_rules | `(tactic| walk_at "ph") => `(tactic| first | refine if_t (by decide +kernel) ?_ | refine if_f (by decide +kernel) ?_)
local macro_rules | `(tactic| walk_at "tk") => `(tactic| first | assumption | exact Tk.refl | exact Tk.back (by assumption) (by walk_at "tk") | exact Tk.trans (by assumption) (by walk_at "tk"))
local macro_rules | `(tactic| walk_at "sq") => `(tactic| first | assumption | exact sq_tk (by assumption) (by walk_at "tk"))
local macro_rules | `(tactic| walk_at "ko") => `(tactic| first | assumption | exact KeysOk.tk (by assumption) (by walk_at "tk"))
local macro_rules | `(tactic| walk_at "go1") => `(tactic| first | walk_at "v" | walk_at "fr" | (walk_at "fw"; intro _ _ _) | (walk_at "fa"; intro _ _ _) | walk_at "i2" | refine ⟨rfl, ?_⟩ | walk_at "me" | walk_at "ph")
local macro_rules | `(tactic| walk_at "go") => `(tactic| repeat walk_at "go1")
local macro_rules | `(tactic| walk_at "pm") => `(tactic| first | exact List.Perm.refl _ | (apply List.Perm.cons; walk_at "pm") | (apply List.Perm.trans perm1; apply List.Perm.cons; walk_at "pm") | (apply List.Perm.trans perm2; apply List.Perm.cons; walk_at "pm") | (apply List.Perm.trans perm3; apply List.Perm.cons; walk_at "pm") | (apply List.Perm.trans perm4; apply List.Perm.cons; walk_at "pm") | (apply List.Perm.trans perm5; apply List.Perm.cons; walk_at "pm") | (apply List.Perm.trans perm6; apply List.Perm.cons; walk_at "pm") | (apply List.Perm.trans perm7; apply List.Perm.cons; walk_at "pm") | (apply List.Perm.trans perm8; apply List.Perm.cons; walk_at "pm") | (apply List.Perm.trans perm9; apply List.Perm.cons; walk_at "pm") | (apply List.Perm.trans perm10; apply List.Perm.cons; walk_at "pm"))
local macro_rules | `(tactic| walk_at "hp") => `(tactic| exact Has.perm (by assumption) (by walk_at "pm"))
local macro_rules | `(tactic| walk_at "tk1") => `(tactic| (refine ⟨_, _, _, rfl, (by decide), (by decide), ⟨_, _, _, (by assumption), (by walk_at "hp")⟩, ?_⟩; rintro _ _ _ _ ⟨_, _, _, _, _⟩ _))
local macro_rules | `(tactic| walk_at "nil") => `(tactic| dsimp only [tNil])
/-! ### Memory -/
section
variable {P : Program} {w : World} {K : PySem.W.Frag} {mg : Str → Option Value} {base : Heap}
abbrev memO (K : PySem.W.Frag) (dm d : Addr) (n : Int) : HO := .ins (c_Memory K) dm (f_Memory (.ref d) (.int n))
/-- what a value of a cell is, as data -/
def spMemInit (P : Program) (w : World) (K : PySem.W.Frag) : Sp := fun vs H Q _ => ∃ (m dm : Addr) (R : List (Addr × HO)), vs = [.ref m] ∧ Has ((m, .ins (c_Memory K) dm []) :: R) H ∧
  ∀ (d : Addr) (H' : Hp), Has ((m, memO K dm d 0) :: (d, dicO P w d []) :: R) H' → Tk H H' → Q .non H'
def spRead (P : Program) (w : World) (K : PySem.W.Frag) (k : Int) : Sp := fun vs H Q _ => ∃ (m dm d c : Addr) (n : Int) (xs : List Ent) (ks : List Key) (R : List (Addr × HO)), vs = [.ref m, .ref c] ∧
  Has ((m, memO K dm d n) :: (d, dicO P w d xs) :: R) H ∧ KeysOk K H xs ∧ SqT K H c (ks.map kV) ∧
  ∀ H', Has ((m, memO K dm d (n + k)) :: (d, dicO P w d xs) :: R) H' → Tk H H' → Q ((lookE xs ks).getD (.int 0)) H'
def spWrite (P : Program) (w : World) (K : PySem.W.Frag) (k : Int) : Sp := fun vs H Q _ => ∃ (m dm d c : Addr) (v : V) (n : Int) (xs : List Ent) (ks : List Key) (R : List (Addr × HO)), vs = [.ref m, .ref c, v] ∧
  Has ((m, memO K dm d n) :: (d, dicO P w d xs) :: R) H ∧ KeysOk K H xs ∧ SqT K H c (ks.map kV) ∧ xs.length < sizeLine ∧
  ∀ H', Has ((m, memO K dm d (n + k)) :: (d, dicO P w d (putE xs ks c v)) :: R) H' → Tk H H' → Q .non H'
def spSwap (P : Program) (w : World) (K : PySem.W.Frag) : Sp := fun vs H Q _ => ∃ (m dm d c : Addr) (o v : V) (n : Int) (xs : List Ent) (ks : List Key) (R : List (Addr × HO)) (d1 d2 : PyData), vs = [.ref m, .ref c, o, v] ∧
  Has ((m, memO K dm d n) :: (d, dicO P w d xs) :: R) H ∧ KeysOk K H xs ∧ SqT K H c (ks.map kV) ∧ xs.length < sizeLine ∧
  (∀ H', Tk H H' → Dp K H' ((lookE xs ks).getD (.int 0)) d1 ∧ Dp K H' o d2) ∧ SeqAt.shaped d1 = true ∧ SeqAt.shaped d2 = true ∧
  ∀ H', Has ((m, memO K dm d (n + 1)) :: (d, dicO P w d (if PyData.eqv d1 d2 then putE xs ks c v else xs)) :: R) H' → Tk H H' → Q (.bl (PyData.eqv d1 d2)) H'
theorem ok_Memory_init (T : Tx K mg) : FnG P w K mg base (lv_Memory_init + 1) at_Memory_init ["self"] (spMemInit P w K) := by
  refine FnG.of (fd_Memory_init T) sc_Memory_init (by walk_at "ln") (fun cdv A outer s H vs Q E hr h => ?_)
  · obtain ⟨m, dm, R, rfl, h0, q⟩ := h
    have hu := hu_of hr
    refine ⟨_, (pss_cons (ps_fld (pv 0) pe_mnew rfl) (pss_one (ps_fld (pv 0) pe_int rfl))), ?_⟩
    walk_at "ds"
    intro d nd
    have h1 := (h0.new (o := dicO P w d []) nd).f1
    have t1 := Tk.new (o := dicO P w d []) nd
    walk_at "go"
    exact q d _ (by assumption) (by walk_at "tk")
theorem ok_Memory_read (T : Tx K mg) : FnG P w K mg base (lv_Memory_read + 1) at_Memory_read ["self", "cell"] (spRead P w K 1) := by
  refine FnG.of (fd_Memory_read T) sc_Memory_read (by walk_at "ln") (fun cdv A outer s H vs Q E hr h => ?_)
  · obtain ⟨m, dm, d, c, n, xs, ks, R, rfl, h0, hk, hc, q⟩ := h
    have hu := hu_of hr
    refine ⟨_, (pss_cons (ps_fldaug (pv 0) pe_int in_add) (pss_one (ps_ret (pe_mget hu (pe_fld (pv 0) rfl) (pv 1) pe_int ⟨rfl, rfl, rfl, rfl⟩)))), ?_⟩
    walk_at "ds"
    walk_at "go"
    refine ⟨_, _, rfl, (by walk_at "at"), _, rfl, _, _, _, rfl, (by walk_at "at"), (by walk_at "ko"), (by walk_at "sq"), ?_⟩
    exact q _ (by assumption) (by walk_at "tk")
theorem ok_Memory_peek (T : Tx K mg) : FnG P w K mg base (lv_Memory_peek + 1) at_Memory_peek ["self", "cell"] (spRead P w K 0) := by
  refine FnG.of (fd_Memory_peek T) sc_Memory_peek (by walk_at "ln") (fun cdv A outer s H vs Q E hr h => ?_)
  · obtain ⟨m, dm, d, c, n, xs, ks, R, rfl, h0, hk, hc, q⟩ := h
    have hu := hu_of hr
    refine ⟨_, (pss_one (ps_ret (pe_mget hu (pe_fld (pv 0) rfl) (pv 1) pe_int ⟨rfl, rfl, rfl, rfl⟩))), ?_⟩
    walk_at "ds"
    walk_at "go"
    refine ⟨_, _, rfl, (by walk_at "at"), _, rfl, _, _, _, rfl, (by walk_at "at"), (by walk_at "ko"), (by walk_at "sq"), ?_⟩
    exact q _ (by rw [Int.add_zero]; assumption) (by walk_at "tk")
theorem ok_Memory_write (T : Tx K mg) : FnG P w K mg base (lv_Memory_write + 1) at_Memory_write ["self", "cell", "value"] (spWrite P w K 1) := by
  refine FnG.of (fd_Memory_write T) sc_Memory_write (by walk_at "ln") (fun cdv A outer s H vs Q E hr h => ?_)
  · obtain ⟨m, dm, d, c, v, n, xs, ks, R, rfl, h0, hk, hc, hl, q⟩ := h
    have hu := hu_of hr
    refine ⟨_, (pss_cons (ps_fldaug (pv 0) pe_int in_add) (pss_one (ps_mput hu (pe_fld (pv 0) rfl) (pv 1) (pv 2) rfl))), ?_⟩
    walk_at "ds"
    walk_at "go"
    rename_i H1 h1 t1
    refine ⟨_, _, _, _, rfl, rfl, h1.g1, (by walk_at "ko"), (by walk_at "sq"), hl, ?_⟩
    exact q _ h1.u1 (t1.trans (Tk.mut h1.g1 rfl))
theorem ok_Memory_set_up (T : Tx K mg) : FnG P w K mg base (lv_Memory_set_up + 1) at_Memory_set_up ["self", "cell", "value"] (spWrite P w K 0) := by
  refine FnG.of (fd_Memory_set_up T) sc_Memory_set_up (by walk_at "ln") (fun cdv A outer s H vs Q E hr h => ?_)
  · obtain ⟨m, dm, d, c, v, n, xs, ks, R, rfl, h0, hk, hc, hl, q⟩ := h
    have hu := hu_of hr
    refine ⟨_, (pss_one (ps_mput hu (pe_fld (pv 0) rfl) (pv 1) (pv 2) rfl)), ?_⟩
    walk_at "ds"
    walk_at "go"
    refine ⟨_, _, _, _, rfl, rfl, h0.g1, (by walk_at "ko"), (by walk_at "sq"), hl, ?_⟩
    exact q _ (by rw [Int.add_zero]; exact h0.u1) (Tk.mut h0.g1 rfl)
theorem ok_Memory_swap (T : Tx K mg) : FnG P w K mg base (lv_Memory_swap + 1) at_Memory_swap ["self", "cell", "old", "new"] (spSwap P w K) := by
  refine FnG.of (fd_Memory_swap T) sc_Memory_swap (by walk_at "ln") (fun cdv A outer s H vs Q E hr h => ?_)
  · obtain ⟨m, dm, d, c, o, v, n, xs, ks, R, d1, d2, rfl, h0, hk, hc, hl, hd, s1, s2, q⟩ := h
    have hu := hu_of hr
    refine ⟨_, (pss_cons (ps_fldaug (pv 0) pe_int in_add) (pss_cons (ps_if (pt_cmpR (op_neD hr.units) (pe_mget hu (pe_fld (pv 0) rfl) (pv 1) pe_int ⟨rfl, rfl, rfl, rfl⟩) (pv 2) (nomark _)) (pss_one (ps_ret pe_bl)) pss_nil) (pss_cons (ps_mput hu (pe_fld (pv 0) rfl) (pv 1) (pv 3) rfl) (pss_one (ps_ret pe_bl))))), ?_⟩
    walk_at "ds"
    walk_at "go"
    rename_i H1 h1 t1
    refine ⟨_, _, rfl, (by walk_at "at"), _, rfl, _, _, _, rfl, (by walk_at "at"), (by walk_at "ko"), (by walk_at "sq"), ?_⟩
    refine ⟨_, rfl, d1, d2, (hd _ t1).1, (hd _ t1).2, s1, s2, _, rfl, ?_⟩
    cases e : PyData.eqv d1 d2 with
    | false =>
      refine if_t rfl ?_
      rw [e] at q
      exact q _ h1 t1
    | true =>
      refine if_f rfl ?_
      rw [e] at q
      walk_at "go"
      refine ⟨_, _, _, _, rfl, rfl, h1.g1, (by walk_at "ko"), (by walk_at "sq"), hl, ?_⟩
      exact q _ h1.u1 (t1.trans (Tk.mut h1.g1 rfl))
end

/-! ## Law -/
set_option Elab.async false
set_option linter.all false
set_option maxRecDepth 100000
set_option maxHeartbeats 4000000
/-! ### the law's own state and draws -/
section
variable {P : Program} {w : World} {K : PySem.W.Frag} {mg : Str → Option Value} {base : Heap}
structure StOk (ns : List Int) : Prop where
  pos : 0 < ns.length
  len : ns.length ≤ 63
  nn : ∀ n ∈ ns, 0 ≤ n
/-- the law's state stands at st; beside it R -/
def LSt (st : Addr) (R : List (Addr × HO)) (H : Hp) : Prop := ∃ (cl : Addr) (pos : Int) (ns : List Int), StOk ns ∧ Has ((st, .lst [.int pos, .ref cl]) :: (cl, .lst (ns.map V.int)) :: R) H
theorem LSt.has {st : Addr} {R : List (Addr × HO)} {H : Hp} (h : LSt st R H) : Has R H := let ⟨_, _, _, _, h⟩ := h; h.tail.tail
def spState (K : PySem.W.Frag) : Sp := fun vs H Q _ => ∃ (a : Addr) (ns : List Int) (R : List (Addr × HO)), vs = [.ref a] ∧ SqL K H a (ns.map V.int) ∧ ns.length ≤ 63 ∧ Has R H ∧
  ∀ st H', LSt st R H' → Tk H H' → Q (.ref st) H'
def spTake : Sp := fun vs H Q _ => ∃ (st : Addr) (most : Int) (R : List (Addr × HO)), vs = [.ref st, .int most] ∧ 0 < most ∧ most < 1000 ∧ LSt st R H ∧
  ∀ r H', 0 ≤ r → r < most → LSt st R H' → Tk H H' → Q (.int r) H'
theorem cut63 (ns : List Int) (h : ns.length ≤ 63) : cutV (ns.map V.int) none (some 63) = ns.map V.int := by
  unfold cutV
  show ((ns.map V.int).drop 0).take (HT.sIx (ns.map V.int).length (ns.map V.int).length (some ((63 : Nat) : Int)) - 0) = ns.map V.int
  rw [HT.sIx_nat, List.drop_zero, List.take_of_length_le (by rw [List.length_map]; omega)]
theorem ok_law_state (T : Tx K mg) : FnG P w K mg base (lv_law_state + 1) at_law_state ["_law_script"] (spState K) := by
  refine FnG.of (fd_law_state T) sc_law_state (by walk_at "ln") (fun cdv A outer s H vs Q E hr h => ?_)
  · obtain ⟨a, ns, R, rfl, hS, hl, h0, q⟩ := h
    have hu := hu_of hr
    refine ⟨_, (pss_cons (ps_setLc (i := 1) (own := [("_law_cell", 2)]) (g := gName 2) (tt := _) rfl sc_law_state.nd rfl rfl (sw_true rfl rfl rfl (by decide +kernel)) (pi_list (pe_slice sl_list (pv 0) po_none (po_some pe_int))) (blkOk_by (own := [("_law_cell", 2)]) (N := n_law_state) (sc := defScope s_law_state) (by decide +kernel)) (fun _ _ _ _ _ => pg_name (i := 2) sc_law_state.nd rfl (Or.inl rfl)) (fun _ _ _ _ _ => pts_nil) (fun _ _ _ _ _ => (pe_callB call_abs (by rfl) (b_abs T) (by decide +kernel) (pa_cons (pv 2) pa_nil)))) (pss_cons (ps_if (pt_cmpR op_eq (pe_callB call_len_seq (by rfl) (b_len T) PySem.boot_len (pa_cons (pv 1) pa_nil)) pe_int (nomark _)) (pss_one (ps_set (i := 1) sc_law_state.nd rfl (Or.inl rfl) (pe_lst (pa_cons pe_int pa_nil)))) pss_nil) (pss_one (ps_ret (pe_lst (pa_cons pe_int (pa_cons (pv 1) pa_nil))))))), ?_⟩
    walk_at "ds"
    -- _law_cells = [abs(_law_cell) for _law_cell in _law_script[:63]]
    refine ⟨_, rfl, _, rfl, a, _, rfl, hS, fun p np => ?_⟩
    rw [cut63 ns hl]
    have h1 := h0.new (o := .lst (ns.map V.int)) np
    have t1 := Tk.new (o := .lst (ns.map V.int)) np
    refine ⟨p, rfl, ⟨_, SqL.of upd_same⟩, fun D nD => ?_⟩
    refine lc_fm (xs := ns.map V.int) (fun _ => true) (fun v => match v with | .int i => .int (if i < 0 then -i else i) | v => v) nD (SqL.of upd_same) (by rw [List.length_map]; exact Nat.lt_of_le_of_lt hl (by decide)) (fun x acc Q hx q => q) (fun x acc Q hx _ q => ?_) ?_
    · obtain ⟨i, hi, rfl⟩ := List.mem_map.mp hx
      exact ⟨_, rfl, i, rfl, q⟩
    have e : ((ns.map V.int).filter fun _ => true).map (fun v => match v with | .int i => .int (if i < 0 then -i else i) | v => v) = (ns.map fun i => if i < 0 then -i else i).map V.int := by
      rw [List.filter_eq_self.mpr (fun _ _ => rfl), List.map_map, List.map_map]
      rfl
    rw [e]
    generalize hms : (ns.map fun i => if i < 0 then -i else i) = ms
    have hml : ms.length ≤ 63 := by rw [← hms, List.length_map]; exact hl
    have hmn : ∀ n ∈ ms, 0 ≤ n := by
      intro n hn
      rw [← hms] at hn
      obtain ⟨i, _, rfl⟩ := List.mem_map.mp hn
      by_cases h : i < 0
      · rw [if_pos h]; omega
      · rw [if_neg h]; omega
    have h3 := (h1.new (o := .lst (ms.map V.int)) nD).b1.tail
    have t3 := t1.trans (Tk.new (o := .lst (ms.map V.int)) nD)
    -- if len(_law_cells) == 0
    refine ⟨_, rfl, D, _, rfl, .inl (SqL.of upd_same), rfl, _, rfl, ?_⟩
    refine ite2 (fun hz => ?_) (fun hz => ?_)
    · refine ⟨by show 1 ≤ sizeLine; decide, fun D2 nD2 => ?_⟩
      have h4 := (h3.new (o := .lst [V.int 0]) nD2).b1.tail
      have t4 := t3.trans (Tk.new (o := .lst [V.int 0]) nD2)
      refine ⟨_, rfl, by show 2 ≤ sizeLine; decide, fun st nst => ?_⟩
      exact q st _ ⟨D2, 0, [0], ⟨by decide, by decide, fun n hn => by rw [List.mem_singleton.mp hn]; decide⟩, h4.new nst⟩ (t4.trans (Tk.new nst))
    · refine ⟨_, rfl, by show 2 ≤ sizeLine; decide, fun st nst => ?_⟩
      refine q st _ ⟨D, 0, ms, ⟨?_, hml, hmn⟩, h3.new nst⟩ (t3.trans (Tk.new nst))
      have hz2 : ¬ ((ms.map V.int).length : Int) = 0 := fun e => hz (by rw [e]; decide)
      rw [List.length_map] at hz2
      omega
theorem atI_at {xs : List V} {i : Int} {v : V} (j : Nat) (e : (j : Int) = i) (h : xs[j]? = some v) : atI xs i = some v := by rw [← e]; exact atI_nat h
theorem ixN_at {n : Nat} {i : Int} (j : Nat) (e : (j : Int) = i) (h : j < n) : ixN n i = some j := by
  subst e
  unfold ixN
  rw [if_pos (Int.natCast_nonneg j), if_pos (by omega)]
  rfl
theorem ok_law_take (T : Tx K mg) : FnG P w K mg base (lv_law_take + 1) at_law_take ["_law_state_here", "_law_most"] spTake := by
  refine FnG.of (fd_law_take T) sc_law_take (by walk_at "ln") (fun cdv A outer s H vs Q E hr h => ?_)
  · obtain ⟨st, most, R, rfl, hm0, hm1, ⟨cl, pos, ns, ok, h0⟩, q⟩ := h
    have hu := hu_of hr
    refine ⟨_, (pss_cons (ps_set (i := 2) sc_law_take.nd rfl (Or.inl rfl) (pe_ix ix_list (pv 0) pe_int (fun _ _ => rfl))) (pss_cons (ps_set (i := 3) sc_law_take.nd rfl (Or.inl rfl) (pe_op op_mod (pe_ix ix_list (pv 0) pe_int (fun _ _ => rfl)) (pe_callB call_len_seq (by rfl) (b_len T) PySem.boot_len (pa_cons (pv 2) pa_nil)))) (pss_cons (ps_set (i := 4) sc_law_take.nd rfl (Or.inl rfl) (pe_ix ix_list (pv 2) (pv 3) (fun _ _ => rfl))) (pss_cons (ps_if (pt_cmpR op_ge (pv 4) pe_int (nomark _)) (pss_cons (ps_asg (pe_op op_fdiv (pv 4) (pv 1)) (pg_sub (pv 2) (pv 3) set_list)) (pss_one (ps_ret (pe_op op_mod (pv 4) (pv 1))))) pss_nil) (pss_cons (ps_asg (pe_op op_add (pe_ix ix_list (pv 0) pe_int (fun _ _ => rfl)) pe_int) (pg_sub (pv 0) pe_int set_list)) (pss_cons (ps_set (i := 5) sc_law_take.nd rfl (Or.inl rfl) (pe_op op_mod (pe_callTy call_int1 (by rfl) (b_int T) (by decide +kernel) (pa_cons (pe_op op_add (pe_op op_mul (pv 4) pe_int) (pe_op op_mul (pe_ix ix_list (pv 0) pe_int (fun _ _ => rfl)) pe_int)) pa_nil)) pe_int)) (pss_cons (ps_set (i := 5) sc_law_take.nd rfl (Or.inl rfl) (pe_op op_mod (pe_callTy call_int1 (by rfl) (b_int T) (by decide +kernel) (pa_cons (pe_op op_add (pe_op op_mul (pv 5) pe_int) (pe_op op_mul (pe_ix ix_list (pv 0) pe_int (fun _ _ => rfl)) pe_int)) pa_nil)) pe_int)) (pss_one (ps_ret (pe_op op_mod (pe_op op_fdiv (pv 5) pe_int) (pv 1))))))))))), ?_⟩
    walk_at "ds"
    have hp := ok.pos
    -- _law_cells, _law_at, _law_cell
    refine ⟨_, rfl, st, _, _, _, rfl, rfl, SqL.of h0.g0, atI_at 1 rfl rfl, ?_⟩
    refine ⟨_, rfl, st, _, _, _, rfl, rfl, SqL.of h0.g0, atI_at 0 rfl rfl, _, rfl, cl, _, rfl, .inl (SqL.of h0.g1), _, _, rfl, rfl, by rw [List.length_map]; omega, ?_⟩
    rw [List.length_map]
    dsimp only
    have a0 : 0 ≤ pos % (ns.length : Int) := Int.emod_nonneg _ (by omega)
    have a1 : pos % (ns.length : Int) < ns.length := Int.emod_lt_of_pos _ (by omega)
    generalize pos % (ns.length : Int) = at_ at a0 a1 ⊢
    obtain ⟨j, rfl⟩ : ∃ j : Nat, at_ = (j : Int) := ⟨at_.toNat, by omega⟩
    have hj : j < ns.length := by omega
    have c0 : 0 ≤ ns[j] := ok.nn _ (List.getElem_mem hj)
    have hg : (ns.map V.int)[j]? = some (V.int ns[j]) := by rw [List.getElem?_map, List.getElem?_eq_getElem hj]; rfl
    generalize ns[j] = c at c0 hg ⊢
    refine ⟨_, rfl, _, rfl, cl, _, _, _, rfl, rfl, SqL.of h0.g1, atI_at j rfl hg, ?_⟩
    -- if _law_cell >= 1000000000000000000
    refine ⟨_, rfl, _, _, rfl, rfl, _, rfl, ?_⟩
    refine ite2 (fun hc => ?_) (fun hc => ?_)
    · refine ⟨_, rfl, _, rfl, _, _, rfl, rfl, ⟨hm0, by omega⟩, _, rfl, _, rfl, cl, _, _, j, rfl, rfl, h0.g1, ixN_at j rfl (by rw [List.length_map]; exact hj), ?_⟩
      refine ⟨_, rfl, _, rfl, _, _, rfl, rfl, hm0, ?_⟩
      have e : (ns.map V.int).set j (V.int (c / most)) = (ns.set j (c / most)).map V.int := by rw [List.map_set]
      rw [e]
      refine q _ _ (Int.emod_nonneg _ (by omega)) (Int.emod_lt_of_pos _ hm0) ⟨cl, pos, ns.set j (c / most), ⟨by rw [List.length_set]; exact hp, by rw [List.length_set]; exact ok.len, fun n hn => ?_⟩, h0.u1⟩ (Tk.mut h0.g1 rfl)
      rcases List.mem_or_eq_of_mem_set hn with hn | hn
      · exact ok.nn n hn
      · rw [hn]; exact Int.ediv_nonneg c0 (by omega)
    · -- _law_state_here[0] = _law_state_here[0] + 1
      have hc2 : c < 1000000000000000000 := by
        have : ¬ 1000000000000000000 ≤ c := fun z => hc (decide_eq_true z)
        omega
      refine ⟨_, rfl, st, _, _, _, rfl, rfl, SqL.of h0.g0, atI_at 0 rfl rfl, _, _, rfl, rfl, _, rfl, st, _, _, 0, rfl, rfl, h0.g0, ixN_at 0 rfl (Nat.zero_lt_succ _), ?_⟩
      have h1 := h0.u0 (u := .lst ([V.int pos, .ref cl].set 0 (.int (pos + 1))))
      have t1 := Tk.mut (u := .lst ([V.int pos, .ref cl].set 0 (.int (pos + 1)))) h0.g0 rfl
      -- the two mixings
      refine ⟨_, rfl, _, _, rfl, rfl, .inr ⟨by decide, by decide⟩, _, rfl, st, _, _, _, rfl, rfl, SqL.of h1.g0, atI_at 0 rfl rfl, _, _, rfl, rfl, .inr ⟨by decide, by decide⟩, _, _, rfl, rfl, .inl ⟨_, rfl, _, _, rfl, rfl, (show (0 : Int) < 2147483647 by decide), ?_⟩⟩
      generalize (c * 48271 + (pos + 1) * 69621) % 2147483647 = m1
      refine ⟨_, rfl, _, _, rfl, rfl, .inr ⟨by decide, by decide⟩, _, rfl, st, _, _, _, rfl, rfl, SqL.of h1.g0, atI_at 0 rfl rfl, _, _, rfl, rfl, .inr ⟨by decide, by decide⟩, _, _, rfl, rfl, .inl ⟨_, rfl, _, _, rfl, rfl, (show (0 : Int) < 1000000007 by decide), ?_⟩⟩
      generalize (m1 * 16807 + (pos + 1) * 7919) % 1000000007 = m2
      refine ⟨_, rfl, _, _, rfl, rfl, ⟨by decide, by decide⟩, _, rfl, _, _, rfl, rfl, hm0, ?_⟩
      exact q _ _ (Int.emod_nonneg _ (by omega)) (Int.emod_lt_of_pos _ hm0) ⟨cl, pos + 1, ns, ok, h1⟩ t1
end

/-! ## Lay -/
set_option Elab.async false
set_option linter.all false
set_option maxRecDepth 100000
set_option maxHeartbeats 4000000
/-! ### Layout -/
section
variable {P : Program} {w : World} {K : PySem.W.Frag} {mg : Str → Option Value} {base : Heap}
def IsMax (m : Int) (ns : List Int) : Prop := m ∈ ns ∧ ∀ y ∈ ns, y ≤ m
theorem IsMax.eq {m k : Int} {ns : List Int} (h : IsMax m ns) (g : IsMax k ns) : m = k := by
  have h1 := h.2 k g.1
  have h2 := g.2 m h.1
  omega
abbrev layO (K : PySem.W.Frag) (dl l : Addr) (pages most : Int) : HO := .ins (c_Layout K) dl (f_Layout (.int pages) (.ref l) (.int most))
/-- a layout's numbers are within bounds -/
structure LayOk (pages most : Int) (sizes : List Int) : Prop where
  mx : IsMax most sizes
  pos : ∀ s ∈ sizes, 1 ≤ s
  small : most < 1000
  pg : 0 ≤ pages
  pg2 : pages < 1000
theorem LayOk.m1 {pages most : Int} {sizes : List Int} (h : LayOk pages most sizes) : 1 ≤ most := h.pos _ h.mx.1
def spLayInit (K : PySem.W.Frag) : Sp := fun vs H Q _ => ∃ (ly dl sz : Addr) (pages : Int) (sizes : List Int) (R : List (Addr × HO)), vs = [.ref ly, .int pages, .ref sz] ∧ Has ((ly, .ins (c_Layout K) dl []) :: R) H ∧
  SqL K H sz (sizes.map V.int) ∧ (sz, .lst (sizes.map V.int)) ∈ R ∧ 0 < sizes.length ∧
  ∀ (l : Addr) (most : Int) (H' : Hp), IsMax most sizes → Has ((ly, layO K dl l pages most) :: (l, .lst (sizes.map V.int)) :: R) H' → Tk H H' → Q .non H'
def spObjOf (K : PySem.W.Frag) : Sp := fun vs H Q _ => ∃ (ly dl l : Addr) (pages most p i : Int), vs = [.ref ly, .int p, .int i] ∧ H ly = some (layO K dl l pages most) ∧ most < 1000 ∧ 0 ≤ most ∧ Q (.int (p * most + i)) H
def spPageOf (K : PySem.W.Frag) : Sp := fun vs H Q _ => ∃ (ly dl l : Addr) (pages most n : Int), vs = [.ref ly, .int n] ∧ H ly = some (layO K dl l pages most) ∧ most < 1000 ∧ 0 < most ∧ Q (.int (n / most)) H
/-- the objects of a page -/
def objs (most p n : Int) : List Int := (List.range n.toNat).map fun (k : Nat) => p * most + (k : Int)
def spObjects (K : PySem.W.Frag) : Sp := fun vs H Q _ => ∃ (ly dl l : Addr) (pages most p : Int) (s : Nat) (sizes : List Int) (n : Int), vs = [.ref ly, .int p, .int s] ∧ H ly = some (layO K dl l pages most) ∧ most < 1000 ∧ 0 ≤ most ∧
  H l = some (.lst (sizes.map V.int)) ∧ sizes[s]? = some n ∧ 0 ≤ n ∧ n < 1000 ∧ ∀ D, H D = none → Q (.ref D) (upd H D (.lst ((objs most p n).map V.int)))
theorem ok_Layout_init (T : Tx K mg) : FnG P w K mg base (lv_Layout_init + 1) at_Layout_init ["self", "pages", "sizes"] (spLayInit K) := by
  refine FnG.of (fd_Layout_init T) sc_Layout_init (by walk_at "ln") (fun cdv A outer s H vs Q E hr h => ?_)
  · obtain ⟨ly, dl, sz, pages, sizes, R, rfl, h0, hS, hR, hl, q⟩ := h
    have hu := hu_of hr
    refine ⟨_, (pss_cons (ps_fld (pv 0) (pv 1) rfl) (pss_cons (ps_fld (pv 0) (pe_callTy call_list_of (by rfl) (b_list T) (by decide +kernel) (pa_cons (pv 2) pa_nil)) rfl) (pss_one (ps_fld (pv 0) (pe_callB (cr_max (by rfl)) (by rfl) (b_max T) (by decide +kernel) (pa_cons (pe_fld (pv 0) rfl) pa_nil)) rfl)))), ?_⟩
    walk_at "ds"
    walk_at "go"
    rename_i H1 h1 t1
    refine ⟨sz, _, rfl, .inl (SqL.of (h1.tail.at_ hR)), fun l nl => ?_⟩
    have h2 := (h1.new (o := .lst (sizes.map V.int)) nl).f1
    have t2 := Tk.new (o := .lst (sizes.map V.int)) nl
    walk_at "go"
    rename_i H3 h3 t3
    refine ⟨l, sizes, rfl, SqL.of h3.g1, hl, fun m hm hmx => ?_⟩
    walk_at "go"
    exact q l m _ ⟨hm, hmx⟩ (by assumption) (by walk_at "tk")
theorem ok_Layout_object_of (T : Tx K mg) : FnG P w K mg base (lv_Layout_object_of + 1) at_Layout_object_of ["self", "page", "index"] (spObjOf K) := by
  refine FnG.of (fd_Layout_object_of T) sc_Layout_object_of (by walk_at "ln") (fun cdv A outer s H vs Q E hr h => ?_)
  · obtain ⟨ly, dl, l, pages, most, p, i, rfl, hy, hm, hm0, q⟩ := h
    have hu := hu_of hr
    refine ⟨_, (pss_one (ps_ret (pe_op op_add (pe_op op_mul (pv 1) (pe_fld (pv 0) rfl)) (pv 2)))), ?_⟩
    walk_at "ds"
    refine ⟨_, rfl, _, rfl, ly, _, dl, _, _, rfl, hy, k_Layout T, na_Layout_most T, l_Layout_most, _, _, rfl, rfl, .inr ⟨by omega, by omega⟩, _, rfl, _, _, rfl, rfl, q⟩
theorem ok_Layout_page_of (T : Tx K mg) : FnG P w K mg base (lv_Layout_page_of + 1) at_Layout_page_of ["self", "number"] (spPageOf K) := by
  refine FnG.of (fd_Layout_page_of T) sc_Layout_page_of (by walk_at "ln") (fun cdv A outer s H vs Q E hr h => ?_)
  · obtain ⟨ly, dl, l, pages, most, n, rfl, hy, hm, hm0, q⟩ := h
    have hu := hu_of hr
    refine ⟨_, (pss_one (ps_ret (pe_op op_fdiv (pv 1) (pe_fld (pv 0) rfl)))), ?_⟩
    walk_at "ds"
    refine ⟨_, rfl, _, rfl, ly, _, dl, _, _, rfl, hy, k_Layout T, na_Layout_most T, l_Layout_most, _, _, rfl, rfl, ⟨hm0, by omega⟩, q⟩
theorem ok_Layout_objects (T : Tx K mg) : FnG P w K mg base (lv_Layout_objects + 1) at_Layout_objects ["self", "page", "size"] (spObjects K) := by
  refine FnG.of (fd_Layout_objects T) sc_Layout_objects (by walk_at "ln") (fun cdv A outer s H vs Q E hr h => ?_)
  · obtain ⟨ly, dl, l, pages, most, p, s, sizes, n, rfl, hy, hm, hm0, hl, hs, hn0, hn1, q⟩ := h
    have hu := hu_of hr
    refine ⟨_, (pss_one (ps_ret (pe_lc (own := [("index", 3)]) (g := gName 3) (tt := _) rfl sc_Layout_objects.nd (pi_range1 (by rfl) (b_range T) (pa_cons (pe_ix ix_list (pe_fld (pv 0) rfl) (pv 2) (fun _ _ => rfl)) pa_nil)) (blkOk_by (own := [("index", 3)]) (N := n_Layout_objects) (sc := defScope s_Layout_objects) (by decide +kernel)) (fun _ _ _ _ _ => pg_name (i := 3) sc_Layout_objects.nd rfl (Or.inl rfl)) (fun _ _ _ _ _ => pts_nil) (fun _ _ _ _ _ => (pe_m (pv 0) (k_Layout T) (me_Layout_object_of T) (ok_Layout_object_of T) (hr.mono (by decide)) (pa_cons (pv 1) (pa_cons (pv 3) pa_nil))))))), ?_⟩
    walk_at "ds"
    refine ⟨_, rfl, ly, _, dl, _, _, rfl, hy, k_Layout T, na_Layout_sizes T, l_Layout_sizes, _, rfl, l, _, _, _, rfl, rfl, SqL.of hl, atI_nat (v := .int n) (by rw [List.getElem?_map, hs]; rfl), ?_⟩
    refine ⟨n, rfl, by omega, by omega, fun D nD => ?_⟩
    refine lc_rng (fun k => .int (p * most + (k : Int))) nD (by have : sizeLine = 16777216 := sizeLine_eq; omega) (fun j acc Q' hj q' => ?_) ?_
    · refine ⟨_, rfl, ly, dl, _, rfl, by rw [upd_ne (ne_of_none hy nD)]; exact hy, o_Layout_object_of, ?_⟩
      refine ⟨_, rfl, _, rfl, ly, dl, l, pages, most, p, _, rfl, by rw [upd_ne (ne_of_none hy nD)]; exact hy, hm, hm0, ?_⟩
      rw [Int.zero_add]
      exact q'
    · have e : (objs most p n).map V.int = (List.range n.toNat).map fun (k : Nat) => V.int (p * most + (k : Int)) := by unfold objs; rw [List.map_map]; rfl
      rw [← e]
      exact q D nD
end

/-! ## L01a -/
set_option Elab.async false
set_option linter.all false
set_option maxRecDepth 100000
set_option maxHeartbeats 4000000
/-! ### the first law: one access -/
section
variable {P : Program} {w : World} {K : PySem.W.Frag} {mg : Str → Option Value} {base : Heap}
/-- a dict's entries are those of a function -/
def GR (K : PySem.W.Frag) (H : Hp) (xs : List Ent) (f : List Key → CV) : Prop := KeysOk K H xs ∧ ∀ ks, VRel K H ((lookE xs ks).getD (.int 0)) (f ks)
theorem GR.tk {H H' : Hp} {xs : List Ent} {f : List Key → CV} (h : GR K H xs f) (t : Tk H H') : GR K H' xs f := ⟨h.1.tk t, fun ks => (h.2 ks).tk t⟩
def fset (f : List Key → CV) (k : List Key) (c : CV) : List Key → CV := fun k' => if k' = k then c else f k'
theorem GR.put {H : Hp} {xs : List Ent} {f : List Key → CV} {ks : List Key} {b : Addr} {v : V} {c : CV} (h : GR K H xs f) (hb : SqT K H b (ks.map kV)) (hv : VRel K H v c) : GR K H (putE xs ks b v) (fset f ks c) := by
  refine ⟨h.1.put hb, fun k => ?_⟩
  rw [lookE_put]
  unfold fset
  by_cases e : k = ks
  · rw [if_pos e, if_pos e]; exact hv
  · rw [if_neg e, if_neg e]; exact h.2 k
theorem call_repr_bl {X : Cx} : CallR X (.builtin "repr") (fun xs H Q => ∃ b, xs = [.bl b] ∧ Q (.str (if b then "True" else "False")) H) := by
  intro pins s σ H xs us Q I r h
  obtain ⟨b, rfl, q⟩ := h
  obtain ⟨u, rfl, r1⟩ := vals1 r
  cases r1
  exact PySem.P.repr_of_bool ⟨.str _, H, I.tok _, ⟨_, rfl⟩, q⟩
/-- the law's memory and its own dict -/
def A01 (P : Program) (w : World) (K : PySem.W.Frag) (st m lc : Addr) (n : Int) (b : Nat) (R : List (Addr × HO)) (H : Hp) : Prop := ∃ (dm d : Addr) (xs ys : List Ent) (f : List Key → CV),
  LSt st ((m, memO K dm d n) :: (d, dicO P w d xs) :: (lc, dicO P w lc ys) :: R) H ∧ GR K H xs f ∧ GR K H ys f ∧ xs.length ≤ b ∧ ys.length ≤ b
def spAcc (P : Program) (w : World) (K : PySem.W.Frag) : Sp := fun vs H Q _ => ∃ (st m lc c : Addr) (kind n : Int) (b : Nat) (ks : List Key) (R : List (Addr × HO)), vs = [.ref st, .ref m, .ref lc, .int kind, .ref c] ∧ A01 P w K st m lc n b R H ∧ SqT K H c (ks.map kV) ∧ b < 1000 ∧
  0 ≤ kind ∧ kind < 5 ∧ ∀ H', A01 P w K st m lc (if kind < 3 then n + 1 else n) (b + 1) R H' → Tk H H' → Q (.bl true) H'
theorem line1000 : 1000 < sizeLine := by rw [sizeLine_eq]; decide
theorem dp_same {H : Hp} {v u : V} {c : CV} (h : VRel K H v c) (g : VRel K H u c) : ∃ d e, Dp K H v d ∧ Dp K H u e ∧ SeqAt.shaped d = true ∧ SeqAt.shaped e = true ∧ PyData.eqv d e = true :=
  ⟨_, _, h.dp, g.dp, shp_cv _, shp_cv _, by rw [eqv_cv]; exact decide_eq_true rfl⟩
theorem ok_law_access (T : Tx K mg) : FnG P w K mg base (lv_law_access + 1) at_law_access ["_law_state_here", "_law_memory", "_law_cells", "_law_kind", "_law_cell"] (spAcc P w K) := by
  refine FnG.of (fd_law_access T) sc_law_access (by walk_at "ln") (fun cdv A outer s H vs Q E hr h => ?_)
  · obtain ⟨st, m, lc, c, kind, n, b, ks, R, rfl, ⟨dm, d, xs, ys, f, ⟨cl, pos, ns, ok, h0⟩, gx, gy, lx, ly⟩, hc, hb, k0, k5, q⟩ := h
    have hl := line1000
    have hu := hu_of hr
    refine ⟨_, (pss_cons (ps_set (i := 5) sc_law_access.nd rfl (Or.inl rfl) (pe_ix ix_list (pe_lst (pa_cons (pe_g (ok_law_take T) (hr.mono (by decide)) (g_law_take T) (pa_cons (pv 0) (pa_cons pe_int pa_nil))) (pa_cons (pe_tup (pa_cons (pe_g (ok_law_take T) (hr.mono (by decide)) (g_law_take T) (pa_cons (pv 0) (pa_cons pe_int pa_nil))) (pa_cons pe_int pa_nil))) pa_nil))) (pe_g (ok_law_take T) (hr.mono (by decide)) (g_law_take T) (pa_cons (pv 0) (pa_cons pe_int pa_nil))) (fun _ _ => rfl))) (pss_cons (ps_set (i := 6) sc_law_access.nd rfl (Or.inl rfl) (pe_mget hu (pv 2) (pv 4) pe_int ⟨rfl, rfl, rfl, rfl⟩)) (pss_cons (ps_if (pt_cmpR op_eq (pv 3) pe_int (nomark _)) (pss_one (ps_ret (pe_cmpR (op_eqD hr.units) (pe_m (pv 1) (k_Memory T) (me_Memory_read T) (ok_Memory_read T) (hr.mono (by decide)) (pa_cons (pv 4) pa_nil)) (pv 6) (nomark _)))) pss_nil) (pss_cons (ps_if (pt_cmpR op_eq (pv 3) pe_int (nomark _)) (pss_cons (ps_mput hu (pv 2) (pv 4) (pv 5) rfl) (pss_one (ps_ret (pe_cmpR op_isN (pe_m (pv 1) (k_Memory T) (me_Memory_write T) (ok_Memory_write T) (hr.mono (by decide)) (pa_cons (pv 4) (pa_cons (pv 5) pa_nil))) pe_non (nomark _))))) pss_nil) (pss_cons (ps_if (pt_cmpR op_eq (pv 3) pe_int (nomark _)) (pss_cons (ps_set (i := 7) sc_law_access.nd rfl (Or.inl rfl) (pe_ix ix_list (pe_lst (pa_cons (pv 6) (pa_cons pe_int (pa_cons (pe_tup (pa_cons pe_int (pa_cons pe_int pa_nil))) (pa_cons pe_int pa_nil))))) (pe_g (ok_law_take T) (hr.mono (by decide)) (g_law_take T) (pa_cons (pv 0) (pa_cons pe_int pa_nil))) (fun _ _ => rfl))) (pss_cons (ps_if (pt_cmpR (op_eqD hr.units) (pv 7) (pv 6) (nomark _)) (pss_one (ps_mput hu (pv 2) (pv 4) (pv 5) rfl)) pss_nil) (pss_one (ps_ret (pe_cmpR op_eq (pe_callB call_repr_bl (by rfl) (b_repr T) (by decide +kernel) (pa_cons (pe_m (pv 1) (k_Memory T) (me_Memory_swap T) (ok_Memory_swap T) (hr.mono (by decide)) (pa_cons (pv 4) (pa_cons (pv 7) (pa_cons (pv 5) pa_nil)))) pa_nil)) (pe_callB call_repr_bl (by rfl) (b_repr T) (by decide +kernel) (pa_cons (pe_cmpR (op_eqD hr.units) (pv 7) (pv 6) (nomark _)) pa_nil)) (nomark _)))))) pss_nil) (pss_cons (ps_if (pt_cmpR op_eq (pv 3) pe_int (nomark _)) (pss_one (ps_ret (pe_cmpR (op_eqD hr.units) (pe_m (pv 1) (k_Memory T) (me_Memory_peek T) (ok_Memory_peek T) (hr.mono (by decide)) (pa_cons (pv 4) pa_nil)) (pv 6) (nomark _)))) pss_nil) (pss_cons (ps_mput hu (pv 2) (pv 4) (pv 5) rfl) (pss_one (ps_ret (pe_cmpR op_isN (pe_m (pv 1) (k_Memory T) (me_Memory_set_up T) (ok_Memory_set_up T) (hr.mono (by decide)) (pa_cons (pv 4) (pa_cons (pv 5) pa_nil))) pe_non (nomark _))))))))))), ?_⟩
    walk_at "ds"
    -- _law_value
    walk_at "v"; walk_at "tk1"; rename_i r3 H1 a3 b3 cl1 pos1 ns1 ok1 h1 t1
    walk_at "v"; walk_at "tk1"; rename_i r2 H2 a2 b2 cl2 pos2 ns2 ok2 h2 t2
    refine ⟨by show 2 ≤ sizeLine; decide, fun p np => ?_⟩
    have h3 := h2.skip (o := .tup [.int r2, .int 1]) np
    have t3 := Tk.new (o := .tup [.int r2, .int 1]) np
    have sp : SqT K (upd H2 p (.tup [.int r2, .int 1])) p [.int r2, .int 1] := sqt_new
    generalize upd H2 p (.tup [.int r2, .int 1]) = H3 at h3 t3 sp ⊢
    refine ⟨by show 2 ≤ sizeLine; decide, fun l nl => ?_⟩
    have h4 := h3.new (o := .lst [.int r3, .ref p]) nl
    have t4 := Tk.new (o := .lst [.int r3, .ref p]) nl
    generalize upd H3 l (.lst [.int r3, .ref p]) = H4 at h4 t4 ⊢
    walk_at "v"; walk_at "tk1"; rename_i r1 H5 a1 b1 cl5 pos5 ns5 ok5 h5 t5
    have tt : Tk H H5 := by walk_at "tk"
    obtain ⟨v, cv, hv, hat⟩ : ∃ v cv, VRel K H5 v cv ∧ atI [V.int r3, V.ref p] r1 = some v := by
      by_cases z : r1 = 0
      · exact ⟨.int r3, .n r3, rfl, by rw [z]; exact atI_nat (j := 0) rfl⟩
      · have z1 : r1 = 1 := by omega
        exact ⟨.ref p, .p r2 1, ⟨p, rfl, by walk_at "sq"⟩, by rw [z1]; exact atI_nat (j := 1) rfl⟩
    refine ⟨l, _, _, v, rfl, rfl, SqL.of (by walk_at "at"), hat, ?_⟩
    have gx5 := gx.tk tt
    have gy5 := gy.tk tt
    have hc5 := sq_tk hc tt
    have h5' := h5.b2.tail
    clear h5 t5 h4 t4 sp t3 h3 h2 t2 h1 t1 h0 gx gy hc
    -- _law_old
    refine ⟨_, rfl, lc, ys, rfl, h5'.g4, _, rfl, c, ks, ys, rfl, h5'.g4, gy5.1, hc5, ?_⟩
    -- kind 0
    refine ⟨_, rfl, rfl, _, rfl, ?_⟩
    refine ite2 (fun e => ?_) (fun e0 => ?_)
    · cases (of_decide_eq_true e : V.int kind = V.int 0)
      rw [if_pos (by decide)] at q
      refine ⟨_, rfl, m, dm, _, rfl, h5'.g2, o_Memory_read, _, rfl, m, dm, d, c, n, xs, ks, _, rfl, (by walk_at "hp"), gx5.1, hc5, fun H6 h6 t6 => ?_⟩
      obtain ⟨d1, d2, p1, p2, s1, s2, ee⟩ := dp_same ((gx5.2 ks).tk t6) ((gy5.2 ks).tk t6)
      refine ⟨_, rfl, d1, d2, p1, p2, s1, s2, ?_⟩
      rw [ee]
      exact q _ ⟨dm, d, xs, ys, f, ⟨cl5, pos5, ns5, ok5, (by walk_at "hp")⟩, gx5.tk t6, gy5.tk t6, by omega, by omega⟩ (tt.trans t6)
    -- kind 1
    refine ⟨_, rfl, rfl, _, rfl, ?_⟩
    refine ite2 (fun e => ?_) (fun e1 => ?_)
    · cases (of_decide_eq_true e : V.int kind = V.int 1)
      rw [if_pos (by decide)] at q
      refine ⟨_, rfl, _, rfl, _, rfl, lc, c, ks, ys, rfl, rfl, h5'.g4, gy5.1, hc5, by omega, ?_⟩
      have h6 := h5'.u4 (u := dicO P w lc (putE ys ks c v))
      have t6 := Tk.mut (u := dicO P w lc (putE ys ks c v)) h5'.g4 rfl
      generalize upd H5 lc (dicO P w lc (putE ys ks c v)) = H6 at h6 t6 ⊢
      refine ⟨_, rfl, m, dm, _, rfl, h6.g2, o_Memory_write, _, rfl, _, rfl, m, dm, d, c, v, n, xs, ks, _, rfl, (by walk_at "hp"), gx5.1.tk t6, sq_tk hc5 t6, by omega, fun H7 h7 t7 => ?_⟩
      refine ⟨rfl, ?_⟩
      have t67 := t6.trans t7
      refine q _ ⟨dm, d, _, _, _, ⟨cl5, pos5, ns5, ok5, (by walk_at "hp")⟩, (gx5.put hc5 hv).tk t67, (gy5.put hc5 hv).tk t67, ?_, ?_⟩ (tt.trans t67)
      · have := putE_len xs ks c v; omega
      · have := putE_len ys ks c v; omega
    -- kind 2
    refine ⟨_, rfl, rfl, _, rfl, ?_⟩
    refine ite2 (fun e => ?_) (fun e2 => ?_)
    · cases (of_decide_eq_true e : V.int kind = V.int 2)
      rw [if_pos (by decide)] at q
      refine ⟨_, rfl, by show 2 ≤ sizeLine; decide, fun p6 n6 => ?_⟩
      have h6 := h5'.skip (o := .tup [.int 0, .int 1]) n6
      have t6 := Tk.new (o := .tup [.int 0, .int 1]) n6
      have sp : SqT K (upd H5 p6 (.tup [.int 0, .int 1])) p6 [.int 0, .int 1] := sqt_new
      generalize upd H5 p6 (.tup [.int 0, .int 1]) = H6 at h6 t6 sp ⊢
      refine ⟨by show 4 ≤ sizeLine; decide, fun l7 n7 => ?_⟩
      have h7 := h6.new (o := .lst [(lookE ys ks).getD (.int 0), .int 0, .ref p6, .int 1]) n7
      have t7 := Tk.new (o := .lst [(lookE ys ks).getD (.int 0), .int 0, .ref p6, .int 1]) n7
      generalize upd H6 l7 (.lst [(lookE ys ks).getD (.int 0), .int 0, .ref p6, .int 1]) = H7 at h7 t7 ⊢
      walk_at "v"; walk_at "tk1"; rename_i r8 H8 a8 b8 cl8 pos8 ns8 ok8 h8 t8
      have t58 : Tk H5 H8 := by walk_at "tk"
      have hsp := sq_tk sp (t7.trans t8)
      have gx8 := gx5.tk t58
      have gy8 := gy5.tk t58
      have hc8 := sq_tk hc5 t58
      have hv8 := hv.tk t58
      obtain ⟨v8, cv8, hv8', hat8⟩ : ∃ v8 cv8, VRel K H8 v8 cv8 ∧ atI [(lookE ys ks).getD (.int 0), V.int 0, .ref p6, .int 1] r8 = some v8 := by
        by_cases z0 : r8 = 0
        · exact ⟨_, f ks, gy8.2 ks, by rw [z0]; exact atI_nat (j := 0) rfl⟩
        by_cases z1 : r8 = 1
        · exact ⟨_, .n 0, rfl, by rw [z1]; exact atI_nat (j := 1) rfl⟩
        by_cases z2 : r8 = 2
        · exact ⟨_, .p 0 1, ⟨p6, rfl, hsp⟩, by rw [z2]; exact atI_nat (j := 2) rfl⟩
        · have z3 : r8 = 3 := by omega
          exact ⟨_, .n 1, rfl, by rw [z3]; exact atI_nat (j := 3) rfl⟩
      refine ⟨l7, _, _, v8, rfl, rfl, SqL.of (by walk_at "at"), hat8, ?_⟩
      have h8' := h8.b2.tail
      clear h8 h7 h6 hsp t8 t7 t6
      refine ⟨_, rfl, _, rfl, cvD cv8, cvD (f ks), hv8'.dp, (gy8.2 ks).dp, shp_cv _, shp_cv _, _, rfl, ?_⟩
      rw [eqv_cv]
      -- behind: the swap and the two reprs
      have fin : ∀ (H9 : Hp) (ys' : List Ent) (g : List Key → CV), Has ((st, .lst [.int pos8, .ref cl8]) :: (cl8, .lst (ns8.map V.int)) :: (m, memO K dm d n) :: (d, dicO P w d xs) :: (lc, dicO P w lc ys') :: R) H9 → Tk H8 H9 →
          GR K H9 ys' g → ys'.length ≤ b + 1 → g = (if cv8 = f ks then fset f ks cv else f) → ∀ H10, Has ((m, memO K dm d (n + 1)) :: (d, dicO P w d (if decide (f ks = cv8) then putE xs ks c v else xs)) :: (st, .lst [.int pos8, .ref cl8]) :: (cl8, .lst (ns8.map V.int)) :: (lc, dicO P w lc ys') :: R) H10 → Tk H9 H10 → A01 P w K st m lc (n + 1) (b + 1) R H10 := by
        intro H9 ys' g h9 t9 g9 l9 eg H10 h10 t10
        refine ⟨dm, d, _, ys', g, ⟨cl8, pos8, ns8, ok8, (by walk_at "hp")⟩, ?_, g9.tk t10, ?_, l9⟩
        · rw [eg]
          by_cases z : f ks = cv8
          · rw [if_pos (decide_eq_true z), if_pos z.symm]
            exact (gx8.put hc8 hv8).tk (t9.trans t10)
          · rw [if_neg (by simpa using z), if_neg (fun y => z y.symm)]
            exact gx8.tk (t9.trans t10)
        · by_cases z : f ks = cv8
          · rw [if_pos (decide_eq_true z)]
            have := putE_len xs ks c v; omega
          · rw [if_neg (by simpa using z)]
            omega
      have sw : ∀ (H9 : Hp) (ys' : List Ent) (g : List Key → CV), Has ((st, .lst [.int pos8, .ref cl8]) :: (cl8, .lst (ns8.map V.int)) :: (m, memO K dm d n) :: (d, dicO P w d xs) :: (lc, dicO P w lc ys') :: R) H9 → Tk H8 H9 →
          GR K H9 ys' g → ys'.length ≤ b + 1 → g = (if cv8 = f ks then fset f ks cv else f) → ∀ (Qv : V → Hp → Prop), (∀ H10, A01 P w K st m lc (n + 1) (b + 1) R H10 → Tk H9 H10 → Qv (.bl (decide (f ks = cv8))) H10) →
          spSwap P w K [.ref m, .ref c, v8, v] H9 Qv E0 := by
        intro H9 ys' g h9 t9 g9 l9 eg Qv hq
        refine ⟨m, dm, d, c, v8, v, n, xs, ks, (st, .lst [.int pos8, .ref cl8]) :: (cl8, .lst (ns8.map V.int)) :: (lc, dicO P w lc ys') :: R, cvD (f ks), cvD cv8, rfl, (by walk_at "hp"), gx8.1.tk t9, sq_tk hc8 t9, by omega, fun H10 t10 => ⟨((gx8.2 ks).tk (t9.trans t10)).dp, (hv8'.tk (t9.trans t10)).dp⟩, shp_cv _, shp_cv _, fun H10 h10 t10 => ?_⟩
        rw [eqv_cv] at h10 ⊢
        exact hq _ (fin H9 ys' g h9 t9 g9 l9 eg H10 h10 t10) t10
      have dd : decide (f ks = cv8) = decide (cv8 = f ks) := decide_eq_decide.mpr ⟨Eq.symm, Eq.symm⟩
      refine ite2 (fun z => ?_) (fun z => ?_)
      · have z1 : cv8 = f ks := of_decide_eq_true z
        refine ⟨_, rfl, _, rfl, _, rfl, lc, c, ks, ys, rfl, rfl, h8'.g4, gy8.1, hc8, by omega, ?_⟩
        have h9 := h8'.u4 (u := dicO P w lc (putE ys ks c v))
        have t9 := Tk.mut (u := dicO P w lc (putE ys ks c v)) h8'.g4 rfl
        have g9 := (gy8.put hc8 hv8).tk t9
        generalize upd H8 lc (dicO P w lc (putE ys ks c v)) = H9 at h9 t9 g9 ⊢
        refine ⟨_, rfl, m, dm, _, rfl, h9.g2, o_Memory_swap, _, rfl, _, rfl, _, rfl, ?_⟩
        walk_at "nil"
        refine sw H9 _ _ h9 t9 g9 (by have := putE_len ys ks c v; omega) (by rw [if_pos z1]) _ fun H10 a10 t10 => ?_
        have t810 := t9.trans t10
        refine ⟨_, rfl, _, rfl, _, rfl, cvD cv8, cvD (f ks), (hv8'.tk t810).dp, ((gy8.2 ks).tk t810).dp, shp_cv _, shp_cv _, _, rfl, rfl, ?_⟩
        rw [eqv_cv, dd, decide_eq_true (p := V.str _ = V.str _) rfl]
        exact q _ a10 (tt.trans (t58.trans t810))
      · have z1 : ¬ cv8 = f ks := fun y => z (decide_eq_true y)
        refine ⟨_, rfl, m, dm, _, rfl, h8'.g2, o_Memory_swap, _, rfl, _, rfl, _, rfl, ?_⟩
        walk_at "nil"
        refine sw H8 _ _ h8' Tk.refl gy8 (by omega) (by rw [if_neg z1]) _ fun H10 a10 t10 => ?_
        refine ⟨_, rfl, _, rfl, _, rfl, cvD cv8, cvD (f ks), (hv8'.tk t10).dp, ((gy8.2 ks).tk t10).dp, shp_cv _, shp_cv _, _, rfl, rfl, ?_⟩
        rw [eqv_cv, dd, decide_eq_true (p := V.str _ = V.str _) rfl]
        exact q _ a10 (tt.trans (t58.trans t10))
    -- kind 3
    refine ⟨_, rfl, rfl, _, rfl, ?_⟩
    refine ite2 (fun e => ?_) (fun e3 => ?_)
    · cases (of_decide_eq_true e : V.int kind = V.int 3)
      rw [if_neg (by decide)] at q
      refine ⟨_, rfl, m, dm, _, rfl, h5'.g2, o_Memory_peek, _, rfl, m, dm, d, c, n, xs, ks, _, rfl, (by walk_at "hp"), gx5.1, hc5, fun H6 h6 t6 => ?_⟩
      obtain ⟨d1, d2, p1, p2, s1, s2, ee⟩ := dp_same ((gx5.2 ks).tk t6) ((gy5.2 ks).tk t6)
      refine ⟨_, rfl, d1, d2, p1, p2, s1, s2, ?_⟩
      rw [ee]
      rw [Int.add_zero] at h6
      exact q _ ⟨dm, d, xs, ys, f, ⟨cl5, pos5, ns5, ok5, (by walk_at "hp")⟩, gx5.tk t6, gy5.tk t6, by omega, by omega⟩ (tt.trans t6)
    -- kind 4
    have k4 : kind = 4 := by
      have n0 : kind ≠ 0 := fun z => e0 (by rw [z]; decide)
      have n1 : kind ≠ 1 := fun z => e1 (by rw [z]; decide)
      have n2 : kind ≠ 2 := fun z => e2 (by rw [z]; decide)
      have n3 : kind ≠ 3 := fun z => e3 (by rw [z]; decide)
      omega
    rw [if_neg (by omega)] at q
    refine ⟨_, rfl, _, rfl, _, rfl, lc, c, ks, ys, rfl, rfl, h5'.g4, gy5.1, hc5, by omega, ?_⟩
    have h6 := h5'.u4 (u := dicO P w lc (putE ys ks c v))
    have t6 := Tk.mut (u := dicO P w lc (putE ys ks c v)) h5'.g4 rfl
    generalize upd H5 lc (dicO P w lc (putE ys ks c v)) = H6 at h6 t6 ⊢
    refine ⟨_, rfl, m, dm, _, rfl, h6.g2, o_Memory_set_up, _, rfl, _, rfl, m, dm, d, c, v, n, xs, ks, _, rfl, (by walk_at "hp"), gx5.1.tk t6, sq_tk hc5 t6, by omega, fun H7 h7 t7 => ?_⟩
    refine ⟨rfl, ?_⟩
    rw [Int.add_zero] at h7
    have t67 := t6.trans t7
    refine q _ ⟨dm, d, _, _, _, ⟨cl5, pos5, ns5, ok5, (by walk_at "hp")⟩, (gx5.put hc5 hv).tk t67, (gy5.put hc5 hv).tk t67, ?_, ?_⟩ (tt.trans t67)
    · have := putE_len xs ks c v; omega
    · have := putE_len ys ks c v; omega
end

/-! ## L01b -/
set_option Elab.async false
set_option linter.all false
set_option maxRecDepth 100000
set_option maxHeartbeats 4000000
/-! ### the first law -/
section
variable {P : Program} {w : World} {K : PySem.W.Frag} {mg : Str → Option Value} {base : Heap}
def spLaw (K : PySem.W.Frag) : Sp := fun vs H Q _ => ∃ (a : Addr) (ns : List Int), vs = [.ref a] ∧ SqL K H a (ns.map V.int) ∧ ns.length ≤ 63 ∧ ∀ H', Q (.bl true) H'
theorem keys4 (j : Int) (h0 : 0 ≤ j) (h4 : j < 4) (K : PySem.W.Frag) (H : Hp) (p1 p2 p3 p4 : Addr) (s1 : SqT K H p1 [.str "a"]) (s2 : SqT K H p2 [.str "b"]) (s3 : SqT K H p3 [.str "a", .int 1]) (s4 : SqT K H p4 [.str "a", .int 2]) :
    ∃ (p : Addr) (ks : List Key), atI [V.ref p1, V.ref p2, V.ref p3, V.ref p4] j = some (.ref p) ∧ SqT K H p (ks.map kV) := by
  by_cases z0 : j = 0
  · exact ⟨p1, [.inr "a"], by rw [z0]; exact atI_nat (j := 0) rfl, s1⟩
  by_cases z1 : j = 1
  · exact ⟨p2, [.inr "b"], by rw [z1]; exact atI_nat (j := 1) rfl, s2⟩
  by_cases z2 : j = 2
  · exact ⟨p3, [.inr "a", .inl 1], by rw [z2]; exact atI_nat (j := 2) rfl, s3⟩
  · have z3 : j = 3 := by omega
    exact ⟨p4, [.inr "a", .inl 2], by rw [z3]; exact atI_nat (j := 3) rfl, s4⟩
theorem ok_law (T : Tx K mg) : FnG P w K mg base (lv_law + 1) at_law ["_law_script"] (spLaw K) := by
  refine FnG.of (fd_law T) sc_law (by walk_at "ln") (fun cdv A outer s H vs Q E hr h => ?_)
  · obtain ⟨a, ns, rfl, hS, hl, q⟩ := h
    have hs := line1000
    have hu := hu_of hr
    refine ⟨_, (pss_cons (ps_set (i := 1) sc_law.nd rfl (Or.inr rfl) (pe_g (ok_law_state T) (hr.mono (by decide)) (g_law_state T) (pa_cons (pv 0) pa_nil))) (pss_cons (ps_set (i := 2) sc_law.nd rfl (Or.inl rfl) (pe_n0 (mk_Memory T) (ok_Memory_init T) (hr.mono (by decide)) (g_Memory T))) (pss_cons (ps_set (i := 3) sc_law.nd rfl (Or.inl rfl) pe_mnew) (pss_cons (ps_set (i := 4) sc_law.nd rfl (Or.inl rfl) pe_int) (pss_cons (ps_for PassesOwn.never rfl (pi_range1 (by rfl) (b_range T) (pa_cons (pe_g (ok_law_take T) (hr.mono (by decide)) (g_law_take T) (pa_cons (pv 1) (pa_cons pe_int pa_nil))) pa_nil)) (pg_name (i := 5) sc_law.nd rfl (Or.inl rfl)) (pss_cons (ps_set (i := 6) sc_law.nd rfl (Or.inl rfl) (pe_g (ok_law_take T) (hr.mono (by decide)) (g_law_take T) (pa_cons (pv 1) (pa_cons pe_int pa_nil)))) (pss_cons (ps_set (i := 7) sc_law.nd rfl (Or.inl rfl) (pe_ix ix_list (pe_lst (pa_cons (pe_tup (pa_cons pe_str pa_nil)) (pa_cons (pe_tup (pa_cons pe_str pa_nil)) (pa_cons (pe_tup (pa_cons pe_str (pa_cons pe_int pa_nil))) (pa_cons (pe_tup (pa_cons pe_str (pa_cons pe_int pa_nil))) pa_nil))))) (pe_g (ok_law_take T) (hr.mono (by decide)) (g_law_take T) (pa_cons (pv 1) (pa_cons pe_int pa_nil))) (fun _ _ => rfl))) (pss_cons (ps_if (pt_not (pt_val (pe_g (ok_law_access T) (hr.mono (by decide)) (g_law_access T) (pa_cons (pv 1) (pa_cons (pv 2) (pa_cons (pv 3) (pa_cons (pv 6) (pa_cons (pv 7) pa_nil)))))))) (pss_one (ps_ret pe_bl)) pss_nil) (pss_cons (ps_set (i := 4) sc_law.nd rfl (Or.inl rfl) (pe_op op_add (pv 4) (pe_callTy call_int1 (by rfl) (b_int T) (by decide +kernel) (pa_cons (pe_cmpR op_lt (pv 6) pe_int (nomark _)) pa_nil)))) (pss_one (ps_if (pt_cmpR op_ne (pe_fld (pv 2) rfl) (pv 4) (nomark _)) (pss_one (ps_ret pe_bl)) pss_nil))))))) (pss_cons (ps_set (i := 8) sc_law.nd rfl (Or.inr rfl) (pe_lc (own := [("_law_k", 14)]) (g := gName 14) (tt := _) rfl sc_law.nd (pi_range1 (by rfl) (b_range T) (pa_cons (pe_op op_add pe_int (pe_g (ok_law_take T) (hr.mono (by decide)) (g_law_take T) (pa_cons (pv 1) (pa_cons pe_int pa_nil)))) pa_nil)) (blkOk_by (own := [("_law_k", 14)]) (N := n_law) (sc := defScope s_law) (by decide +kernel)) (fun _ _ _ _ _ => pg_name (i := 14) sc_law.nd rfl (Or.inl rfl)) (fun _ _ _ _ _ => pts_nil) (fun _ _ _ _ _ => (pe_op op_add pe_int (pe_g (ok_law_take T) (hr.mono (by decide)) (g_law_take T) (pa_cons (pv 1) (pa_cons pe_int pa_nil))))))) (pss_cons (ps_set (i := 9) sc_law.nd rfl (Or.inl rfl) (pe_g (ok_law_take T) (hr.mono (by decide)) (g_law_take T) (pa_cons (pv 1) (pa_cons pe_int pa_nil)))) (pss_cons (ps_set (i := 10) sc_law.nd rfl (Or.inr rfl) (pe_n (mk_Layout T) (ok_Layout_init T) (hr.mono (by decide)) (g_Layout T) (pa_cons (pv 9) (pa_cons (pv 8) pa_nil)))) (pss_cons (ps_if (PW.pt (pw_or (pt_cmpR op_ne (pe_fld (pv 10) rfl) (pv 9) (nomark _)) (pw_or (pt_cmpR (op_neD hr.units) (pe_fld (pv 10) rfl) (pv 8) (nomark _)) (pw_or1 (pt_cmpR op_ne (pe_fld (pv 10) rfl) (pe_callB (cr_max (by rfl)) (by rfl) (b_max T) (by decide +kernel) (pa_cons (pv 8) pa_nil)) (nomark _)))))) (pss_one (ps_ret pe_bl)) pss_nil) (pss_cons (ps_for PassesOwn.never rfl (pi_range1 (by rfl) (b_range T) (pa_cons (pv 9) pa_nil)) (pg_name (i := 11) sc_law.nd rfl (Or.inr rfl)) (pss_one (ps_for PassesOwn.never rfl (pi_range1 (by rfl) (b_range T) (pa_cons (pe_callB call_len_seq (by rfl) (b_len T) PySem.boot_len (pa_cons (pv 8) pa_nil)) pa_nil)) (pg_name (i := 12) sc_law.nd rfl (Or.inl rfl)) (pss_cons (ps_setLc (i := 13) (own := [("_law_k", 14)]) (g := gName 14) (tt := _) rfl sc_law.nd rfl rfl (sw_true rfl rfl rfl (by decide +kernel)) (pi_range1 (by rfl) (b_range T) (pa_cons (pe_ix ix_list (pv 8) (pv 12) (fun _ _ => rfl)) pa_nil)) (blkOk_by (own := [("_law_k", 14)]) (N := n_law) (sc := defScope s_law) (by decide +kernel)) (fun _ _ _ _ _ => pg_name (i := 14) sc_law.nd rfl (Or.inl rfl)) (fun _ _ _ _ _ => pts_nil) (fun _ _ _ _ _ => (pe_op op_add (pe_op op_mul (pv 11) (pe_callB (cr_maxK (K := K) (by rfl) (by rfl)) (by rfl) (b_max T) (by decide +kernel) (pa_cons (pv 8) pa_nil))) (pv 14)))) (pss_cons (ps_if (PW.pt (pw_or (pt_cmpR (op_neD hr.units) (pe_m (pv 10) (k_Layout T) (me_Layout_objects T) (ok_Layout_objects T) (hr.mono (by decide)) (pa_cons (pv 11) (pa_cons (pv 12) pa_nil))) (pv 13) (nomark _)) (pw_or1 (pt_cmpR (op_neD hr.units) (pe_lc (own := [("_law_number", 15)]) (g := gName 15) (tt := _) rfl sc_law.nd (pi_list (pv 13)) (blkOk_by (own := [("_law_number", 15)]) (N := n_law) (sc := defScope s_law) (by decide +kernel)) (fun _ _ _ _ _ => pg_name (i := 15) sc_law.nd rfl (Or.inl rfl)) (fun _ _ _ _ _ => pts_nil) (fun _ _ _ _ _ => (pe_m (pv 10) (k_Layout T) (me_Layout_page_of T) (ok_Layout_page_of T) (hr.mono (by decide)) (pa_cons (pv 15) pa_nil)))) (pe_lc (own := [("_law_number", 15)]) (g := gName 15) (tt := _) rfl sc_law.nd (pi_list (pv 13)) (blkOk_by (own := [("_law_number", 15)]) (N := n_law) (sc := defScope s_law) (by decide +kernel)) (fun _ _ _ _ _ => pg_name (i := 15) sc_law.nd rfl (Or.inl rfl)) (fun _ _ _ _ _ => pts_nil) (fun _ _ _ _ _ => (pv 11))) (nomark _))))) (pss_one (ps_ret pe_bl)) pss_nil) (pss_one (ps_if (pt_cmpR (op_neD hr.units) (pe_lc (own := [("_law_k", 14)]) (g := gName 14) (tt := _) rfl sc_law.nd (pi_range1 (by rfl) (b_range T) (pa_cons (pe_callB call_len_seq (by rfl) (b_len T) PySem.boot_len (pa_cons (pv 13) pa_nil)) pa_nil)) (blkOk_by (own := [("_law_k", 14)]) (N := n_law) (sc := defScope s_law) (by decide +kernel)) (fun _ _ _ _ _ => pg_name (i := 14) sc_law.nd rfl (Or.inl rfl)) (fun _ _ _ _ _ => pts_nil) (fun _ _ _ _ _ => (pe_m (pv 10) (k_Layout T) (me_Layout_object_of T) (ok_Layout_object_of T) (hr.mono (by decide)) (pa_cons (pv 11) (pa_cons (pv 14) pa_nil))))) (pv 13) (nomark _)) (pss_one (ps_ret pe_bl)) pss_nil))))))) (pss_one (ps_ret pe_bl)))))))))))), ?_⟩
    walk_at "ds"
    -- the law's state, the memory, the dict
    refine ⟨_, rfl, a, ns, [], rfl, hS, hl, Has.nil, fun st H1 s1 t1 => ?_⟩
    intro m dm nm ndm nex
    obtain ⟨cl, pos, ms, ok, h1⟩ := s1
    have h2 := (h1.skip (o := .own m) ndm)
    have n2 : upd H1 dm (.own m) m = none := by rw [upd_ne (Ne.symm nex)]; exact nm
    have h3 := h2.new (o := .ins (c_Memory K) dm []) n2
    generalize upd (upd H1 dm (.own m)) m (.ins (c_Memory K) dm []) = H3 at h3 ⊢
    refine ⟨m, dm, _, rfl, h3, fun d H4 h4 t4 => ⟨rfl, fun lc nlc => ?_⟩⟩
    have h5 := h4.new (o := dicO P w lc []) nlc
    generalize upd H4 lc (dicO P w lc []) = H5 at h5 ⊢
    have g5 : GR K H5 [] (fun _ => .n 0) := ⟨fun _ h => (nomatch h), fun ks => rfl⟩
    have a5 : A01 P w K st m lc 0 0 [] H5 := ⟨dm, d, [], [], _, ⟨cl, pos, ms, ok, (by walk_at "hp")⟩, g5, g5, Nat.le_refl _, Nat.le_refl _⟩
    clear h5 h4 h3 h2 h1 n2 t4 t1
    -- for _law_turn in range(_law_take(_law_state_here, 41))
    obtain ⟨dm5, d5, xs5, ys5, f5, ⟨cl5, pos5, ns5, ok5, h5⟩, gx5, gy5, lx5, ly5⟩ := a5
    walk_at "v"; walk_at "tk1"; rename_i r6 H6 a6 b6 cl6 pos6 ns6 ok6 h6 t6
    have a6' : A01 P w K st m lc 0 0 [] H6 := ⟨dm5, d5, xs5, ys5, f5, ⟨cl6, pos6, ns6, ok6, h6⟩, gx5.tk t6, gy5.tk t6, lx5, ly5⟩
    clear h5 h6 gx5 gy5 t6
    refine ⟨r6, rfl, by omega, by omega, ?_⟩
    refine for_range (lo := 0) (n := r6.toNat) (fun i σ H => ∃ (n : Int) (v5 v6 v7 : Option V), σ = [some (.ref a), some (.ref st), some (.ref m), some (.ref lc), some (.int n), v5, v6, v7, none, none, none, none, none, none, none, none] ∧ A01 P w K st m lc n i [] H)
      ⟨0, none, none, none, rfl, a6'⟩ ?_ ?_
    · rintro i σ H7 hi ⟨n, v5, v6, v7, rfl, dm, d, xs, ys, f, ⟨cl, pos, ms, ok, h0⟩, gx, gy, lx, ly⟩
      -- _law_kind, _law_cell
      walk_at "v"; walk_at "tk1"; rename_i kind H8 k0 k5 cl8 pos8 ns8 ok8 h8 t8
      refine ⟨by show 1 ≤ sizeLine; decide, fun p1 n1 => ?_⟩
      have e1 := h8.skip (o := .tup [.str "a"]) n1
      have u1 := Tk.new (o := .tup [.str "a"]) n1
      have s1 : SqT K (upd H8 p1 (.tup [.str "a"])) p1 [.str "a"] := sqt_new
      generalize upd H8 p1 (.tup [.str "a"]) = H9 at e1 u1 s1 ⊢
      refine ⟨by show 1 ≤ sizeLine; decide, fun p2 n2 => ?_⟩
      have e2 := e1.skip (o := .tup [.str "b"]) n2
      have u2 := Tk.new (o := .tup [.str "b"]) n2
      have s2 : SqT K (upd H9 p2 (.tup [.str "b"])) p2 [.str "b"] := sqt_new
      generalize upd H9 p2 (.tup [.str "b"]) = H10 at e2 u2 s2 ⊢
      refine ⟨by show 2 ≤ sizeLine; decide, fun p3 n3 => ?_⟩
      have e3 := e2.skip (o := .tup [.str "a", .int 1]) n3
      have u3 := Tk.new (o := .tup [.str "a", .int 1]) n3
      have s3 : SqT K (upd H10 p3 (.tup [.str "a", .int 1])) p3 [.str "a", .int 1] := sqt_new
      generalize upd H10 p3 (.tup [.str "a", .int 1]) = H11 at e3 u3 s3 ⊢
      refine ⟨by show 2 ≤ sizeLine; decide, fun p4 n4 => ?_⟩
      have e4 := e3.skip (o := .tup [.str "a", .int 2]) n4
      have u4 := Tk.new (o := .tup [.str "a", .int 2]) n4
      have s4 : SqT K (upd H11 p4 (.tup [.str "a", .int 2])) p4 [.str "a", .int 2] := sqt_new
      generalize upd H11 p4 (.tup [.str "a", .int 2]) = H12 at e4 u4 s4 ⊢
      refine ⟨by show 4 ≤ sizeLine; decide, fun l nl => ?_⟩
      have e5 := e4.new (o := .lst [.ref p1, .ref p2, .ref p3, .ref p4]) nl
      have u5 := Tk.new (o := .lst [.ref p1, .ref p2, .ref p3, .ref p4]) nl
      generalize upd H12 l (.lst [.ref p1, .ref p2, .ref p3, .ref p4]) = H13 at e5 u5 ⊢
      walk_at "v"; walk_at "tk1"; rename_i r14 H14 a14 b14 cl14 pos14 ns14 ok14 h14 t14
      have tt : Tk H8 H14 := by walk_at "tk"
      obtain ⟨p, ks, hat, hp⟩ := keys4 r14 a14 b14 K H14 p1 p2 p3 p4 (by walk_at "sq") (by walk_at "sq") (by walk_at "sq") (by walk_at "sq")
      refine ⟨l, _, _, _, rfl, rfl, SqL.of (by walk_at "at"), hat, ?_⟩
      have h15 := h14.b2.tail
      have t7 : Tk H7 H14 := t8.trans tt
      have gx' := gx.tk t7
      have gy' := gy.tk t7
      clear h14 e5 e4 e3 e2 e1 s1 s2 s3 s4 u1 u2 u3 u4 u5 t14 tt t8 h8 h0 t7 gx gy
      -- if not _law_access(..)
      refine ⟨_, rfl, _, rfl, _, rfl, _, rfl, _, rfl, st, m, lc, p, kind, n, i, ks, [], rfl, ⟨dm, d, xs, ys, f, ⟨cl14, pos14, ns14, ok14, h15⟩, gx', gy', lx, ly⟩, hp, by omega, k0, k5, fun H16 a16 t16 => ⟨_, rfl, ?_⟩⟩
      refine iteF ?_
      -- _law_count
      obtain ⟨dm', d', xs', ys', f', ⟨cl', pos', ms', ok', h'⟩, gx', gy', lx', ly'⟩ := a16
      refine ⟨_, rfl, _, rfl, _, _, rfl, rfl, .inr ⟨_, rfl, _, _, rfl, rfl, ?_⟩⟩
      refine ⟨_, rfl, m, _, _, _, _, rfl, h'.g2, k_Memory T, na_Memory_accesses T, l_Memory_accesses, _, rfl, rfl, _, rfl, ?_⟩
      have ec : (if kind < 3 then n + 1 else n) = n + (if decide (kind < 3) = true then 1 else 0) := by
        by_cases z : kind < 3
        · rw [if_pos z, if_pos (decide_eq_true z)]
        · rw [if_neg z, if_neg (by simpa using z), Int.add_zero]
      refine if_f ?_ ?_
      · rw [ec, decide_eq_true rfl]; rfl
      · refine ⟨_, _, _, _, rfl, ?_⟩
        rw [← ec]
        exact ⟨dm', d', xs', ys', f', ⟨cl', pos', ms', ok', h'⟩, gx', gy', lx', ly'⟩
    · rintro σ H7 ⟨n, v5, v6, v7, rfl, dm, d, xs, ys, f, ⟨cl, pos, ms, ok, h0⟩, gx, gy, lx, ly⟩
      clear gx gy lx ly
      -- _law_sizes
      walk_at "v"; walk_at "tk1"; rename_i r8 H8 a8 b8 cl8 pos8 ns8 ok8 h8 t8
      refine ⟨_, _, rfl, rfl, _, rfl, by omega, by omega, fun D nD => ?_⟩
      refine lc_range (fun i H => ∃ (ss : List Int), ss.length = i ∧ (∀ s ∈ ss, 1 ≤ s ∧ s < 7) ∧ LSt st [(D, .lst (ss.map V.int))] H) ?_ ?_ ?_
      · have h9 := (h8.new (o := .lst []) nD).f2.app1 (L := [_, _, _])
        exact ⟨[], rfl, fun s h => (nomatch h), ⟨cl8, pos8, ns8, ok8, h9⟩⟩
      · rintro i H9 hi ⟨ss, hss, hb, cl9, pos9, ns9, ok9, h9⟩
        refine ⟨rfl, ty_if ?_⟩
        walk_at "v"; walk_at "tk1"; rename_i r10 H10 a10 b10 cl10 pos10 ns10 ok10 h10 t10
        refine ⟨_, _, rfl, rfl, _, h10.g2, by rw [List.length_map]; omega, ss ++ [1 + r10], by rw [List.length_append, hss]; rfl, fun s h => ?_, cl10, pos10, ns10, ok10, ?_⟩
        · rcases List.mem_append.mp h with h | h
          · exact hb s h
          · rw [List.mem_singleton.mp h]; omega
        · rw [List.map_append]
          exact h10.u2
      · rintro H9 ⟨ss, hss, hb, cl9, pos9, ns9, ok9, h9⟩
        have hss0 : 0 < ss.length := by omega
        have hss4 : ss.length ≤ 4 := by omega
        -- _law_pages, _law_layout
        walk_at "v"; walk_at "tk1"; rename_i pg H10 p0 p7 cl10 pos10 ns10 ok10 h10 t10
        have h11 : Has [(D, .lst (ss.map V.int))] H10 := h10.tail.tail
        clear h10 h9 h8 h0
        refine ⟨_, rfl, _, rfl, ?_⟩
        intro ly dl nly ndl nex'
        have h12 := h11.skip (o := .own ly) ndl
        have n2 : upd H10 dl (.own ly) ly = none := by rw [upd_ne (Ne.symm nex')]; exact nly
        have h13 := h12.new (o := .ins (c_Layout K) dl []) n2
        generalize upd (upd H10 dl (.own ly)) ly (.ins (c_Layout K) dl []) = H13 at h13 ⊢
        refine ⟨ly, dl, D, pg, ss, _, rfl, h13, SqL.of h13.g1, List.mem_cons_self .., hss0, fun l most H14 hmx h14 t14 => ⟨rfl, ?_⟩⟩
        have hm0 : 1 ≤ most := (hb most hmx.1).1
        have hm7 : most < 7 := (hb most hmx.1).2
        clear h13 h12 h11 n2
        -- the first test
        refine ⟨_, rfl, ly, _, dl, _, _, rfl, h14.g0, k_Layout T, na_Layout_pages T, l_Layout_pages, _, rfl, rfl, _, rfl, ?_⟩
        refine if_f (by rw [decide_eq_true rfl]; rfl) ?_
        refine ⟨_, rfl, ly, _, dl, _, _, rfl, h14.g0, k_Layout T, na_Layout_sizes T, l_Layout_sizes, _, rfl, dIs ss, dIs ss, dp_is (SqL.of h14.g1), dp_is (SqL.of h14.g2), shp_is ss, shp_is ss, _, rfl, ?_⟩
        refine if_f (by rw [eqv_is, decide_eq_true rfl]; rfl) ?_
        refine ⟨_, rfl, ly, _, dl, _, _, rfl, h14.g0, k_Layout T, na_Layout_most T, l_Layout_most, _, rfl, D, ss, rfl, SqL.of h14.g2, hss0, fun mm hmm hle => ?_⟩
        have emm : most = mm := hmx.eq ⟨hmm, hle⟩
        refine ⟨rfl, _, rfl, ?_⟩
        refine if_f (by rw [emm, decide_eq_true rfl]; rfl) ?_
        -- for _law_page, for _law_size
        refine ⟨_, rfl, pg, rfl, by omega, by omega, ?_⟩
        refine for_range (lo := 0) (n := pg.toNat) (fun i σ H => ∃ (v11 v12 v13 : Option V) , σ = [some (.ref a), some (.ref st), some (.ref m), some (.ref lc), some (.int n), v5, v6, v7, some (.ref D), some (.int pg), some (.ref ly), v11, v12, v13, none, none] ∧ Has [(ly, layO K dl l pg most), (l, .lst (ss.map V.int)), (D, .lst (ss.map V.int))] H)
          ⟨none, none, none, rfl, h14⟩ ?_ (fun σ H _ => q H)
        rintro i σ H15 hi ⟨v11, v12, v13, rfl, h15⟩
        refine ⟨_, rfl, D, _, rfl, .inl (SqL.of h15.g2), ?_⟩
        refine ⟨_, rfl, by omega, by rw [List.length_map]; omega, ?_⟩
        rw [List.length_map]
        refine for_range (lo := 0) (n := ss.length) (fun j σ H => ∃ (v12 v13 : Option V) , σ = [some (.ref a), some (.ref st), some (.ref m), some (.ref lc), some (.int n), v5, v6, v7, some (.ref D), some (.int pg), some (.ref ly), some (.int (0 + i)), v12, v13, none, none] ∧ Has [(ly, layO K dl l pg most), (l, .lst (ss.map V.int)), (D, .lst (ss.map V.int))] H)
          ⟨v12, v13, rfl, h15⟩ ?_ ?_
        · rintro j σ H16 hj ⟨v12, v13, rfl, h16⟩
          have hsj : ss[j]? = some ss[j] := List.getElem?_eq_getElem hj
          have hsb := hb ss[j] (List.getElem_mem hj)
          have hsm := hmx.2 ss[j] (List.getElem_mem hj)
          generalize ss[j] = sj at hsj hsb hsm
          -- _law_due
          refine ⟨_, rfl, _, rfl, D, _, _, _, rfl, rfl, SqL.of h16.g2, atI_at (v := .int sj) j (by omega) (by rw [List.getElem?_map, hsj]; rfl), ?_⟩
          refine ⟨sj, rfl, by omega, by omega, fun E nE => ?_⟩
          refine lc_rng (fun k => .int ((i : Int) * most + (k : Int))) nE (by omega) (fun k acc Q' hk q' => ?_) ?_
          · have hD : (upd H16 E (.lst acc)) D = some (.lst (ss.map V.int)) := by rw [upd_ne (ne_of_none h16.g2 nE)]; exact h16.g2
            refine ⟨_, rfl, _, rfl, D, ss, rfl, SqL.of hD, hss0, fun mm hmm hle => ?_⟩
            have emm : most = mm := hmx.eq ⟨hmm, hle⟩
            refine ⟨_, _, rfl, rfl, .inr ⟨by omega, by omega⟩, _, rfl, _, _, rfl, rfl, ?_⟩
            rw [← emm, Int.zero_add, Int.zero_add]
            exact q'
          have eo : (List.range sj.toNat).map (fun (k : Nat) => V.int ((i : Int) * most + (k : Int))) = (objs most i sj).map V.int := by unfold objs; rw [List.map_map]; rfl
          rw [eo]
          have h17 := h16.new (o := .lst ((objs most i sj).map V.int)) nE
          generalize upd H16 E (.lst ((objs most i sj).map V.int)) = H17 at h17 ⊢
          have lo : (objs most i sj).length = sj.toNat := by unfold objs; rw [List.length_map, List.length_range]
          -- layout.objects(..) != due
          refine ⟨_, rfl, ly, dl, _, rfl, h17.g1, o_Layout_objects, _, rfl, _, rfl, ly, dl, l, pg, most, i, j, ss, sj, by simp, h17.g1, by omega, by omega, h17.g2, hsj, by omega, by omega, fun F nF => ?_⟩
          have h18 := h17.new (o := .lst ((objs most i sj).map V.int)) nF
          generalize upd H17 F (.lst ((objs most i sj).map V.int)) = H18 at h18 ⊢
          refine ⟨_, rfl, dIs (objs most i sj), dIs (objs most i sj), dp_is (SqL.of h18.g0), dp_is (SqL.of h18.g1), shp_is _, shp_is _, _, rfl, ?_⟩
          refine if_f (by rw [eqv_is, decide_eq_true rfl]; rfl) ?_
          have h19 := h18.tail
          clear h18
          -- [page_of ..] != [page ..]
          refine ⟨_, rfl, E, rfl, ⟨_, SqL.of h19.g0⟩, fun F2 nF2 => ?_⟩
          refine lc_int (ns := objs most i sj) (fun _ => true) (fun _ => (i : Int)) nF2 (SqL.of h19.g0) (by rw [lo]; omega) (fun x acc Q' _ q' => q') (fun x acc Q' hx _ q' => ?_) ?_
          · have hy : (upd H18 F2 (.lst acc)) ly = some (layO K dl l pg most) := by rw [upd_ne (ne_of_none h19.g1 nF2)]; exact h19.g1
            refine ⟨_, rfl, ly, dl, _, rfl, hy, o_Layout_page_of, _, rfl, ly, dl, l, pg, most, x, rfl, hy, by omega, by omega, ?_⟩
            unfold objs at hx
            obtain ⟨k, hk, rfl⟩ := List.mem_map.mp hx
            have hk' := List.mem_range.mp hk
            have ed : ((i : Int) * most + (k : Int)) / most = i := by
              rw [Int.add_comm, Int.add_mul_ediv_right _ _ (by omega), Int.ediv_eq_zero_of_lt (by omega) (by omega), Int.zero_add]
            rw [ed]
            exact q'
          generalize hX : ((objs most i sj).filter fun _ => true).map (fun _ => (i : Int)) = X
          have h20 := h19.new (o := .lst (X.map V.int)) nF2
          generalize upd H18 F2 (.lst (X.map V.int)) = H20 at h20 ⊢
          refine ⟨_, rfl, E, rfl, ⟨_, SqL.of h20.g1⟩, fun F3 nF3 => ?_⟩
          refine lc_int (ns := objs most i sj) (fun _ => true) (fun _ => (i : Int)) nF3 (SqL.of h20.g1) (by rw [lo]; omega) (fun x acc Q' _ q' => q') (fun x acc Q' hx _ q' => ⟨_, rfl, by rw [Int.zero_add]; exact q'⟩) ?_
          rw [hX]
          have h21 := h20.new (o := .lst (X.map V.int)) nF3
          generalize upd H20 F3 (.lst (X.map V.int)) = H21 at h21 ⊢
          refine ⟨dIs X, dIs X, dp_is (SqL.of h21.g1), dp_is (SqL.of h21.g0), shp_is _, shp_is _, _, rfl, ?_⟩
          refine if_f (by rw [eqv_is, decide_eq_true rfl]; rfl) ?_
          have h22 := h21.tail.tail
          clear h21 h20 h19
          -- [object_of ..] != due
          refine ⟨_, rfl, E, _, rfl, .inl (SqL.of h22.g0), ?_⟩
          refine ⟨_, rfl, by omega, by rw [List.length_map, lo]; omega, fun F4 nF4 => ?_⟩
          refine lc_rng (fun k => .int ((i : Int) * most + (k : Int))) nF4 (by rw [List.length_map, lo]; omega) (fun k acc Q' hk q' => ?_) ?_
          · have hy : (upd H21 F4 (.lst acc)) ly = some (layO K dl l pg most) := by rw [upd_ne (ne_of_none h22.g1 nF4)]; exact h22.g1
            refine ⟨_, rfl, ly, dl, _, rfl, hy, o_Layout_object_of, _, rfl, _, rfl, ly, dl, l, pg, most, _, _, rfl, hy, by omega, by omega, ?_⟩
            rw [Int.zero_add, Int.zero_add]
            exact q'
          have eo2 : (List.range (((objs most i sj).map V.int).length : Int).toNat).map (fun (k : Nat) => V.int ((i : Int) * most + (k : Int))) = (objs most i sj).map V.int := by rw [List.length_map, lo]; exact eo
          rw [eo2]
          have h23 := h22.new (o := .lst ((objs most i sj).map V.int)) nF4
          generalize upd H21 F4 (.lst ((objs most i sj).map V.int)) = H23 at h23 ⊢
          refine ⟨_, rfl, dIs (objs most i sj), dIs (objs most i sj), dp_is (SqL.of h23.g0), dp_is (SqL.of h23.g1), shp_is _, shp_is _, _, rfl, ?_⟩
          refine if_f (by rw [eqv_is, decide_eq_true rfl]; rfl) ?_
          exact ⟨_, _, rfl, h23.tail.tail⟩
        · rintro σ H16 ⟨v12, v13, rfl, h16⟩
          exact ⟨_, _, _, rfl, h16⟩
end

/-! ## End -/
end Sw
set_option Elab.async false
set_option linter.all false
set_option maxRecDepth 100000
set_option maxHeartbeats 0
namespace Sw
open PySem PySem.Spec PyProof.Rows L2
abbrev Rr : PySem.W.OpenRow := PySem.W.OpenLaw.row PySem.Challenge.rw_slabwarren_k01_memory_and_layout
abbrev hk : PySem.W.Hook := hookM 7 fa fn tb
def ob (s : PySem.W.SharedT) : AlM := obsMG 7 fa fn tb (HandSHeadRun.getT s)
theorem ob_eq (s : PySem.W.SharedT) : ob s = hk.obs s.abs := obsMG_eq (HandSHeadRun.getT_eq s)
theorem run (w : World) : HandSHeadRun.RunEq Rr (PySem.W.view Rr.prog [9]) hk ob 3000 loose w := by
  intro os
  kernel_rfl
theorem facts {P : Program} {w : World} {K : PySem.W.Frag} {h : Heap} {mg : Str → Option Value} {f : Addr} (X : K.In h) (G : h.Ns mainGlobals mg) (hfa : mg ("law" : Str) = some (.ref f)) (c : obsM fa fn tb K = (true, He.valD fn)) :
    ∃ fd : FuncData, (∀ (s : Shared) (v : Value), BindsTo s fd ⟨[v], []⟩ [("_law_script", v)]) ∧ ∀ base : Heap, K.In base → base.Ns mainGlobals mg → FnOk P w K mg base CX0 (lv_law + 1) f fd ["_law_script"] (spLaw K) := by
  have T : Tx K mg := Tx0.of X G c
  have e := hfa.symm.trans (g_law T)
  cases e
  obtain ⟨fd0, F0⟩ := T.says.def_ 14 (d := dd_law) rfl
  have b := FunD.bindsA (ps := ["_law_script"]) F0 fun _ _ _ _ _ _ us hl => match us, hl with | [_], _ => rfl
  refine ⟨fd0, fun s v => b s [v] rfl, fun base _ _ => ?_⟩
  obtain ⟨fd, F, _, _, oc2, od2, osl2, lk2⟩ := ok_law (P := P) (w := w) (base := base) T
  obtain ⟨oc, od, dV, kV, doc, pm, an, cdv, ct, osl, _, lk, _⟩ := F0.ex
  have e2 : fd = fd0 := by
    have lk3 : K.lookup (He.fAd K at_law) = some ⟨oc, od, .func fd0, osl⟩ := lk
    rw [lk3] at lk2
    cases lk2
    rfl
  rw [← e2]
  exact F
end Sw
open PySem PySem.W PySem.Calls PyProof.Rows
theorem PySem.Challenge.cw_slabwarren_k01_memory_and_layout_holds : PySem.Challenge.rw_slabwarren_k01_memory_and_layout.Holds := by
  w_on; o_law
  refine HandSHeadRun.head_any (r := OpenLaw.row PySem.Challenge.rw_slabwarren_k01_memory_and_layout) (q := view (OpenLaw.row PySem.Challenge.rw_slabwarren_k01_memory_and_layout).prog [9]) (H := Sw.hk) (ob := Sw.ob) (M := 3000) (loose := Sw.loose) (d := HandSHeadRun.topDef (OpenLaw.row PySem.Challenge.rw_slabwarren_k01_memory_and_layout).prog 9) (kwd := []) Sw.ob_eq
    (by kernel_rfl) (fun s => by kernel_rfl) Sw.run (by kernel_rfl) (by kernel_rfl) (by kernel_rfl) (by rfl) (by first | assumption | decide +kernel) (by decide +kernel) ⟨rfl, rfl, rfl, rfl, rfl, by decide +kernel⟩ ?hw ?hc
  case hw => w_witness2
  case hc =>
    refine L2.walk_ofE (l := PySem.Challenge.rw_slabwarren_k01_memory_and_layout) (n := 63) (k := Sw.lv_law + 1) (x := "_law_script") (CX := L2.CX0) rfl (by decide) (by kernel_rfl) ⟨rfl, by decide, by decide⟩ ?F (fun _ _ _ _ z => z)
    intro w mg fa h Y G hmg0
    obtain ⟨K, KX, c⟩ := Y
    have hmg : mg ("law" : PySem.Str) = some (.ref fa) := by
      have e : (HandSHeadRun.topDef (OpenLaw.row PySem.Challenge.rw_slabwarren_k01_memory_and_layout).prog 9).name = ("law" : PySem.Str) := by kernel_rfl
      rw [← e]
      exact hmg0
    obtain ⟨fd, hb, hF⟩ := Sw.facts (P := (PySem.Challenge.rw_slabwarren_k01_memory_and_layout).prog) (w := w) KX G hmg c
    exact ⟨K, fd, Sw.spLaw K, KX, hb, fun H a ns hl _ hS => ⟨a, ns, rfl, hS, hl, fun _ => rfl⟩, hF⟩
