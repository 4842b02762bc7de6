import PyProof.Rows.All
import Wide.All
import OpenK.AllK
import Wide.FinOn
import HandS.ForMost
import HandS.Evl
import HandS.Wide
import HandS.Walk
import HandS.Zip
import KE.GoesEnum
import HandS.ClsMeth
import HandS.Conv
import HandS.Exc
import HandS.ForExc
import KE.KSuper
import KE.KExcSuper
import KE.KExcMake
import HandS.SetFor
import HandS.Strs
import HandS.TupAny
import KE.KOpsOwn
import HandS.Defaults
import KE.SortData
import HandS.Codes
import HandS.Head0
import HandS.Head1
import HandS.Head2
import HandS.HeadEnd
import HandS.HeadHook1
import HandS.HeadHook2
import HandS.Base
import HandS.Call
import HandS.Ends
import HandS.More
import PySem.Challenge.RW_everyfield_k62_whole_bad_squares_and_dua
set_option Elab.async false
set_option linter.all false
set_option maxRecDepth 100000
set_option maxHeartbeats 4000000
section
/-! B0: the text by places, callees, pure values, lists of lists in the heap. -/
namespace Ef
open PySem PySem.Spec PyProof.Rows L2 Evl
def topS (i : Nat) : Stmt := PySem.Challenge.pw_everyfield_k62_whole_bad_squares_and_dua.main.body.getD i (.Pass ⟨0, 0, 0, 0⟩)

/-! ### callees -/
structure Clb (P : Program) (w : World) (K : PySem.W.Frag) (mg : Str → Option Value) (base : Heap) (CX : CXT) (x : Str) (k : Nat) (ps : List Str) (sp : Sp) : Prop where
  ex : ∃ f fd, FnOk P w K mg base CX k f fd ps sp ∧ mg x = some (.ref f) ∧ PySem.W.keepIn K (.ref f) = true ∧ Binds K fd ps []
structure MClb (P : Program) (w : World) (K : PySem.W.Frag) (mg : Str → Option Value) (base : Heap) (CX : CXT) (C : Addr) (m : Str) (k : Nat) (ps : List Str) (sp : Sp) : Prop where
  ex : ∃ f fd, FnOk P w K mg base CX k f fd ps sp ∧ Meth K C m f ∧ Binds K fd ps []
structure KClb (P : Program) (w : World) (K : PySem.W.Frag) (mg : Str → Option Value) (base : Heap) (CX : CXT) (C : Addr) (x : Str) (k : Nat) (ps : List Str) (sp : Sp) : Prop where
  ex : ∃ f fd, FnOk P w K mg base CX k f fd ps sp ∧ Mk K C f ∧ mg x = some (.ref C) ∧ Binds K fd ps []
/-- what the text says of a def, of a method -/
structure DefOk (K : PySem.W.Frag) (mg : Str → Option Value) (x : Str) (st : Stmt) (ps : List Str) : Prop where
  ex : ∃ f fd, Fun K x x st f fd ∧ mg x = some (.ref f) ∧ Binds K fd ps []
structure MethOk (K : PySem.W.Frag) (C : Addr) (m qual : Str) (st : Stmt) (ps : List Str) : Prop where
  ex : ∃ f fd, Fun K m qual st f fd ∧ Meth K C m f ∧ Binds K fd ps []
structure InitOk (K : PySem.W.Frag) (mg : Str → Option Value) (C : Addr) (x qual : Str) (st : Stmt) (ps : List Str) : Prop where
  ex : ∃ f fd, Fun K "__init__" qual st f fd ∧ Mk K C f ∧ mg x = some (.ref C) ∧ Binds K fd ps []
section
variable {X : Cx} {CX : CXT} {k : Nat} {C : Addr} {ps : List Str} {sp : Sp} {E : XK} {x m : Str} {p pos apos : Pos} {e o : Expr} {es : List Expr} {ta : TE} {t : TA}
theorem pe_cal (C : Clb X.prog X.w X.K X.mg X.base CX x k ps sp) (hr : Room k X.A) (hg : Gl X x) (hx : Passes CX X E) (ha : PA X (e :: es) t)
    (hdb : (x == ("__debug__" : Str)) = false := by decide) (he : starEach (e :: es) X.env = (false, eval e X.env) :: starEach es X.env := by rfl) (hpl : (backTo pos (starEach es X.env)).any (·.1) = false := by rfl) :
    PE X (.Call (.Name x p) (e :: es) [] pos) (tCall sp [] E t) := by
  obtain ⟨f, fd, F, gm, kp, b⟩ := C.ex
  exact pe_call F hr hg gm kp b .nil hx ha hdb he hpl
theorem pe_cal0 (C : Clb X.prog X.w X.K X.mg X.base CX x k ps sp) (hr : Room k X.A) (hg : Gl X x) (hx : Passes CX X E) (hdb : (x == ("__debug__" : Str)) = false := by decide) : PE X (.Call (.Name x p) [] [] pos) (tCall sp [] E tNil) := by
  obtain ⟨f, fd, F, gm, kp, b⟩ := C.ex
  exact pe_call0 F hr hg gm kp b .nil hx hdb
theorem pe_mth {pl : Sem Bool} (he : PE X o ta) (c : Cls X.K C) (M : MClb X.prog X.w X.K X.mg X.base CX C m k ps sp) (hr : Room k X.A) (hx : Passes CX X E) (ha : PA X (e :: es) t)
    (hst : starEach (e :: es) X.env = (false, eval e X.env) :: starEach es X.env := by rfl) (hpl : (backTo pos (starEach es X.env)).any (·.1) = false := by rfl)
    (ht : eval (.Call (.Attribute o m apos) (e :: es) [] pos) X.env = (do
      let ov ← eval o X.env
      standAt apos.atName
      let (f, first) ← holding [ov] (getMethod ov m pl)
      callWith pos f first (backTo pos (starEach (e :: es) X.env)) (backToKw pos (keywordEach [] X.env))) := by rfl) :
    PE X (.Call (.Attribute o m apos) (e :: es) [] pos) (tMeth C m sp [] E ta t) := by
  obtain ⟨f, fd, F, hm, b⟩ := M.ex
  exact pe_meth he c hm F hr b .nil hx ha hst hpl ht
theorem pe_mth0 {pl : Sem Bool} (he : PE X o ta) (c : Cls X.K C) (M : MClb X.prog X.w X.K X.mg X.base CX C m k ps sp) (hr : Room k X.A) (hx : Passes CX X E)
    (ht : eval (.Call (.Attribute o m apos) [] [] pos) X.env = (do
      let ov ← eval o X.env
      standAt apos.atName
      let (f, first) ← holding [ov] (getMethod ov m pl)
      callWith pos f first (backTo pos (starEach [] X.env)) (backToKw pos (keywordEach [] X.env))) := by rfl) :
    PE X (.Call (.Attribute o m apos) [] [] pos) (tMeth C m sp [] E ta tNil) := by
  obtain ⟨f, fd, F, hm, b⟩ := M.ex
  exact pe_meth0 he c hm F hr b .nil hx ht
theorem pe_mak (M : KClb X.prog X.w X.K X.mg X.base CX C x k ps sp) (hr : Room (k + 1) X.A) (hg : Gl X x) (hx : Passes CX X E) (ha : PA X (e :: es) t)
    (hdb : (x == ("__debug__" : Str)) = false := by decide) (he : starEach (e :: es) X.env = (false, eval e X.env) :: starEach es X.env := by rfl) (hpl : (backTo pos (starEach es X.env)).any (·.1) = false := by rfl) :
    PE X (.Call (.Name x p) (e :: es) [] pos) (tMake C sp [] E t) := by
  obtain ⟨f, fd, F, mk, gm, b⟩ := M.ex
  exact pe_make mk F hr hg gm b .nil hx ha hdb he hpl
end

/-! ### operators on ints of moderate size -/
/-- // by a divisor other than 0; below 2 ^ 9000, or the dividend below 2 ^ 13500 -/
def CDivX (i j : Int) : Prop := j ≠ 0 ∧ (i.natAbs.log2 < 13500 ∨ j.natAbs.log2 < 9000)
theorem noPylong_of {i j : Int} (h : i.natAbs.log2 < 13500 ∨ j.natAbs.log2 < 9000) : Builtin.divisionGoesByPylong i j = false := by
  rcases h with h | h
  · have k1 : (if i == 0 then 0 else i.natAbs.log2 / 30 + 1) ≤ 450 := by
      by_cases hi : (i == 0) = true
      · rw [if_pos hi]; exact Nat.zero_le _
      · rw [if_neg hi]; omega
    show (decide ((if j == 0 then 0 else j.natAbs.log2 / 30 + 1) > 300) && decide ((if i == 0 then 0 else i.natAbs.log2 / 30 + 1) > (if j == 0 then 0 else j.natAbs.log2 / 30 + 1) + 150)) = false
    by_cases hj : (if j == 0 then 0 else j.natAbs.log2 / 30 + 1) > 300
    · rw [decide_eq_true hj, decide_eq_false (by omega)]
      rfl
    · rw [decide_eq_false hj]
      rfl
  · exact PyProof.noPylong_of_log2 h
section
variable {X : Cx}
theorem op_fdivX : OpR X (binaryOp .FloorDiv) (rI CDivX fun i j => .int (i.fdiv j)) := opI fun _ _ _ _ _ _ _ hc q => floordiv_int hc.1 q (.inl (noPylong_of hc.2))
/-- * where one is small, or both of less than a million bits together -/
def CMulX (i j : Int) : Prop := CMul i j ∨ CMulW i j
theorem op_mulX : OpR X (binaryOp .Mult) (rI CMulX fun i j => .int (i * j)) := opI fun _ _ _ _ _ _ _ hc q => mul_int q (hc.elim (fun h => h.ok) fun h => h.ok)
/-- xs[i] ahead of xs[i] op= e -/
def rGetL (K : PySem.W.Frag) : V → V → Hp → VK → Prop := fun x y H Q => ∃ p xs i v, x = .ref p ∧ y = .int i ∧ SqL K H p xs ∧ atI xs i = some v ∧ Q v H
end
end Ef
end
section
/-! B1: pure values by what is true of them; lists and tuples of ints, of lists, in the heap. -/
namespace Ef
open PySem PySem.Spec PyProof.Rows L2 Evl
section
variable {X : Cx}
theorem get_list : PGet X (fun x y H Q => ∃ p xs, ∃ (i : Nat), ∃ v, x = .ref p ∧ y = .int i ∧ SqL X.K H p xs ∧ xs[i]? = some v ∧ Q v H) := by
  intro pins s σ H o i ov iv Q I ro ri h
  obtain ⟨p, xs, n, v, rfl, rfl, hq, he, q⟩ := h
  cases ro
  obtain ⟨t, rfl⟩ := ri
  obtain ⟨its, r, pl, hz⟩ := I.list hq
  obtain ⟨w, ew, rw'⟩ := r.get he
  have hl : n < xs.length := (List.getElem?_eq_some_iff.mp he).1
  have h6 : sizeLine = 16777216 := sizeLine_eq
  exact wpAny_getItem_list pl.isList (by omega) (by omega) (by simpa using ew) ⟨v, H, I, rw', q⟩
end
/-! ### a value with a property -/
abbrev VP := V → Hp → Prop
def Mono (P : VP) : Prop := ∀ v H H', Ex H H' → P v H → P v H'
def EvP (te : TE) (σ : L2.St) (H : Hp) (P : VP) : Prop := ∀ H1, Ex H H1 → ∀ Q : VK, (∀ v H2, Ex H1 H2 → P v H2 → Q v H2) → te σ H1 Q
/-- arguments -/
def EvAP (ta : TA) (σ : L2.St) (H : Hp) (P : List V → Hp → Prop) : Prop := ∀ H1, Ex H H1 → ∀ Q : List V → Hp → Prop, (∀ vs H2, Ex H1 H2 → P vs H2 → Q vs H2) → ta σ H1 Q
section
variable {K : PySem.W.Frag} {σ : L2.St} {H H' : Hp} {ta tb te tx : TE} {t u : TT} {x y z v : V} {r : R2} {P P' P1 P2 : VP}
theorem EvP.mono (e : Ex H H') (h : EvP te σ H P) : EvP te σ H' P := fun H1 a Q q => h H1 (e.trans a) Q q
theorem EvP.imp (h : EvP te σ H P) (k : ∀ v H1, Ex H H1 → P v H1 → P' v H1) : EvP te σ H P' := fun H1 e Q q => h H1 e Q fun v H2 e2 p => q v H2 e2 (k v H2 (e.trans e2) p)
theorem Ev.toP (h : Ev te σ H v) (k : ∀ H1, Ex H H1 → P v H1) : EvP te σ H P := fun H1 e Q q => h H1 e Q fun H2 e2 => q v H2 e2 (k H2 (e.trans e2))
theorem EvP.toEv (h : EvP te σ H (fun w _ => w = v)) : Ev te σ H v := fun H1 e Q q => h H1 e Q fun w H2 e2 p => by subst p; exact q H2 e2
theorem EvL.toP {xs : List V} (h : EvL te σ H xs) (k : ∀ p H1, H p = none → Ex H H1 → H1 p = some (.lst xs) → P (.ref p) H1) : EvP te σ H P := fun H1 e Q q => h H1 e Q fun p H2 hp e2 h2 => q _ H2 e2 (k p H2 (fresh_back e hp) (e.trans e2) h2)
theorem EvU.toP {xs : List V} (h : EvU te σ H xs) (k : ∀ p H1, H p = none → Ex H H1 → H1 p = some (.tup xs) → P (.ref p) H1) : EvP te σ H P := fun H1 e Q q => h H1 e Q fun p H2 hp e2 h2 => q _ H2 e2 (k p H2 (fresh_back e hp) (e.trans e2) h2)
theorem EvA.toP {ta : TA} {vs : List V} {P : List V → Hp → Prop} (h : EvA ta σ H vs) (k : ∀ H1, Ex H H1 → P vs H1) : EvAP ta σ H P := fun H1 e Q q => h H1 e Q fun H2 e2 => q vs H2 e2 (k H2 (e.trans e2))
theorem eap_nil {P : List V → Hp → Prop} (k : ∀ H1, Ex H H1 → P [] H1) : EvAP tNil σ H P := EvA.toP ea_nil k
theorem eap_cons {tr : TA} {P : List V → Hp → Prop} (m : Mono P1) (h : EvP ta σ H P1) (hr : ∀ v H1, Ex H H1 → P1 v H1 → EvAP tr σ H1 fun vs H2 => P (v :: vs) H2) : EvAP (tCons ta tr) σ H P := fun H1 e Q q =>
  h H1 e _ fun v H2 e2 p => hr v H2 (e.trans e2) p H2 (Ex.refl H2) _ fun vs H3 e3 p3 => q (v :: vs) H3 (e2.trans e3) p3
theorem eap_one {P : List V → Hp → Prop} (h : EvP ta σ H fun v H1 => P [v] H1) : EvAP (tCons ta tNil) σ H P := fun H1 e Q q =>
  h H1 e _ fun v H2 e2 p => q [v] H2 e2 p
/-- an operation -/
theorem ep_op (ha : EvP ta σ H P1) (hb : ∀ v H1, Ex H H1 → P1 v H1 → EvP tb σ H1 P2) (m : Mono P1) (hr : ∀ a b H1, Ex H H1 → P1 a H1 → P2 b H1 → ∀ Q : VK, (∀ v H2, Ex H1 H2 → P v H2 → Q v H2) → r a b H1 Q) : EvP (tOp r ta tb) σ H P := fun H1 e Q q =>
  ha H1 e _ fun v H2 e2 p1 => hb v H2 (e.trans e2) p1 H2 (Ex.refl H2) _ fun w H3 e3 p2 => hr v w H3 ((e.trans e2).trans e3) (m v H2 H3 e3 p1) p2 Q fun z H4 e4 p => q z H4 ((e2.trans e3).trans e4) p
/-- a call by a promise of the pure kind -/
def SpP (sp : Sp) (vs : List V) (H : Hp) (P : VP) : Prop := ∀ Q : VK, (∀ v H2, Ex H H2 → P v H2 → Q v H2) → ∀ E : XK, sp vs H Q E
theorem ep_call {sp : Sp} {E : XK} {ta : TA} {PA : List V → Hp → Prop} (h : EvAP ta σ H PA) (hs : ∀ vs H1, Ex H H1 → PA vs H1 → SpP sp vs H1 P) : EvP (tCall sp [] E ta) σ H P := fun H1 e Q q =>
  h H1 e _ fun vs H2 e2 p => by
    show sp (vs ++ []) H2 Q E
    rw [List.append_nil]
    exact hs vs H2 (e.trans e2) p Q (fun v H3 e3 p3 => q v H3 (e2.trans e3) p3) E
theorem ep_cb {r : List V → Hp → VK → Prop} {ta : TA} {PA : List V → Hp → Prop} (h : EvAP ta σ H PA) (hr : ∀ vs H1, Ex H H1 → PA vs H1 → ∀ Q : VK, (∀ v H2, Ex H1 H2 → P v H2 → Q v H2) → r vs H1 Q) : EvP (tCB r ta) σ H P := fun H1 e Q q =>
  h H1 e _ fun vs H2 e2 p => hr vs H2 (e.trans e2) p Q fun v H3 e3 p3 => q v H3 (e2.trans e3) p3
/-- o.f -/
theorem ev_fld {C a dx : Addr} {fs : List (Str × V)} {f : Str} (h : Ev te σ H (.ref a)) (ha : H a = some (.ins C dx fs)) (c : Cls K C) (n : NoAttr K C f) (l : fs.lookup f = some v) : Ev (tFld K te f) σ H v := fun H1 e Q q =>
  h H1 e _ fun H2 e2 => ⟨a, C, dx, fs, v, rfl, e2 _ _ (e _ _ ha), c, n, l, q H2 e2⟩
/-! ### statements -/
variable {D : Ends} {tu tw tz : TS} {g : TG}
theorem s_asgP {i : Nat} (h : EvP te σ H P) (k : ∀ v H1, Ex H H1 → P v H1 → D.nx (σ.set i (some v)) H1) : tAsg te (gName i) D σ H := h H (Ex.refl H) _ fun v H1 e p => k v H1 e p
theorem q_asgP {i : Nat} (h : EvP te σ H P) (k : ∀ v H1, Ex H H1 → P v H1 → tz D (σ.set i (some v)) H1) : tSeq (tAsg te (gName i)) tz D σ H := s_asgP (D := { D with nx := tz D }) h k
theorem s_retP (h : EvP te σ H P) (k : ∀ v H1, Ex H H1 → P v H1 → D.rt v H1) : tRet te D σ H := h H (Ex.refl H) _ k
theorem s_dropP (h : EvP te σ H P) (k : ∀ v H1, Ex H H1 → P v H1 → D.nx σ H1) : tDrop te D σ H := h H (Ex.refl H) _ k
theorem q_dropP (h : EvP te σ H P) (k : ∀ v H1, Ex H H1 → P v H1 → tz D σ H1) : tSeq (tDrop te) tz D σ H := h H (Ex.refl H) _ k
end
/-! ### lists, tuples, lists of lists -/
def IsL (K : PySem.W.Frag) (xs : List V) : VP := fun v H => ∃ a, v = .ref a ∧ SqL K H a xs
def IsT (K : PySem.W.Frag) (xs : List V) : VP := fun v H => ∃ a, v = .ref a ∧ SqT K H a xs
def IsS (K : PySem.W.Frag) (xs : List V) : VP := fun v H => ∃ a, v = .ref a ∧ (SqL K H a xs ∨ SqT K H a xs)
theorem IsL.m {K : PySem.W.Frag} {xs : List V} : Mono (IsL K xs) := fun _ _ _ e ⟨a, h, q⟩ => ⟨a, h, ex_l e q⟩
theorem IsT.m {K : PySem.W.Frag} {xs : List V} : Mono (IsT K xs) := fun _ _ _ e ⟨a, h, q⟩ => ⟨a, h, ex_t e q⟩
theorem IsS.m {K : PySem.W.Frag} {xs : List V} : Mono (IsS K xs) := fun _ _ _ e ⟨a, h, q⟩ => ⟨a, h, q.elim (fun q => .inl (ex_l e q)) fun q => .inr (ex_t e q)⟩
theorem IsL.s {K : PySem.W.Frag} {xs : List V} {v : V} {H : Hp} (h : IsL K xs v H) : IsS K xs v H := let ⟨a, e, q⟩ := h; ⟨a, e, .inl q⟩
theorem IsT.s {K : PySem.W.Frag} {xs : List V} {v : V} {H : Hp} (h : IsT K xs v H) : IsS K xs v H := let ⟨a, e, q⟩ := h; ⟨a, e, .inr q⟩
/-- a sequence whose places have a property each: P x the property of the datum x -/
def LOf {α : Type} (K : PySem.W.Frag) (P : α → VP) (M : List α) : VP := fun v H => ∃ a vs, v = .ref a ∧ SqL K H a vs ∧ Paired (fun u x => P x u H) vs M
def TOf {α : Type} (K : PySem.W.Frag) (P : α → VP) (M : List α) : VP := fun v H => ∃ a vs, v = .ref a ∧ SqT K H a vs ∧ Paired (fun u x => P x u H) vs M
theorem Paired.len {α β : Type} {F : α → β → Prop} {l : List α} {m : List β} (h : Paired F l m) : l.length = m.length := Paired.length h
theorem pr_imp {α β : Type} {F G : α → β → Prop} (k : ∀ a b, F a b → G a b) : ∀ {l : List α} {m : List β}, Paired F l m → Paired G l m
  | _, _, .nil => .nil
  | _, _, .cons r t => .cons (k _ _ r) (pr_imp k t)
theorem LOf.m {α : Type} {K : PySem.W.Frag} {P : α → VP} {M : List α} (m : ∀ x, Mono (P x)) : Mono (LOf K P M) := fun _ _ _ e ⟨a, vs, h, q, p⟩ => ⟨a, vs, h, ex_l e q, pr_imp (fun u x z => m x u _ _ e z) p⟩
theorem TOf.m {α : Type} {K : PySem.W.Frag} {P : α → VP} {M : List α} (m : ∀ x, Mono (P x)) : Mono (TOf K P M) := fun _ _ _ e ⟨a, vs, h, q, p⟩ => ⟨a, vs, h, ex_t e q, pr_imp (fun u x z => m x u _ _ e z) p⟩
theorem pr_get {α β : Type} {F : α → β → Prop} : ∀ {l : List α} {m : List β} {i : Nat} {b : β}, Paired F l m → m[i]? = some b → ∃ a, l[i]? = some a ∧ F a b
  | _, _, _, _, .nil, h => by simp at h
  | _, _, 0, _, .cons r t, h => by simp at h; subst h; exact ⟨_, rfl, r⟩
  | _, _, i + 1, b, .cons r t, h => by
    obtain ⟨a, h1, h2⟩ := pr_get (i := i) (b := b) t (by simpa using h)
    exact ⟨a, by simpa using h1, h2⟩
theorem pr_getL {α β : Type} {F : α → β → Prop} : ∀ {l : List α} {m : List β} {i : Nat} {a : α}, Paired F l m → l[i]? = some a → ∃ b, m[i]? = some b ∧ F a b
  | _, _, _, _, .nil, h => by simp at h
  | _, _, 0, _, .cons r t, h => by simp at h; subst h; exact ⟨_, rfl, r⟩
  | _, _, i + 1, b, .cons r t, h => by
    obtain ⟨a, h1, h2⟩ := pr_getL (i := i) (a := b) t (by simpa using h)
    exact ⟨a, by simpa using h1, h2⟩
theorem pr_set {α β : Type} {F : α → β → Prop} {a : α} {b : β} (r : F a b) : ∀ {l : List α} {m : List β} (i : Nat), Paired F l m → Paired F (l.set i a) (m.set i b)
  | _, _, _, .nil => .nil
  | _, _, 0, .cons _ t => .cons r t
  | _, _, i + 1, .cons q t => .cons q (pr_set r i t)
theorem pr_app {α β : Type} {F : α → β → Prop} : ∀ {l l' : List α} {m m' : List β}, Paired F l m → Paired F l' m' → Paired F (l ++ l') (m ++ m')
  | _, _, _, _, .nil, s => s
  | _, _, _, _, .cons r t, s => .cons r (pr_app t s)
theorem pr_one {α β : Type} {F : α → β → Prop} {a : α} {b : β} (r : F a b) : Paired F [a] [b] := .cons r .nil
theorem pr_of {α β : Type} {F : α → β → Prop} : ∀ {l : List α} {m : List β}, l.length = m.length → (∀ (i : Nat) a b, l[i]? = some a → m[i]? = some b → F a b) → Paired F l m
  | [], [], _, _ => .nil
  | [], _ :: _, h, _ => by simp at h
  | _ :: _, [], h, _ => by simp at h
  | a :: l, b :: m, h, k => .cons (k 0 a b rfl rfl) (pr_of (by simpa using h) fun i x y hx hy => k (i + 1) x y (by simpa using hx) (by simpa using hy))
theorem pr_map {α β γ : Type} {F : α → γ → Prop} {f : β → γ} : ∀ {l : List α} {m : List β}, Paired (fun a b => F a (f b)) l m → Paired F l (m.map f)
  | _, _, .nil => .nil
  | _, _, .cons r t => .cons r (pr_map t)
/-- an int -/
def IsI (z : Int) : VP := fun v _ => v = .int z
theorem IsI.m {z : Int} : Mono (IsI z) := fun _ _ _ _ h => h
/-- the ints of a list or tuple, told by place, are its map -/
theorem pr_ints {H : Hp} : ∀ {vs : List V} {ns : List Int}, Paired (fun u x => IsI x u H) vs ns → vs = ns.map V.int
  | _, _, .nil => rfl
  | _, _, .cons r t => by rw [r, pr_ints t]; rfl
theorem ints_pr {H : Hp} : ∀ (ns : List Int), Paired (fun u x => IsI x u H) (ns.map V.int) ns
  | [] => .nil
  | _ :: r => .cons rfl (ints_pr r)
abbrev Ints (ns : List Int) : List V := ns.map V.int
/-- a list (tuple) of lists (tuples) of ints -/
abbrev LL (K : PySem.W.Frag) (M : List (List Int)) : VP := LOf K (fun r => IsL K (Ints r)) M
abbrev TT2 (K : PySem.W.Frag) (M : List (List Int)) : VP := TOf K (fun r => IsT K (Ints r)) M
theorem LL.m {K : PySem.W.Frag} {M : List (List Int)} : Mono (LL K M) := LOf.m fun _ => IsL.m
theorem TT2.m {K : PySem.W.Frag} {M : List (List Int)} : Mono (TT2 K M) := TOf.m fun _ => IsT.m
section
variable {K : PySem.W.Frag} {σ : L2.St} {H H' : Hp} {ta tb te tx : TE} {t u : TT} {x y z v : V} {r : R2} {P P' P1 P2 : VP}
theorem ev_ixL {xs : List V} {i : Nat} (ha : Ev ta σ H x) (hx : IsL K xs x H) (hb : Ev tb σ H (.int (i : Int))) (hi : xs[i]? = some v) : Ev (tOp (rIxL K) ta tb) σ H v := by
  obtain ⟨p, rfl, hs⟩ := hx
  exact ev_op ha hb (rv_ixL hs (atI_nat hi))
theorem ev_ixT {xs : List V} {i : Nat} (ha : Ev ta σ H x) (hx : IsT K xs x H) (hb : Ev tb σ H (.int (i : Int))) (hi : xs[i]? = some v) : Ev (tOp (rIxT K) ta tb) σ H v := by
  obtain ⟨p, rfl, hs⟩ := hx
  exact ev_op ha hb (rv_ixT hs (atI_nat hi))
/-- M[i][j] -/
theorem ev_ent {M : List (List Int)} {ti tj : TE} {i j : Nat} {row : List Int} {z : Int} (ha : Ev ta σ H x) (hx : LL K M x H) (h1 : Ev ti σ H (.int (i : Int))) (h2 : Ev tj σ H (.int (j : Int))) (hi : M[i]? = some row) (hj : row[j]? = some z) :
    Ev (tOp (rIxL K) (tOp (rIxL K) ta ti) tj) σ H (.int z) := by
  obtain ⟨a, vs, rfl, hs, hp⟩ := hx
  obtain ⟨u, hu, hr⟩ := pr_get hp hi
  refine ev_ixL (ev_ixL ha ⟨a, rfl, hs⟩ h1 hu) hr h2 ?_
  rw [List.getElem?_map, hj]
  rfl
theorem ev_entT {M : List (List Int)} {ti tj : TE} {i j : Nat} {row : List Int} {z : Int} (ha : Ev ta σ H x) (hx : TT2 K M x H) (h1 : Ev ti σ H (.int (i : Int))) (h2 : Ev tj σ H (.int (j : Int))) (hi : M[i]? = some row) (hj : row[j]? = some z) :
    Ev (tOp (rIxT K) (tOp (rIxT K) ta ti) tj) σ H (.int z) := by
  obtain ⟨a, vs, rfl, hs, hp⟩ := hx
  obtain ⟨u, hu, hr⟩ := pr_get hp hi
  refine ev_ixT (ev_ixT ha ⟨a, rfl, hs⟩ h1 hu) hr h2 ?_
  rw [List.getElem?_map, hj]
  rfl
theorem ev_lenL {xs : List V} (ha : Ev ta σ H x) (hx : IsL K xs x H) : Ev (tCB (fun xs H Q => ∃ p ys, xs = [V.ref p] ∧ (SqL K H p ys ∨ SqT K H p ys) ∧ Q (.int ys.length) H) (tCons ta tNil)) σ H (.int (xs.length : Int)) := by
  obtain ⟨p, rfl, hs⟩ := hx
  exact ev_len ha hs
theorem ev_lenS {xs : List V} (ha : Ev ta σ H x) (hx : IsS K xs x H) : Ev (tCB (fun xs H Q => ∃ p ys, xs = [V.ref p] ∧ (SqL K H p ys ∨ SqT K H p ys) ∧ Q (.int ys.length) H) (tCons ta tNil)) σ H (.int (xs.length : Int)) := by
  obtain ⟨p, rfl, hs⟩ := hx
  exact fun H1 e Q q => ha H1 e _ fun H2 e2 => ⟨p, xs, rfl, hs.elim (fun h => .inl (ex_l (e.trans e2) h)) (fun h => .inr (ex_t (e.trans e2) h)), q H2 e2⟩
theorem LOf.isL {α : Type} {P : α → VP} {M : List α} (h : LOf K P M v H) : ∃ vs, IsL K vs v H ∧ vs.length = M.length ∧ Paired (fun u x => P x u H) vs M := by
  obtain ⟨a, vs, e, hs, hp⟩ := h
  exact ⟨vs, ⟨a, e, hs⟩, Paired.len hp, hp⟩
theorem TOf.isT {α : Type} {P : α → VP} {M : List α} (h : TOf K P M v H) : ∃ vs, IsT K vs v H ∧ vs.length = M.length ∧ Paired (fun u x => P x u H) vs M := by
  obtain ⟨a, vs, e, hs, hp⟩ := h
  exact ⟨vs, ⟨a, e, hs⟩, Paired.len hp, hp⟩
end
/-! ### an own list of lists (of tuples): new since H0 -/
def Inj (rs : List Addr) : Prop := ∀ (i j : Nat) (r : Addr), rs[i]? = some r → rs[j]? = some r → i = j
structure RowsC (c : List V → HO) (H0 H : Hp) (a : Addr) (rs : List Addr) (M : List (List Int)) : Prop where
  fa : H0 a = none
  fr : ∀ r ∈ rs, H0 r = none
  na : a ∉ rs
  inj : Inj rs
  at_ : H a = some (.lst (rs.map V.ref))
  rows : Paired (fun r row => H r = some (c (Ints row))) rs M
abbrev RowsAt := RowsC HO.lst
theorem inj_nil : Inj [] := fun i j r h => by simp at h
theorem inj_app {rs : List Addr} {q : Addr} (h : Inj rs) (n : q ∉ rs) : Inj (rs ++ [q]) := fun i j r hi hj => by
  rcases Nat.lt_or_ge i rs.length with li | li
  · rw [List.getElem?_append_left li] at hi
    rcases Nat.lt_or_ge j rs.length with lj | lj
    · rw [List.getElem?_append_left lj] at hj
      exact h i j r hi hj
    · rw [List.getElem?_append_right lj] at hj
      have e : r = q := by
        rcases Nat.eq_zero_or_pos (j - rs.length) with z | z
        · rw [z] at hj; exact (Option.some.inj hj).symm
        · rw [List.getElem?_eq_none (by rw [List.length_singleton]; omega)] at hj; cases hj
      exact absurd (List.mem_of_getElem? hi) (e ▸ n)
  · rw [List.getElem?_append_right li] at hi
    have ei : i = rs.length ∧ r = q := by
      rcases Nat.eq_zero_or_pos (i - rs.length) with z | z
      · rw [z] at hi; exact ⟨by omega, (Option.some.inj hi).symm⟩
      · rw [List.getElem?_eq_none (by rw [List.length_singleton]; omega)] at hi; cases hi
    rcases Nat.lt_or_ge j rs.length with lj | lj
    · rw [List.getElem?_append_left lj] at hj
      exact absurd (List.mem_of_getElem? hj) (ei.2 ▸ n)
    · rw [List.getElem?_append_right lj] at hj
      rcases Nat.eq_zero_or_pos (j - rs.length) with z | z
      · omega
      · rw [List.getElem?_eq_none (by rw [List.length_singleton]; omega)] at hj; cases hj
theorem pr_mem {α β : Type} {F : α → β → Prop} {l : List α} {m : List β} {a : α} (h : Paired F l m) (ha : a ∈ l) : ∃ b, F a b := by
  obtain ⟨i, hi, e⟩ := List.mem_iff_getElem.mp ha
  obtain ⟨b, _, f⟩ := pr_getL h (List.getElem?_eq_some_iff.mpr ⟨hi, e⟩)
  exact ⟨b, f⟩
theorem pr_impm {α β : Type} {F G : α → β → Prop} : ∀ {l : List α} {m : List β}, (∀ a b, a ∈ l → F a b → G a b) → Paired F l m → Paired G l m
  | _, _, _, .nil => .nil
  | _, _, k, .cons r t => .cons (k _ _ List.mem_cons_self r) (pr_impm (fun a b h => k a b (List.mem_cons_of_mem _ h)) t)
section
variable {c : List V → HO} {K : PySem.W.Frag} {H0 H H' : Hp} {a : Addr} {rs : List Addr} {M : List (List Int)}
theorem RowsC.tr (h : RowsC c H0 H a rs M) {r : Addr} (hr : r ∈ rs) : ∃ o, H r = some o := let ⟨_, e⟩ := pr_mem h.rows hr; ⟨_, e⟩
theorem RowsC.keep (h : RowsC c H0 H a rs M) (ka : H' a = H a) (k : ∀ r ∈ rs, H' r = H r) : RowsC c H0 H' a rs M :=
  ⟨h.fa, h.fr, h.na, h.inj, ka.trans h.at_, pr_impm (fun r row hr e => (k r hr).trans e) h.rows⟩
theorem RowsC.ex (h : RowsC c H0 H a rs M) (e : Ex H H') : RowsC c H0 H' a rs M :=
  ⟨h.fa, h.fr, h.na, h.inj, e _ _ h.at_, pr_imp (fun r row z => e _ _ z) h.rows⟩
theorem RowsC.back {H1 : Hp} (h : RowsC c H1 H a rs M) (e : Ex H0 H1) : RowsC c H0 H a rs M :=
  ⟨fresh_back e h.fa, fun r hr => fresh_back e (h.fr r hr), h.na, h.inj, h.at_, h.rows⟩
theorem RowsC.len (h : RowsC c H0 H a rs M) : rs.length = M.length := Paired.len h.rows
theorem RowsC.refs (h : RowsC c H0 H a rs M) {i : Nat} {row : List Int} (hi : M[i]? = some row) : ∃ r, rs[i]? = some r ∧ r ∈ rs ∧ (rs.map V.ref)[i]? = some (.ref r) ∧ H r = some (c (Ints row)) := by
  obtain ⟨r, e, f⟩ := pr_get h.rows hi
  exact ⟨r, e, List.mem_of_getElem? e, by rw [List.getElem?_map, e]; rfl, f⟩
theorem RowsC.ll (h : RowsAt H0 H a rs M) : LL K M (.ref a) H := ⟨a, _, rfl, sq_of h.at_, pr_of (by rw [List.length_map, h.len]) fun i u row hu hr => by
  obtain ⟨r, _, _, e, f⟩ := h.refs hr
  rw [e] at hu
  cases hu
  exact ⟨r, rfl, sq_of f⟩⟩
/-- a row is replaced -/
theorem RowsC.setRow (h : RowsC c H0 H a rs M) {q : Addr} {i : Nat} {row : List Int} (fq : H0 q = none) (nq : q ∉ rs) (na : q ≠ a) (hq : H q = some (c (Ints row))) :
    RowsC c H0 (upd H a (.lst ((rs.map V.ref).set i (.ref q)))) a (rs.set i q) (M.set i row) := by
  refine ⟨h.fa, fun r hr => ?_, fun z => ?_, fun x y r hx hy => ?_, ?_, ?_⟩
  · rcases List.mem_or_eq_of_mem_set hr with z | z
    · exact h.fr r z
    · rw [z]; exact fq
  · rcases List.mem_or_eq_of_mem_set z with z | z
    · exact h.na z
    · exact na z.symm
  · by_cases ex : i = x
    · by_cases ey : i = y
      · exact ex.symm.trans ey
      · rw [List.getElem?_set_ne ey] at hy
        subst ex
        rcases Nat.lt_or_ge i rs.length with l | l
        · rw [List.getElem?_set_self l] at hx
          cases hx
          exact absurd (List.mem_of_getElem? hy) nq
        · rw [List.getElem?_eq_none (by simpa using l)] at hx
          cases hx
    · rw [List.getElem?_set_ne ex] at hx
      by_cases ey : i = y
      · subst ey
        rcases Nat.lt_or_ge i rs.length with l | l
        · rw [List.getElem?_set_self l] at hy
          cases hy
          exact absurd (List.mem_of_getElem? hx) nq
        · rw [List.getElem?_eq_none (by simpa using l)] at hy
          cases hy
      · rw [List.getElem?_set_ne ey] at hy
        exact h.inj x y r hx hy
  · rw [upd_same, List.map_set]
  · exact pr_set (F := fun r row => upd H a (.lst ((rs.map V.ref).set i (.ref q))) r = some (c (Ints row))) (by rw [upd_ne na]; exact hq) i (pr_impm (fun r row hr e => by rw [upd_ne (fun z => h.na (by rw [← z]; exact hr))]; exact e) h.rows)
theorem ints_set (row : List Int) (j : Nat) (z : Int) : (Ints row).set j (.int z) = Ints (row.set j z) := (List.map_set ..).symm
/-- an item is replaced -/
theorem RowsC.setItem (h : RowsAt H0 H a rs M) {r : Addr} {i j : Nat} {row : List Int} {z : Int} (hr : rs[i]? = some r) (hi : M[i]? = some row) :
    RowsAt H0 (upd H r (.lst ((Ints row).set j (.int z)))) a rs (M.set i (row.set j z)) := by
  refine ⟨h.fa, h.fr, h.na, h.inj, ?_, ?_⟩
  · rw [upd_ne (fun e => h.na (by rw [e]; exact List.mem_of_getElem? hr))]
    exact h.at_
  · refine pr_of (by rw [List.length_set]; exact h.len) fun k b row' hb hrow => ?_
    by_cases e : i = k
    · subst e
      rw [hr] at hb
      cases hb
      have l : i < M.length := (List.getElem?_eq_some_iff.mp hi).1
      rw [List.getElem?_set_self l] at hrow
      cases hrow
      rw [upd_same, ints_set]
    · rw [List.getElem?_set_ne e] at hrow
      obtain ⟨b', e1, _, _, e2⟩ := h.refs hrow
      rw [e1] at hb
      cases hb
      rw [upd_ne (fun z => e (h.inj i k r hr (by rw [e1, z])))]
      exact e2
/-- a row more -/
theorem RowsC.app (h : RowsC c H0 H a rs M) {q : Addr} {row : List Int} (fq : H0 q = none) (nq : q ∉ rs) (na : q ≠ a) (hq : H q = some (c (Ints row))) :
    RowsC c H0 (upd H a (.lst (rs.map V.ref ++ [.ref q]))) a (rs ++ [q]) (M ++ [row]) := by
  refine ⟨h.fa, fun r hr => ?_, fun z => ?_, inj_app h.inj nq, ?_, ?_⟩
  · rcases List.mem_append.mp hr with z | z
    · exact h.fr r z
    · rw [List.mem_singleton.mp z]; exact fq
  · rcases List.mem_append.mp z with z | z
    · exact h.na z
    · exact na (List.mem_singleton.mp z).symm
  · rw [upd_same, List.map_append]
    rfl
  · refine pr_app (pr_impm (fun r row hr e => ?_) h.rows) (pr_one ?_)
    · rw [upd_ne (fun z => h.na (by rw [← z]; exact hr))]
      exact e
    · rw [upd_ne na]
      exact hq
/-- two rows change places -/
theorem RowsC.swap (h : RowsC c H0 H a rs M) {i j : Nat} {ri rj : Addr} {x y : List Int} (hi : rs[i]? = some ri) (hj : rs[j]? = some rj) (mi : M[i]? = some x) (mj : M[j]? = some y) :
    RowsC c H0 (upd H a (.lst (((rs.map V.ref).set i (.ref rj)).set j (.ref ri)))) a ((rs.set i rj).set j ri) ((M.set i y).set j x) := by
  have li : i < rs.length := (List.getElem?_eq_some_iff.mp hi).1
  have lj : j < rs.length := (List.getElem?_eq_some_iff.mp hj).1
  have mem : ∀ r, r ∈ (rs.set i rj).set j ri → r ∈ rs := fun r hr => by
    rcases List.mem_or_eq_of_mem_set hr with z | z
    · rcases List.mem_or_eq_of_mem_set z with z | z
      · exact z
      · rw [z]; exact List.mem_of_getElem? hj
    · rw [z]; exact List.mem_of_getElem? hi
  have tau : ∀ k r, ((rs.set i rj).set j ri)[k]? = some r → ∃ k', rs[k']? = some r ∧ ((k = j ∧ k' = i) ∨ (k ≠ j ∧ k = i ∧ k' = j) ∨ (k ≠ j ∧ k ≠ i ∧ k' = k)) := fun k r hk => by
    by_cases ej : j = k
    · subst ej
      rw [List.getElem?_set_self (by rw [List.length_set]; exact lj)] at hk
      cases hk
      exact ⟨i, hi, .inl ⟨rfl, rfl⟩⟩
    · rw [List.getElem?_set_ne ej] at hk
      by_cases ei : i = k
      · subst ei
        rw [List.getElem?_set_self li] at hk
        cases hk
        exact ⟨j, hj, .inr (.inl ⟨fun e => ej e.symm, rfl, rfl⟩)⟩
      · rw [List.getElem?_set_ne ei] at hk
        exact ⟨k, hk, .inr (.inr ⟨fun e => ej e.symm, fun e => ei e.symm, rfl⟩)⟩
  refine ⟨h.fa, fun r hr => h.fr r (mem r hr), fun z => h.na (mem a z), fun k l r hk hl => ?_, ?_, ?_⟩
  · obtain ⟨k', e1, z1⟩ := tau k r hk
    obtain ⟨l', e2, z2⟩ := tau l r hl
    have e := h.inj k' l' r e1 e2
    omega
  · rw [upd_same, List.map_set, List.map_set]
  · have base : Paired (fun r row => upd H a (.lst (((rs.map V.ref).set i (.ref rj)).set j (.ref ri))) r = some (c (Ints row))) rs M := pr_impm (fun r row hr e => by rw [upd_ne (fun z => h.na (by rw [← z]; exact hr))]; exact e) h.rows
    obtain ⟨_, e1, f1⟩ := pr_getL base hi
    obtain ⟨_, e2, f2⟩ := pr_getL base hj
    rw [mi] at e1
    cases e1
    rw [mj] at e2
    cases e2
    exact pr_set (F := fun r row => upd H a (.lst (((rs.map V.ref).set i (.ref rj)).set j (.ref ri))) r = some (c (Ints row))) f1 j (pr_set (F := fun r row => upd H a (.lst (((rs.map V.ref).set i (.ref rj)).set j (.ref ri))) r = some (c (Ints row))) f2 i base)
end
/-- a new list of new lists -/
def EvR (c : List V → HO) (te : TE) (σ : L2.St) (H : Hp) (M : List (List Int)) : Prop := ∀ H1, Ex H H1 → ∀ Q : VK, (∀ a rs H2, Ex H1 H2 → RowsC c H1 H2 a rs M → Q (.ref a) H2) → te σ H1 Q
/-- a new thing c ys, at a new place -/
def EvN (c : List V → HO) (te : TE) (σ : L2.St) (H : Hp) (xs : List V) : Prop := ∀ H1, Ex H H1 → ∀ Q : VK, (∀ p H2, H1 p = none → Ex H1 H2 → H2 p = some (c xs) → Q (.ref p) H2) → te σ H1 Q
theorem EvL.n {te : TE} {σ : L2.St} {H : Hp} {xs : List V} (h : EvL te σ H xs) : EvN HO.lst te σ H xs := h
theorem EvU.n {te : TE} {σ : L2.St} {H : Hp} {xs : List V} (h : EvU te σ H xs) : EvN HO.tup te σ H xs := h
section
variable {c : List V → HO} {K : PySem.W.Frag} {σ : L2.St} {H H' : Hp} {ta tb te tx tl : TE} {t u : TT} {x y z v : V} {r : R2}
theorem et_yes : EvT tYes σ H true := fun H1 _ _ q => q H1 (Ex.refl H1)
theorem EvL.cast {xs ys : List V} (h : EvL te σ H xs) (e : xs = ys) : EvL te σ H ys := e ▸ h
theorem EvR.cast {M N : List (List Int)} (h : EvR c te σ H M) (e : M = N) : EvR c te σ H N := e ▸ h
theorem EvR.mono {M : List (List Int)} (e : Ex H H') (h : EvR c te σ H M) : EvR c te σ H' M := fun H1 a Q q => h H1 (e.trans a) Q q
theorem EvL.m {xs : List V} (e : Ex H H') (h : EvL te σ H xs) : EvL te σ H' xs := fun H1 a Q q => h H1 (e.trans a) Q q
theorem EvU.m {xs : List V} (e : Ex H H') (h : EvU te σ H xs) : EvU te σ H' xs := fun H1 a Q q => h H1 (e.trans a) Q q
def Cr (c : List V → HO) (H : Hp) (M : List (List Int)) (Dl : Addr) (H' : Hp) : Prop := Ex H H' ∧ ∃ rs, RowsC c H H' Dl rs M
/-- which turns give, and what -/
def givenR (n : Nat) (f : Nat → Bool) (y : Nat → List Int) : List (List Int) := ((List.range n).filter f).map y
theorem givenR_true (n : Nat) (y : Nat → List Int) : givenR n (fun _ => true) y = (List.range n).map y := by
  unfold givenR
  rw [List.filter_eq_self.mpr (fun _ _ => rfl)]
theorem givenR_yes {n : Nat} {f : Nat → Bool} {y : Nat → List Int} (h : f n = true) : givenR (n + 1) f y = givenR n f y ++ [y n] := by
  unfold givenR
  rw [List.range_succ, List.filter_append, List.map_append, List.filter_cons, if_pos h] <;> rfl
theorem givenR_no {n : Nat} {f : Nat → Bool} {y : Nat → List Int} (h : f n = false) : givenR (n + 1) f y = givenR n f y := by
  unfold givenR
  rw [List.range_succ, List.filter_append, List.map_append, List.filter_cons, if_neg (by rw [h]; decide)]
  show _ ++ [] = _
  rw [List.append_nil]
theorem givenR_len (n : Nat) (f : Nat → Bool) (y : Nat → List Int) : (givenR n f y).length ≤ n := by
  unfold givenR
  rw [List.length_map]
  have h := List.length_filter_le f (List.range n)
  rw [List.length_range] at h
  exact h
theorem cr_turn {f : Nat → Bool} {ys : Nat → List Int} {Dl : Addr} {i : Nat} {σ2 : L2.St} (p : Cr c H (givenR i f ys) Dl H') (hi : i < 50000) (ht : EvT t σ2 H (f i)) (he : f i = true → EvN c te σ2 H (Ints (ys i))) :
    t σ2 H' fun b H3 => if b = true then te σ2 H3 fun y H4 => ∃ acc, H4 Dl = some (.lst acc) ∧ acc.length < sizeLine ∧ Cr c H (givenR (i + 1) f ys) Dl (upd H4 Dl (.lst (acc ++ [y]))) else Cr c H (givenR (i + 1) f ys) Dl H3 := by
  obtain ⟨p2, rs, p3⟩ := p
  refine ht H' p2 _ fun H3 e3 => ?_
  cases hf : f i with
  | true =>
    show te σ2 H3 fun y H4 => ∃ acc, H4 Dl = some (.lst acc) ∧ acc.length < sizeLine ∧ Cr c H (givenR (i + 1) f ys) Dl (upd H4 Dl (.lst (acc ++ [y])))
    refine he hf H3 (p2.trans e3) _ fun q H4 hq e4 h4 => ?_
    have p5 := (p3.ex e3).ex e4
    refine ⟨_, p5.at_, ?_, Ex.mut ((p2.trans e3).trans e4) p3.fa, rs ++ [q], ?_⟩
    · rw [List.length_map, p5.len]
      exact sz_lt (by have := givenR_len i f ys; omega)
    · rw [givenR_yes hf]
      refine p5.app (fresh_back (p2.trans e3) hq) (fun z => ?_) (ne_of_none (p3.ex e3).at_ hq).symm h4
      obtain ⟨o, ho⟩ := (p3.ex e3).tr z
      rw [hq] at ho
      cases ho
  | false =>
    show Cr c H (givenR (i + 1) f ys) Dl H3
    rw [givenR_no hf]
    exact ⟨p2.trans e3, rs, p3.ex e3⟩
theorem cr_start {Dl : Addr} (hD : H Dl = none) {f : Nat → Bool} {ys : Nat → List Int} : Cr c H (givenR 0 f ys) Dl (upd H Dl (.lst [])) :=
  ⟨Ex.new hD, [], ⟨hD, fun r hr => (List.not_mem_nil hr).elim, List.not_mem_nil, inj_nil, upd_same, .nil⟩⟩
theorem cr_end {M : List (List Int)} {Dl : Addr} {H1 : Hp} (e : Ex H H1) (p : Cr c H1 M Dl H') : ∃ rs, Ex H H' ∧ RowsC c H H' Dl rs M := ⟨_, e.trans p.1, p.2.choose_spec.back e⟩
theorem er_lcR1 {ta : TA} {j : Nat} {vs : List Nat} {n : Int} (f : Nat → Bool) (ys : Nat → List Int) (h : EvA ta σ H [.int n]) (hn : 0 ≤ n ∧ n ≤ 40000) (hw : ∀ x, wipe ((wipe σ vs).set j (some x)) vs = wipe σ vs)
    (ht : ∀ (i : Nat) H1, Ex H H1 → (i : Int) < n → EvT t ((wipe σ vs).set j (some (.int (i : Int)))) H1 (f i)) (he : ∀ (i : Nat) H1, Ex H H1 → (i : Int) < n → f i = true → EvN c te ((wipe σ vs).set j (some (.int (i : Int)))) H1 (Ints (ys i))) :
    EvR c (tLc (iRng1 ta) (gName j) t te vs) σ H (givenR n.toNat f ys) := fun H0 e Q q => h H0 e _ fun H1 e1 => ⟨n, rfl, by omega, by omega, fun Dl hD =>
  lc_range (lo := 0) (n := n.toNat) (fun i => Cr c H1 (givenR i f ys) Dl) (cr_start hD) (fun i H' hi p => by
    have e0 : (0 : Int) + (i : Int) = (i : Int) := Int.zero_add _
    show wipe ((wipe σ vs).set j (some (.int ((0 : Int) + (i : Int))))) vs = wipe σ vs ∧ t ((wipe σ vs).set j (some (.int ((0 : Int) + (i : Int))))) H' fun b H3 => if b = true then te ((wipe σ vs).set j (some (.int ((0 : Int) + (i : Int))))) H3 fun y H4 => ∃ acc, H4 Dl = some (.lst acc) ∧ acc.length < sizeLine ∧ Cr c H1 (givenR (i + 1) f ys) Dl (upd H4 Dl (.lst (acc ++ [y]))) else Cr c H1 (givenR (i + 1) f ys) Dl H3
    rw [e0]
    exact ⟨hw _, cr_turn p (by omega) (ht i H1 (e.trans e1) (by omega)) (fun hf => he i H1 (e.trans e1) (by omega) hf)⟩) (fun H' p => by
      obtain ⟨rs, z1, z2⟩ := cr_end e1 p
      exact q Dl rs H' z1 z2)⟩
theorem er_lcL {a : Addr} {xs : List V} {j : Nat} {vs : List Nat} (f : Nat → Bool) (ys : Nat → List Int) (h : Ev tl σ H (.ref a)) (hx : SqL K H a xs) (hz : xs.length ≤ 40000) (hw : ∀ x, wipe ((wipe σ vs).set j (some x)) vs = wipe σ vs)
    (ht : ∀ (i : Nat) (x : V) H1, Ex H H1 → xs[i]? = some x → EvT t ((wipe σ vs).set j (some x)) H1 (f i)) (he : ∀ (i : Nat) (x : V) H1, Ex H H1 → xs[i]? = some x → f i = true → EvN c te ((wipe σ vs).set j (some x)) H1 (Ints (ys i))) :
    EvR c (tLc (iList K tl) (gName j) t te vs) σ H (givenR xs.length f ys) := fun H0 e Q q => h H0 e _ fun H1 e1 => ⟨a, rfl, ⟨xs, ex_l (e.trans e1) hx⟩, fun Dl hD =>
  lc_list (xs := xs) (fun i => Cr c H1 (givenR i f ys) Dl) (cr_start hD) (fun i H' _ p => ex_l ((e.trans e1).trans p.1) hx) (fun i x H' hi p => ⟨hw x, cr_turn p (by have := (List.getElem?_eq_some_iff.mp hi).1; omega) (ht i x H1 (e.trans e1) hi) (fun hf => he i x H1 (e.trans e1) hi hf)⟩)
    (fun H' p => by
      obtain ⟨rs, z1, z2⟩ := cr_end e1 p
      exact q Dl rs H' z1 z2)⟩
theorem er_lcT {a : Addr} {xs : List V} {j : Nat} {vs : List Nat} (f : Nat → Bool) (ys : Nat → List Int) (h : Ev tl σ H (.ref a)) (hx : SqT K H a xs) (hz : xs.length ≤ 40000) (hw : ∀ x, wipe ((wipe σ vs).set j (some x)) vs = wipe σ vs)
    (ht : ∀ (i : Nat) (x : V) H1, Ex H H1 → xs[i]? = some x → EvT t ((wipe σ vs).set j (some x)) H1 (f i)) (he : ∀ (i : Nat) (x : V) H1, Ex H H1 → xs[i]? = some x → f i = true → EvN c te ((wipe σ vs).set j (some x)) H1 (Ints (ys i))) :
    EvR c (tLc (iTup K tl) (gName j) t te vs) σ H (givenR xs.length f ys) := fun H0 e Q q => h H0 e _ fun H1 e1 => ⟨a, rfl, ⟨xs, ex_t (e.trans e1) hx⟩, fun Dl hD =>
  lc_tup (xs := xs) (fun i => Cr c H1 (givenR i f ys) Dl) (cr_start hD) (fun i H' _ p => ex_t ((e.trans e1).trans p.1) hx) (fun i x H' hi p => ⟨hw x, cr_turn p (by have := (List.getElem?_eq_some_iff.mp hi).1; omega) (ht i x H1 (e.trans e1) hi) (fun hf => he i x H1 (e.trans e1) hi hf)⟩)
    (fun H' p => by
      obtain ⟨rs, z1, z2⟩ := cr_end e1 p
      exact q Dl rs H' z1 z2)⟩
/-- exact values over a tuple -/
theorem el_lcT {a : Addr} {xs : List V} {j : Nat} {vs : List Nat} (f : Nat → Bool) (v : Nat → V) (h : Ev tl σ H (.ref a)) (hx : SqT K H a xs) (hz : xs.length ≤ 40000) (hw : ∀ x, wipe ((wipe σ vs).set j (some x)) vs = wipe σ vs)
    (ht : ∀ (i : Nat) (x : V) H1, Ex H H1 → xs[i]? = some x → EvT t ((wipe σ vs).set j (some x)) H1 (f i)) (he : ∀ (i : Nat) (x : V) H1, Ex H H1 → xs[i]? = some x → f i = true → Ev te ((wipe σ vs).set j (some x)) H1 (v i)) :
    EvL (tLc (iTup K tl) (gName j) t te vs) σ H (given xs.length f v) := fun H0 e Q q => h H0 e _ fun H1 e1 => ⟨a, rfl, ⟨xs, ex_t (e.trans e1) hx⟩, fun Dl hD =>
  lc_tup (xs := xs) (Cw H1 f v Dl) ⟨hD, Ex.new hD, upd_same⟩ (fun i H' _ p => ex_t ((e.trans e1).trans p.2.1) hx) (fun i x H' hi p => ⟨hw x, cw_turn p (by have := (List.getElem?_eq_some_iff.mp hi).1; omega) (ht i x H1 (e.trans e1) hi) (fun hf => he i x H1 (e.trans e1) hi hf)⟩)
    (fun H' p => q Dl H' (fresh_back e1 p.1) (e1.trans p.2.1) p.2.2)⟩
/-- exact values over range(lo, n) -/
theorem el_lcR2 {ta : TA} {j : Nat} {vs : List Nat} {lo n : Int} (f : Nat → Bool) (v : Nat → V) (h : EvA ta σ H [.int lo, .int n]) (hn : 0 ≤ lo ∧ lo ≤ 40000 ∧ 0 ≤ n ∧ n ≤ 40000) (hw : ∀ x, wipe ((wipe σ vs).set j (some x)) vs = wipe σ vs)
    (ht : ∀ (i : Nat) H1, Ex H H1 → lo + (i : Int) < n → EvT t ((wipe σ vs).set j (some (.int (lo + (i : Int))))) H1 (f i)) (he : ∀ (i : Nat) H1, Ex H H1 → lo + (i : Int) < n → f i = true → Ev te ((wipe σ vs).set j (some (.int (lo + (i : Int))))) H1 (v i)) :
    EvL (tLc (iRng2 ta) (gName j) t te vs) σ H (given (n - lo).toNat f v) := fun H0 e Q q => h H0 e _ fun H1 e1 => ⟨lo, n, rfl, ⟨by omega, by omega, by omega, by omega⟩, fun Dl hD =>
  lc_range (lo := lo) (n := (n - lo).toNat) (Cw H1 f v Dl) ⟨hD, Ex.new hD, upd_same⟩ (fun i H' hi p => ⟨hw _, cw_turn p (by omega) (ht i H1 (e.trans e1) (by omega)) (fun hf => he i H1 (e.trans e1) (by omega) hf)⟩) (fun H' p => q Dl H' (fresh_back e1 p.1) (e1.trans p.2.1) p.2.2)⟩
theorem er_lcR2 {ta : TA} {j : Nat} {vs : List Nat} {lo n : Int} (f : Nat → Bool) (ys : Nat → List Int) (h : EvA ta σ H [.int lo, .int n]) (hn : 0 ≤ lo ∧ lo ≤ 40000 ∧ 0 ≤ n ∧ n ≤ 40000) (hw : ∀ x, wipe ((wipe σ vs).set j (some x)) vs = wipe σ vs)
    (ht : ∀ (i : Nat) H1, Ex H H1 → lo + (i : Int) < n → EvT t ((wipe σ vs).set j (some (.int (lo + (i : Int))))) H1 (f i)) (he : ∀ (i : Nat) H1, Ex H H1 → lo + (i : Int) < n → f i = true → EvN c te ((wipe σ vs).set j (some (.int (lo + (i : Int))))) H1 (Ints (ys i))) :
    EvR c (tLc (iRng2 ta) (gName j) t te vs) σ H (givenR (n - lo).toNat f ys) := fun H0 e Q q => h H0 e _ fun H1 e1 => ⟨lo, n, rfl, ⟨by omega, by omega, by omega, by omega⟩, fun Dl hD =>
  lc_range (lo := lo) (n := (n - lo).toNat) (fun i => Cr c H1 (givenR i f ys) Dl) (cr_start hD) (fun i H' hi p => ⟨hw _, cr_turn p (by omega) (ht i H1 (e.trans e1) (by omega)) (fun hf => he i H1 (e.trans e1) (by omega) hf)⟩) (fun H' p => by
      obtain ⟨rs, z1, z2⟩ := cr_end e1 p
      exact q Dl rs H' z1 z2)⟩
end
/-! ### what is given by all places of a list -/
theorem given_all {α : Type} (l : List α) (g : α → V) (v : Nat → V) (h : ∀ (i : Nat) x, l[i]? = some x → v i = g x) : given l.length (fun _ => true) v = l.map g := by
  unfold given
  rw [List.filter_eq_self.mpr (fun _ _ => rfl)]
  refine List.ext_getElem (by simp) fun i h1 h2 => ?_
  simp only [List.getElem_map, List.getElem_range]
  exact h i _ (List.getElem?_eq_getElem (by simpa using h2))
theorem givenR_all {α : Type} (l : List α) (g : α → List Int) (y : Nat → List Int) (h : ∀ (i : Nat) x, l[i]? = some x → y i = g x) : givenR l.length (fun _ => true) y = l.map g := by
  unfold givenR
  rw [List.filter_eq_self.mpr (fun _ _ => rfl)]
  refine List.ext_getElem (by simp) fun i h1 h2 => ?_
  simp only [List.getElem_map, List.getElem_range]
  exact h i _ (List.getElem?_eq_getElem (by simpa using h2))
end Ef
end
section
/-! B2: == of lists of ints, of lists of lists -/
namespace Ef
open PySem PySem.Spec PyProof.Rows L2 Evl
def dI (ns : List Int) : PyData := .list (ns.map .int)
def dL (M : List (List Int)) : PyData := .list (M.map dI)
theorem dpall_of {K : PySem.W.Frag} {H : Hp} {α : Type} {F : V → α → Prop} {g : α → PyData} (k : ∀ v x, F v x → Dp K H v (g x)) : ∀ {vs : List V} {xs : List α}, Paired F vs xs → DpAll K H vs (xs.map g)
  | _, _, .nil => .nil
  | _, _, .cons r t => .cons (k _ _ r) (dpall_of k t)
theorem dp_ints {K : PySem.W.Frag} {H : Hp} {v : V} {ns : List Int} (h : IsL K (Ints ns) v H) : Dp K H v (dI ns) := by
  obtain ⟨a, rfl, hs⟩ := h
  exact .lst hs (dpall_of (F := fun u x => IsI x u H) (fun v x e => by rw [show v = .int x from e]; exact .int x) (ints_pr ns))
theorem dp_ll {K : PySem.W.Frag} {H : Hp} {v : V} {M : List (List Int)} (h : LL K M v H) : Dp K H v (dL M) := by
  obtain ⟨a, vs, rfl, hs, hp⟩ := h
  exact .lst hs (dpall_of (fun v x e => dp_ints e) hp)
theorem cl_ints : ∀ ns : List Int, PyData.canLayAll0 (ns.map .int) = true
  | [] => rfl
  | _ :: r => by
    show (true && PyData.canLayAll0 (r.map .int)) = true
    rw [cl_ints r]
    rfl
theorem cl_rows : ∀ M : List (List Int), PyData.canLayAll0 (M.map dI) = true
  | [] => rfl
  | x :: r => by
    show (PyData.canLayAll0 (x.map .int) && PyData.canLayAll0 (r.map dI)) = true
    rw [cl_rows r, cl_ints x]
    rfl
theorem de_ints : ∀ ns : List Int, PyData.depthAll (ns.map .int) ≤ 1
  | [] => by show PyData.depthAll [] ≤ 1; simp [PyData.depthAll]
  | x :: r => by
    have := de_ints r
    show PyData.depthAll (PyData.int x :: r.map .int) ≤ 1
    simp only [PyData.depthAll, PyData.depth]
    omega
theorem de_rows : ∀ M : List (List Int), PyData.depthAll (M.map dI) ≤ 2
  | [] => by show PyData.depthAll [] ≤ 2; simp [PyData.depthAll]
  | x :: r => by
    have h := de_rows r
    have h2 := de_ints x
    show PyData.depthAll (PyData.list (x.map .int) :: r.map dI) ≤ 2
    simp only [PyData.depthAll, PyData.depth]
    omega
theorem sh_ints (ns : List Int) : SeqAt.shaped (dI ns) = true := by
  unfold SeqAt.shaped
  rw [Bool.and_eq_true]
  refine ⟨cl_ints ns, decide_eq_true ?_⟩
  have := de_ints ns
  show PyData.depth (PyData.list (ns.map .int)) ≤ 64
  simp only [PyData.depth]
  omega
theorem sh_ll (M : List (List Int)) : SeqAt.shaped (dL M) = true := by
  unfold SeqAt.shaped
  rw [Bool.and_eq_true]
  refine ⟨cl_rows M, decide_eq_true ?_⟩
  have := de_rows M
  show PyData.depth (PyData.list (M.map dI)) ≤ 64
  simp only [PyData.depth]
  omega
theorem eqv_intsA : ∀ a b : List Int, PyData.eqvAll (a.map .int) (b.map .int) = decide (a = b)
  | [], [] => rfl
  | [], y :: b => rfl
  | x :: a, [] => rfl
  | x :: a, y :: b => by
    show (x == y && PyData.eqvAll (a.map .int) (b.map .int)) = _
    rw [eqv_intsA a b]
    by_cases h : x = y <;> by_cases h2 : a = b <;> simp [h, h2]
theorem eqv_ints (a b : List Int) : PyData.eqv (dI a) (dI b) = decide (a = b) := eqv_intsA a b
theorem eqv_rowsA : ∀ a b : List (List Int), PyData.eqvAll (a.map dI) (b.map dI) = decide (a = b)
  | [], [] => rfl
  | [], y :: b => rfl
  | x :: a, [] => rfl
  | x :: a, y :: b => by
    show (PyData.eqv (dI x) (dI y) && PyData.eqvAll (a.map dI) (b.map dI)) = _
    rw [eqv_rowsA a b, eqv_ints]
    by_cases h : x = y <;> by_cases h2 : a = b <;> simp [h, h2]
theorem eqv_ll (a b : List (List Int)) : PyData.eqv (dL a) (dL b) = decide (a = b) := eqv_rowsA a b
section
variable {K : PySem.W.Frag} {σ : L2.St} {H : Hp} {ta tb : TE}
/-- xs != ys, lists of ints, the second a new one -/
theorem ev_neI {a b : List Int} {x : V} (ha : Ev ta σ H x) (hx : IsL K (Ints a) x H) (hb : EvL tb σ H (Ints b)) : Ev (tOp (rNeD K) ta tb) σ H (.bl (!decide (a = b))) := fun H1 e Q q =>
  ha H1 e _ fun H2 e2 => hb H2 (e.trans e2) _ fun p H3 hp e3 h3 => ⟨dI a, dI b, dp_ints (hx.imp fun a h => ⟨h.1, ex_l ((e.trans e2).trans e3) h.2⟩), dp_ints ⟨p, rfl, sq_of h3⟩, sh_ints a, sh_ints b, by
    rw [eqv_ints]
    exact q H3 (e2.trans e3)⟩
/-- lists of lists -/
theorem ev_neLL {a b : List (List Int)} {x y : V} (ha : Ev ta σ H x) (hx : LL K a x H) (hb : Ev tb σ H y) (hy : LL K b y H) : Ev (tOp (rNeD K) ta tb) σ H (.bl (!decide (a = b))) := fun H1 e Q q =>
  ha H1 e _ fun H2 e2 => hb H2 (e.trans e2) _ fun H3 e3 => ⟨dL a, dL b, dp_ll (LL.m _ _ _ ((e.trans e2).trans e3) hx), dp_ll (LL.m _ _ _ ((e.trans e2).trans e3) hy), sh_ll a, sh_ll b, by
    rw [eqv_ll]
    exact q H3 (e2.trans e3)⟩
/-- xs + ys -/
theorem el_cat {xs ys : List V} {a : Addr} (ha : Ev ta σ H (.ref a)) (hx : H a = some (.lst xs)) (hb : EvL tb σ H ys) (hl : xs.length + ys.length ≤ 100000) : EvL (tOp rCat ta tb) σ H (xs ++ ys) := fun H1 e Q q =>
  ha H1 e _ fun H2 e2 => hb H2 (e.trans e2) _ fun b H3 hb3 e3 h3 => ⟨a, b, xs, ys, rfl, rfl, e3 _ _ (e2 _ _ (e _ _ hx)), h3, sz_of hl, fun p hp => q p _ (fresh_back (e2.trans e3) hp) ((e2.trans e3).trans (Ex.new hp)) upd_same⟩
/-- xs * k -/
theorem el_rep {xs : List V} {k : Int} (ha : EvL ta σ H xs) (hb : ∀ H1, Ex H H1 → Ev tb σ H1 (.int k)) (hk : 0 ≤ k) (hl : xs.length * k.toNat ≤ 100000) (hk2 : k ≤ 100000) : EvL (tOp rRep ta tb) σ H (List.replicate k.toNat xs).flatten := fun H1 e Q q =>
  ha H1 e _ fun a H2 ha2 e2 h2 => hb H2 (e.trans e2) H2 (Ex.refl _) _ fun H3 e3 => by
    refine ⟨a, k, xs, rfl, rfl, e3 _ _ h2, by omega, by omega, sz_of hl, fun p hp => ?_⟩
    have q' := q p (upd H3 p (.lst (List.replicate k.toNat xs).flatten)) (fresh_back (e2.trans e3) hp) ((e2.trans e3).trans (Ex.new hp)) upd_same
    first | exact q' | simpa using q'
end
end Ef
end
section
/-! B3: enumerate of a tuple; zip of a tuple and a list; loops and comprehensions over pairs -/
namespace Ef
open PySem PySem.Spec PyProof.Rows L2 Evl
end Ef
namespace PySem
set_option maxHeartbeats 1000000 in
/-- enumerate(v), v told by how its iterator begins -/
theorem ef_enum_new1 {v : Value} {o : Obj} {H : Heap → Prop} (B : Begins v o H) :
    Meets (Builtin.«enumerate.__new__» ⟨[.type "enumerate", v], []⟩) (fun _ R s => H s.heap ∧
      R (.ok (.ret (.ref (s.heap.push o).objs.size))) { s with heap := (s.heap.push o).push { cls := .type "enumerate", data := .fields #[.none, .bool false, .ref s.heap.objs.size, rawInt 0, .none, .none] } }) :=
  .of_wp fun prog w A R s h => by
    obtain ⟨hp, g, d, tk, os⟩ := s; obtain ⟨h1, h⟩ := h
    have hsub := sub_enumerate
    have q1 : ∀ {A' : Around} {E : Value → Shared → Prop} {Q : Value → Shared → Prop}, Q (.ref hp.objs.size) ⟨hp.push o, g, d, tk, os⟩ → wpAny (model prog w) A' (pyIter v) Q E ⟨hp, g, d, tk, os⟩ :=
      fun q => B.iter prog w _ _ ⟨hp, g, d, tk, os⟩ _ h1 q
    wp_walk using q1
    refine wpAny_stack_any fun st => wpAny_pure ?_
    split
    · rename_i c _ _ _ _ _
      cases (c == Value.type "enumerate")
      · wp_walk using q1
        exact ⟨_, rfl, h⟩
      · wp_walk using q1
        exact ⟨_, rfl, h⟩
    · wp_walk using q1
      exact ⟨_, rfl, h⟩
theorem ef_call_enumerate {prog : Program} {w : World} {A : Around} {E : Value → Shared → Prop} {s : Shared} {v : Value} {o : Obj} {H : Heap → Prop} {Q : Value → Shared → Prop} (B : Begins v o H) (h1 : H s.heap)
    (h : ∀ h', IsEnum h' (s.heap.objs.size + 1) s.heap.objs.size 0 .none → h'.get? s.heap.objs.size = some o → h'.objs.size = s.heap.objs.size + 2 →
      (∀ b o, s.heap.get? b = some o → h'.get? b = some o) → Q (.ref (s.heap.objs.size + 1)) { s with heap := h' }) :
    wpAny (model prog w) A (call (.type "enumerate") [v]) Q E s := by
  refine callType_new F.called_enumerate (by decide) (F.typeCall_enumerate_1 _) (F.newCall_enumerate_1 _) (fun obj => F.args_object_init_2 obj _) F.entry_enumerate_new
    (ef_enum_new1 B) ⟨h1, ?_⟩
  have hz : (s.heap.push o).objs.size = s.heap.objs.size + 1 := Heap.size_push ..
  show _ ∧ _
  rw [hz]
  have he : IsEnum ((s.heap.push o).push { cls := .type "enumerate", data := .fields #[.none, .bool false, .ref s.heap.objs.size, rawInt 0, .none, .none] }) (s.heap.objs.size + 1) s.heap.objs.size 0 .none := by
    have := Heap.get?_push_size (s.heap.push o) (o := { cls := .type "enumerate", data := .fields #[.none, .bool false, .ref s.heap.objs.size, rawInt 0, .none, .none] }) rfl
    rw [hz] at this; exact this
  refine ⟨⟨_, he, rfl⟩, h _ he (Heap.get?_push_of_some _ (Heap.get?_push_size _ B.free)) (by rw [Heap.size_push, hz]) fun b o x => Heap.get?_push_of_some _ (Heap.get?_push_of_some _ x)⟩
end PySem
namespace Ef
open PySem PySem.Spec PyProof.Rows L2 Evl
/-- the tuple at a, each item in a new pair -/
def IteT (K : PySem.W.Frag) (a : Addr) : It :=
  ⟨fun i H => ∃ (xs : List V) (x : V), SqT K H a xs ∧ xs[i]? = some x, fun i H v H' => ∃ T x, v = .ref T ∧ H T = none ∧ H' = upd H T (.tup [.int (i : Nat), x]) ∧ ∀ xs, SqT K H a xs → xs[i]? = some x, fun i H => ∃ xs : List V, SqT K H a xs ∧ xs.length = i⟩
theorem turn_enumT {P : Program} {w : World} {K : PySem.W.Frag} {elts : List Expr} {kk : Nat} {tpos : Pos} (a e it : Addr) :
    Turn P w K (.Tuple elts kk tpos) (IteT K a) [e, it] e (fun i h => (∃ old, IsEnum h e it ((i : Nat) : Int) old) ∧ h.IsTupleIter it a i ∧ e ≠ it ∧ a ≠ it ∧ e ≠ a) where
  mem := by simp
  obj := fun i h st b hb => by
    obtain ⟨⟨old, he⟩, ⟨o, ho, hc, hd⟩, _⟩ := st
    have e' : b = e ∨ b = it := by simpa using hb
    rcases e' with z | z
    · rw [z]; exact ⟨_, he, fun v q => nomatch q⟩
    · rw [z]; exact ⟨o, ho, fun v q => by rw [hd] at q; cases q⟩
  keep := fun i h h' st k => let ⟨⟨old, he⟩, hi, hne⟩ := st; ⟨⟨old, k e (by simp) _ he⟩, hi.at fun o q => k it (by simp) o q, hne⟩
  item := by
    intro X hP hw hK hc i pins s σ H E I hf st hg
    subst hP hw hK
    obtain ⟨⟨old, he⟩, hit, hne, hai, hea⟩ := st
    obtain ⟨xs, x, hq, hx⟩ := hg
    obtain ⟨its, rv, p, hz⟩ := I.tuple hq
    obtain ⟨u, hu, ru⟩ := rv.get hx
    have hel : e < s.heap.objs.size := Heap.lt_size he
    have hil : it < s.heap.objs.size := by obtain ⟨_, q, _⟩ := hit; exact Heap.lt_size q
    have hsz' : its.toArray.size = its.length := by simp
    have hil2 : i < its.toArray.size := by rw [hsz']; exact (List.getElem?_eq_some_iff.mp hu).1
    refine wpAny_pyNext_enum_itemC (Draws.tuple (A := X.A.in1) (I.ok.hd hc) it a hai its.toArray) he ⟨hit, (show s.heap.IsTuple a its.toArray from p)⟩ hil2 hne (by simp [hne, hea]) fun x' h' tk hP' ho st' hT hsz hk => ?_
    have ex : x' = u := by
      have q1 : its[i]? = some x' := by simpa using hP'
      rw [hu] at q1
      exact (Option.some.inj q1).symm
    subst ex
    refine ⟨_, rfl, wpAny_letOwnedTupleGo_enum (s := { s with heap := h', toks := tk + 1 }) ho fun h'' he' sb => ?_⟩
    have hT2 : h''.get? s.heap.objs.size = some { cls := .type "tuple", data := .seq #[.int i tk, x'] } := (sb.2 _ (Nat.ne_of_gt hel)).trans hT
    have new : ObjOk X.prog X.w (upd H s.heap.objs.size (.tup [.int (i : Nat), x])) h'' s.heap.objs.size (.tup [.int (i : Nat), x]) :=
      ⟨by show 2 ≤ sizeLine; decide, [.int i tk, x'], .cons ⟨_, rfl⟩ (.cons ru .nil), ⟨_, hT2, rfl, _, rfl⟩⟩
    have I1 : Inv X pins σ (upd H s.heap.objs.size (.tup [.int (i : Nat), x])) { s with heap := h'', toks := tk + 1 } :=
      I.turnedNew (t' := tk + 1) (ch := [e, it]) (fun b ob hb q => (sb.2 b (fun z => hb (by simp [z]))).trans (hk b ob (fun z => hb (by simp [z])) (fun z => hb (by simp [z])) q)) hf (Nat.le_refl _) new
    refine ⟨.ref s.heap.objs.size, _, I1, rfl, ⟨_, x, rfl, I.hok.fresh (Nat.le_refl _), rfl, fun ys hy => by rw [I.tuple_inj hy hq]; exact hx⟩, ⟨⟨x', ?_⟩, st'.1.at fun o q => (sb.2 it (Ne.symm hne)).trans q, hne, hai, hea⟩, fun b hb => ?_⟩
    · have e1 : ((i + 1 : Nat) : Int) = (i : Int) + 1 := by omega
      rw [e1]; exact he'
    · have hb' : b < s.heap.objs.size := by
        have e' : b = e ∨ b = it := by simpa using hb
        rcases e' with z | z
        · rw [z]; exact hel
        · rw [z]; exact hil
      rw [upd_ne (Nat.ne_of_lt hb')]
      exact (hf b hb).1
  done := by
    intro X hP hw hK hc i pins s σ H E I hf st hg
    subst hP hw hK
    obtain ⟨⟨old, he⟩, hit, hne, hai, hea⟩ := st
    obtain ⟨xs, hq, hx⟩ := hg
    obtain ⟨its, rv, p, hz⟩ := I.tuple hq
    obtain ⟨f0, f1, f2, f3, f4, f5⟩ := hf it (by simp)
    have hl := rv.length
    have ei : its.toArray.size = i := by simp; omega
    refine wpAny_pyNext_enum_endD (Draws.tuple (A := X.A.in1) (I.ok.hd hc) it a hai its.toArray) he (by rw [ei]; exact ⟨hit, p⟩) fun h' eb => ⟨rfl, I.turned (t' := s.toks) (fun b o hb q => eb b o hb q) f0 f1 f3 f4 f5⟩
  self := fun A i s Q E st h => let ⟨⟨_, he⟩, _⟩ := st; wpAny_pyIter_enum he h
def iEnumT (K : PySem.W.Frag) (ta : TA) : TI := fun σ H R => ta σ H fun vs H1 => ∃ a xs, vs = [.ref a] ∧ SqT K H1 a xs ∧ R (IteT K a) H1
theorem pi_enumT {X : Cx} {e : Expr} {ta : TA} {p pos tpos : Pos} {elts : List Expr} {kk : Nat} (hg : Gl X "enumerate") (hm : X.mg "enumerate" = none) (ha : PA X [e] ta) (hs : starEach [e] X.env = [(false, eval e X.env)] := by rfl) :
    PI X (.Tuple elts kk tpos) (.Call (.Name "enumerate" p) [e] [] pos) (iEnumT X.K ta) := by
  refine ⟨fun pins s σ H R I h => ?_⟩
  refine Call_ (ld_blt I hg hm boot_enumerate (PyProof.Rows.callWith_type1 (thn (ha.run pos pins s σ H _ I h) fun us s1 ⟨vs, H1, I1, r1, q1⟩ => ?_) hs rfl))
  obtain ⟨a, xs, ex, hq, q⟩ := q1
  subst ex
  cases r1 with
  | cons r rr =>
    cases rr
    cases r
    obtain ⟨its, rv, p', hz⟩ := I1.tuple hq
    have la : a < s1.heap.objs.size := IsTup.lt p'
    refine ef_call_enumerate (begins_tuple a its.toArray) (show s1.heap.IsTuple a its.toArray from p') fun h' he hit hsz hk => wpAny_pyIter_enum he ?_
    have I2 : Inv X pins σ H1 { s1 with heap := h' } := I1.kept (t' := s1.toks) hk
    refine ⟨s1.heap.objs.size + 1, [s1.heap.objs.size + 1, s1.heap.objs.size], _, _, H1, rfl, I2, turn_enumT a (s1.heap.objs.size + 1) s1.heap.objs.size,
      ⟨⟨.none, he⟩, ⟨_, hit, rfl, rfl⟩, Nat.succ_ne_self _, Nat.ne_of_lt la, Nat.ne_of_gt (Nat.lt_succ_of_lt la)⟩, fun b hb => ?_, q⟩
    have e' : b = s1.heap.objs.size + 1 ∨ b = s1.heap.objs.size := by simpa using hb
    have hle : s1.heap.objs.size ≤ b := by
      rcases e' with z | z
      · rw [z]; exact Nat.le_add_right _ _
      · rw [z]; exact Nat.le_refl _
    exact I1.fpOk hle (I1.hok.fresh hle)
theorem walk_enumT {K : PySem.W.Frag} {a : Addr} {xs : List V} : Walk (IteT K a) xs.length (fun H => SqT K H a xs) (YPair (fun i => some (.int (i : Nat))) (fun i => xs[i]?)) where
  goes := fun i H hi h => ⟨xs, xs[i], h, by simp [hi]⟩
  stops := fun H h => ⟨xs, h, rfl⟩
  yields := fun i H x H' hi h y => by
    obtain ⟨T, z, e1, e2, e3, e4⟩ := y
    exact ⟨T, _, z, e1, e2, e3, rfl, e4 xs h⟩
/-- the tuple at a and the list at b, the items in new pairs; of one length -/
def ItzM (K : PySem.W.Frag) (a b : Addr) : It :=
  ⟨fun i H => ∃ (xs ys : List V) (x y : V), SqT K H a xs ∧ SqL K H b ys ∧ xs[i]? = some x ∧ ys[i]? = some y,
    fun i H v H' => ∃ T x y, v = .ref T ∧ H T = none ∧ H' = upd H T (.tup [x, y]) ∧ (∀ xs, SqT K H a xs → xs[i]? = some x) ∧ ∀ ys, SqL K H b ys → ys[i]? = some y,
    fun i H => ∃ xs ys : List V, SqT K H a xs ∧ SqL K H b ys ∧ xs.length = i ∧ ys.length = i⟩
theorem turn_zipM {P : Program} {w : World} {K : PySem.W.Frag} {elts : List Expr} {kk : Nat} {tpos : Pos} {a b z TI TO i1 i2 : Addr} (S : ZipSep2 z TI TO i1 i2 [i1, a] [i2, b]) (d1 : a ≠ i1) (d2 : b ≠ i2) :
    Turn P w K (.Tuple elts kk tpos) (ItzM K a b) [z, TI, TO, i1, i2] z (fun i h => IsZip h z TI TO .none ∧ IsTupOf2 h TI (.ref i1) (.ref i2) ∧ (∃ x y, IsTupOf2 h TO x y) ∧ h.IsTupleIter i1 a i ∧ h.IsListIter i2 b i) where
  mem := by simp
  obj := fun i h st c hc => by
    obtain ⟨hz, hTI, ⟨x, y, hTO⟩, ⟨o1, e1, _, d1⟩, ⟨o2, e2, _, d2⟩⟩ := st
    have e' : c = z ∨ c = TI ∨ c = TO ∨ c = i1 ∨ c = i2 := by simpa using hc
    rcases e' with q | q | q | q | q
    · rw [q]; exact ⟨_, hz, fun v q => nomatch q⟩
    · rw [q]; exact ⟨_, hTI, fun v q => nomatch q⟩
    · rw [q]; exact ⟨_, hTO, fun v q => nomatch q⟩
    · rw [q]; exact ⟨o1, e1, fun v q => by rw [d1] at q; cases q⟩
    · rw [q]; exact ⟨o2, e2, fun v q => by rw [d2] at q; cases q⟩
  keep := fun i h h' st k => by
    obtain ⟨hz, hTI, ⟨x, y, hTO⟩, h1, h2⟩ := st
    exact ⟨k z (by simp) _ hz, k TI (by simp) _ hTI, ⟨x, y, k TO (by simp) _ hTO⟩, h1.at fun o q => k i1 (by simp) o q, h2.at fun o q => k i2 (by simp) o q⟩
  item := by
    intro X hP hw hK hc i pins s σ H E I hf st hg
    subst hP hw hK
    obtain ⟨hz, hTI, ⟨x0, y0, hTO⟩, h1, h2⟩ := st
    obtain ⟨xs, ys, x, y, hqx, hqy, hx, hy⟩ := hg
    obtain ⟨its, rv, p, _⟩ := I.tuple hqx
    obtain ⟨its2, rv2, p2, _⟩ := I.list hqy
    obtain ⟨u, hu, ru⟩ := rv.get hx
    obtain ⟨u2, hu2, ru2⟩ := rv2.get hy
    have hzl : z < s.heap.objs.size := Heap.lt_size hz
    have l1 : i < its.toArray.size := by simpa using (List.getElem?_eq_some_iff.mp hu).1
    have l2 : i < its2.toArray.size := by simpa using (List.getElem?_eq_some_iff.mp hu2).1
    refine wpAny_pyNext_zipD2_item S (Draws.tuple (A := X.A.in1) (I.ok.hd hc) i1 a d1 its.toArray) (Draws.list (A := X.A.in1) (I.ok.hd hc) i2 b d2 its2.toArray) hz hTI hTO ⟨h1, (show s.heap.IsTuple a its.toArray from p)⟩ ⟨h2, p2.isList⟩ l1 l2 fun x1 x2 h' tk q1 q2 z' TO' h1' h2' hT hsz hk => ?_
    have e1 : x1 = u := by
      have q : its[i]? = some x1 := by simpa using q1
      rw [hu] at q
      exact (Option.some.inj q).symm
    have e2 : x2 = u2 := by
      have q : its2[i]? = some x2 := by simpa using q2
      rw [hu2] at q
      exact (Option.some.inj q).symm
    subst e1
    subst e2
    refine ⟨_, rfl, wpAny_letOwnedTupleGo_zip (s := { s with heap := h', toks := tk }) z' fun h'' z'' sb => ?_⟩
    have hT2 : h''.get? s.heap.objs.size = some { cls := .type "tuple", data := .seq #[x1, x2] } := (sb.2 _ (Nat.ne_of_gt hzl)).trans hT
    have new : ObjOk X.prog X.w (upd H s.heap.objs.size (.tup [x, y])) h'' s.heap.objs.size (.tup [x, y]) :=
      ⟨by show 2 ≤ sizeLine; decide, [x1, x2], .cons ru (.cons ru2 .nil), ⟨_, hT2, rfl, _, rfl⟩⟩
    have I1 : Inv X pins σ (upd H s.heap.objs.size (.tup [x, y])) { s with heap := h'', toks := tk } :=
      I.turnedNew (t' := tk) (ch := [z, TI, TO, i1, i2]) (fun c o hb q => (sb.2 c (fun q' => hb (by simp [q']))).trans (hk c o (fun q' => hb (by simp [q'])) (fun q' => hb (by simp [q'])) (fun q' => hb (by simp [q'])) (fun q' => hb (by simp [q'])) q)) hf (Nat.le_refl _) new
    refine ⟨.ref s.heap.objs.size, _, I1, rfl, ⟨_, x, y, rfl, I.hok.fresh (Nat.le_refl _), rfl, fun l hl => by rw [I.tuple_inj hl hqx]; exact hx, fun l hl => by rw [I.list_inj hl hqy]; exact hy⟩, ⟨z'', ?_, ⟨x1, x2, ?_⟩, ?_, ?_⟩, fun c hcm => ?_⟩
    · exact (sb.2 _ S.TIz).trans (hk _ _ S.TIz S.TITO S.TIi1 S.TIi2 hTI)
    · exact (sb.2 _ S.TOz).trans TO'
    · exact h1'.1.at fun o q => (sb.2 _ (fun e => S.zf1 (by simp [e]))).trans q
    · exact h2'.1.at fun o q => (sb.2 _ (fun e => S.zf2 (by simp [e]))).trans q
    · have hlt : c < s.heap.objs.size := by
        have e' : c = z ∨ c = TI ∨ c = TO ∨ c = i1 ∨ c = i2 := by simpa using hcm
        rcases e' with q | q | q | q | q
        · rw [q]; exact hzl
        · rw [q]; exact Heap.lt_size hTI
        · rw [q]; exact Heap.lt_size hTO
        · rw [q]; obtain ⟨_, e1, _⟩ := h1; exact Heap.lt_size e1
        · rw [q]; obtain ⟨_, e2, _⟩ := h2; exact Heap.lt_size e2
      rw [upd_ne (Nat.ne_of_lt hlt)]
      exact (hf c hcm).1
  done := by
    intro X hP hw hK hc i pins s σ H E I hf st hg
    subst hP hw hK
    obtain ⟨hz, hTI, ⟨x0, y0, hTO⟩, h1, h2⟩ := st
    obtain ⟨xs, ys, hqx, hqy, hx, hy⟩ := hg
    obtain ⟨its, rv, p, _⟩ := I.tuple hqx
    obtain ⟨its2, rv2, p2, _⟩ := I.list hqy
    have l1 := rv.length
    have l2 := rv2.length
    have s1 : its.toArray.size = i := by simp; omega
    have s2 : its2.toArray.size = i := by simp; omega
    exact wpAny_pyNext_zipD2_end S (Draws.tuple (A := X.A.in1) (I.ok.hd hc) i1 a d1 its.toArray) (Draws.list (A := X.A.in1) (I.ok.hd hc) i2 b d2 its2.toArray) hz hTI hTO (i := i) ⟨h1, (show s.heap.IsTuple a its.toArray from p)⟩ ⟨h2, p2.isList⟩ (by omega) (by omega) (.inl s1.symm)
      fun h' tk hk => ⟨rfl, I.turnedL (t' := tk) (ch := [z, TI, TO, i1, i2]) (fun c o hb q => hk c o (fun q' => hb (by simp [q'])) (fun q' => hb (by simp [q'])) (fun q' => hb (by simp [q'])) (fun q' => hb (by simp [q'])) q) hf⟩
  self := fun A i s Q E st h => wpAny_pyIter_zip st.1 h
def iZipM (K : PySem.W.Frag) (ta : TA) : TI := fun σ H R => ta σ H fun vs H1 => ∃ a b xs ys, vs = [.ref a, .ref b] ∧ SqT K H1 a xs ∧ SqL K H1 b ys ∧ R (ItzM K a b) H1
theorem pi_zipM {X : Cx} {e e2 : Expr} {ta : TA} {p pos tpos : Pos} {elts : List Expr} {kk : Nat} (hg : Gl X "zip") (hm : X.mg "zip" = none) (ha : PA X [e, e2] ta)
    (hs : starEach [e, e2] X.env = (false, eval e X.env) :: starEach [e2] X.env := by rfl) (hpl : (backTo pos (starEach [e2] X.env)).any (·.1) = false := by rfl) :
    PI X (.Tuple elts kk tpos) (.Call (.Name "zip" p) [e, e2] [] pos) (iZipM X.K ta) := by
  refine ⟨fun pins s σ H R I h => ?_⟩
  refine Call_ (ld_blt I hg hm PyProof.Rows.boot_zip (PyProof.Rows.callWith_type1 (thn (ha.run pos pins s σ H _ I h) fun us s1 ⟨vs, H1, I1, r1, q1⟩ => ?_) hs hpl))
  obtain ⟨a, b, xs, ys, ex, hqx, hqy, q⟩ := q1
  subst ex
  cases r1 with
  | cons r rr =>
    cases rr with
    | cons r' rr =>
      cases rr
      cases r
      cases r'
      obtain ⟨its, rv, p1, _⟩ := I1.tuple hqx
      obtain ⟨its2, rv2, p2, _⟩ := I1.list hqy
      have la : a < s1.heap.objs.size := IsTup.lt p1
      have lb : b < s1.heap.objs.size := p2.lt
      refine zip_begins2 (begins_tuple a its.toArray) (begins_list b its2.toArray) (show s1.heap.IsTuple a its.toArray from p1) p2.isList fun h' hz hTI hTO h1 h2 hsz hk => wpAny_pyIter_zip hz ?_
      have I2 : Inv X pins σ H1 { s1 with heap := h' } := I1.kept (t' := s1.toks) hk
      refine ⟨s1.heap.objs.size + 4, [s1.heap.objs.size + 4, s1.heap.objs.size + 2, s1.heap.objs.size + 3, s1.heap.objs.size, s1.heap.objs.size + 1], _, _, H1, rfl, I2,
        turn_zipM (zip_sep2 (fp1 := [a]) (fp2 := [b]) (fun c hc => by rw [List.mem_singleton.mp hc]; exact la) (fun c hc => by rw [List.mem_singleton.mp hc]; exact lb)) (Nat.ne_of_lt la) (Nat.ne_of_lt (Nat.lt_succ_of_lt lb)), ⟨hz, hTI, ⟨_, _, hTO⟩, ⟨_, h1, rfl, rfl⟩, ⟨_, h2, rfl, rfl⟩⟩, fun c hcm => ?_, q⟩
      have e' : c = s1.heap.objs.size + 4 ∨ c = s1.heap.objs.size + 2 ∨ c = s1.heap.objs.size + 3 ∨ c = s1.heap.objs.size ∨ c = s1.heap.objs.size + 1 := by simpa using hcm
      have hle : s1.heap.objs.size ≤ c := by
        rcases e' with z | z | z | z | z
        · rw [z]; exact Nat.le_add_right _ _
        · rw [z]; exact Nat.le_add_right _ _
        · rw [z]; exact Nat.le_add_right _ _
        · rw [z]; exact Nat.le_refl _
        · rw [z]; exact Nat.le_add_right _ _
      exact I1.fpOk hle (I1.hok.fresh hle)
theorem walk_zipM {K : PySem.W.Frag} {a b : Addr} {xs ys : List V} {n : Nat} (h1 : xs.length = n) (h2 : ys.length = n) : Walk (ItzM K a b) n (fun H => SqT K H a xs ∧ SqL K H b ys) (YPair (fun i => xs[i]?) (fun i => ys[i]?)) where
  goes := fun i H hi h => ⟨xs, ys, xs[i], ys[i], h.1, h.2, by simp [h1, hi], by simp [h2, hi]⟩
  stops := fun H h => ⟨xs, ys, h.1, h.2, h1, h2⟩
  yields := fun i H x H' hi h y => by
    obtain ⟨T, z, u, e1, e2, e3, e4, e5⟩ := y
    exact ⟨T, z, u, e1, e2, e3, e4 xs h.1, e5 ys h.2⟩
/-- a comprehension over pairs, exact values -/
theorem el_lcPair {K : PySem.W.Frag} {J : It} {n : Nat} {G : Hp → Prop} {fx fy : Nat → Option V} {σ : L2.St} {H1 : Hp} {te : TE} {j k : Nat} {vs : List Nat} {D : Addr} {Qd : Hp → Prop} (hD : H1 D = none) (wk : Walk J n G (YPair fx fy)) (v : Nat → V) (hG : ∀ H', Ex H1 H' → G H') (hn : n ≤ 40000)
    (hw : ∀ x y, wipe (((wipe σ vs).set j (some x)).set k (some y)) vs = wipe σ vs)
    (he : ∀ (i : Nat) (x y : V) H', Ex H1 H' → i < n → fx i = some x → fy i = some y → Ev te (((wipe σ vs).set j (some x)).set k (some y)) H' (v i))
    (hd : ∀ H', Ex H1 H' → H' D = some (.lst ((List.range n).map v)) → Qd H') :
    ∃ W : Nat → Nat → Hp → Prop, (∃ m, W 0 m (upd H1 D (.lst []))) ∧ ∀ i m H, W i m H →
      (J.stop i H ∧ Qd H) ∨ (J.go i H ∧ ∃ Nx : Hp → Prop, (∀ H', Nx H' → ∃ m', m' < m ∧ W (i + 1) m' H') ∧ ∀ x H', J.yld i H x H' → (gTup K 2 (gCons (gName j) (gCons (gName k) gNil))) x (wipe σ vs) H' fun σ2 H2 => wipe σ2 vs = wipe σ vs ∧ tYes σ2 H2 fun b H3 =>
        if b = true then te σ2 H3 fun y H4 => ∃ acc, H4 D = some (.lst acc) ∧ acc.length < sizeLine ∧ Nx (upd H4 D (.lst (acc ++ [y]))) else Nx H3) := by
  refine lc_it wk (fun i H' => Cw H1 (fun _ => true) v D i H') ⟨hD, Ex.new hD, upd_same⟩ (fun i H' _ p => hG H' p.2.1) (fun i x H' H'' hi p y => ?_) (fun H' p => hd H' p.2.1 ?_)
  · obtain ⟨T, a, b, rfl, nT, rfl, ha, hb⟩ := y
    have e2 : Ex H' (upd H' T (.tup [a, b])) := Ex.new nT
    have p' : Cw H1 (fun _ => true) v D i (upd H' T (.tup [a, b])) := ⟨p.1, p.2.1.trans e2, e2 _ _ p.2.2⟩
    refine ⟨T, [a, b], rfl, .inl (.inl upd_same), rfl, a, [b], rfl, b, [], rfl, rfl, hw a b, ?_⟩
    exact cw_turn p' (by omega) et_yes (fun _ => he i a b H1 (Ex.refl _) hi ha hb)
  · have := p.2.2
    unfold given at this
    rw [List.filter_eq_self.mpr (fun _ _ => rfl)] at this
    exact this
end Ef
end
section
/-! B4: classes held in a slot, classmethods, further values -/
namespace Ef
open PySem PySem.Spec PyProof.Rows L2 Evl
section
variable {X : Cx} {CX : CXT} {k i : Nat} {C : Addr} {ps : List Str} {sp : Sp} {E : XK} {x m : Str} {p pos apos : Pos} {e o : Expr} {es : List Expr} {ta : TE} {t : TA}
/-- cls(e, ..), the slot holding the class at C -/
def tMakeL (i : Nat) (C : Addr) (sp : Sp) (E : XK) (t : TA) : TE := fun σ H Q => σ[i]? = some (some (.ref C)) ∧ tMake C sp [] E t σ H Q
theorem pe_makL {y : Str} (M : KClb X.prog X.w X.K X.mg X.base CX C y k ps sp) (hr : Room (k + 1) X.A) (hN : X.N[i]? = some x) (hv : Vis X.env.scope x) (hx : Passes CX X E) (ha : PA X (e :: es) t)
    (hdb : (x == ("__debug__" : Str)) = false := by decide) (hcd : (x == ("__classdict__" : Str)) = false := by decide)
    (he : starEach (e :: es) X.env = (false, eval e X.env) :: starEach es X.env := by rfl) (hpl : (backTo pos (starEach es X.env)).any (·.1) = false := by rfl) : PE X (.Call (.Name x p) (e :: es) [] pos) (tMakeL i C sp E t) := by
  obtain ⟨f, fd, F, mk, gm, b⟩ := M.ex
  refine ⟨fun pins s σ H Q I h => ?_⟩
  obtain ⟨hs, ht⟩ := h
  refine wpAny_Call_Name_kw (thn ((pe_var (pos := p) hN hv hdb hcd).run pins s σ H (fun v H1 => v = .ref C ∧ H1 = H) I ⟨.ref C, hs, rfl, rfl⟩) fun u s1 ⟨v, H1, I1, r1, q1⟩ => ?_)
  obtain ⟨rfl, rfl⟩ := q1
  cases r1
  refine PySem.W.callWith_K (h₀ := X.base) I.ok.mod.kin mk.kp (thn (ha.run pos pins s1 σ _ _ I1 ht) fun us s2 ⟨vs, H2, I2, r, q⟩ => ⟨I2.kIn, ?_⟩) he hpl
  exact run_make mk F hr b .nil hx I2 r q
end
structure CmClb (P : Program) (w : World) (K : PySem.W.Frag) (mg : Str → Option Value) (base : Heap) (CX : CXT) (C : Addr) (m : Str) (k : Nat) (sp : Sp) : Prop where
  ex : ∃ p g mc, ClX.CRead K C mc ∧ ClX.CMet K C mc m p g ∧ FnR P w K mg base CX k g sp
/-- what the text says of a classmethod -/
structure CmOk (K : PySem.W.Frag) (C : Addr) (m qual : Str) (st : Stmt) (ps : List Str) : Prop where
  ex : ∃ p g mc fd, ClX.CRead K C mc ∧ ClX.CMet K C mc m p g ∧ Fun K m qual st g fd ∧ Binds K fd ps []
section
variable {P : Program} {w : World} {K : PySem.W.Frag} {mg : Str → Option Value} {base : Heap} {CX : CXT} {C : Addr} {m : Str} {k : Nat} {sp : Sp} {ps : List Str}
theorem CmClb.of {p g : Addr} {mc : Value} {fd : FuncData} (r : ClX.CRead K C mc) (c : ClX.CMet K C mc m p g) (b : Binds K fd ps []) (F : FnOk P w K mg base CX k g fd ps sp) : CmClb P w K mg base CX C m k sp :=
  ⟨p, g, mc, r, c, (F.raw b .nil).imp fun vs H Q E h => by rw [List.append_nil]; exact h⟩
end
section
variable {X : Cx} {CX : CXT} {k i : Nat} {C : Addr} {ps : List Str} {sp : Sp} {E : XK} {x m : Str} {p pos apos : Pos} {e o : Expr} {es : List Expr} {ta : TE} {t : TA}
theorem pe_cm {pl : Sem Bool} (he : PE X o ta) (M : CmClb X.prog X.w X.K X.mg X.base CX C m k sp) (hr : Room k X.A) (hx : Passes CX X E) (ha : PA X (e :: es) t)
    (hst : starEach (e :: es) X.env = (false, eval e X.env) :: starEach es X.env := by rfl) (hpl : (backTo pos (starEach es X.env)).any (·.1) = false := by rfl)
    (ht : eval (.Call (.Attribute o m apos) (e :: es) [] pos) X.env = (do
      let ov ← eval o X.env
      standAt apos.atName
      let (f, first) ← holding [ov] (getMethod ov m pl)
      callWith pos f first (backTo pos (starEach (e :: es) X.env)) (backToKw pos (keywordEach [] X.env))) := by rfl) :
    PE X (.Call (.Attribute o m apos) (e :: es) [] pos) (ClX.tCMeth C sp E ta t) := by
  obtain ⟨p, g, mc, r, c, F⟩ := M.ex
  exact ClX.pe_cmeth he r c F hr hx ha hst hpl ht
/-- a global name that holds a class, as a value -/
theorem pe_cls (hm : X.mg x = some (.ref C)) (hg : Gl X x := by rfl) (hdb : (x == ("__debug__" : Str)) = false := by decide) (hcd : (x == ("__classdict__" : Str)) = false := by decide) : PE X (.Name x pos) (tC (.ref C)) :=
  ⟨fun pins s σ H Q I h => ld_glob I hg hm ⟨.ref C, H, I, rfl, h⟩ hdb⟩
end
section
variable {c : List V → HO} {K : PySem.W.Frag} {σ : L2.St} {H H' : Hp} {ta tb te tx tl : TE} {t u : TT} {x y z v : V} {r : R2}
abbrev rTupleOf (K : PySem.W.Frag) : List V → Hp → VK → Prop := fun xs H Q => ∃ p ys, xs = [.ref p] ∧ ((SqL K H p ys ∧ ∀ l, H l = none → Q (.ref l) (upd H l (.tup ys))) ∨ (SqT K H p ys ∧ Q (.ref p) H))
abbrev rListOf (K : PySem.W.Frag) : List V → Hp → VK → Prop := fun xs H Q => ∃ p ys, xs = [.ref p] ∧ (SqL K H p ys ∨ SqT K H p ys) ∧ ∀ l, H l = none → Q (.ref l) (upd H l (.lst ys))
/-- tuple(xs), xs a list -/
theorem eu_tupleL {p : Addr} {xs : List V} (ha : Ev ta σ H (.ref p)) (h : SqL K H p xs) : EvU (tCB (rTupleOf K) (tCons ta tNil)) σ H xs := fun H1 e Q q =>
  ha H1 e _ fun H2 e2 => ⟨p, xs, rfl, .inl ⟨ex_l (e.trans e2) h, fun l hl => q l _ (fresh_back e2 hl) (e2.trans (Ex.new hl)) upd_same⟩⟩
/-- list(xs), xs a list or a tuple -/
theorem el_listS {xs : List V} (ha : Ev ta σ H x) (h : IsS K xs x H) : EvL (tCB (rListOf K) (tCons ta tNil)) σ H xs := by
  obtain ⟨p, rfl, hs⟩ := h
  exact fun H1 e Q q => ha H1 e _ fun H2 e2 => ⟨p, xs, rfl, hs.elim (fun h => .inl (ex_l (e.trans e2) h)) (fun h => .inr (ex_t (e.trans e2) h)), fun l hl => q l _ (fresh_back e2 hl) (e2.trans (Ex.new hl)) upd_same⟩
/-- the rows of a list of lists: refs, each a list -/
theorem LL.rows {M : List (List Int)} (h : LL K M v H) : ∃ a vs, v = .ref a ∧ SqL K H a vs ∧ vs.length = M.length ∧ ∀ (i : Nat) u, vs[i]? = some u → ∃ r row, u = .ref r ∧ M[i]? = some row ∧ SqL K H r (Ints row) := by
  obtain ⟨a, vs, e, hs, hp⟩ := h
  refine ⟨a, vs, e, hs, Paired.len hp, fun i u hu => ?_⟩
  obtain ⟨row, h1, r, h2, h3⟩ := pr_getL hp hu
  exact ⟨r, row, h2, h1, h3⟩
theorem TT2.rows {M : List (List Int)} (h : TT2 K M v H) : ∃ a vs, v = .ref a ∧ SqT K H a vs ∧ vs.length = M.length ∧ ∀ (i : Nat) u, vs[i]? = some u → ∃ r row, u = .ref r ∧ M[i]? = some row ∧ SqT K H r (Ints row) := by
  obtain ⟨a, vs, e, hs, hp⟩ := h
  refine ⟨a, vs, e, hs, Paired.len hp, fun i u hu => ?_⟩
  obtain ⟨row, h1, r, h2, h3⟩ := pr_getL hp hu
  exact ⟨r, row, h2, h1, h3⟩
/-- min(i, j) of naturals -/
theorem ev_min2 {i j : Nat} (ha : Ev ta σ H (.int (i : Int))) (hb : Ev tb σ H (.int (j : Int))) : Ev (tCB (fun xs H Q => ∃ i j : Int, xs = [V.int i, V.int j] ∧ Q (.int (if j < i then j else i)) H) (tCons ta (tCons tb tNil))) σ H (.int ((min i j : Nat) : Int)) := fun H1 e Q q =>
  ha H1 e _ fun H2 e2 => hb H2 (e.trans e2) _ fun H3 e3 => ⟨i, j, rfl, by
    have e5 : (if (j : Int) < (i : Int) then (j : Int) else (i : Int)) = ((min i j : Nat) : Int) := by
      split <;> omega
    rw [e5]
    exact q H3 (e2.trans e3)⟩
theorem ev_abs {i : Int} (ha : Ev ta σ H (.int i)) : Ev (tCB (fun xs H Q => ∃ i : Int, xs = [V.int i] ∧ Q (.int (if i < 0 then -i else i)) H) (tCons ta tNil)) σ H (.int (i.natAbs : Int)) := fun H1 e Q q =>
  ha H1 e _ fun H2 e2 => ⟨i, rfl, by
    have e5 : (if i < 0 then -i else i) = (i.natAbs : Int) := by split <;> omega
    rw [e5]
    exact q H2 e2⟩
end
/-! ### the same rules, the written part named (within comprehensions) -/
section
variable {X : Cx} {K : PySem.W.Frag} {e : Expr} {es : List Expr} {ta : TE} {t : TA} {pos p tpos : Pos} {f : Str}
theorem ix_listK (h : X.K = K := by rfl) : IxR X (rIxL K) := h ▸ ix_list
theorem ix_tupK (h : X.K = K := by rfl) : IxR X (rIxT K) := h ▸ ix_tup
theorem sl_listK (h : X.K = K := by rfl) : SlR X (rSlL K) := h ▸ sl_list
abbrev rLenOf (K : PySem.W.Frag) : List V → Hp → VK → Prop := fun xs H Q => ∃ p ys, xs = [V.ref p] ∧ (SqL K H p ys ∨ SqT K H p ys) ∧ Q (.int ys.length) H
theorem call_lenK (h : X.K = K := by rfl) : CallR X (.builtin "len") (rLenOf K) := h ▸ call_len_seq
theorem call_listK (h : X.K = K := by rfl) : CallR X (.type "list") (rListOf K) := h ▸ call_list_of
theorem call_tupleK (h : X.K = K := by rfl) : CallR X (.type "tuple") (rTupleOf K) := h ▸ call_tuple_of
theorem cr_sumK (hc : X.calm = true) (h : X.K = K := by rfl) : CallR X (.builtin "sum") (rSum K) := h ▸ cr_sum hc
theorem cr_anyK (hc : X.calm = true) (h : X.K = K := by rfl) : CallR X (.builtin "any") (rAny K) := h ▸ cr_any hc
theorem op_neDK (hu : X.A.units + 64 < cLine) (h : X.K = K := by rfl) : OpR X (compareOp .NotEq) (rNeD K) := h ▸ op_neD hu
theorem op_notInK (h : X.K = K := by rfl) : OpR X (compareOp .NotIn) (rIn K true) := h ▸ op_notIn_seq
theorem pe_fldK (he : PE X e ta) (h : X.K = K := by rfl) (hb : attributeBase e f X.env (eval e X.env) = eval e X.env := by rfl) : PE X (.Attribute e f pos) (tFld K ta f) := h ▸ pe_fld he hb
theorem pi_listK {tg iter : Expr} {tl : TE} (he : PE X iter tl) (h : X.K = K := by rfl) : PI X tg iter (iList K tl) := h ▸ pi_list he
theorem pi_tupK {tg iter : Expr} {tl : TE} (he : PE X iter tl) (h : X.K = K := by rfl) : PI X tg iter (iTup K tl) := h ▸ pi_tup he
theorem pi_zipK {e e2 : Expr} {elts : List Expr} {kk : Nat} (hg : Gl X "zip") (hm : X.mg "zip" = none) (ha : PA X [e, e2] t) (h : X.K = K := by rfl)
    (hs : starEach [e, e2] X.env = (false, eval e X.env) :: starEach [e2] X.env := by rfl) (hpl : (backTo pos (starEach [e2] X.env)).any (·.1) = false := by rfl) : PI X (.Tuple elts kk tpos) (.Call (.Name "zip" p) [e, e2] [] pos) (iZip K t) := h ▸ pi_zip hg hm ha hs hpl
theorem pi_zipMK {e e2 : Expr} {elts : List Expr} {kk : Nat} (hg : Gl X "zip") (hm : X.mg "zip" = none) (ha : PA X [e, e2] t) (h : X.K = K := by rfl)
    (hs : starEach [e, e2] X.env = (false, eval e X.env) :: starEach [e2] X.env := by rfl) (hpl : (backTo pos (starEach [e2] X.env)).any (·.1) = false := by rfl) : PI X (.Tuple elts kk tpos) (.Call (.Name "zip" p) [e, e2] [] pos) (iZipM K t) := h ▸ pi_zipM hg hm ha hs hpl
theorem pg_tupK {es : List Expr} {k : Nat} {t : TGs} {n : Nat} (hc : X.calm = true) (h : PGs X es t) (hK : X.K = K := by rfl)
    (hn : (assignEach es X.env).length = n := by rfl) (hst : (assignEach es X.env).findIdx? (·.1) = none := by rfl) : PG X (.Tuple es k pos) (gTup K n t) := hK ▸ pg_tup hc h hn hst
end
/-! ### fields stored -/
section
variable {K : PySem.W.Frag} {σ : L2.St} {H : Hp} {ta tv : TE} {tz : TS} {D : Ends} {f : Str} {y : V} {a C dx : Addr} {fs : List (Str × V)} {P : VP}
theorem s_fld (he : Ev tv σ H y) (ho : Ev ta σ H (.ref a)) (hH : H a = some (.ins C dx fs)) (c : Cls K C) (n : NoAttr K C f) (l : fs.length < 1000) (k : ∀ H1, Ex H H1 → D.nx σ (upd H1 a (.ins C dx (putF f y fs)))) : sFld K ta tv f D σ H :=
  he H (Ex.refl H) _ fun H1 e1 => ho H1 e1 _ fun H2 e2 => ⟨a, C, dx, fs, rfl, (e1.trans e2) _ _ hH, c, n, l, k H2 (e1.trans e2)⟩
theorem q_fld (he : Ev tv σ H y) (ho : Ev ta σ H (.ref a)) (hH : H a = some (.ins C dx fs)) (c : Cls K C) (n : NoAttr K C f) (l : fs.length < 1000) (k : ∀ H1, Ex H H1 → tz D σ (upd H1 a (.ins C dx (putF f y fs)))) : tSeq (sFld K ta tv f) tz D σ H :=
  s_fld (D := { D with nx := tz D }) he ho hH c n l k
theorem s_fldP (he : EvP tv σ H P) (ho : Ev ta σ H (.ref a)) (hH : H a = some (.ins C dx fs)) (c : Cls K C) (n : NoAttr K C f) (l : fs.length < 1000) (m : Mono P) (k : ∀ y H1, Ex H H1 → P y H1 → D.nx σ (upd H1 a (.ins C dx (putF f y fs)))) : sFld K ta tv f D σ H :=
  he H (Ex.refl H) _ fun y H1 e1 p => ho H1 e1 _ fun H2 e2 => ⟨a, C, dx, fs, rfl, (e1.trans e2) _ _ hH, c, n, l, k y H2 (e1.trans e2) (m _ _ _ e2 p)⟩
theorem q_fldP (he : EvP tv σ H P) (ho : Ev ta σ H (.ref a)) (hH : H a = some (.ins C dx fs)) (c : Cls K C) (n : NoAttr K C f) (l : fs.length < 1000) (m : Mono P) (k : ∀ y H1, Ex H H1 → P y H1 → tz D σ (upd H1 a (.ins C dx (putF f y fs)))) : tSeq (sFld K ta tv f) tz D σ H :=
  s_fldP (D := { D with nx := tz D }) he ho hH c n l m k
/-- a new own list of lists is stored -/
theorem s_fldR {cc : List V → HO} {M : List (List Int)} (he : EvR cc tv σ H M) (ho : Ev ta σ H (.ref a)) (hH : H a = some (.ins C dx fs)) (c : Cls K C) (n : NoAttr K C f) (l : fs.length < 1000) (k : ∀ b rs H1, Ex H H1 → RowsC cc H H1 b rs M → D.nx σ (upd H1 a (.ins C dx (putF f (.ref b) fs)))) : sFld K ta tv f D σ H :=
  he H (Ex.refl H) _ fun b rs H1 e1 p => ho H1 e1 _ fun H2 e2 => ⟨a, C, dx, fs, rfl, (e1.trans e2) _ _ hH, c, n, l, k b rs H2 (e1.trans e2) (p.ex e2)⟩
theorem q_fldR {cc : List V → HO} {M : List (List Int)} (he : EvR cc tv σ H M) (ho : Ev ta σ H (.ref a)) (hH : H a = some (.ins C dx fs)) (c : Cls K C) (n : NoAttr K C f) (l : fs.length < 1000) (k : ∀ b rs H1, Ex H H1 → RowsC cc H H1 b rs M → tz D σ (upd H1 a (.ins C dx (putF f (.ref b) fs)))) : tSeq (sFld K ta tv f) tz D σ H :=
  s_fldR (D := { D with nx := tz D }) he ho hH c n l k
/-- a new own list of lists is named, returned -/
theorem q_asgR {cc : List V → HO} {te : TE} {M : List (List Int)} {i : Nat} (h : EvR cc te σ H M) (k : ∀ b rs H1, Ex H H1 → RowsC cc H H1 b rs M → tz D (σ.set i (some (.ref b))) H1) : tSeq (tAsg te (gName i)) tz D σ H := h H (Ex.refl H) _ k
theorem s_asgR {cc : List V → HO} {te : TE} {M : List (List Int)} {i : Nat} (h : EvR cc te σ H M) (k : ∀ b rs H1, Ex H H1 → RowsC cc H H1 b rs M → D.nx (σ.set i (some (.ref b))) H1) : tAsg te (gName i) D σ H := h H (Ex.refl H) _ k
theorem s_retR {cc : List V → HO} {te : TE} {M : List (List Int)} (h : EvR cc te σ H M) (k : ∀ b rs H1, Ex H H1 → RowsC cc H H1 b rs M → D.rt (.ref b) H1) : tRet te D σ H := h H (Ex.refl H) _ k
/-- .. as an argument, or where its lists are read -/
theorem EvR.toP {te : TE} {M : List (List Int)} (h : EvR HO.lst te σ H M) : EvP te σ H (LL K M) := fun H1 e Q q => h H1 e Q fun a rs H2 e2 r => q _ H2 e2 r.ll
/-- for a, b in enumerate(tuple) -/
theorem s_forEnumT {ta : TA} {g : TG} {tb : TS} {xs : List V} {p : Addr} (h : EvA ta σ H [.ref p]) (hx : SqT K H p xs) (Pv : Nat → L2.St → Hp → Prop) (h0 : ∀ H1, Ex H H1 → Pv 0 σ H1) (hl : ∀ i σ' H', i ≤ xs.length → Pv i σ' H' → SqT K H' p xs)
    (hs : ∀ i x σ' H' H'', i < xs.length → Pv i σ' H' → YPair (fun i => some (.int (i : Nat))) (fun i => xs[i]?) i H' x H'' → g x σ' H'' fun σ2 H2 => tb { D with nx := Pv (i + 1), ct := Pv (i + 1), bk := D.nx } σ2 H2) (hd : ∀ σ' H', Pv xs.length σ' H' → D.nx σ' H') :
    tFor (iEnumT K ta) g tb D σ H := h H (Ex.refl H) _ fun H1 e => ⟨p, xs, rfl, ex_t e hx, for_it walk_enumT Pv (h0 H1 e) hl hs hd⟩
/-- for a, b in enumerate(list) -/
theorem q_forEnum {tz : TS} {ta : TA} {g : TG} {tb : TS} {xs : List V} {p : Addr} (h : EvA ta σ H [.ref p]) (hx : SqL K H p xs) (Pv : Nat → L2.St → Hp → Prop) (h0 : ∀ H1, Ex H H1 → Pv 0 σ H1) (hl : ∀ i σ' H', i ≤ xs.length → Pv i σ' H' → SqL K H' p xs)
    (hs : ∀ i x σ' H' H'', i < xs.length → Pv i σ' H' → YPair (fun i => some (.int (i : Nat))) (fun i => xs[i]?) i H' x H'' → g x σ' H'' fun σ2 H2 => tb { D with nx := Pv (i + 1), ct := Pv (i + 1), bk := tz D } σ2 H2) (hd : ∀ σ' H', Pv xs.length σ' H' → tz D σ' H') :
    tSeq (tFor (iEnum K ta) g tb) tz D σ H := h H (Ex.refl H) _ fun H1 e => ⟨p, xs, rfl, ex_l e hx, for_it (D := { D with nx := tz D }) walk_enum Pv (h0 H1 e) hl hs hd⟩
end
theorem ints_map {α : Type} (f : α → Int) (l : List α) : l.map (fun x => V.int (f x)) = Ints (l.map f) := by
  show _ = List.map _ (List.map _ _)
  rw [List.map_map]
  rfl
end Ef
end
section
/-! B5: own lists of lists changed by place -/
namespace Ef
open PySem PySem.Spec PyProof.Rows L2 Evl
def ent (M : List (List Int)) (i j : Nat) : Int := (M.getD i []).getD j 0
def upd2 (M : List (List Int)) (i j : Nat) (v : Int) : List (List Int) := M.set i ((M.getD i []).set j v)
def swapM (M : List (List Int)) (i j : Nat) : List (List Int) := (M.set i (M.getD j [])).set j (M.getD i [])
theorem getD_get {α : Type} {l : List α} {i : Nat} {d : α} (h : i < l.length) : l[i]? = some (l.getD i d) := by
  rw [List.getD_eq_getElem?_getD, List.getElem?_eq_getElem h]
  rfl
/-- all but a is as it was, or more -/
def ExBut (a : Addr) (H H' : Hp) : Prop := ∀ b o, b ≠ a → H b = some o → H' b = some o
theorem Ex.but {H H' : Hp} (a : Addr) (e : Ex H H') : ExBut a H H' := fun b o _ h => e b o h
theorem ExBut.trans {a : Addr} {H H1 H2 : Hp} (e : ExBut a H H1) (e2 : ExBut a H1 H2) : ExBut a H H2 := fun b o n h => e2 b o n (e b o n h)
theorem ExBut.upd {a : Addr} {H : Hp} {o : HO} : ExBut a H (upd H a o) := fun b u n h => by rw [upd_ne n]; exact h
theorem ExBut.ex {a : Addr} {H H1 : Hp} (e : ExBut a H H1) (n : H a = none) : Ex H H1 := fun b o h => e b o (ne_of_none h n) h
section
variable {c : List V → HO} {K : PySem.W.Frag} {σ : L2.St} {H0 H : Hp} {tl ti tj te : TE} {D : Ends} {a : Addr} {rs : List Addr} {M : List (List Int)} {i j : Nat}
/-- xs[i], xs[j] = xs[j], xs[i] -/
theorem s_swap (R : RowsC c H0 H a rs M) (hl : ∀ H, Ev tl σ H (.ref a)) (hi : ∀ H, Ev ti σ H (.int (i : Int))) (hj : ∀ H, Ev tj σ H (.int (j : Int))) (li : i < M.length) (lj : j < M.length)
    (k : ∀ H1 ri rj, rs[i]? = some ri → rs[j]? = some rj → ExBut a H H1 → RowsC c H0 H1 a ((rs.set i rj).set j ri) (swapM M i j) → D.nx σ H1) :
    tAsg (tTup (tCons (tOp (rIxL K) tl tj) (tCons (tOp (rIxL K) tl ti) tNil))) (gTup K 2 (gCons (gSub tl ti rSetL) (gCons (gSub tl tj rSetL) gNil))) D σ H := by
  obtain ⟨ri, e1, m1, x1, f1⟩ := R.refs (getD_get (d := []) li)
  obtain ⟨rj, e2, m2, x2, f2⟩ := R.refs (getD_get (d := []) lj)
  have l1 : i < (rs.map V.ref).length := by rw [List.length_map, R.len]; exact li
  have l2 : j < (rs.map V.ref).length := by rw [List.length_map, R.len]; exact lj
  refine ev_op (hl H) (hj H) (rv_ixL (sq_of R.at_) (atI_nat x2)) H (Ex.refl H) _ fun H2 g2 => ?_
  refine ev_op (hl H2) (hi H2) (rv_ixL (sq_of (g2 _ _ R.at_)) (atI_nat x1)) H2 (Ex.refl _) _ fun H3 g3 => ⟨sz_of (Nat.le_of_ble_eq_true rfl), fun t nt => ?_⟩
  have g4 : Ex H (upd H3 t (.tup [.ref rj, .ref ri])) := (g2.trans g3).trans (Ex.new nt)
  refine ⟨t, [.ref rj, .ref ri], rfl, .inl (.inl upd_same), rfl, .ref rj, [.ref ri], rfl, ?_⟩
  refine hl _ _ (Ex.refl _) _ fun H5 g5 => hi _ _ (Ex.refl _) _ fun H6 g6 => ?_
  have g7 : Ex H H6 := (g4.trans g5).trans g6
  refine ⟨a, _, i, i, rfl, rfl, g7 _ _ R.at_, ixN_nat l1, .ref ri, [], rfl, ?_⟩
  refine hl _ _ (Ex.refl _) _ fun H8 g8 => hj _ _ (Ex.refl _) _ fun H9 g9 => ?_
  have ha9 : H9 a = some (.lst ((rs.map V.ref).set i (.ref rj))) := g9 _ _ (g8 _ _ upd_same)
  refine ⟨a, _, j, j, rfl, rfl, ha9, ixN_nat (by rw [List.length_set]; exact l2), rfl, ?_⟩
  have b6 : ExBut a H6 H9 := ExBut.upd.trans (Ex.but a (g8.trans g9))
  have S := (R.ex g7).swap e1 e2 (getD_get (d := []) li) (getD_get (d := []) lj)
  refine k _ ri rj e1 e2 ((Ex.but a g7).trans (b6.trans ExBut.upd)) (RowsC.keep S ?_ fun r hr => ?_)
  · rw [upd_same, upd_same]
  · have nr : r ≠ a := fun z => S.na (by rw [← z]; exact hr)
    obtain ⟨o, ho⟩ := S.tr hr
    rw [upd_ne nr, ho]
    rw [upd_ne nr] at ho
    exact b6 _ _ nr ho
/-- xs[i][j] = e -/
theorem s_setEnt {z : Int} (R : RowsAt H0 H a rs M) (he : Ev te σ H (.int z)) (hl : ∀ H, Ev tl σ H (.ref a)) (hi : ∀ H, Ev ti σ H (.int (i : Int))) (hj : ∀ H, Ev tj σ H (.int (j : Int))) (li : i < M.length) (lj : j < (M.getD i []).length)
    (k : ∀ H1 r, rs[i]? = some r → ExBut r H H1 → RowsAt H0 H1 a rs (upd2 M i j z) → D.nx σ H1) : tAsg te (gSub (tOp (rIxL K) tl ti) tj rSetL) D σ H := by
  obtain ⟨r, e1, m1, x1, f1⟩ := R.refs (getD_get (d := []) li)
  refine s_setL f1 he (ev_op (hl H) (hi H) (rv_ixL (sq_of R.at_) (atI_nat x1))) (hj H) (by rw [List.length_map]; exact lj) fun H1 g1 => ?_
  exact k _ r e1 ((Ex.but r g1).trans ExBut.upd) ((R.ex g1).setItem e1 (getD_get (d := []) li))
/-- xs[i][j] -/
theorem ev_entR (R : RowsAt H0 H a rs M) (hl : Ev tl σ H (.ref a)) (hi : Ev ti σ H (.int (i : Int))) (hj : Ev tj σ H (.int (j : Int))) (li : i < M.length) (lj : j < (M.getD i []).length) : Ev (tOp (rIxL K) (tOp (rIxL K) tl ti) tj) σ H (.int (ent M i j)) :=
  ev_ent (K := K) hl R.ll hi hj (getD_get (d := []) li) (getD_get (d := 0) lj)
end
theorem upd2_len (M : List (List Int)) (i j : Nat) (v : Int) : (upd2 M i j v).length = M.length := List.length_set
theorem getD_set_self {α : Type} {l : List α} {i : Nat} {x d : α} (h : i < l.length) : (l.set i x).getD i d = x := by rw [List.getD_eq_getElem?_getD, List.getElem?_set_self h]; rfl
theorem getD_set_ne {α : Type} {l : List α} {i j : Nat} {x d : α} (h : i ≠ j) : (l.set i x).getD j d = l.getD j d := by rw [List.getD_eq_getElem?_getD, List.getElem?_set_ne h, ← List.getD_eq_getElem?_getD]
theorem upd2_row (M : List (List Int)) (i j : Nat) (v : Int) (k : Nat) : ((upd2 M i j v).getD k []).length = (M.getD k []).length := by
  unfold upd2
  by_cases h : i = k
  · subst h
    by_cases hl : i < M.length
    · rw [getD_set_self hl, List.length_set]
    · rw [List.set_eq_of_length_le (by omega)]
  · rw [getD_set_ne h]
theorem ent_upd2 (M : List (List Int)) {i j : Nat} (v : Int) (k l : Nat) (li : i < M.length) (lj : j < (M.getD i []).length) : ent (upd2 M i j v) k l = if k = i ∧ l = j then v else ent M k l := by
  unfold ent upd2
  by_cases h : i = k
  · subst h
    rw [getD_set_self li]
    by_cases h2 : j = l
    · subst h2
      rw [getD_set_self lj, if_pos ⟨rfl, rfl⟩]
    · rw [getD_set_ne h2, if_neg (fun z => h2 z.2.symm)]
  · rw [getD_set_ne h, if_neg (fun z => h z.1.symm)]
theorem swapM_len (M : List (List Int)) (i j : Nat) : (swapM M i j).length = M.length := by unfold swapM; rw [List.length_set, List.length_set]
theorem swapM_get (M : List (List Int)) {i j : Nat} (k : Nat) (li : i < M.length) (lj : j < M.length) : (swapM M i j).getD k [] = if k = j then M.getD i [] else if k = i then M.getD j [] else M.getD k [] := by
  unfold swapM
  by_cases h : j = k
  · subst h
    rw [getD_set_self (by rw [List.length_set]; exact lj), if_pos rfl]
  · rw [getD_set_ne h, if_neg (fun z => h z.symm)]
    by_cases h2 : i = k
    · subst h2
      rw [getD_set_self li, if_pos rfl]
    · rw [getD_set_ne h2, if_neg (fun z => h2 z.symm)]
/-- an if without else; what follows is shown once, from Mid -/
theorem q_whenJ {t : TT} {tu tz : TS} {D : Ends} {σ : L2.St} {H : Hp} {b : Bool} (Mid : L2.St → Hp → Prop) (h : EvT t σ H b) (h1 : b = true → ∀ H1, Ex H H1 → (∀ σ' H', Mid σ' H' → tz D σ' H') → tu { D with nx := tz D } σ H1)
    (h2 : b = false → ∀ H1, Ex H H1 → Mid σ H1) (k : ∀ σ' H', Mid σ' H' → tz D σ' H') : tSeq (tIfS t tu tNext) tz D σ H := q_when h (fun hb H1 e1 => h1 hb H1 e1 k) (fun hb H1 e1 => k _ _ (h2 hb H1 e1))
theorem q_ifJ {t : TT} {tu tw tz : TS} {D : Ends} {σ : L2.St} {H : Hp} {b : Bool} (Mid : L2.St → Hp → Prop) (h : EvT t σ H b) (h1 : b = true → ∀ H1, Ex H H1 → (∀ σ' H', Mid σ' H' → tz D σ' H') → tu { D with nx := tz D } σ H1)
    (h2 : b = false → ∀ H1, Ex H H1 → (∀ σ' H', Mid σ' H' → tz D σ' H') → tw { D with nx := tz D } σ H1) (k : ∀ σ' H', Mid σ' H' → tz D σ' H') : tSeq (tIfS t tu tw) tz D σ H := q_if h (fun hb H1 e1 => h1 hb H1 e1 k) (fun hb H1 e1 => h2 hb H1 e1 k)
section
variable {c : List V → HO} {K : PySem.W.Frag} {σ : L2.St} {H0 H : Hp} {tl ti tj te : TE} {D : Ends} {tz : TS} {a : Addr} {rs : List Addr} {M : List (List Int)} {i j : Nat}
theorem q_swap (R : RowsC c H0 H a rs M) (hl : ∀ H, Ev tl σ H (.ref a)) (hi : ∀ H, Ev ti σ H (.int (i : Int))) (hj : ∀ H, Ev tj σ H (.int (j : Int))) (li : i < M.length) (lj : j < M.length)
    (k : ∀ H1 ri rj, rs[i]? = some ri → rs[j]? = some rj → ExBut a H H1 → RowsC c H0 H1 a ((rs.set i rj).set j ri) (swapM M i j) → tz D σ H1) :
    tSeq (tAsg (tTup (tCons (tOp (rIxL K) tl tj) (tCons (tOp (rIxL K) tl ti) tNil))) (gTup K 2 (gCons (gSub tl ti rSetL) (gCons (gSub tl tj rSetL) gNil)))) tz D σ H := s_swap (D := { D with nx := tz D }) R hl hi hj li lj k
end
end Ef
end
section
/-! W1: is_prime, checked, is_zero -/
namespace Ef
open PySem PySem.Spec PyProof.Rows L2 Evl
/-- a prime by trial division -/
def PrimeTD (n : Int) : Prop := 2 ≤ n ∧ ∀ d : Int, 2 ≤ d → d * d ≤ n → ¬ d ∣ n
def spIsPrime : Sp := fun vs H Q _ => ∃ n : Int, vs = [.int n] ∧ n < 1000000 ∧ ∀ b H', Ex H H' → (b = true ↔ PrimeTD n) → Q (.bl b) H'
abbrev s_is_prime : Stmt := topS 11
theorem sc_is_prime : FnScope ["n", "divisor"] ["n"] (defScope s_is_prime) := ⟨rfl, rfl, rfl, by decide +kernel, rfl, by decide +kernel, by decide +kernel⟩
section
variable {P : Program} {w : World} {K : PySem.W.Frag} {mg : Str → Option Value} {base : Heap}
theorem fmod_zero {a b : Int} : (a.fmod b = 0) ↔ b ∣ a := by
  rw [Int.dvd_iff_fmod_eq_zero]
theorem c_is_prime (T : DefOk K mg "is_prime" s_is_prime ["n"]) : Clb P w K mg base CX0 "is_prime" 1 ["n"] spIsPrime := by
  obtain ⟨f, fd, F, gm, b⟩ := T.ex
  refine ⟨f, fd, F.ok sc_is_prime (fun vs H Q E h => ?_) (fun cdv A outer s H vs Q E hr h => ?_), gm, F.kp, b⟩
  · obtain ⟨n, rfl, _⟩ := h
    rfl
  · obtain ⟨n, rfl, hn, q⟩ := h
    have nd := sc_is_prime.nd
    refine ⟨_, (pss_cons (ps_if (pt_cmpR op_lt (pv 0) pe_int (nomark _))
      (pss_one (ps_ret pe_bl))
      pss_nil)
    (pss_cons (ps_set (i := 1) nd rfl (Or.inl rfl) pe_int)
    (pss_cons (ps_while PassesOwn.never (pt_cmpR op_le (pe_op op_mul (pv 1) (pv 1)) (pv 0) (nomark _))
      (pss_cons (ps_if (pt_cmpR op_eq (pe_op op_modN (pv 0) (pv 1)) pe_int (nomark _))
        (pss_one (ps_ret pe_bl))
        pss_nil)
      (pss_one (ps_aug (i := 1) nd rfl (Or.inl rfl) pe_int ip_add))))
    (pss_one (ps_ret pe_bl))))), ?_⟩
    refine q_when (et_test (ev_op (ev_var rfl) ev_c rv_I0)) (fun hb H1 e1 => ?_) (fun hb H1 e1 => ?_)
    · refine q false H1 e1 ⟨fun z => (by cases z), fun z => ?_⟩
      have := of_decide_eq_true hb
      have := z.1
      omega
    have h2 : ¬ n < 2 := of_decide_eq_false hb
    refine q_asg ev_c fun H2 e2 => ?_
    refine q_while (fun m σ H' => ∃ d : Int, σ = [some (.int n), some (.int d)] ∧ 2 ≤ d ∧ (∀ e : Int, 2 ≤ e → e < d → ¬ e ∣ n) ∧ m = (n + 1 - d).toNat ∧ d ≤ n ∧ Ex H H') (n + 1 - 2).toNat ⟨2, rfl, by omega, fun e h1 h2 => by omega, rfl, by omega, e1.trans e2⟩ ?_
    rintro m σ H' ⟨d, rfl, hd2, hd, rfl, hdn, eH⟩
    have hsq : 2 * d ≤ d * d := by
      have := Int.mul_le_mul_of_nonneg_right (show 2 ≤ d by omega) (show 0 ≤ d by omega)
      omega
    refine ⟨_, et_test (ev_op (ev_op (ev_var rfl) (ev_var rfl) (rv_I (.inl ⟨by omega, by omega⟩))) (ev_var rfl) rv_I0), fun hb H3 e3 => ?_, fun hb H3 e3 => ?_⟩
    · have hle : d * d ≤ n := of_decide_eq_true hb
      refine ⟨_, fun σ2 H2 h => h, ?_⟩
      refine q_when (et_test (ev_op (ev_op (ev_var rfl) (ev_var rfl) (rv_I (show d ≠ 0 by omega))) ev_c (rv_eq rfl))) (fun hb H4 e4 => ?_) (fun hb H4 e4 => ?_)
      · have h0 : n.fmod d = 0 := V.int.inj (of_decide_eq_true hb)
        refine q false H4 ((eH.trans e3).trans e4) ⟨fun z => (by cases z), fun z => ?_⟩
        exact absurd (fmod_zero.mp h0) (z.2 d hd2 hle)
      · have h0 : ¬ n.fmod d = 0 := fun z => of_decide_eq_false hb (by rw [z])
        refine s_aug rfl ev_c fun H5 e5 => ?_
        refine ⟨(n + 1 - (d + 1)).toNat, by omega, d + 1, rfl, by omega, fun e h1 h2 => ?_, rfl, by omega, ((eH.trans e3).trans e4).trans e5⟩
        by_cases he : e = d
        · subst he
          exact fun z => h0 (fmod_zero.mpr z)
        · exact hd e h1 (by omega)
    · have hgt : ¬ d * d ≤ n := of_decide_eq_false hb
      refine q true H3 (eH.trans e3) ⟨fun _ => ⟨by omega, fun e h1 h2 => ?_⟩, fun _ => rfl⟩
      by_cases he : e < d
      · exact hd e h1 he
      · have : d * d ≤ e * e := Int.mul_le_mul (by omega) (by omega) (by omega) (by omega)
        omega
end
end Ef
end
section
/-! W2: choices -/
namespace Ef
open PySem PySem.Spec PyProof.Rows L2 Evl
/-- lo, lo + 1, .. below hi -/
def upI (lo hi : Nat) : List Int := (List.range (hi - lo)).map fun i => ((lo + i : Nat) : Int)
/-- behind the last item -/
def chStart (row : List Nat) : Nat := match row.getLast? with | some z => z + 1 | none => 0
/-- ascending lists -/
def chs (many : Nat) : Nat → List (List Nat)
  | 0 => [[]]
  | s + 1 => (chs many s).flatMap fun row => (List.range (many - chStart row)).map fun i => row ++ [chStart row + i]
def natsI (row : List Nat) : List Int := row.map fun (n : Nat) => (n : Int)
abbrev chsI (many s : Nat) : List (List Int) := (chs many s).map natsI
theorem natsI_app (a b : List Nat) : natsI (a ++ b) = natsI a ++ natsI b := List.map_append
/-- an own list of lists, with further new lists behind it -/
theorem RowsC.extend {c : List V → HO} {H0 H1 H2 : Hp} {a b : Addr} {rs rs2 : List Addr} {M N : List (List Int)} (h : RowsC c H0 H1 a rs M) (h2 : RowsC c H1 H2 b rs2 N) (e0 : Ex H0 H1) (e : Ex H1 H2) :
    RowsC c H0 (upd H2 a (.lst (rs.map V.ref ++ rs2.map V.ref))) a (rs ++ rs2) (M ++ N) := by
  have na2 : a ∉ rs2 := fun z => by
    have q := h2.fr a z
    rw [h.at_] at q
    cases q
  have dis : ∀ r, r ∈ rs → r ∉ rs2 := fun r hr z => by
    obtain ⟨o, ho⟩ := h.tr hr
    rw [h2.fr r z] at ho
    cases ho
  refine ⟨h.fa, fun r hr => ?_, fun z => ?_, fun i j r hi hj => ?_, by rw [upd_same, List.map_append], ?_⟩
  · rcases List.mem_append.mp hr with z | z
    · exact h.fr r z
    · exact fresh_back e0 (h2.fr r z)
  · rcases List.mem_append.mp z with z | z
    · exact h.na z
    · exact na2 z
  · rcases Nat.lt_or_ge i rs.length with li | li
    · rw [List.getElem?_append_left li] at hi
      rcases Nat.lt_or_ge j rs.length with lj | lj
      · rw [List.getElem?_append_left lj] at hj
        exact h.inj i j r hi hj
      · rw [List.getElem?_append_right lj] at hj
        exact absurd (List.mem_of_getElem? hj) (dis r (List.mem_of_getElem? hi))
    · rw [List.getElem?_append_right li] at hi
      rcases Nat.lt_or_ge j rs.length with lj | lj
      · rw [List.getElem?_append_left lj] at hj
        exact absurd (List.mem_of_getElem? hi) (dis r (List.mem_of_getElem? hj))
      · rw [List.getElem?_append_right lj] at hj
        have := h2.inj _ _ r hi hj
        omega
  · refine pr_app (pr_impm (fun r row hr z => ?_) h.rows) (pr_impm (fun r row hr z => ?_) h2.rows)
    · rw [upd_ne (fun z => h.na (by rw [← z]; exact hr))]
      exact e _ _ z
    · rw [upd_ne (fun z => na2 (by rw [← z]; exact hr))]
      exact z
/-- choices(many, size): a new list of new lists -/
def spChoices (n : Nat) : Sp := fun vs H Q _ => ∃ many size : Nat, vs = [.int (many : Int), .int (size : Int)] ∧ many ≤ 7 ∧ size < n ∧ size ≤ 7 ∧ ∀ a rs H', Ex H H' → RowsAt H H' a rs (chsI many size) → Q (.ref a) H'
theorem flat_len (many : Nat) (h : many ≤ 7) : ∀ l : List (List Nat), (l.flatMap fun row => (List.range (many - chStart row)).map fun i => row ++ [chStart row + i]).length ≤ 7 * l.length
  | [] => Nat.le_refl 0
  | x :: r => by
    have ih := flat_len many h r
    rw [List.flatMap_cons, List.length_append, List.length_map, List.length_range, List.length_cons]
    omega
theorem chs_len (many : Nat) (h : many ≤ 7) : ∀ s, (chs many s).length ≤ 7 ^ s
  | 0 => Nat.le_refl 1
  | s + 1 => by
    have ih := chs_len many h s
    have := flat_len many h (chs many s)
    rw [Nat.pow_succ]
    show ((chs many s).flatMap _).length ≤ _
    omega
theorem pow7 {s : Nat} (h : s ≤ 7) : 7 ^ s ≤ 823543 := Nat.le_trans (Nat.pow_le_pow_right (by decide) h) (by decide)
theorem take_flat {α β : Type} (f : α → List β) (l : List α) {i : Nat} {x : α} (h : l[i]? = some x) : (l.take (i + 1)).flatMap f = (l.take i).flatMap f ++ f x := by
  rw [List.take_add_one, h, List.flatMap_append]
  show _ ++ (f x ++ []) = _
  rw [List.append_nil]
theorem chs_mem (many : Nat) : ∀ (s : Nat) (row : List Nat), row ∈ chs many s → row.length = s
  | 0, row, h => by rw [List.mem_singleton.mp h]; rfl
  | s + 1, row, h => by
    obtain ⟨r, h1, h2⟩ := List.mem_flatMap.mp h
    obtain ⟨i, _, rfl⟩ := List.mem_map.mp h2
    rw [List.length_append, chs_mem many s r h1]
    rfl
theorem chs_start (many : Nat) : ∀ (s : Nat) (row : List Nat), row ∈ chs many s → chStart row ≤ many
  | 0, row, h => by rw [List.mem_singleton.mp h]; exact Nat.zero_le _
  | s + 1, row, h => by
    obtain ⟨r, h1, h2⟩ := List.mem_flatMap.mp h
    obtain ⟨i, hi, rfl⟩ := List.mem_map.mp h2
    have := List.mem_range.mp hi
    unfold chStart
    rw [List.getLast?_concat]
    show chStart r + i + 1 ≤ many
    omega
abbrev s_choices : Stmt := topS 23
theorem sc_choices : FnScope ["many", "size", "rows", "row", "start", "at"] ["many", "size"] (defScope s_choices) := ⟨rfl, rfl, rfl, by decide +kernel, rfl, by decide +kernel, by decide +kernel⟩
section
variable {P : Program} {w : World} {K : PySem.W.Frag} {mg : Str → Option Value} {base : Heap}
theorem c_choices (T : DefOk K mg "choices" s_choices ["many", "size"]) (Tr : mg "range" = none) : ∀ n, Clb P w K mg base CX0 "choices" n ["many", "size"] (spChoices n)
  | 0 => by
    obtain ⟨f, fd, F, gm, b⟩ := T.ex
    exact ⟨f, fd, ⟨fun vs H Q E h => by obtain ⟨_, _, _, _, h, _⟩ := h; omega, fun A outer s H args us vs Q E _ _ _ _ h => by obtain ⟨_, _, _, _, h, _⟩ := h; omega⟩, gm, F.kp, b⟩
  | n + 1 => by
    have C_choices := c_choices T Tr n
    obtain ⟨f, fd, F, gm, b⟩ := T.ex
    refine ⟨f, fd, F.ok sc_choices (fun vs H Q E h => ?_) (fun cdv A outer s H vs Q E hr h => ?_), gm, F.kp, b⟩
    · obtain ⟨n, s, rfl, _⟩ := h
      rfl
    · obtain ⟨many, size, rfl, hm, hsn, hs7, q⟩ := h
      have nd := sc_choices.nd
      refine ⟨_, (pss_cons (ps_if (pt_cmpR op_eq (pv 1) pe_int (nomark _))
      (pss_one (ps_ret (pe_lst (pa_cons (pe_lst pa_nil) pa_nil))))
      pss_nil)
    (pss_cons (ps_set (i := 2) nd rfl (Or.inl rfl) (pe_lst pa_nil))
    (pss_cons (ps_for PassesOwn.never rfl (pi_list (pe_cal C_choices hr (by rfl) pass0 (pa_cons (pv 0) (pa_cons (pe_op op_sub (pv 1) pe_int) pa_nil)))) (pg_name (i := 3) nd rfl (Or.inr rfl))
      (pss_cons (ps_set (i := 4) nd rfl (Or.inl rfl) (pe_ifExp (pt_cmpR (op_neD hr.units) (pv 3) (pe_lst pa_nil) (nomark _)) (pe_op op_add (pe_ix ix_list (pv 3) (pe_un un_neg pe_int) (fun _ _ => rfl)) pe_int) pe_int))
      (pss_one (ps_expr (pe_bm PySem.F.plainAttrs_list PySem.F.slot_list_extend PySem.F.type_list_extend mt_extend (pv 2) (pa_cons (pe_lc (own := [("at", 5)]) (by rfl) nd (pi_range2 (by rfl) Tr (pa_cons (pv 4) (pa_cons (pv 0) pa_nil))) (blkOk_by (own := [("at", 5)]) (by kernel_rfl)) (fun _ _ _ _ _ => (pg_name (i := 5) nd rfl (Or.inl rfl))) (fun _ _ _ _ _ => pts_nil) (fun _ _ _ _ _ => (pe_op op_cat (pv 3) (pe_lst (pa_cons (pv 5) pa_nil))))) pa_nil))))))
    (pss_one (ps_ret (pv 2)))))), ?_⟩
      refine q_when (et_test (ev_op (ev_var rfl) ev_c (rv_eq rfl))) (fun hb H1 e1 => ?_) (fun hb H1 e1 => ?_)
      · -- return [[]]
        have hz : size = 0 := by
          have := V.int.inj (of_decide_eq_true hb)
          omega
        subst hz
        refine ⟨Nat.zero_le _, fun p hp => ⟨sz_of (Nat.le_of_ble_eq_true rfl), fun l hl => ?_⟩⟩
        have npl : p ≠ l := ne_of_none (upd_same (H := H1) (o := .lst [])) hl
        have hl1 : H1 l = none := by rw [upd_ne npl.symm] at hl; exact hl
        refine q l [p] _ ((e1.trans (Ex.new hp)).trans (Ex.new hl)) ⟨fresh_back e1 hl1, fun r hr => ?_, fun z => npl (List.mem_singleton.mp z).symm, inj_app inj_nil List.not_mem_nil, upd_same, pr_one ?_⟩
        · rw [List.mem_singleton.mp hr]; exact fresh_back e1 hp
        · rw [upd_ne npl, upd_same]
          rfl
      · obtain ⟨z, rfl⟩ : ∃ z, size = z + 1 := ⟨size - 1, by
          have : ¬ (size = 0) := fun e => of_decide_eq_false hb (by rw [e]; rfl)
          omega⟩
        refine q_asgL (el_lst ea_nil (by decide)) fun a H2 ha e2 h2 => ?_
        have e02 : Ex H H2 := e1.trans e2
        have R0 : RowsAt H H2 a [] [] := ⟨fresh_back e1 ha, fun r hr => (List.not_mem_nil hr).elim, List.not_mem_nil, inj_nil, h2, .nil⟩
        refine ⟨_, rfl, _, rfl, _, _, rfl, rfl, many, z, ?_, hm, by omega, by omega, fun p rsP H3 e3 hP => ⟨p, rfl, ⟨_, sq_of hP.at_⟩, ?_⟩⟩
        · have e : (((z + 1 : Nat) : Int) - 1) = (z : Int) := by omega
          show [V.int (many : Int), V.int (((z + 1 : Nat) : Int) - 1)] = [V.int (many : Int), V.int (z : Int)]
          rw [e]
        have nap : a ≠ p := ne_of_none h2 hP.fa
        have nar : a ∉ rsP := fun z => by
          have := hP.fr a z
          rw [h2] at this
          cases this
        have hlen := chs_len many hm z
        have hp7 := pow7 (show z ≤ 7 by omega)
        have lenP : rsP.length = (chs many z).length := by rw [hP.len, List.length_map]
        refine for_list (fun i σ' H' => ∃ y3 y4 rsA, σ' = [some (.int (many : Int)), some (.int ((z + 1 : Nat) : Int)), some (.ref a), y3, y4, none] ∧ Ex H H' ∧ RowsAt H H' a rsA ((((chs many z).take i).flatMap fun row => (List.range (many - chStart row)).map fun i => row ++ [chStart row + i]).map natsI) ∧ RowsAt H2 H' p rsP (chsI many z))
          ⟨none, none, [], rfl, e02.trans e3, R0.ex e3, hP⟩ (fun i σ' H' _ ⟨_, _, _, _, _, _, h⟩ => sq_of h.at_) ?_ ?_
        · intro i x σ' H' hx hPv
          obtain ⟨y3, y4, rsA, rfl, eH, hA, hP'⟩ := hPv
          obtain ⟨r, hr, rfl⟩ : ∃ r, rsP[i]? = some r ∧ x = V.ref r := by
            rw [List.getElem?_map] at hx
            cases e : rsP[i]? with
            | none => rw [e] at hx; cases hx
            | some r => rw [e] at hx; exact ⟨r, rfl, (Option.some.inj hx).symm⟩
          have hi : i < (chs many z).length := by
            have := (List.getElem?_eq_some_iff.mp hr).1
            omega
          have hrow : (chs many z)[i]? = some ((chs many z)[i]) := List.getElem?_eq_getElem hi
          generalize (chs many z)[i] = row at hrow
          obtain ⟨r', er', mr', _, fr'⟩ := hP'.refs (row := natsI row) (by rw [List.getElem?_map, hrow]; rfl)
          rw [hr] at er'
          cases er'
          have lrow : row.length = z := chs_mem many z row (List.mem_of_getElem? hrow)
          have arsA : a ∉ rsP := nar
          refine q_asg (v := .int (chStart row : Int)) (ev_if (et_test (ev_neI (a := natsI row) (b := []) (ev_var rfl) ⟨r, rfl, sq_of fr'⟩ (el_lst ea_nil (by decide)))) (fun hb => ?_) (fun hb => ?_)) fun H4 e4 => ?_
          · have hne : row ≠ [] := fun e => by
              subst e
              exact Bool.noConfusion hb
            obtain ⟨ini, l, rfl⟩ : ∃ ini l, row = ini ++ [l] := ⟨row.dropLast, row.getLast hne, (List.dropLast_concat_getLast hne).symm⟩
            have es : chStart (ini ++ [l]) = l + 1 := by unfold chStart; rw [List.getLast?_concat]
            have ea : atI (Ints (natsI (ini ++ [l]))) (-1) = some (.int (l : Int)) := by
              have e9 : Ints (natsI (ini ++ [l])) = Ints (natsI ini) ++ [.int (l : Int)] := by simp [natsI]
              rw [e9]
              exact atI_last _ _
            refine ev_is (ev_op (ev_op (ev_var rfl) (ev_un ev_c ru_neg) (rv_ixL (sq_of fr') ea)) ev_c rv_I0) ?_
            rw [es]
            rfl
          · have he : row = [] := by
              have : natsI row = [] := by simpa using hb
              exact List.map_eq_nil_iff.mp this
            subst he
            exact ev_c
          · refine ⟨.ref a, rfl, .inl ⟨rfl, _, sq_of (e4 _ _ hA.at_)⟩, ?_⟩
            have hst : chStart row ≤ many := chs_start many z row (List.mem_of_getElem? hrow)
            refine (er_lcR2 (c := HO.lst) (fun _ => true) (fun i => natsI (row ++ [chStart row + i])) (ea_cons (ev_var rfl) (ea_cons (ev_var rfl) ea_nil)) ⟨by omega, by omega, by omega, by omega⟩ (fun x => rfl) (fun _ _ _ _ => et_yes) (fun i H5 e5 hi _ => ?_)) H4 (Ex.refl _) _ fun b rsB H5 e5 hB => ?_
            · exact EvL.cast (el_cat (ev_var rfl) (e5 _ _ (e4 _ _ fr')) (el_lst (ea_cons (ev_var rfl) ea_nil) (Nat.le_of_ble_eq_true rfl)) (by
                show (Ints (natsI row)).length + 1 ≤ 100000
                rw [List.length_map]
                unfold natsI
                rw [List.length_map, lrow]
                omega)) (by simp [natsI])
            · rw [givenR_true, show ((many : Int) - (chStart row : Int)).toNat = many - chStart row by omega] at hB
              have hA4 := hA.ex e4
              have E : RowsAt H (upd H5 a (.lst (rsA.map V.ref ++ rsB.map V.ref))) a (rsA ++ rsB) _ := hA4.extend hB (eH.trans e4) e5
              have lA : rsA.length ≤ 7 * 823543 := by
                rw [hA4.len, List.length_map]
                have f1 := flat_len many hm ((chs many z).take i)
                rw [List.length_take] at f1
                omega
              have lB : rsB.length ≤ 7 := by
                rw [hB.len, List.length_map, List.length_range]
                omega
              refine ⟨a, b, _, _, rfl, rfl, e5 _ _ hA4.at_, hB.at_, ?_, some (.ref r), some (.int (chStart row : Int)), rsA ++ rsB, rfl, Ex.mut ((eH.trans e4).trans e5) hA.fa, ?_, ?_⟩
              · rw [List.length_map, List.length_map, sizeLine_eq]
                omega
              · rw [take_flat _ _ hrow, List.map_append]
                rw [List.map_map]
                exact E
              · have hP5 := (hP'.ex e4).ex e5
                exact hP5.keep (upd_ne nap.symm) fun r hr => upd_ne fun e => nar (by rw [← e]; exact hr)
        · rintro σ' H' ⟨y3, y4, rsA, rfl, eH, hA, hP'⟩
          refine ⟨.ref a, rfl, q a rsA H' eH ?_⟩
          rw [List.length_map, lenP, List.take_length] at hA
          exact hA
end
end Ef
end
section
/-! W3: the class Matrix: __init__, made -/
namespace Ef
open PySem PySem.Spec PyProof.Rows L2 Evl
def mfs (p : Addr) (h w : Nat) : List (Str × V) := [(("rows" : Str), V.ref p), (("height" : Str), V.int (h : Int)), (("width" : Str), V.int (w : Int))]
theorem mfs_rows (p : Addr) (h w : Nat) : (mfs p h w).lookup ("rows" : Str) = some (.ref p) := by kernel_rfl
theorem mfs_height (p : Addr) (h w : Nat) : (mfs p h w).lookup ("height" : Str) = some (.int (h : Int)) := by kernel_rfl
theorem mfs_width (p : Addr) (h w : Nat) : (mfs p h w).lookup ("width" : Str) = some (.int (w : Int)) := by kernel_rfl
/-- what the text says of the class Matrix at C -/
structure MatC (K : PySem.W.Frag) (C : Addr) : Prop where
  cl : Cls K C
  nR : NoAttr K C "rows"
  nH : NoAttr K C "height"
  nW : NoAttr K C "width"
/-- a matrix with the rows M, of width w -/
def IsMat (K : PySem.W.Frag) (C : Addr) (w : Nat) (M : List (List Int)) : VP := fun v H => ∃ a dx p, v = .ref a ∧ H a = some (.ins C dx (mfs p M.length w)) ∧ TT2 K M (.ref p) H
theorem IsMat.m {K : PySem.W.Frag} {C : Addr} {w : Nat} {M : List (List Int)} : Mono (IsMat K C w M) := fun _ _ _ e ⟨a, dx, p, h1, h2, h3⟩ => ⟨a, dx, p, h1, e _ _ h2, TT2.m _ _ _ e h3⟩
/-- rows of one width -/
def Wid (w : Nat) (M : List (List Int)) : Prop := ∀ r ∈ M, r.length = w
def spMatInit (K : PySem.W.Frag) (C : Addr) : Sp := fun vs H Q _ => ∃ (x dx : Addr) (v : V) (w : Nat) (M : List (List Int)), vs = [.ref x, v] ∧ H x = some (.ins C dx []) ∧ LL K M v H ∧ Wid w M ∧ M ≠ [] ∧ M.length ≤ 1000 ∧ w ≤ 1000 ∧
  ∀ p H', (∀ b o, H b = some o → b ≠ x → H' b = some o) → H' x = some (.ins C dx (mfs p M.length w)) → TT2 K M (.ref p) H' → Q .non H'
abbrev s_Matrix_init : Stmt := inClass (topS 25) 0
theorem sc_Matrix_init : FnScope ["self", "rows", "row", "at"] ["self", "rows"] (defScope s_Matrix_init) := ⟨rfl, rfl, rfl, by decide +kernel, rfl, by decide +kernel, by decide +kernel⟩
theorem lookup_put1 (f : Str) (v : V) : (putF f v []).lookup f = some v := by rw [lookup_putF, if_pos rfl]
theorem sqT_keep {K : PySem.W.Frag} {H : Hp} {a x C dx : Addr} {xs : List V} {fs : List (Str × V)} {o : HO} (h : SqT K H a xs) (hx : H x = some (.ins C dx fs)) : SqT K (upd H x o) a xs := by
  rcases h with (h | ⟨u, h⟩) | h
  · exact .inl (.inl (by rw [upd_ne (ne_of h hx (by intro z; cases z))]; exact h))
  · exact .inl (.inr ⟨u, by rw [upd_ne (ne_of h hx (by intro z; cases z))]; exact h⟩)
  · exact .inr h
theorem TT2.keepI {K : PySem.W.Frag} {H : Hp} {x C dx : Addr} {v : V} {M : List (List Int)} {fs : List (Str × V)} {o : HO} (h : TT2 K M v H) (hx : H x = some (.ins C dx fs)) : TT2 K M v (upd H x o) := by
  obtain ⟨a, vs, e, hs, hp⟩ := h
  exact ⟨a, vs, e, sqT_keep hs hx, pr_imp (fun u row ⟨r, e2, h2⟩ => ⟨r, e2, sqT_keep h2 hx⟩) hp⟩
theorem putF_1 (v w : V) : putF ("height" : Str) w (putF ("rows" : Str) v []) = [(("rows" : Str), v), (("height" : Str), w)] := by
  show (if ("rows" : Str) = "height" then [(("rows" : Str), w)] else (("rows" : Str), v) :: putF "height" w []) = _
  rw [if_neg (by decide +kernel)]
  rfl
theorem putF_2 (v w u : V) : putF ("width" : Str) u [(("rows" : Str), v), (("height" : Str), w)] = [(("rows" : Str), v), (("height" : Str), w), (("width" : Str), u)] := by
  show (if ("rows" : Str) = "width" then _ else (("rows" : Str), v) :: (if ("height" : Str) = "width" then _ else (("height" : Str), w) :: putF "width" u [])) = _
  rw [if_neg (by decide +kernel), if_neg (by decide +kernel)]
  rfl
section
variable {P : Program} {w : World} {K : PySem.W.Frag} {mg : Str → Option Value} {base : Heap} {C : Addr}
theorem getD_of {α : Type} {l : List α} {i : Nat} {x d : α} (h : l[i]? = some x) : l.getD i d = x := by
  rw [List.getD_eq_getElem?_getD, h]
  rfl
/-- tuple([tuple(row) for row in rows]) -/
theorem ep_tups {σ : L2.St} {H : Hp} {tl : TE} {v : V} {M : List (List Int)} {j : Nat} {vs : List Nat} (h : Ev tl σ H v) (hv : LL K M v H) (hl : M.length ≤ 1000) (hj : ∀ x, ((wipe σ vs).set j (some x))[j]? = some (some x)) (hw : ∀ x, wipe ((wipe σ vs).set j (some x)) vs = wipe σ vs) :
    EvP (tCB (rTupleOf K) (tCons (tLc (iList K tl) (gName j) tYes (tCB (rTupleOf K) (tCons (tVar j) tNil)) vs) tNil)) σ H (TT2 K M) := by
  obtain ⟨a, us, rfl, hs, lu, hr⟩ := hv.rows
  intro H1 e Q q
  show (tLc (iList K tl) (gName j) tYes (tCB (rTupleOf K) (tCons (tVar j) tNil)) vs) σ H1 (fun v H' => rTupleOf K [v] H' Q)
  refine er_lcL (c := HO.tup) (fun _ => true) (fun i => M.getD i []) h hs (by omega) hw (fun i x H1 e hx => et_yes) (fun i x H1 e hx _ => ?_) H1 e _ fun b rs H2 e2 hb => ?_
  · obtain ⟨r, row, rfl, h1, h2⟩ := hr i x hx
    rw [getD_of h1]
    exact eu_tupleL (ev_var (hj _)) (ex_l e h2)
  · rw [lu, givenR_all M (fun r => r) _ (fun i x hx => getD_of hx), List.map_id'] at hb
    refine ⟨b, _, rfl, .inl ⟨sq_of hb.at_, fun l hl => ?_⟩⟩
    have e3 : Ex H2 (upd H2 l (.tup (rs.map V.ref))) := Ex.new hl
    refine q _ _ (e2.trans e3) ⟨l, _, rfl, .inl (.inl upd_same), ?_⟩
    refine pr_of (by rw [List.length_map, hb.len]) fun i u row hu hrow => ?_
    obtain ⟨r, _, _, h3, h4⟩ := hb.refs hrow
    rw [h3] at hu
    cases hu
    exact ⟨r, rfl, .inl (.inl (e3 _ _ h4))⟩
theorem c_Matrix (T : InitOk K mg C "Matrix" "Matrix.__init__" s_Matrix_init ["self", "rows"]) (MC : MatC K C) (tT : mg "tuple" = none) (tL : mg "len" = none) (tE : mg "enumerate" = none) : KClb P w K mg base CX0 C "Matrix" 1 ["self", "rows"] (spMatInit K C) := by
  obtain ⟨f, fd, F, mk, gm, b⟩ := T.ex
  refine ⟨f, fd, F.ok sc_Matrix_init (fun vs H Q E h => ?_) (fun cdv A outer s H vs Q E hr h => ?_), mk, gm, b⟩
  · obtain ⟨_, _, _, _, _, rfl, _⟩ := h
    rfl
  · obtain ⟨x, dx, v, wd, M, rfl, hx, hv, hwid, hne, hl, hwl, q⟩ := h
    have nd := sc_Matrix_init.nd
    refine ⟨_, (pss_cons (ps_fld (pv 0) (pe_callTy (call_tupleK (K := K)) (by rfl) tT (by decide +kernel) (pa_cons (pe_lc (own := [("row", 2)]) (by rfl) nd (pi_listK (K := K) (pv 1)) (blkOk_by (own := [("row", 2)]) (by kernel_rfl)) (fun _ _ _ _ _ => (pg_name (i := 2) nd rfl (Or.inl rfl))) (fun _ _ _ _ _ => pts_nil) (fun _ _ _ _ _ => (pe_callTy (call_tupleK (K := K)) (by rfl) tT (by decide +kernel) (pa_cons (pv 2) pa_nil)))) pa_nil)) rfl)
      (pss_cons (ps_fld (pv 0) (pe_callB (call_lenK (K := K)) (by rfl) tL PySem.boot_len (pa_cons (pe_fldK (K := K) (pv 0)) pa_nil)) rfl)
      (pss_cons (ps_fld (pv 0) (pe_callB (call_lenK (K := K)) (by rfl) tL PySem.boot_len (pa_cons (pe_ix (ix_tupK (K := K)) (pe_fldK (K := K) (pv 0)) pe_int (fun _ _ => rfl)) pa_nil)) rfl)
      (pss_one (ps_for PassesOwn.never rfl (pi_enumT (by rfl) tE (pa_cons (pe_fldK (K := K) (pv 0)) pa_nil)) (pg_tupK (K := K) rfl (pgs_cons (pg_name (i := 3) nd rfl (Or.inl rfl)) (pgs_cons (pg_name (i := 2) nd rfl (Or.inl rfl)) pgs_nil)))
        (pss_one (ps_if (pt_cmpR op_ne (pe_callB (call_lenK (K := K)) (by rfl) tL PySem.boot_len (pa_cons (pv 2) pa_nil)) (pe_fldK (K := K) (pv 0)) (nomark _))
          (pss_one ps_never)
          pss_nil))))))), ?_⟩
    -- self.rows = tuple([tuple(row) for row in rows])
    refine q_fldP (ep_tups (K := K) (M := M) (v := v) (j := 2) (ev_var rfl) hv hl (fun x => rfl) (fun x => rfl)) (ev_var rfl) hx MC.cl MC.nR (by decide) TT2.m fun pv1 H1 e1 hp => ?_
    obtain ⟨p, ps, rfl, hps, lps, hrow⟩ := hp.rows
    -- self.height = len(self.rows)
    have hx1 : H1 x = some (.ins C dx []) := e1 _ _ hx
    refine q_fld (ev_lenS (K := K) (xs := ps) (ev_fld (ev_var rfl) upd_same MC.cl MC.nR (lookup_put1 _ _)) (IsT.s ⟨p, rfl, sqT_keep hps hx1⟩)) (ev_var rfl) upd_same MC.cl MC.nH (show 1 < 1000 from by decide) fun H3 e3 => ?_
    have hx3 : H3 x = some (.ins C dx (putF ("rows" : Str) (.ref p) [])) := e3 _ _ upd_same
    have hp4 : TT2 K M (.ref p) (upd H3 x (.ins C dx (putF ("height" : Str) (.int (ps.length : Int)) (putF ("rows" : Str) (.ref p) [])))) := TT2.keepI (TT2.m _ _ _ e3 (TT2.keepI hp hx1)) hx3
    -- self.width = len(self.rows[0])
    obtain ⟨row0, hrow0⟩ : ∃ row0, M[0]? = some row0 := by
      cases M with
      | nil => exact absurd rfl hne
      | cons a r => exact ⟨a, rfl⟩
    have l0 : row0.length = wd := hwid row0 (List.mem_of_getElem? hrow0)
    obtain ⟨a4, vs4, e4, hs4, hpr4⟩ := id hp4
    cases e4
    obtain ⟨u0, hu0, hr0⟩ := pr_get hpr4 hrow0
    have lk : ((putF ("height" : Str) (V.int (ps.length : Int)) (putF ("rows" : Str) (.ref p) [])).lookup ("rows" : Str)) = some (.ref p) := by rw [lookup_putF, if_neg (by decide +kernel)]; exact lookup_put1 _ _
    refine q_fld (ev_lenS (K := K) (xs := Ints row0) (ev_ixT (i := 0) (ev_fld (ev_var rfl) upd_same MC.cl MC.nR lk) ⟨p, rfl, hs4⟩ ev_c hu0) (IsT.s hr0)) (ev_var rfl) upd_same MC.cl MC.nW (by rw [putF_1]; exact (by decide : 2 < 1000)) fun H5 e5 => ?_
    have hx5 : H5 x = some (.ins C dx (putF ("height" : Str) (.int (ps.length : Int)) (putF ("rows" : Str) (.ref p) []))) := e5 _ _ upd_same
    have eM : putF ("width" : Str) (.int ((Ints row0).length : Int)) (putF ("height" : Str) (.int (ps.length : Int)) (putF ("rows" : Str) (.ref p) [])) = mfs p M.length wd := by
      rw [putF_1, putF_2, lps, List.length_map, l0]
      rfl
    rw [eM]
    have hp6 : TT2 K M (.ref p) (upd H5 x (.ins C dx (mfs p M.length wd))) := TT2.keepI (TT2.m _ _ _ e5 hp4) hx5
    obtain ⟨a6, vs6, e6, hs6, l6, hrow6⟩ := hp6.rows
    cases e6
    have old : ∀ b o, H b = some o → b ≠ x → (upd H5 x (.ins C dx (mfs p M.length wd))) b = some o := fun b o hb nb => by
      rw [upd_ne nb]
      refine e5 _ _ ?_
      rw [upd_ne nb]
      refine e3 _ _ ?_
      rw [upd_ne nb]
      exact e1 _ _ hb
    -- the loop
    refine s_forEnumT (ea_cons (ev_fld (ev_var rfl) upd_same MC.cl MC.nR (mfs_rows _ _ _)) ea_nil) hs6 (fun i σ' H' => ∃ y2 y3, σ' = [some (.ref x), some v, y2, y3] ∧ Ex (upd H5 x (.ins C dx (mfs p M.length wd))) H') (fun H7 e7 => ⟨none, none, rfl, e7⟩) (fun i σ' H' _ ⟨_, _, _, e8⟩ => ex_t e8 hs6) ?_ ?_
    · intro i y σ' H' H'' hi hPv hy
      obtain ⟨y2, y3, rfl, e8⟩ := hPv
      obtain ⟨Tp, z1, z2, rfl, nT, rfl, ez, hz⟩ := hy
      obtain ⟨r, row, rfl, hM, hr⟩ := hrow6 i z2 hz
      have eT : Ex H' (upd H' Tp (.tup [z1, .ref r])) := Ex.new nT
      refine ⟨Tp, [z1, .ref r], rfl, .inl (.inl upd_same), rfl, z1, [.ref r], rfl, .ref r, [], rfl, rfl, ?_⟩
      have hr' := ex_t (e8.trans eT) hr
      refine s_when (b := false) ?_ (fun hb => Bool.noConfusion hb) (fun _ H9 e9 => ⟨some (.ref r), some z1, rfl, (e8.trans eT).trans e9⟩)
      refine et_is (et_test (ev_op (ev_lenS (K := K) (xs := Ints row) (ev_var rfl) (IsT.s ⟨r, rfl, hr'⟩)) (ev_fld (ev_var rfl) ((e8.trans eT) _ _ upd_same) MC.cl MC.nW (mfs_width _ _ _)) (rv_ne rfl))) ?_
      rw [List.length_map, hwid row (List.mem_of_getElem? hM), decide_eq_true rfl]
      rfl
    · rintro σ' H' ⟨y2, y3, rfl, e8⟩
      exact q p H' (fun b o hb nb => e8 _ _ (old b o hb nb)) (e8 _ _ upd_same) (TT2.m _ _ _ e8 hp6)
/-- Matrix(e): a new matrix -/
theorem ep_mat {σ : L2.St} {H : Hp} {te : TE} {M : List (List Int)} {wd : Nat} {E : XK} (h : EvP te σ H (LL K M)) (hw : Wid wd M) (hne : M ≠ []) (hl : M.length ≤ 1000) (hwl : wd ≤ 1000) :
    EvP (tMake C (spMatInit K C) [] E (tCons te tNil)) σ H (IsMat K C wd M) := fun H1 e Q q =>
  h H1 e _ fun v H2 e2 hv => fun x dx nx ndx nex => by
    have e3 : Ex H2 (upd (upd H2 dx (.own x)) x (.ins C dx [])) := fun b o hb => by
      rw [upd_ne (ne_of_none hb nx), upd_ne (ne_of_none hb ndx)]
      exact hb
    refine ⟨x, dx, v, wd, M, rfl, upd_same, LL.m _ _ _ e3 hv, hw, hne, hl, hwl, fun p H' k1 k2 k3 => ⟨rfl, q _ _ (e2.trans fun b o hb => k1 b o (e3 _ _ hb) (ne_of_none hb nx)) ⟨x, dx, p, rfl, k2, k3⟩⟩⟩
end
end Ef
end
section
/-! W4: Matrix.diagonal, unit, part, transposed -/
namespace Ef
open PySem PySem.Spec PyProof.Rows L2 Evl
/-- the first k places of the diagonal are filled -/
def diagUp (ns : List Int) (M : List (List Int)) : Nat → List (List Int)
  | 0 => M
  | k + 1 => (diagUp ns M k).set k (((diagUp ns M k).getD k []).set k (ns.getD k 0))
def zeros (h w : Nat) : List (List Int) := List.replicate h (List.replicate w 0)
def unitM (n : Nat) : List (List Int) := diagUp (List.replicate n 1) (zeros n n) n
def partM (M : List (List Int)) (R Cs : List Nat) : List (List Int) := R.map fun i => Cs.map fun j => (M.getD i []).getD j 0
def transM (M : List (List Int)) (w : Nat) : List (List Int) := (List.range w).map fun j => M.map fun row => row.getD j 0
theorem diagUp_len (ns : List Int) (M : List (List Int)) : ∀ k, (diagUp ns M k).length = M.length
  | 0 => rfl
  | k + 1 => by
    show (List.set _ _ _).length = _
    rw [List.length_set, diagUp_len ns M k]
theorem wid_set {w k : Nat} {M : List (List Int)} {r : List Int} (h : Wid w M) (hr : r.length = w) : Wid w (M.set k r) := fun x hx => by
  rcases List.mem_or_eq_of_mem_set hx with z | z
  · exact h x z
  · rw [z]; exact hr
theorem wid_get {w i : Nat} {M : List (List Int)} (h : Wid w M) (hi : i < M.length) : (M.getD i []).length = w := by
  rw [List.getD_eq_getElem?_getD, List.getElem?_eq_getElem hi]
  exact h _ (List.getElem_mem hi)
theorem diagUp_wid {w : Nat} (ns : List Int) {M : List (List Int)} (h : Wid w M) : ∀ k, k ≤ M.length → Wid w (diagUp ns M k)
  | 0, _ => h
  | k + 1, hk => by
    have ih := diagUp_wid ns h k (by omega)
    refine wid_set ih ?_
    rw [List.length_set]
    exact wid_get ih (by rw [diagUp_len]; omega)
theorem zeros_wid (h w : Nat) : Wid w (zeros h w) := fun r hr => by
  rw [List.eq_of_mem_replicate hr, List.length_replicate]
theorem flat_rep {α : Type} (x : α) : ∀ n, (List.replicate n [x]).flatten = List.replicate n x
  | 0 => rfl
  | n + 1 => by
    rw [List.replicate_succ, List.flatten_cons, flat_rep x n, List.replicate_succ]
    rfl
theorem ints_rep (z : Int) (n : Nat) : (List.replicate n [V.int z]).flatten = Ints (List.replicate n z) := by
  rw [flat_rep]
  exact (List.map_replicate ..).symm
def spDiag (K : PySem.W.Frag) (C : Addr) : Sp := fun vs H Q _ => ∃ (v : V) (ns : List Int) (h w : Nat), vs = [.ref C, v, .int (h : Int), .int (w : Int)] ∧ IsL K (Ints ns) v H ∧ ns.length ≤ h ∧ ns.length ≤ w ∧ 0 < h ∧ h ≤ 1000 ∧ w ≤ 1000 ∧
  ∀ m H', Ex H H' → IsMat K C w (diagUp ns (zeros h w) ns.length) m H' → Q m H'
def spUnit (K : PySem.W.Frag) (C : Addr) : Sp := fun vs H Q _ => ∃ n : Nat, vs = [.ref C, .int (n : Int)] ∧ 0 < n ∧ n ≤ 1000 ∧ ∀ m H', Ex H H' → IsMat K C n (unitM n) m H' → Q m H'
def spPart (K : PySem.W.Frag) (C : Addr) : Sp := fun vs H Q _ => ∃ (m vr vc : V) (w : Nat) (M : List (List Int)) (R Cs : List Nat), vs = [m, vr, vc] ∧ IsMat K C w M m H ∧ Wid w M ∧ IsL K (Ints (natsI R)) vr H ∧ IsL K (Ints (natsI Cs)) vc H ∧
  (∀ i ∈ R, i < M.length) ∧ (∀ j ∈ Cs, j < w) ∧ R ≠ [] ∧ R.length ≤ 1000 ∧ Cs.length ≤ 1000 ∧ ∀ m' H', Ex H H' → IsMat K C Cs.length (partM M R Cs) m' H' → Q m' H'
def spTrans (K : PySem.W.Frag) (C : Addr) : Sp := fun vs H Q _ => ∃ (m : V) (w : Nat) (M : List (List Int)), vs = [m] ∧ IsMat K C w M m H ∧ Wid w M ∧ 0 < w ∧ w ≤ 1000 ∧ M.length ≤ 1000 ∧ ∀ m' H', Ex H H' → IsMat K C M.length (transM M w) m' H' → Q m' H'
abbrev s_Matrix_diagonal : Stmt := inClass (topS 25) 2
theorem sc_Matrix_diagonal : FnScope ["cls", "numbers", "height", "width", "rows", "at", "number", "i"] ["cls", "numbers", "height", "width"] (defScope s_Matrix_diagonal) := ⟨rfl, rfl, rfl, by decide +kernel, rfl, by decide +kernel, by decide +kernel⟩
abbrev s_Matrix_unit : Stmt := inClass (topS 25) 1
theorem sc_Matrix_unit : FnScope ["cls", "n"] ["cls", "n"] (defScope s_Matrix_unit) := ⟨rfl, rfl, rfl, by decide +kernel, rfl, by decide +kernel, by decide +kernel⟩
abbrev s_Matrix_part : Stmt := inClass (topS 25) 13
theorem sc_Matrix_part : FnScope ["self", "rows", "columns", "i", "j"] ["self", "rows", "columns"] (defScope s_Matrix_part) := ⟨rfl, rfl, rfl, by decide +kernel, rfl, by decide +kernel, by decide +kernel⟩
abbrev s_Matrix_transposed : Stmt := inClass (topS 25) 12
theorem sc_Matrix_transposed : FnScope ["self", "j", "row"] ["self"] (defScope s_Matrix_transposed) := ⟨rfl, rfl, rfl, by decide +kernel, rfl, by decide +kernel, by decide +kernel⟩
section
variable {P : Program} {w : World} {K : PySem.W.Frag} {mg : Str → Option Value} {base : Heap} {C : Addr}
theorem c_Mdiag (T : CmOk K C "diagonal" "Matrix.diagonal" s_Matrix_diagonal ["cls", "numbers", "height", "width"]) (C_M : KClb P w K mg base CX0 C "Matrix" 1 ["self", "rows"] (spMatInit K C)) (tR : mg "range" = none) (tE : mg "enumerate" = none) :
    CmClb P w K mg base CX0 C "diagonal" 3 (spDiag K C) := by
  obtain ⟨pp, g, mc, fd, rd, cm, F, b⟩ := T.ex
  refine .of rd cm b (F.ok sc_Matrix_diagonal (fun vs H Q E h => ?_) (fun cdv A outer s H vs Q E hr h => ?_))
  · obtain ⟨_, _, _, _, rfl, _⟩ := h
    rfl
  · obtain ⟨v, ns, h, wd, rfl, hv, hn1, hn2, h0, hh, hw, q⟩ := h
    have nd := sc_Matrix_diagonal.nd
    refine ⟨_, (pss_cons (ps_setLc (i := 4) (own := [("i", 7)]) (by rfl) nd rfl rfl (sw_true rfl rfl rfl (by decide +kernel)) (pi_range1 (by rfl) tR (pa_cons (pv 2) pa_nil)) (blkOk_by (own := [("i", 7)]) (by kernel_rfl)) (fun _ _ _ _ _ => (pg_name (i := 7) nd rfl (Or.inl rfl))) (fun _ _ _ _ _ => pts_nil) (fun _ _ _ _ _ => (pe_op op_rep (pe_lst (pa_cons pe_int pa_nil)) (pv 3))))
      (pss_cons (ps_for PassesOwn.never rfl (pi_enum (by rfl) tE (pa_cons (pv 1) pa_nil)) (pg_tupK (K := K) rfl (pgs_cons (pg_name (i := 5) nd rfl (Or.inl rfl)) (pgs_cons (pg_name (i := 6) nd rfl (Or.inl rfl)) pgs_nil)))
        (pss_one (ps_asg (pv 6) (pg_sub (pe_ix (ix_listK (K := K)) (pv 4) (pv 5) (fun _ _ => rfl)) (pv 5) set_list))))
      (pss_one (ps_ret (pe_makL (i := 0) C_M hr (by rfl) (.inl rfl) pass0 (pa_cons (pv 4) pa_nil)))))), ?_⟩
    refine q_asgR (cc := HO.lst) (M := zeros h wd) (EvR.cast (er_lcR1 (c := HO.lst) (fun _ => true) (fun _ => List.replicate wd 0) (ea_cons (ev_var rfl) ea_nil) (by omega) (fun x => rfl) (fun _ _ _ _ => et_yes) (fun i H1 e1 hi _ => ?_)) ?_) fun a rs H1 e1 ha => ?_
    · exact EvL.cast (el_rep (k := (wd : Int)) (el_lst (ea_cons ev_c ea_nil) (Nat.le_of_ble_eq_true rfl)) (fun _ _ => ev_var rfl) (by omega) (by simp; omega) (by omega)) (by rw [show ((wd : Int)).toNat = wd by omega]; exact ints_rep 0 wd)
    · rw [givenR_true, show ((h : Int)).toNat = h by omega]
      unfold zeros
      rw [List.map_const', List.length_range]
    obtain ⟨av, rfl, hs⟩ := hv
    have nav : ∀ H', Ex H H' → SqL K H' av (Ints ns) := fun H' e => ex_l e hs
    refine q_forEnum (ea_cons (ev_var rfl) ea_nil) (nav _ e1) (fun i σ' H' => ∃ y5 y6, σ' = [some (.ref C), some (.ref av), some (.int (h : Int)), some (.int (wd : Int)), some (.ref a), y5, y6, none] ∧ Ex H H' ∧ RowsAt H H' a rs (diagUp ns (zeros h wd) i))
      (fun H2 e2 => ⟨none, none, rfl, e1.trans e2, ha.ex e2⟩) (fun i σ' H' _ ⟨_, _, _, e, _⟩ => nav _ e) ?_ ?_
    · intro i x σ' H' H'' hi hPv hy
      obtain ⟨y5, y6, rfl, eH, hR⟩ := hPv
      obtain ⟨Tp, z1, z2, rfl, nT, rfl, ez, hz⟩ := hy
      cases ez
      have hin : i < ns.length := by rw [List.length_map] at hi; exact hi
      have hz2 : z2 = .int (ns.getD i 0) := by
        have hz : (Ints ns)[i]? = some z2 := hz
        rw [List.getElem?_map, List.getElem?_eq_getElem hin] at hz
        rw [List.getD_eq_getElem?_getD, List.getElem?_eq_getElem hin]
        exact (Option.some.inj hz).symm
      subst hz2
      have eT : Ex H' (upd H' Tp (.tup [.int (i : Int), .int (ns.getD i 0)])) := Ex.new nT
      refine ⟨Tp, _, rfl, .inl (.inl upd_same), rfl, _, [_], rfl, _, [], rfl, rfl, ?_⟩
      have hR' := hR.ex eT
      have lM : (diagUp ns (zeros h wd) i).length = h := by rw [diagUp_len]; exact List.length_replicate
      have hrow : (diagUp ns (zeros h wd) i)[i]? = some ((diagUp ns (zeros h wd) i).getD i []) := by
        rw [List.getD_eq_getElem?_getD, List.getElem?_eq_getElem (by omega)]
        rfl
      obtain ⟨r, hr, mr, hri, fr⟩ := hR'.refs hrow
      have lrow : ((diagUp ns (zeros h wd) i).getD i []).length = wd := wid_get (diagUp_wid ns (zeros_wid h wd) i (by rw [show (zeros h wd).length = h from List.length_replicate]; omega)) (by omega)
      refine s_setL fr (ev_var rfl) (ev_op (ev_var rfl) (ev_var rfl) (rv_ixL (sq_of hR'.at_) (atI_nat hri))) (ev_var rfl) (by rw [List.length_map, lrow]; omega) fun H3 e3 => ?_
      refine ⟨_, _, rfl, Ex.mut ((eH.trans eT).trans e3) (hR'.fr r mr), ?_⟩
      exact (hR'.ex e3).setItem hr hrow
    · rintro σ' H' ⟨y5, y6, rfl, eH, hR⟩
      have lM : (diagUp ns (zeros h wd) (Ints ns).length).length = h := by rw [diagUp_len]; exact List.length_replicate
      have lN : (Ints ns).length = ns.length := List.length_map _
      refine ⟨rfl, ?_⟩
      refine (ep_mat (E := E0) (wd := wd) (Ev.toP (ev_var rfl) fun H1 e1 => LL.m _ _ _ e1 hR.ll) (diagUp_wid ns (zeros_wid h wd) _ (by rw [lN, show (zeros h wd).length = h from List.length_replicate]; omega)) (fun z => ?_) (by omega) hw) H' (Ex.refl _) _ fun m H2 e2 hm => q m H2 (eH.trans e2) ?_
      · rw [z] at lM
        exact absurd lM (by show ¬ 0 = h; omega)
      · rw [lN] at hm
        exact hm
theorem c_Munit (T : CmOk K C "unit" "Matrix.unit" s_Matrix_unit ["cls", "n"]) (C_D : CmClb P w K mg base CX0 C "diagonal" 3 (spDiag K C)) : CmClb P w K mg base CX0 C "unit" 4 (spUnit K C) := by
  obtain ⟨pp, g, mc, fd, rd, cm, F, b⟩ := T.ex
  refine .of rd cm b (F.ok sc_Matrix_unit (fun vs H Q E h => ?_) (fun cdv A outer s H vs Q E hr h => ?_))
  · obtain ⟨_, rfl, _⟩ := h
    rfl
  · obtain ⟨n, rfl, h0, hn, q⟩ := h
    have nd := sc_Matrix_unit.nd
    refine ⟨_, (pss_one (ps_ret (pe_cm (pv 0) C_D hr pass0 (pa_cons (pe_op op_rep (pe_lst (pa_cons pe_int pa_nil)) (pv 1)) (pa_cons (pv 1) (pa_cons (pv 1) pa_nil)))))), ?_⟩
    refine ⟨.ref C, rfl, rfl, ?_⟩
    refine (el_rep (k := (n : Int)) (el_lst (ea_cons ev_c ea_nil) (Nat.le_of_ble_eq_true rfl)) (fun _ _ => ev_var rfl) (by omega) (by simp; omega) (by omega)) H (Ex.refl _) _ fun p H1 hp e1 h1 => ?_
    rw [show ((n : Int)).toNat = n by omega] at h1
    refine ⟨_, rfl, _, rfl, .ref p, List.replicate n 1, n, n, rfl, ⟨p, rfl, sq_of (by rw [← ints_rep]; exact h1)⟩, by simp, by simp, h0, hn, hn, fun m H' e2 hm => q m H' (e1.trans e2) ?_⟩
    rw [List.length_replicate] at hm
    exact hm
theorem ev_self_rows {σ : L2.St} {H : Hp} {te : TE} {C a dx p : Addr} {h w : Nat} (MC : MatC K C) (he : Ev te σ H (.ref a)) (hH : H a = some (.ins C dx (mfs p h w))) : Ev (tFld K te "rows") σ H (.ref p) := ev_fld he hH MC.cl MC.nR (mfs_rows _ _ _)
theorem natsI_get {l : List Nat} {i : Nat} {x : V} (h : (Ints (natsI l))[i]? = some x) : ∃ n, l[i]? = some n ∧ x = .int (n : Int) := by
  rw [List.getElem?_map] at h
  unfold natsI at h
  rw [List.getElem?_map] at h
  cases e : l[i]? with
  | none => rw [e] at h; cases h
  | some n => rw [e] at h; exact ⟨n, rfl, (Option.some.inj h).symm⟩
theorem c_Mpart (T : MethOk K C "part" "Matrix.part" s_Matrix_part ["self", "rows", "columns"]) (MC : MatC K C) (C_M : KClb P w K mg base CX0 C "Matrix" 1 ["self", "rows"] (spMatInit K C)) :
    MClb P w K mg base CX0 C "part" 3 ["self", "rows", "columns"] (spPart K C) := by
  obtain ⟨f, fd, F, mm, b⟩ := T.ex
  refine ⟨f, fd, F.ok sc_Matrix_part (fun vs H Q E h => ?_) (fun cdv A outer s H vs Q E hr h => ?_), mm, b⟩
  · obtain ⟨_, _, _, _, _, _, _, rfl, _⟩ := h
    rfl
  · obtain ⟨m, vr, vc, wd, M, R, Cs, rfl, hm, hwid, hR, hC, bR, bC, hne, lR, lC, q⟩ := h
    have nd := sc_Matrix_part.nd
    refine ⟨_, (pss_one (ps_ret (pe_mak C_M hr (by rfl) pass0 (pa_cons (pe_lc (own := [("i", 3)]) (by rfl) nd (pi_listK (K := K) (pv 1)) (blkOk_by (own := [("i", 3)]) (by kernel_rfl)) (fun _ _ _ _ _ => (pg_name (i := 3) nd rfl (Or.inr rfl))) (fun _ _ _ _ _ => pts_nil) (fun _ _ _ _ _ => (pe_lc (own := [("j", 4)]) (by rfl) nd (pi_listK (K := K) (pv 2)) (blkOk_by (own := [("j", 4)]) (by kernel_rfl)) (fun _ _ _ _ _ => (pg_name (i := 4) nd rfl (Or.inl rfl))) (fun _ _ _ _ _ => pts_nil) (fun _ _ _ _ _ => (pe_ix (ix_tupK (K := K)) (pe_ix (ix_tupK (K := K)) (pe_fldK (K := K) (pv 0)) (pv 3) (fun _ _ => rfl)) (pv 4) (fun _ _ => rfl)))))) pa_nil)))), ?_⟩
    obtain ⟨a, dx, p, rfl, ha, hT⟩ := hm
    obtain ⟨ar, rfl, hsR⟩ := hR
    obtain ⟨ac, rfl, hsC⟩ := hC
    refine s_retP (ep_mat (wd := Cs.length) (EvR.toP (EvR.cast (er_lcL (c := HO.lst) (fun _ => true) (fun i => Cs.map fun j => (M.getD (R.getD i 0) []).getD j 0) (ev_var rfl) hsR (by rw [List.length_map]; unfold natsI; rw [List.length_map]; omega) (fun x => rfl) (fun _ _ _ _ _ => et_yes) (fun i x H1 e1 hx _ => ?_)) ?_)) (fun r hr => ?_) ?_ ?_ lC) (fun m' H' e' h' => q m' H' e' h')
    · obtain ⟨ri, hri, rfl⟩ := natsI_get hx
      have hrow : M[ri]? = some (M.getD ri []) := by
        rw [List.getD_eq_getElem?_getD, List.getElem?_eq_getElem (bR ri (List.mem_of_getElem? hri))]
        rfl
      have lrow := wid_get hwid (bR ri (List.mem_of_getElem? hri))
      rw [getD_of hri]
      refine EvL.n (EvL.cast (el_lcL (fun _ => true) (fun k => .int ((M.getD ri []).getD (Cs.getD k 0) 0)) (ev_var rfl) (ex_l e1 hsC) (by rw [List.length_map]; unfold natsI; rw [List.length_map]; omega) (fun x => rfl) (fun _ _ _ _ _ => et_yes) (fun k x H2 e2 hx2 _ => ?_)) ?_)
      · obtain ⟨cj, hcj, rfl⟩ := natsI_get hx2
        rw [getD_of hcj]
        have hent : (M.getD ri [])[cj]? = some ((M.getD ri []).getD cj 0) := by
          rw [List.getD_eq_getElem?_getD (l := M.getD ri []), List.getElem?_eq_getElem (by rw [lrow]; exact bC cj (List.mem_of_getElem? hcj))]
          rfl
        exact ev_entT (ev_self_rows MC (ev_var rfl) ((e1.trans e2) _ _ ha)) (TT2.m _ _ _ (e1.trans e2) hT) (ev_var rfl) (ev_var rfl) hrow hent
      · rw [show (Ints (natsI Cs)).length = Cs.length by unfold natsI; simp]
        rw [given_all Cs (fun j => .int ((M.getD ri []).getD j 0)) _ (fun i x hx => by rw [getD_of hx])]
        exact ints_map _ _
    · rw [show (Ints (natsI R)).length = R.length by unfold natsI; simp]
      exact givenR_all R (fun i => Cs.map fun j => (M.getD i []).getD j 0) _ (fun i x hx => by rw [getD_of hx])
    · obtain ⟨i, _, rfl⟩ := List.mem_map.mp hr
      rw [List.length_map]
    · exact fun z => hne (List.map_eq_nil_iff.mp z)
    · unfold partM
      rw [List.length_map]
      exact lR
theorem c_Mtrans (T : MethOk K C "transposed" "Matrix.transposed" s_Matrix_transposed ["self"]) (MC : MatC K C) (C_M : KClb P w K mg base CX0 C "Matrix" 1 ["self", "rows"] (spMatInit K C)) (tR : mg "range" = none) :
    MClb P w K mg base CX0 C "transposed" 3 ["self"] (spTrans K C) := by
  obtain ⟨f, fd, F, mm, b⟩ := T.ex
  refine ⟨f, fd, F.ok sc_Matrix_transposed (fun vs H Q E h => ?_) (fun cdv A outer s H vs Q E hr h => ?_), mm, b⟩
  · obtain ⟨_, _, _, rfl, _⟩ := h
    rfl
  · obtain ⟨m, wd, M, rfl, hm, hwid, w0, hw, hl, q⟩ := h
    have nd := sc_Matrix_transposed.nd
    refine ⟨_, (pss_one (ps_ret (pe_mak C_M hr (by rfl) pass0 (pa_cons (pe_lc (own := [("j", 1)]) (by rfl) nd (pi_range1 (by rfl) tR (pa_cons (pe_fldK (K := K) (pv 0)) pa_nil)) (blkOk_by (own := [("j", 1)]) (by kernel_rfl)) (fun _ _ _ _ _ => (pg_name (i := 1) nd rfl (Or.inr rfl))) (fun _ _ _ _ _ => pts_nil) (fun _ _ _ _ _ => (pe_lc (own := [("row", 2)]) (by rfl) nd (pi_tupK (K := K) (pe_fldK (K := K) (pv 0))) (blkOk_by (own := [("row", 2)]) (by kernel_rfl)) (fun _ _ _ _ _ => (pg_name (i := 2) nd rfl (Or.inl rfl))) (fun _ _ _ _ _ => pts_nil) (fun _ _ _ _ _ => (pe_ix (ix_tupK (K := K)) (pv 2) (pv 1) (fun _ _ => rfl)))))) pa_nil)))), ?_⟩
    obtain ⟨a, dx, p, rfl, ha, hT⟩ := hm
    obtain ⟨p', ps, ep, hps, lps, hrow⟩ := hT.rows
    cases ep
    refine s_retP (ep_mat (wd := M.length) (EvR.toP (EvR.cast (er_lcR1 (c := HO.lst) (fun _ => true) (fun j => M.map fun row => row.getD j 0) (ea_cons (ev_fld (ev_var rfl) ha MC.cl MC.nW (mfs_width _ _ _)) ea_nil) (by omega) (fun x => rfl) (fun _ _ _ _ => et_yes) (fun j H1 e1 hj _ => ?_)) ?_)) (fun r hr => ?_) ?_ ?_ hl) (fun m' H' e' h' => q m' H' e' h')
    · refine EvL.n (EvL.cast (el_lcT (fun _ => true) (fun k => .int ((M.getD k []).getD j 0)) (ev_self_rows MC (ev_var rfl) (e1 _ _ ha)) (ex_t e1 hps) (by omega) (fun x => rfl) (fun _ _ _ _ _ => et_yes) (fun k x H2 e2 hx2 _ => ?_)) ?_)
      · obtain ⟨r, row, rfl, hM, hr⟩ := hrow k x hx2
        rw [getD_of hM]
        have lrow : row.length = wd := hwid row (List.mem_of_getElem? hM)
        refine ev_ixT (i := j) (ev_var rfl) ⟨r, rfl, ex_t (e1.trans e2) hr⟩ (ev_var rfl) ?_
        rw [List.getElem?_map, List.getD_eq_getElem?_getD, List.getElem?_eq_getElem (by omega)]
        rfl
      · rw [lps, given_all M (fun row => .int (row.getD j 0)) _ (fun i x hx => by rw [getD_of hx])]
        exact ints_map _ _
    · rw [givenR_true, show ((wd : Int)).toNat = wd by omega]
      rfl
    · obtain ⟨i, _, rfl⟩ := List.mem_map.mp hr
      rw [List.length_map]
    · intro z
      have := congrArg List.length z
      unfold transM at this
      rw [List.length_map, List.length_range] at this
      exact absurd this (by show ¬ wd = 0; omega)
    · unfold transM
      rw [List.length_map, List.length_range]
      exact hw
end
end Ef
end
section
/-! W5: determinant_of, for one to three rows -/
namespace Ef
open PySem PySem.Spec PyProof.Rows L2 Evl
/-- the determinant of one to three rows -/
def Dn (n : Nat) (M : List (List Int)) : Int :=
  if n = 1 then ent M 0 0 else if n = 2 then ent M 0 0 * ent M 1 1 - ent M 0 1 * ent M 1 0 else
    ent M 0 0 * (ent M 1 1 * ent M 2 2 - ent M 1 2 * ent M 2 1) - ent M 0 1 * (ent M 1 0 * ent M 2 2 - ent M 1 2 * ent M 2 0) + ent M 0 2 * (ent M 1 0 * ent M 2 1 - ent M 1 1 * ent M 2 0)
/-- what is left to be worked out, behind at columns -/
def Rel (n at_ : Nat) (M : List (List Int)) (bef X : Int) : Prop :=
  (n = 1 ∧ at_ = 0 ∧ X = ent M 0 0) ∨ (n = 2 ∧ at_ = 0 ∧ bef = 1 ∧ X = Dn 2 M) ∨ (n = 2 ∧ at_ = 1 ∧ X = ent M 1 1) ∨ (n = 3 ∧ at_ = 0 ∧ bef = 1 ∧ X = Dn 3 M) ∨
  (n = 3 ∧ at_ = 1 ∧ ent M 1 1 * ent M 2 2 - ent M 1 2 * ent M 2 1 = bef * X) ∨ (n = 3 ∧ at_ = 2 ∧ X = ent M 2 2)
theorem rel_zero {n at_ : Nat} {M : List (List Int)} {bef X : Int} (h : Rel n at_ M bef X) (ha : at_ + 1 < n) (hb : bef ≠ 0) (hz : ∀ k, at_ ≤ k → k < n → ent M k at_ = 0) : X = 0 := by
  rcases h with ⟨rfl, rfl, h⟩ | ⟨rfl, rfl, h1, h⟩ | ⟨rfl, rfl, h⟩ | ⟨rfl, rfl, h1, h⟩ | ⟨rfl, rfl, h⟩ | ⟨rfl, rfl, h⟩
  · omega
  · have a := hz 0 (by omega) (by omega)
    have b := hz 1 (by omega) (by omega)
    rw [h]
    simp [Dn, a, b]
  · omega
  · have a := hz 0 (by omega) (by omega)
    have b := hz 1 (by omega) (by omega)
    have c := hz 2 (by omega) (by omega)
    rw [h]
    simp [Dn, a, b, c]
  · have a := hz 1 (by omega) (by omega)
    have b := hz 2 (by omega) (by omega)
    rw [a, b] at h
    have h' : bef * X = 0 := by rw [← h]; simp
    exact (Int.mul_eq_zero.mp h').resolve_left hb
  · omega
theorem rel_swap {n at_ p : Nat} {M M' : List (List Int)} {bef X : Int} (h : Rel n at_ M bef X) (ha : at_ + 1 < n) (hp : at_ < p) (hpn : p < n) (hM : ∀ k l, ent M' k l = if k = p then ent M at_ l else if k = at_ then ent M p l else ent M k l) : Rel n at_ M' bef (-X) := by
  rcases h with ⟨rfl, rfl, h⟩ | ⟨rfl, rfl, h1, h⟩ | ⟨rfl, rfl, h⟩ | ⟨rfl, rfl, h1, h⟩ | ⟨rfl, rfl, h⟩ | ⟨rfl, rfl, h⟩
  · omega
  · obtain rfl : p = 1 := by omega
    refine .inr (.inl ⟨rfl, rfl, h1, ?_⟩)
    rw [h]
    simp [Dn, hM]
    grind
  · omega
  · refine .inr (.inr (.inr (.inl ⟨rfl, rfl, h1, ?_⟩)))
    obtain rfl | rfl : p = 1 ∨ p = 2 := by omega
    · rw [h]
      simp [Dn, hM]
      grind
    · rw [h]
      simp [Dn, hM]
      grind
  · obtain rfl : p = 2 := by omega
    refine .inr (.inr (.inr (.inr (.inl ⟨rfl, rfl, ?_⟩))))
    simp [hM]
    grind
  · omega
theorem fdiv_exact {a b : Int} (h : b ≠ 0) : (b * a).fdiv b = a := Int.mul_fdiv_cancel_left a h
theorem rel_elim {n at_ : Nat} {M M' : List (List Int)} {bef X : Int} (h : Rel n at_ M bef X) (ha : at_ + 1 < n) (hb : bef ≠ 0)
    (hM : ∀ k l, at_ < k → k < n → at_ < l → l < n → ent M' k l = (ent M k l * ent M at_ at_ - ent M k at_ * ent M at_ l).fdiv bef) : Rel n (at_ + 1) M' (ent M at_ at_) X := by
  rcases h with ⟨rfl, rfl, h⟩ | ⟨rfl, rfl, h1, h⟩ | ⟨rfl, rfl, h⟩ | ⟨rfl, rfl, h1, h⟩ | ⟨rfl, rfl, h⟩ | ⟨rfl, rfl, h⟩
  · omega
  · refine .inr (.inr (.inl ⟨rfl, rfl, ?_⟩))
    rw [hM 1 1 (by omega) (by omega) (by omega) (by omega), h, h1, Int.fdiv_one]
    simp [Dn]
    grind
  · omega
  · refine .inr (.inr (.inr (.inr (.inl ⟨rfl, rfl, ?_⟩))))
    rw [hM 1 1 (by omega) (by omega) (by omega) (by omega), hM 2 2 (by omega) (by omega) (by omega) (by omega), hM 1 2 (by omega) (by omega) (by omega) (by omega), hM 2 1 (by omega) (by omega) (by omega) (by omega), h, h1]
    simp only [Int.fdiv_one]
    simp [Dn]
    grind
  · refine .inr (.inr (.inr (.inr (.inr ⟨rfl, rfl, ?_⟩))))
    rw [hM 2 2 (by omega) (by omega) (by omega) (by omega)]
    rw [show ent M 2 2 * ent M 1 1 - ent M 2 1 * ent M 1 2 = bef * X by rw [← h]; grind]
    exact (fdiv_exact hb).symm
  · omega
def Sq (n : Nat) (M : List (List Int)) : Prop := M.length = n ∧ ∀ k, k < n → (M.getD k []).length = n
theorem nat_mul_le {a b : Int} {x y : Nat} (ha : a.natAbs ≤ x) (hb : b.natAbs ≤ y) : (a * b).natAbs ≤ x * y := by
  rw [Int.natAbs_mul]
  exact Nat.mul_le_mul ha hb
def spDet (K : PySem.W.Frag) : Sp := fun vs H Q _ => ∃ (v : V) (M : List (List Int)), vs = [v] ∧ TT2 K M v H ∧ Sq M.length M ∧ 0 < M.length ∧ M.length ≤ 3 ∧ (∀ k l, (ent M k l).natAbs ≤ 2) ∧ ∀ H', Ex H H' → Q (.int (Dn M.length M)) H'
theorem log2_le_self (n : Nat) : n.log2 ≤ n := by
  by_cases h : n = 0
  · rw [h]; decide
  · exact Nat.le_of_lt (Nat.lt_of_lt_of_le ((Nat.log2_lt h).mpr (Nat.lt_two_pow_self)) (Nat.le_refl _))
abbrev s_determinant_of : Stmt := topS 24
theorem sc_determinant_of : FnScope ["rows", "left", "size", "sign", "before", "at", "place", "i", "j", "row"] ["rows"] (defScope s_determinant_of) := ⟨rfl, rfl, rfl, by decide +kernel, rfl, by decide +kernel, by decide +kernel⟩
section
variable {P : Program} {w : World} {K : PySem.W.Frag} {mg : Str → Option Value} {base : Heap} {C : Addr}
/-- the state between two turns of the outer loop -/
structure DetSt (n at_ : Nat) (M0 M : List (List Int)) (sgn bef X : Int) : Prop where
  sq : Sq n M
  sg : sgn = 1 ∨ sgn = -1
  b0 : bef ≠ 0
  bb : bef.natAbs ≤ 8
  bM : ∀ k l, at_ = 0 → (ent M k l).natAbs ≤ 2
  bM1 : ∀ k l, at_ = 1 → (ent M k l).natAbs ≤ 8
  rel : Rel n at_ M bef X
  val : sgn * X = Dn n M0
theorem c_det (T : DefOk K mg "determinant_of" s_determinant_of ["rows"]) (tR : mg "range" = none) (tL : mg "len" = none) (tl : mg "list" = none) : Clb P w K mg base CX0 "determinant_of" 1 ["rows"] (spDet K) := by
  obtain ⟨f, fd, F, gm, b⟩ := T.ex
  refine ⟨f, fd, F.ok sc_determinant_of (fun vs H Q E h => ?_) (fun cdv A outer s H vs Q E hr h => ?_), gm, F.kp, b⟩
  · obtain ⟨_, _, rfl, _⟩ := h
    rfl
  · obtain ⟨v, M0, rfl, hv, hsq, h0, h3, hb2, q⟩ := h
    have nd := sc_determinant_of.nd
    refine ⟨_, (pss_cons (ps_setLc (i := 1) (own := [("row", 9)]) (by rfl) nd rfl rfl (sw_true rfl rfl rfl (by decide +kernel)) (pi_tupK (K := K) (pv 0)) (blkOk_by (own := [("row", 9)]) (by kernel_rfl)) (fun _ _ _ _ _ => (pg_name (i := 9) nd rfl (Or.inl rfl))) (fun _ _ _ _ _ => pts_nil) (fun _ _ _ _ _ => (pe_callTy (call_listK (K := K)) (by rfl) tl (by decide +kernel) (pa_cons (pv 9) pa_nil))))
      (pss_cons (ps_set (i := 2) nd rfl (Or.inl rfl) (pe_callB (call_lenK (K := K)) (by rfl) tL PySem.boot_len (pa_cons (pv 1) pa_nil)))
      (pss_cons (ps_set (i := 3) nd rfl (Or.inl rfl) pe_int)
      (pss_cons (ps_set (i := 4) nd rfl (Or.inl rfl) pe_int)
      (pss_cons (ps_for PassesOwn.never rfl (pi_range1 (by rfl) tR (pa_cons (pe_op op_sub (pv 2) pe_int) pa_nil)) (pg_name (i := 5) nd rfl (Or.inl rfl))
        (pss_cons (ps_set (i := 6) nd rfl (Or.inl rfl) (pv 5))
        (pss_cons (ps_while PassesOwn.never (PW.pt (pw_and (pt_cmpR op_lt (pv 6) (pv 2) (nomark _)) (pw_and1 (pt_cmpR op_eq (pe_ix (ix_listK (K := K)) (pe_ix (ix_listK (K := K)) (pv 1) (pv 6) (fun _ _ => rfl)) (pv 5) (fun _ _ => rfl)) pe_int (nomark _)))))
          (pss_one (ps_aug (i := 6) nd rfl (Or.inl rfl) pe_int ip_add)))
        (pss_cons (ps_if (pt_cmpR op_eq (pv 6) (pv 2) (nomark _))
          (pss_one (ps_ret pe_int))
          pss_nil)
        (pss_cons (ps_if (pt_cmpR op_ne (pv 6) (pv 5) (nomark _))
          (pss_cons (ps_asg (pe_tup (pa_cons (pe_ix (ix_listK (K := K)) (pv 1) (pv 6) (fun _ _ => rfl)) (pa_cons (pe_ix (ix_listK (K := K)) (pv 1) (pv 5) (fun _ _ => rfl)) pa_nil))) (pg_tupK (K := K) rfl (pgs_cons (pg_sub (pv 1) (pv 5) set_list) (pgs_cons (pg_sub (pv 1) (pv 6) set_list) pgs_nil))))
          (pss_one (ps_set (i := 3) nd rfl (Or.inl rfl) (pe_un un_neg (pv 3)))))
          pss_nil)
        (pss_cons (ps_for PassesOwn.never rfl (pi_range2 (by rfl) tR (pa_cons (pe_op op_add (pv 5) pe_int) (pa_cons (pv 2) pa_nil))) (pg_name (i := 7) nd rfl (Or.inl rfl))
          (pss_one (ps_for PassesOwn.never rfl (pi_range2 (by rfl) tR (pa_cons (pe_op op_add (pv 5) pe_int) (pa_cons (pv 2) pa_nil))) (pg_name (i := 8) nd rfl (Or.inl rfl))
            (pss_one (ps_asg (pe_op op_fdivX (pe_op op_sub (pe_op op_mul (pe_ix (ix_listK (K := K)) (pe_ix (ix_listK (K := K)) (pv 1) (pv 7) (fun _ _ => rfl)) (pv 8) (fun _ _ => rfl)) (pe_ix (ix_listK (K := K)) (pe_ix (ix_listK (K := K)) (pv 1) (pv 5) (fun _ _ => rfl)) (pv 5) (fun _ _ => rfl))) (pe_op op_mul (pe_ix (ix_listK (K := K)) (pe_ix (ix_listK (K := K)) (pv 1) (pv 7) (fun _ _ => rfl)) (pv 5) (fun _ _ => rfl)) (pe_ix (ix_listK (K := K)) (pe_ix (ix_listK (K := K)) (pv 1) (pv 5) (fun _ _ => rfl)) (pv 8) (fun _ _ => rfl)))) (pv 4)) (pg_sub (pe_ix (ix_listK (K := K)) (pv 1) (pv 7) (fun _ _ => rfl)) (pv 8) set_list))))))
        (pss_one (ps_set (i := 4) nd rfl (Or.inl rfl) (pe_ix (ix_listK (K := K)) (pe_ix (ix_listK (K := K)) (pv 1) (pv 5) (fun _ _ => rfl)) (pv 5) (fun _ _ => rfl))))))))))
      (pss_one (ps_ret (pe_op op_mul (pv 3) (pe_ix (ix_listK (K := K)) (pe_ix (ix_listK (K := K)) (pv 1) (pe_op op_sub (pv 2) pe_int) (fun _ _ => rfl)) (pe_op op_sub (pv 2) pe_int) (fun _ _ => rfl)))))))))), ?_⟩
    obtain ⟨a0, vs0, rfl, hs0, l0, hr0⟩ := hv.rows
    generalize hn : M0.length = n at *
    -- left = [list(row) for row in rows]
    refine q_asgR (cc := HO.lst) (M := M0) (EvR.cast (er_lcT (c := HO.lst) (fun _ => true) (fun i => M0.getD i []) (ev_var rfl) hs0 (by omega) (fun x => rfl) (fun _ _ _ _ _ => et_yes) (fun i x H1 e1 hx _ => ?_)) ?_) fun a rs H1 e1 hA => ?_
    · obtain ⟨r, row, rfl, hM, hrr⟩ := hr0 i x hx
      rw [getD_of hM]
      exact EvL.n (el_listS (ev_var rfl) ⟨r, rfl, .inr (ex_t e1 hrr)⟩)
    · rw [l0, ← hn, givenR_all M0 (fun r => r) _ (fun i x hx => getD_of hx), List.map_id']
    -- size, sign, before
    refine q_asg (ev_lenS (K := K) (xs := rs.map V.ref) (ev_var rfl) (IsL.s ⟨a, rfl, sq_of hA.at_⟩)) fun H2 e2 => ?_
    rw [show ((rs.map V.ref).length : Int) = (n : Int) by rw [List.length_map, hA.len, hn]]
    refine q_asg ev_c fun H3 e3 => ?_
    refine q_asg ev_c fun H4 e4 => ?_
    have e14 : Ex H1 H4 := (e2.trans e3).trans e4
    have D0 : DetSt n 0 M0 M0 1 1 (Dn n M0) := by
      refine ⟨hsq, .inl rfl, by decide, by decide, fun k l _ => hb2 k l, fun k l z => by omega, ?_, by omega⟩
      obtain h | h | h : n = 1 ∨ n = 2 ∨ n = 3 := by omega
      · subst h; exact .inl ⟨rfl, rfl, rfl⟩
      · subst h; exact .inr (.inl ⟨rfl, rfl, rfl, rfl⟩)
      · subst h; exact .inr (.inr (.inr (.inl ⟨rfl, rfl, rfl, rfl⟩)))
    -- the outer loop
    refine q_forR1 (n := (n : Int) - 1) (ea_cons (ev_op (ev_var rfl) ev_c rv_I0) ea_nil) (by omega) (fun i σ' H' => ∃ rs' M sgn bef X y5 y6 y7 y8, σ' = [some (.ref a0), some (.ref a), some (.int (n : Int)), some (.int sgn), some (.int bef), y5, y6, y7, y8, none] ∧ Ex H H' ∧ RowsAt H H' a rs' M ∧ DetSt n i M0 M sgn bef X)
      (fun H5 e5 => ⟨rs, M0, 1, 1, _, none, none, none, none, rfl, (e1.trans e14).trans e5, hA.ex (e14.trans e5), D0⟩) ?_ ?_
    · intro at_ σ' H5 hat hPv
      obtain ⟨rs', M, sgn, bef, X, y5, y6, y7, y8, rfl, eH, hR, DS⟩ := hPv
      have hat1 : at_ + 1 < n := by omega
      have lM : M.length = n := DS.sq.1
      -- place = at, then down to an item other than 0
      refine q_asg (ev_var rfl) fun H6 e6 => ?_
      refine q_while (fun m σ' H' => ∃ pl : Nat, σ' = [some (.ref a0), some (.ref a), some (.int (n : Int)), some (.int sgn), some (.int bef), some (.int (at_ : Int)), some (.int (pl : Int)), y7, y8, none] ∧ at_ ≤ pl ∧ pl ≤ n ∧ (∀ k, at_ ≤ k → k < pl → ent M k at_ = 0) ∧ m = n - pl ∧ Ex H5 H') (n - at_)
        ⟨at_, rfl, Nat.le_refl _, by omega, fun k h1 h2 => by omega, rfl, e6⟩ ?_
      rintro m σ' H7 ⟨pl, rfl, p1, p2, pz, rfl, e7⟩
      have hR7 := hR.ex e7
      refine ⟨decide (pl < n) && decide (ent M pl at_ = 0), et_and (et_is (et_test (ev_op (ev_var rfl) (ev_var rfl) rv_I0)) (by simp)) (fun hb => ?_), fun hb H8 e8 => ?_, fun hb H8 e8 => ?_⟩
      · have hpl : pl < n := of_decide_eq_true hb
        exact et_is (et_test (ev_op (ev_entR hR7 (ev_var rfl) (ev_var rfl) (ev_var rfl) (by omega) (by rw [DS.sq.2 pl hpl]; omega)) ev_c (rv_eq rfl))) (by simp)
      · obtain ⟨hpl, hz⟩ : pl < n ∧ ent M pl at_ = 0 := by simpa using hb
        refine ⟨_, fun σ2 H2 h => h, s_aug rfl ev_c fun H9 e9 => ⟨n - (pl + 1), by omega, pl + 1, rfl, by omega, by omega, fun k h1 h2 => ?_, rfl, (e7.trans e8).trans e9⟩⟩
        by_cases hk : k = pl
        · rw [hk]; exact hz
        · exact pz k h1 (by omega)
      -- if place == size: return 0
      refine q_when (et_test (ev_op (ev_var rfl) (ev_var rfl) (rv_eq rfl))) (fun hb2 H9 e9 => ?_) (fun hb2 H9 e9 => ?_)
      · have epl : pl = n := by
          have := V.int.inj (of_decide_eq_true hb2)
          omega
        have hX : X = 0 := rel_zero DS.rel hat1 DS.b0 fun k h1 h2 => pz k h1 (by omega)
        refine s_ret ev_c fun H10 e10 => ?_
        have := q H10 ((((eH.trans e7).trans e8).trans e9).trans e10)
        rw [← DS.val, hX, Int.mul_zero] at this
        exact this
      have hpl : pl < n := by
        have : ¬ pl = n := fun z => of_decide_eq_false hb2 (by rw [z])
        omega
      have hnz : ent M pl at_ ≠ 0 := fun z => by
        have h1 : (decide (pl < n) && decide (ent M pl at_ = 0)) = true := by simp [hpl, z]
        rw [hb] at h1
        cases h1
      have e59 : Ex H5 H9 := (e7.trans e8).trans e9
      have hR9 := hR.ex e59
      -- the rows change places
      refine q_whenJ (fun σ' H' => ∃ rs2 M2 sgn2 X2, σ' = [some (.ref a0), some (.ref a), some (.int (n : Int)), some (.int sgn2), some (.int bef), some (.int (at_ : Int)), some (.int (pl : Int)), y7, y8, none] ∧ Ex H H' ∧ RowsAt H H' a rs2 M2 ∧ DetSt n at_ M0 M2 sgn2 bef X2 ∧ ent M2 at_ at_ ≠ 0)
        (et_test (ev_op (ev_var rfl) (ev_var rfl) (rv_ne rfl))) (fun hb3 H10 e10 go => ?_) (fun hb3 H10 e10 => ?_) ?_
      · have hne : pl ≠ at_ := fun z => by
          rw [z, decide_eq_true rfl] at hb3
          cases hb3
        have hR10 := hR9.ex e10
        refine q_swap hR10 (fun _ => ev_var rfl) (fun _ => ev_var rfl) (fun _ => ev_var rfl) (by omega) (by omega) fun H11 ri rj r1 r2 x11 hS => ?_
        refine s_asg (ev_un (ev_var rfl) ru_neg) fun H12 e12 => go _ _ ⟨_, swapM M at_ pl, -sgn, -X, rfl, ?_, hS.ex e12, ?_, ?_⟩
        · exact ((Ex.but a ((eH.trans e59).trans e10)).trans (x11.trans (Ex.but a e12))).ex hR.fa
        · have hg : ∀ k l, ent (swapM M at_ pl) k l = if k = pl then ent M at_ l else if k = at_ then ent M pl l else ent M k l := fun k l => by
            unfold ent
            rw [swapM_get M k (by omega) (by omega)]
            split
            · rfl
            · split <;> rfl
          have bd : ∀ B, (∀ k l, (ent M k l).natAbs ≤ B) → ∀ k l, (ent (swapM M at_ pl) k l).natAbs ≤ B := fun B hB k l => by
            rw [hg]
            split
            · exact hB _ _
            · split <;> exact hB _ _
          refine ⟨⟨by rw [swapM_len]; exact DS.sq.1, fun k hk => ?_⟩, ?_, DS.b0, DS.bb, fun k l z => bd 2 (fun k l => DS.bM k l z) k l, fun k l z => bd 8 (fun k l => DS.bM1 k l z) k l, rel_swap DS.rel hat1 (by omega) hpl hg, ?_⟩
          · rw [swapM_get M k (by omega) (by omega)]
            split
            · exact DS.sq.2 _ (by omega)
            · split
              · exact DS.sq.2 _ hpl
              · exact DS.sq.2 _ hk
          · rcases DS.sg with z | z
            · right; rw [z]
            · left; rw [z]; rfl
          · rw [Int.neg_mul_neg]
            exact DS.val
        · unfold ent
          rw [swapM_get M at_ (by omega) (by omega), if_neg (by omega), if_pos rfl]
          exact hnz
      · have epl : pl = at_ := by
          have h1 : ¬ ¬ (V.int (pl : Int) = V.int (at_ : Int)) := fun z => by
            rw [decide_eq_false z] at hb3
            cases hb3
          have := V.int.inj (Decidable.not_not.mp h1)
          omega
        rw [epl] at hnz
        exact ⟨rs', M, sgn, X, rfl, (eH.trans e59).trans e10, hR9.ex e10, DS, hnz⟩
      rintro σ' H10 ⟨rs2, M2, sgn2, X2, rfl, eH2, hR2, DS2, hnz2⟩
      have lM2 : M2.length = n := DS2.sq.1
      have bd8 : ∀ k l, (ent M2 k l).natAbs ≤ 8 := fun k l => by
        have : n ≤ 3 := h3
        rcases (show at_ = 0 ∨ at_ = 1 by omega) with z | z
        · have := DS2.bM k l z
          omega
        · exact DS2.bM1 k l z
      -- the rows below are cleared
      generalize hnv : (fun k l => (ent M2 k l * ent M2 at_ at_ - ent M2 k at_ * ent M2 at_ l).fdiv bef) = nv
      have c8 : ∀ x y : Int, x.natAbs ≤ 8 → CMul x y := fun x y h => .inl ⟨by omega, by omega⟩
      refine q_forR2 (lo := (at_ : Int) + 1) (n := (n : Int)) (ea_cons (ev_op (ev_var rfl) ev_c rv_I0) (ea_cons (ev_var rfl) ea_nil)) (by omega) (fun ii σ' H' => ∃ M3 y7 y8, σ' = [some (.ref a0), some (.ref a), some (.int (n : Int)), some (.int sgn2), some (.int bef), some (.int (at_ : Int)), some (.int (pl : Int)), y7, y8, none] ∧ Ex H H' ∧ RowsAt H H' a rs2 M3 ∧ Sq n M3 ∧ ∀ k l, ent M3 k l = if at_ < k ∧ k < at_ + 1 + ii ∧ at_ < l ∧ l < n then nv k l else ent M2 k l)
        (fun H11 e11 => ⟨M2, y7, y8, rfl, eH2.trans e11, hR2.ex e11, DS2.sq, fun k l => by rw [if_neg (by omega)]⟩) ?_ ?_
      · intro ii σ' H11 hii hP
        obtain ⟨M3, z7, z8, rfl, eH3, hR3, sq3, hM3⟩ := hP
        have ei : ((at_ : Int) + 1 + (ii : Int)) = ((at_ + 1 + ii : Nat) : Int) := by omega
        rw [ei]
        have hi3 : at_ + 1 + ii < n := by omega
        refine s_forR2 (lo := (at_ : Int) + 1) (n := (n : Int)) (ea_cons (ev_op (ev_var rfl) ev_c rv_I0) (ea_cons (ev_var rfl) ea_nil)) (by omega) (fun jj σ' H' => ∃ M4 y8, σ' = [some (.ref a0), some (.ref a), some (.int (n : Int)), some (.int sgn2), some (.int bef), some (.int (at_ : Int)), some (.int (pl : Int)), some (.int ((at_ + 1 + ii : Nat) : Int)), y8, none] ∧ Ex H H' ∧ RowsAt H H' a rs2 M4 ∧ Sq n M4 ∧ ∀ k l, ent M4 k l = if (at_ < k ∧ k < at_ + 1 + ii ∧ at_ < l ∧ l < n) ∨ (k = at_ + 1 + ii ∧ at_ < l ∧ l < at_ + 1 + jj) then nv k l else ent M2 k l)
          (fun H12 e12 => ⟨M3, z8, rfl, eH3.trans e12, hR3.ex e12, sq3, fun k l => by
            rw [hM3]
            by_cases hc : at_ < k ∧ k < at_ + 1 + ii ∧ at_ < l ∧ l < n
            · rw [if_pos hc, if_pos (.inl hc)]
            · rw [if_neg hc, if_neg (by omega)]⟩) ?_ ?_
        · intro jj σ' H12 hjj hP4
          obtain ⟨M4, w8, rfl, eH4, hR4, sq4, hM4⟩ := hP4
          have ej : ((at_ : Int) + 1 + (jj : Int)) = ((at_ + 1 + jj : Nat) : Int) := by omega
          rw [ej]
          have hj4 : at_ + 1 + jj < n := by omega
          have g1 : ent M4 (at_ + 1 + ii) (at_ + 1 + jj) = ent M2 (at_ + 1 + ii) (at_ + 1 + jj) := by rw [hM4, if_neg (by omega)]
          have g2 : ent M4 at_ at_ = ent M2 at_ at_ := by rw [hM4, if_neg (by omega)]
          have g3 : ent M4 (at_ + 1 + ii) at_ = ent M2 (at_ + 1 + ii) at_ := by rw [hM4, if_neg (by omega)]
          have g4 : ent M4 at_ (at_ + 1 + jj) = ent M2 at_ (at_ + 1 + jj) := by rw [hM4, if_neg (by omega)]
          have l4 : M4.length = n := sq4.1
          have q4 : ∀ k, k < n → (M4.getD k []).length = n := sq4.2
          refine s_setEnt (z := nv (at_ + 1 + ii) (at_ + 1 + jj)) hR4 ?_ (fun _ => ev_var rfl) (fun _ => ev_var rfl) (fun _ => ev_var rfl) (by omega) (by rw [q4 _ hi3]; omega) fun H13 r hr x13 hR5 => ?_
          · refine ev_is (ev_op (ev_op (ev_op (ev_entR hR4 (ev_var rfl) (ev_var rfl) (ev_var rfl) (by omega) (by rw [q4 _ hi3]; omega)) (ev_entR hR4 (ev_var rfl) (ev_var rfl) (ev_var rfl) (by omega) (by rw [q4 at_ (by omega)]; omega)) (rv_I (c8 _ _ ?_)))
              (ev_op (ev_entR hR4 (ev_var rfl) (ev_var rfl) (ev_var rfl) (by omega) (by rw [q4 _ hi3]; omega)) (ev_entR hR4 (ev_var rfl) (ev_var rfl) (ev_var rfl) (by omega) (by rw [q4 at_ (by omega)]; omega)) (rv_I (c8 _ _ ?_))) rv_I0) (ev_var rfl) (rv_I ⟨DS2.b0, .inr ?_⟩)) ?_
            · rw [g1]; exact bd8 _ _
            · rw [g3]; exact bd8 _ _
            · have := DS2.bb
              exact Nat.lt_of_le_of_lt (log2_le_self _) (by omega)
            · rw [g1, g2, g3, g4, ← hnv]
          · have hfr : H r = none := hR4.fr r (List.mem_of_getElem? hr)
            refine ⟨_, _, rfl, ((Ex.but r eH4).trans x13).ex hfr, hR5, ⟨by rw [upd2_len]; exact l4, fun k hk => by rw [upd2_row]; exact q4 k hk⟩, fun k l => ?_⟩
            rw [ent_upd2 M4 _ k l (by omega) (by rw [q4 _ hi3]; omega)]
            by_cases hc : k = at_ + 1 + ii ∧ l = at_ + 1 + jj
            · obtain ⟨rfl, rfl⟩ := hc
              rw [if_pos ⟨rfl, rfl⟩, if_pos (by omega)]
            · rw [if_neg hc, hM4]
              by_cases hc2 : (at_ < k ∧ k < at_ + 1 + ii ∧ at_ < l ∧ l < n) ∨ (k = at_ + 1 + ii ∧ at_ < l ∧ l < at_ + 1 + jj)
              · rw [if_pos hc2, if_pos (by omega)]
              · rw [if_neg hc2, if_neg (by omega)]
        · rintro σ' H12 ⟨M4, w8, rfl, eH4, hR4, sq4, hM4⟩
          refine ⟨M4, _, _, rfl, eH4, hR4, sq4, fun k l => ?_⟩
          rw [hM4]
          by_cases hc : at_ < k ∧ k < at_ + 1 + (ii + 1) ∧ at_ < l ∧ l < n
          · rw [if_pos hc, if_pos (by omega)]
          · rw [if_neg hc, if_neg (by omega)]
      · rintro σ' H11 ⟨M3, z7, z8, rfl, eH3, hR3, sq3, hM3⟩
        have g2 : ent M3 at_ at_ = ent M2 at_ at_ := by rw [hM3, if_neg (by omega)]
        have l3 : M3.length = n := sq3.1
        refine s_asg (ev_entR hR3 (ev_var rfl) (ev_var rfl) (ev_var rfl) (by omega) (by rw [sq3.2 at_ (by omega)]; omega)) fun H12 e12 => ?_
        rw [g2]
        refine ⟨rs2, M3, sgn2, ent M2 at_ at_, X2, _, _, _, _, rfl, eH3.trans e12, hR3.ex e12, sq3, DS2.sg, hnz2, bd8 _ _, fun k l z => by omega, fun k l z => ?_, ?_, DS2.val⟩
        · -- behind the first turn
          have z0 : at_ = 0 := by omega
          subst z0
          have hb1 : bef = 1 := by
            rcases DS2.rel with ⟨h, _⟩ | ⟨_, _, h, _⟩ | ⟨_, h, _⟩ | ⟨_, _, h, _⟩ | ⟨_, h, _⟩ | ⟨_, h, _⟩ <;> omega
          rw [hM3]
          split
          · rw [← hnv, hb1]
            show (Int.fdiv _ 1).natAbs ≤ 8
            rw [Int.fdiv_one]
            have m1 := nat_mul_le (DS2.bM k l rfl) (DS2.bM 0 0 rfl)
            have m2 := nat_mul_le (DS2.bM k 0 rfl) (DS2.bM 0 l rfl)
            omega
          · have := DS2.bM k l rfl
            omega
        · refine rel_elim DS2.rel hat1 DS2.b0 fun k l h1 h2 h3 h4 => ?_
          rw [hM3, if_pos (by omega), ← hnv]
    · rintro σ' H5 ⟨rs', M, sgn, bef, X, y5, y6, y7, y8, rfl, eH, hR, DS⟩
      have en : ((n : Int) - 1).toNat = n - 1 := by omega
      have ei : ((n : Int) - 1) = ((n - 1 : Nat) : Int) := by omega
      have lM : n - 1 < M.length := by rw [DS.sq.1]; omega
      have lr : n - 1 < (M.getD (n - 1) []).length := by rw [DS.sq.2 _ (by omega)]; omega
      refine s_ret (ev_op (ev_var rfl) (ev_entR hR (ev_var rfl) (ev_is (ev_op (ev_var rfl) ev_c rv_I0) (by rw [ei])) (ev_is (ev_op (ev_var rfl) ev_c rv_I0) (by rw [ei])) lM lr) (rv_I (.inl ?_))) fun H6 e6 => ?_
      · rcases DS.sg with z | z <;> rw [z] <;> decide
      · have hX : X = ent M (n - 1) (n - 1) := by
          have := DS.rel
          rw [en] at this
          obtain h | h | h : n = 1 ∨ n = 2 ∨ n = 3 := by omega
          · subst h; simpa [Rel] using this
          · subst h; simpa [Rel] using this
          · subst h; simpa [Rel] using this
        rw [← hX, DS.val]
        exact q H6 (eH.trans e6)
end
end Ef
end
section
/-! W6: Matrix.determinant, times -/
namespace Ef
open PySem PySem.Spec PyProof.Rows L2 Evl
def spMdet (K : PySem.W.Frag) (C : Addr) : Sp := fun vs H Q _ => ∃ (m : V) (M : List (List Int)), vs = [m] ∧ IsMat K C M.length M m H ∧ Sq M.length M ∧ 0 < M.length ∧ M.length ≤ 3 ∧ (∀ k l, (ent M k l).natAbs ≤ 2) ∧ ∀ H', Ex H H' → Q (.int (Dn M.length M)) H'
/-- times a list of zeros -/
def spTimes0 (K : PySem.W.Frag) (C : Addr) : Sp := fun vs H Q _ => ∃ (m v : V) (w : Nat) (M : List (List Int)), vs = [m, v] ∧ IsMat K C w M m H ∧ Wid w M ∧ w ≤ 1000 ∧ M.length ≤ 1000 ∧ IsL K (Ints (List.replicate w 0)) v H ∧ ∀ p H', Ex H H' → H p = none → H' p = some (.lst (Ints (List.replicate M.length 0))) → Q (.ref p) H'
theorem ints_repl (n : Nat) (z : Int) : Ints (List.replicate n z) = List.replicate n (V.int z) := List.map_replicate ..
abbrev s_Matrix_determinant : Stmt := inClass (topS 25) 15
theorem sc_Matrix_determinant : FnScope ["self"] ["self"] (defScope s_Matrix_determinant) := ⟨rfl, rfl, rfl, by decide +kernel, rfl, by decide +kernel, by decide +kernel⟩
abbrev s_Matrix_times : Stmt := inClass (topS 25) 17
theorem sc_Matrix_times : FnScope ["self", "vector", "row", "item", "other"] ["self", "vector"] (defScope s_Matrix_times) := ⟨rfl, rfl, rfl, by decide +kernel, rfl, by decide +kernel, by decide +kernel⟩
section
variable {P : Program} {w : World} {K : PySem.W.Frag} {mg : Str → Option Value} {base : Heap} {C : Addr}
theorem c_Mdet (T : MethOk K C "determinant" "Matrix.determinant" s_Matrix_determinant ["self"]) (MC : MatC K C) (C_det : Clb P w K mg base CX0 "determinant_of" 1 ["rows"] (spDet K)) : MClb P w K mg base CX0 C "determinant" 2 ["self"] (spMdet K C) := by
  obtain ⟨f, fd, F, mm, b⟩ := T.ex
  refine ⟨f, fd, F.ok sc_Matrix_determinant (fun vs H Q E h => ?_) (fun cdv A outer s H vs Q E hr h => ?_), mm, b⟩
  · obtain ⟨_, _, rfl, _⟩ := h
    rfl
  · obtain ⟨m, M, rfl, hm, hsq, h0, h3, hb, q⟩ := h
    have nd := sc_Matrix_determinant.nd
    refine ⟨_, (pss_cons (ps_if (pt_cmpR op_ne (pe_fldK (K := K) (pv 0)) (pe_fldK (K := K) (pv 0)) (nomark _))
        (pss_one ps_never)
        pss_nil)
      (pss_one (ps_ret (pe_cal C_det hr (by rfl) pass0 (pa_cons (pe_fldK (K := K) (pv 0)) pa_nil))))), ?_⟩
    obtain ⟨a, dx, p, rfl, ha, hT⟩ := hm
    refine q_when (b := false) (et_is (et_test (ev_op (ev_fld (ev_var rfl) ha MC.cl MC.nH (mfs_height _ _ _)) (ev_fld (ev_var rfl) ha MC.cl MC.nW (mfs_width _ _ _)) (rv_ne rfl))) (by simp)) (fun hb => Bool.noConfusion hb) (fun _ H1 e1 => ?_)
    refine s_retP (P := fun v H' => v = .int (Dn M.length M)) (ep_call (PA := fun vs H' => vs = [.ref p] ∧ TT2 K M (.ref p) H') ?_ ?_) (fun v H2 e2 hv => ?_)
    · exact eap_one (Ev.toP (ev_self_rows MC (ev_var rfl) (e1 _ _ ha)) fun H2 e2 => ⟨rfl, TT2.m _ _ _ (e1.trans e2) hT⟩)
    · rintro vs H2 e2 ⟨rfl, hT2⟩
      exact fun Q q E => ⟨.ref p, M, rfl, hT2, hsq, h0, h3, hb, fun H3 e3 => q _ H3 e3 rfl⟩
    · rw [hv]
      exact q H2 (e1.trans e2)
theorem c_Mtimes (T : MethOk K C "times" "Matrix.times" s_Matrix_times ["self", "vector"]) (MC : MatC K C) (tL : mg "len" = none) (tS : mg "sum" = none) (tZ : mg "zip" = none) : MClb P w K mg base CX0 C "times" 1 ["self", "vector"] (spTimes0 K C) := by
  obtain ⟨f, fd, F, mm, b⟩ := T.ex
  refine ⟨f, fd, F.ok sc_Matrix_times (fun vs H Q E h => ?_) (fun cdv A outer s H vs Q E hr h => ?_), mm, b⟩
  · obtain ⟨_, _, _, _, rfl, _⟩ := h
    rfl
  · obtain ⟨m, v, wd, M, rfl, hm, hwid, hw, hl, hv, q⟩ := h
    have nd := sc_Matrix_times.nd
    refine ⟨_, (pss_cons (ps_if (pt_cmpR op_ne (pe_callB (call_lenK (K := K)) (by rfl) tL PySem.boot_len (pa_cons (pv 1) pa_nil)) (pe_fldK (K := K) (pv 0)) (nomark _))
        (pss_one ps_never)
        pss_nil)
      (pss_one (ps_ret (pe_lc (own := [("row", 2)]) (by rfl) nd (pi_tupK (K := K) (pe_fldK (K := K) (pv 0))) (blkOk_by (own := [("row", 2)]) (by kernel_rfl)) (fun _ _ _ _ _ => (pg_name (i := 2) nd rfl (Or.inl rfl))) (fun _ _ _ _ _ => pts_nil) (fun _ _ _ _ _ => (pe_callB (cr_sumK (K := K) rfl) (by rfl) tS (by decide +kernel) (pa_cons (pe_lc (own := [("item", 3), ("other", 4)]) (by rfl) nd (pi_zipMK (K := K) (by rfl) tZ (pa_cons (pv 2) (pa_cons (pv 1) pa_nil))) (blkOk_by (own := [("item", 3), ("other", 4)]) (by kernel_rfl)) (fun _ _ _ _ _ => (pg_tupK (K := K) (n := 2) rfl (pgs_cons (pg_name (i := 3) nd rfl (Or.inl rfl)) (pgs_cons (pg_name (i := 4) nd rfl (Or.inl rfl)) pgs_nil)))) (fun _ _ _ _ _ => pts_nil) (fun _ _ _ _ _ => (pe_op op_mul (pv 3) (pv 4)))) pa_nil))))))), ?_⟩
    obtain ⟨a, dx, p, rfl, ha, hT⟩ := hm
    obtain ⟨p', ps, ep, hps, lps, hrow⟩ := hT.rows
    cases ep
    have lv : (Ints (List.replicate wd 0)).length = wd := by rw [List.length_map, List.length_replicate]
    refine q_when (b := false) (et_is (et_test (ev_op (ev_lenS (K := K) (ev_var rfl) hv.s) (ev_fld (ev_var rfl) ha MC.cl MC.nW (mfs_width _ _ _)) (rv_ne rfl))) (by rw [lv]; simp)) (fun hb => Bool.noConfusion hb) (fun _ H1 e1 => ?_)
    obtain ⟨av, rfl, hsv⟩ := hv
    refine s_retL (xs := Ints (List.replicate M.length 0)) (EvL.cast (el_lcT (fun _ => true) (fun k => .int 0) (ev_self_rows MC (ev_var rfl) (e1 _ _ ha)) (ex_t e1 hps) (by omega) (fun x => rfl) (fun _ _ _ _ _ => et_yes) (fun k x H2 e2 hx _ => ?_)) ?_) (fun p2 H2 hp e2 h2 => q p2 H2 (e1.trans e2) (fresh_back e1 hp) h2)
    · obtain ⟨r, row, rfl, hM, hrr⟩ := hrow k x hx
      have lr : row.length = wd := hwid row (List.mem_of_getElem? hM)
      refine EvP.toEv (ep_cb (PA := fun vs H' => ∃ b, vs = [.ref b] ∧ SqL K H' b (Ints (List.replicate wd 0))) (eap_one ?_) ?_)
      · intro H3 e3 Q q
        refine ⟨_, rfl, _, rfl, r, av, Ints row, _, rfl, ex_t ((e1.trans e2).trans e3) hrr, ex_l ((e1.trans e2).trans e3) hsv, fun Dl hD => ?_⟩
        refine el_lcPair (H1 := H3) hD (walk_zipM (n := wd) (by rw [List.length_map, lr]) lv) (fun i => .int 0) (fun H' e => ⟨ex_t (((e1.trans e2).trans e3).trans e) hrr, ex_l (((e1.trans e2).trans e3).trans e) hsv⟩) (by omega) (fun x y => rfl) (fun i x y H' e hi hx hy => ?_) (fun H' e hD' => ?_)
        · have hx' : (Ints row)[i]? = some x := hx
          have hy' : (Ints (List.replicate wd 0))[i]? = some y := hy
          obtain ⟨z, rfl⟩ : ∃ z, x = V.int z := by
            rw [List.getElem?_map] at hx'
            cases ee : row[i]? with
            | none => rw [ee] at hx'; cases hx'
            | some z => rw [ee] at hx'; exact ⟨z, (Option.some.inj hx').symm⟩
          have ey : y = V.int 0 := by
            rw [List.getElem?_map, List.getElem?_replicate, if_pos hi] at hy'
            exact (Option.some.inj hy').symm
          subst ey
          exact ev_is (ev_op (ev_var rfl) (ev_var rfl) (rv_I (.inr ⟨by decide, by decide⟩))) (by simp)
        · refine q _ H' e ⟨Dl, rfl, sq_of ?_⟩
          rw [hD', List.map_const', List.length_range, ints_repl]
      · rintro vs H3 e3 ⟨b, rfl, hb⟩ Q q
        refine ⟨b, _, rfl, hb, q _ H3 (Ex.refl _) ?_⟩
        rw [show (List.replicate wd (0 : Int)).sum = 0 by simp]
    · rw [lps, given_all M (fun _ => V.int 0) _ (fun i x hx => rfl), List.map_const', ints_repl]
end
end Ef
end
section
/-! W7: added_row, added_column, exchanged_columns -/
namespace Ef
open PySem PySem.Spec PyProof.Rows L2 Evl
def addRow (M : List (List Int)) (t s : Nat) (f : Int) : List (List Int) := M.set t (List.zipWith (fun i j => i + f * j) (M.getD t []) (M.getD s []))
def addColR (t s : Nat) (f : Int) (r : List Int) : List Int := r.set t (r.getD t 0 + f * r.getD s 0)
def addCol (M : List (List Int)) (t s : Nat) (f : Int) : List (List Int) := M.map (addColR t s f)
def swapColR (i j : Nat) (r : List Int) : List Int := (r.set i (r.getD j 0)).set j (r.getD i 0)
def swapCol (M : List (List Int)) (i j : Nat) : List (List Int) := M.map (swapColR i j)
/-- all but l is as it was, or more -/
def ExButs (l : List Addr) (H H' : Hp) : Prop := ∀ b o, b ∉ l → H b = some o → H' b = some o
theorem ExButs.trans {l : List Addr} {H H1 H2 : Hp} (e : ExButs l H H1) (e2 : ExButs l H1 H2) : ExButs l H H2 := fun b o n h => e2 b o n (e b o n h)
theorem Ex.buts {H H' : Hp} (l : List Addr) (e : Ex H H') : ExButs l H H' := fun b o _ h => e b o h
theorem ExBut.buts {a : Addr} {l : List Addr} {H H' : Hp} (e : ExBut a H H') (h : a ∈ l) : ExButs l H H' := fun b o n hb => e b o (fun z => n (z ▸ h)) hb
def mapTo (f : List Int → List Int) (M : List (List Int)) (i : Nat) : List (List Int) := (M.take i).map f ++ M.drop i
theorem mapTo_0 (f : List Int → List Int) (M : List (List Int)) : mapTo f M 0 = M := rfl
theorem mapTo_all (f : List Int → List Int) (M : List (List Int)) : mapTo f M M.length = M.map f := by
  unfold mapTo
  rw [List.take_length, List.drop_length, List.append_nil]
theorem mapTo_at {f : List Int → List Int} {M : List (List Int)} {i : Nat} {row : List Int} (h : M[i]? = some row) : (mapTo f M i)[i]? = some row := by
  have hi := (List.getElem?_eq_some_iff.mp h).1
  unfold mapTo
  rw [List.getElem?_append_right (by rw [List.length_map, List.length_take]; omega), List.length_map, List.length_take, List.getElem?_drop, show i + (i - min i M.length) = i by omega]
  exact h
theorem mapTo_set {f : List Int → List Int} {M : List (List Int)} {i : Nat} {row : List Int} (h : M[i]? = some row) : (mapTo f M i).set i (f row) = mapTo f M (i + 1) := by
  have hi := (List.getElem?_eq_some_iff.mp h).1
  unfold mapTo
  rw [List.set_append_right _ _ (by rw [List.length_map, List.length_take]; omega), List.length_map, List.length_take, show i - min i M.length = 0 by omega]
  rw [List.take_add_one, h, List.map_append]
  have hd : M.drop i = row :: M.drop (i + 1) := by
    rw [List.drop_eq_getElem_cons hi]
    congr 1
    rw [List.getElem?_eq_getElem hi] at h
    exact Option.some.inj h
  rw [hd]
  simp
def spAddRow : Sp := fun vs H Q _ => ∃ (H0 : Hp) (a : Addr) (rs : List Addr) (M : List (List Int)) (t s : Nat) (f : Int), vs = [.ref a, .int (t : Int), .int (s : Int), .int f] ∧ Ex H0 H ∧ RowsAt H0 H a rs M ∧ t < M.length ∧ s < M.length ∧
  (M.getD t []).length = (M.getD s []).length ∧ (M.getD t []).length ≤ 1000 ∧ (∀ y ∈ M.getD s [], CMulX f y) ∧ ∀ H' q, ExBut a H H' → H q = none → RowsAt H0 H' a (rs.set t q) (addRow M t s f) → Q .non H'
def spAddCol : Sp := fun vs H Q _ => ∃ (H0 : Hp) (a : Addr) (rs : List Addr) (M : List (List Int)) (t s : Nat) (f : Int), vs = [.ref a, .int (t : Int), .int (s : Int), .int f] ∧ RowsAt H0 H a rs M ∧
  (∀ r ∈ M, t < r.length ∧ s < r.length) ∧ (∀ r ∈ M, CMulX f (r.getD s 0)) ∧ ∀ H', ExButs rs H H' → RowsAt H0 H' a rs (addCol M t s f) → Q .non H'
def spExch : Sp := fun vs H Q _ => ∃ (H0 : Hp) (a : Addr) (rs : List Addr) (M : List (List Int)) (i j : Nat), vs = [.ref a, .int (i : Int), .int (j : Int)] ∧ RowsAt H0 H a rs M ∧
  (∀ r ∈ M, i < r.length ∧ j < r.length) ∧ ∀ H', ExButs rs H H' → RowsAt H0 H' a rs (swapCol M i j) → Q .non H'
abbrev s_added_row : Stmt := topS 29
theorem sc_added_row : FnScope ["rows", "target", "source", "factor", "i", "j"] ["rows", "target", "source", "factor"] (defScope s_added_row) := ⟨rfl, rfl, rfl, by decide +kernel, rfl, by decide +kernel, by decide +kernel⟩
abbrev s_added_column : Stmt := topS 30
theorem sc_added_column : FnScope ["rows", "target", "source", "factor", "row"] ["rows", "target", "source", "factor"] (defScope s_added_column) := ⟨rfl, rfl, rfl, by decide +kernel, rfl, by decide +kernel, by decide +kernel⟩
abbrev s_exchanged_columns : Stmt := topS 31
theorem sc_exchanged_columns : FnScope ["rows", "first", "second", "row"] ["rows", "first", "second"] (defScope s_exchanged_columns) := ⟨rfl, rfl, rfl, by decide +kernel, rfl, by decide +kernel, by decide +kernel⟩
section
variable {P : Program} {w : World} {K : PySem.W.Frag} {mg : Str → Option Value} {base : Heap} {C : Addr}
theorem c_added_row (T : DefOk K mg "added_row" s_added_row ["rows", "target", "source", "factor"]) (tZ : mg "zip" = none) : Clb P w K mg base CX0 "added_row" 1 ["rows", "target", "source", "factor"] spAddRow := by
  obtain ⟨f, fd, F, gm, b⟩ := T.ex
  refine ⟨f, fd, F.ok sc_added_row (fun vs H Q E h => ?_) (fun cdv A outer s H vs Q E hr h => ?_), gm, F.kp, b⟩
  · obtain ⟨_, _, _, _, _, _, _, rfl, _⟩ := h
    rfl
  · obtain ⟨H0, a, rs, M, t, sr, fc, rfl, e0, R, lt, ls, leq, l1000, hc, q⟩ := h
    have nd := sc_added_row.nd
    refine ⟨_, (pss_one (ps_asg (pe_lc (own := [("i", 4), ("j", 5)]) (by rfl) nd (pi_zipK (K := K) (by rfl) tZ (pa_cons (pe_ix (ix_listK (K := K)) (pv 0) (pv 1) (fun _ _ => rfl)) (pa_cons (pe_ix (ix_listK (K := K)) (pv 0) (pv 2) (fun _ _ => rfl)) pa_nil))) (blkOk_by (own := [("i", 4), ("j", 5)]) (by kernel_rfl)) (fun _ _ _ _ _ => (pg_tupK (K := K) (n := 2) rfl (pgs_cons (pg_name (i := 4) nd rfl (Or.inl rfl)) (pgs_cons (pg_name (i := 5) nd rfl (Or.inl rfl)) pgs_nil)))) (fun _ _ _ _ _ => pts_nil) (fun _ _ _ _ _ => (pe_op op_add (pv 4) (pe_op op_mulX (pv 3) (pv 5))))) (pg_sub (pv 0) (pv 1) set_list))), ?_⟩
    obtain ⟨rt, et, mt, xt, ft⟩ := R.refs (getD_get (d := []) lt)
    obtain ⟨rr, es, ms, xs, fs⟩ := R.refs (getD_get (d := []) ls)
    generalize hT : M.getD t [] = rowT at *
    generalize hS : M.getD sr [] = rowS at *
    refine (ev_op (ev_var rfl) (ev_var rfl) (rv_ixL (sq_of R.at_) (atI_nat xt))) H (Ex.refl _) _ fun H1 e1 => ?_
    refine (ev_op (ev_var rfl) (ev_var rfl) (rv_ixL (sq_of (e1 _ _ R.at_)) (atI_nat xs))) H1 (Ex.refl _) _ fun H2 e2 => ?_
    have e12 := e1.trans e2
    refine ⟨rt, rr, Ints rowT, Ints rowS, rfl, sq_of (e12 _ _ ft), sq_of (e12 _ _ fs), fun Dl hD => ?_⟩
    refine el_lcPair (H1 := H2) hD (walk_zip (n := rowT.length) (by rw [List.length_map, List.length_map]; omega)) (fun i => .int (rowT.getD i 0 + fc * rowS.getD i 0)) (fun H' e => ⟨sq_of ((e12.trans e) _ _ ft), sq_of ((e12.trans e) _ _ fs)⟩) (by omega) (fun x y => rfl) (fun i x y H' e hi hx hy => ?_) (fun H3 e3 hD3 => ?_)
    · have hx' : (Ints rowT)[i]? = some x := hx
      have hy' : (Ints rowS)[i]? = some y := hy
      rw [List.getElem?_map, getD_get (d := 0) hi] at hx'
      rw [List.getElem?_map, getD_get (d := 0) (by omega : i < rowS.length)] at hy'
      cases hx'
      cases hy'
      refine ev_op (ev_var rfl) (ev_op (ev_var rfl) (ev_var rfl) (rv_I ?_)) rv_I0
      exact hc _ (List.mem_of_getElem? (getD_get (d := 0) (by omega : i < rowS.length)))
    · have el : (List.range rowT.length).map (fun i => V.int (rowT.getD i 0 + fc * rowS.getD i 0)) = Ints (List.zipWith (fun i j => i + fc * j) rowT rowS) := by
        refine List.ext_getElem (by simp; omega) fun i h1 h2 => ?_
        rw [List.length_map, List.length_range] at h1
        simp only [List.getElem_map, List.getElem_range, List.getElem_zipWith]
        rw [List.getD_eq_getElem?_getD, List.getElem?_eq_getElem h1, List.getD_eq_getElem?_getD, List.getElem?_eq_getElem (by omega)]
        rfl
      rw [el] at hD3
      have e13 := e12.trans e3
      have R3 := R.ex e13
      have nq : Dl ∉ rs := fun z => by
        obtain ⟨o, ho⟩ := (R.ex e12).tr z
        rw [hD] at ho
        cases ho
      have na : Dl ≠ a := (ne_of_none (R.ex e12).at_ hD).symm
      refine ⟨.ref a, rfl, .int (t : Int), rfl, a, _, t, t, rfl, rfl, R3.at_, ixN_nat (by rw [List.length_map, R.len]; exact lt), ?_⟩
      refine q _ Dl ((Ex.but a e13).trans ExBut.upd) (fresh_back e12 hD) ?_
      have := R3.setRow (i := t) (fresh_back (e0.trans e12) hD) nq na hD3
      unfold addRow
      rw [hT, hS]
      exact this
theorem c_added_column (T : DefOk K mg "added_column" s_added_column ["rows", "target", "source", "factor"]) : Clb P w K mg base CX0 "added_column" 1 ["rows", "target", "source", "factor"] spAddCol := by
  obtain ⟨f, fd, F, gm, b⟩ := T.ex
  refine ⟨f, fd, F.ok sc_added_column (fun vs H Q E h => ?_) (fun cdv A outer s H vs Q E hr h => ?_), gm, F.kp, b⟩
  · obtain ⟨_, _, _, _, _, _, _, rfl, _⟩ := h
    rfl
  · obtain ⟨H0, a, rs, M, t, sr, fc, rfl, R, hw, hc, q⟩ := h
    have nd := sc_added_column.nd
    refine ⟨_, (pss_one (ps_for PassesOwn.never rfl (pi_listK (K := K) (pv 0)) (pg_name (i := 4) nd rfl (Or.inl rfl))
        (pss_one (ps_augS (pv 4) (pv 1) get_list (pe_op op_mulX (pv 3) (pe_ix (ix_listK (K := K)) (pv 4) (pv 2) (fun _ _ => rfl))) ip_add set_list)))), ?_⟩
    refine s_forL (xs := rs.map V.ref) (ev_var rfl) (sq_of R.at_) (fun i σ' H' => ∃ y4, σ' = [some (.ref a), some (.int (t : Int)), some (.int (sr : Int)), some (.int fc), y4] ∧ ExButs rs H H' ∧ RowsAt H0 H' a rs (mapTo (addColR t sr fc) M i)) (fun H1 e1 => ⟨none, rfl, Ex.buts rs e1, R.ex e1⟩) (fun i σ' H' _ ⟨_, _, _, h⟩ => sq_of h.at_) ?_ ?_
    · intro i x σ' H' hx hP
      obtain ⟨y4, rfl, eH, hR⟩ := hP
      have hi : i < M.length := by
        have := (List.getElem?_eq_some_iff.mp hx).1
        rw [List.length_map, R.len] at this
        exact this
      have hrow := getD_get (d := []) hi
      generalize M.getD i [] = row at hrow
      obtain ⟨r, er, mr, xr, fr⟩ := hR.refs (mapTo_at (f := addColR t sr fc) hrow)
      rw [xr] at hx
      cases hx
      have lw := hw row (List.mem_of_getElem? hrow)
      have g1 : (Ints row)[t]? = some (.int (row.getD t 0)) := by rw [List.getElem?_map, getD_get (d := 0) lw.1]; rfl
      have g2 : (Ints row)[sr]? = some (.int (row.getD sr 0)) := by rw [List.getElem?_map, getD_get (d := 0) lw.2]; rfl
      refine ⟨.ref r, rfl, .int (t : Int), rfl, r, Ints row, t, _, rfl, rfl, sq_of fr, g1, ?_⟩
      refine ev_op (ev_var rfl) (ev_op (ev_var rfl) (ev_var rfl) (rv_ixL (sq_of fr) (atI_nat g2))) (rv_I (hc row (List.mem_of_getElem? hrow))) H' (Ex.refl _) _ fun H2 e2 => ?_
      refine ⟨_, _, rfl, rfl, r, _, t, t, rfl, rfl, e2 _ _ fr, ixN_nat (by rw [List.length_map]; exact lw.1), some (.ref r), rfl, ?_, ?_⟩
      · exact eH.trans ((Ex.buts rs e2).trans (ExBut.upd.buts mr))
      · have := (hR.ex e2).setItem (j := t) (z := row.getD t 0 + fc * row.getD sr 0) er (mapTo_at (f := addColR t sr fc) hrow)
        rw [show row.set t (row.getD t 0 + fc * row.getD sr 0) = addColR t sr fc row from rfl, mapTo_set hrow] at this
        exact this
    · rintro σ' H' ⟨y4, rfl, eH, hR⟩
      rw [List.length_map, R.len, mapTo_all] at hR
      exact q H' eH hR
theorem c_exch (T : DefOk K mg "exchanged_columns" s_exchanged_columns ["rows", "first", "second"]) : Clb P w K mg base CX0 "exchanged_columns" 1 ["rows", "first", "second"] spExch := by
  obtain ⟨f, fd, F, gm, b⟩ := T.ex
  refine ⟨f, fd, F.ok sc_exchanged_columns (fun vs H Q E h => ?_) (fun cdv A outer s H vs Q E hr h => ?_), gm, F.kp, b⟩
  · obtain ⟨_, _, _, _, _, _, rfl, _⟩ := h
    rfl
  · obtain ⟨H0, a, rs, M, i0, j0, rfl, R, hw, q⟩ := h
    have nd := sc_exchanged_columns.nd
    refine ⟨_, (pss_one (ps_for PassesOwn.never rfl (pi_listK (K := K) (pv 0)) (pg_name (i := 3) nd rfl (Or.inl rfl))
        (pss_one (ps_asg (pe_tup (pa_cons (pe_ix (ix_listK (K := K)) (pv 3) (pv 2) (fun _ _ => rfl)) (pa_cons (pe_ix (ix_listK (K := K)) (pv 3) (pv 1) (fun _ _ => rfl)) pa_nil))) (pg_tupK (K := K) (n := 2) rfl (pgs_cons (pg_sub (pv 3) (pv 1) set_list) (pgs_cons (pg_sub (pv 3) (pv 2) set_list) pgs_nil))))))), ?_⟩
    refine s_forL (xs := rs.map V.ref) (ev_var rfl) (sq_of R.at_) (fun i σ' H' => ∃ y4, σ' = [some (.ref a), some (.int (i0 : Int)), some (.int (j0 : Int)), y4] ∧ ExButs rs H H' ∧ RowsAt H0 H' a rs (mapTo (swapColR i0 j0) M i)) (fun H1 e1 => ⟨none, rfl, Ex.buts rs e1, R.ex e1⟩) (fun i σ' H' _ ⟨_, _, _, h⟩ => sq_of h.at_) ?_ ?_
    · intro i x σ' H' hx hP
      obtain ⟨y4, rfl, eH, hR⟩ := hP
      have hi : i < M.length := by
        have := (List.getElem?_eq_some_iff.mp hx).1
        rw [List.length_map, R.len] at this
        exact this
      have hrow := getD_get (d := []) hi
      generalize M.getD i [] = row at hrow
      obtain ⟨r, er, mr, xr, fr⟩ := hR.refs (mapTo_at (f := swapColR i0 j0) hrow)
      rw [xr] at hx
      cases hx
      have lw := hw row (List.mem_of_getElem? hrow)
      have g1 : (Ints row)[i0]? = some (.int (row.getD i0 0)) := by rw [List.getElem?_map, getD_get (d := 0) lw.1]; rfl
      have g2 : (Ints row)[j0]? = some (.int (row.getD j0 0)) := by rw [List.getElem?_map, getD_get (d := 0) lw.2]; rfl
      refine ev_op (ev_var rfl) (ev_var rfl) (rv_ixL (sq_of fr) (atI_nat g2)) H' (Ex.refl _) _ fun H2 e2 => ?_
      refine ev_op (ev_var rfl) (ev_var rfl) (rv_ixL (sq_of (e2 _ _ fr)) (atI_nat g1)) H2 (Ex.refl _) _ fun H3 e3 => ⟨sz_of (Nat.le_of_ble_eq_true rfl), fun tp nt => ?_⟩
      have e4 : Ex H' (upd H3 tp (.tup [.int (row.getD j0 0), .int (row.getD i0 0)])) := (e2.trans e3).trans (Ex.new nt)
      have hl1 : i0 < (Ints row).length := by rw [List.length_map]; exact lw.1
      have hl2 : j0 < (Ints row).length := by rw [List.length_map]; exact lw.2
      refine ⟨tp, _, rfl, .inl (.inl upd_same), rfl, _, [_], rfl, ?_⟩
      refine ⟨_, rfl, _, rfl, r, _, i0, i0, rfl, rfl, e4 _ _ fr, ixN_nat hl1, _, [], rfl, ?_⟩
      refine ⟨_, rfl, _, rfl, r, _, j0, j0, rfl, rfl, upd_same, ixN_nat (by rw [List.length_set]; exact hl2), rfl, some (.ref r), rfl, ?_, ?_⟩
      · exact eH.trans ((Ex.buts rs e4).trans ((ExBut.upd.trans ExBut.upd).buts mr))
      · have R1 := (hR.ex e4).setItem (j := i0) (z := row.getD j0 0) er (mapTo_at (f := swapColR i0 j0) hrow)
        have hlen : i < (mapTo (swapColR i0 j0) M i).length := (List.getElem?_eq_some_iff.mp (mapTo_at (f := swapColR i0 j0) hrow)).1
        have R2 := R1.setItem (j := j0) (z := row.getD i0 0) er (List.getElem?_set_self hlen)
        rw [List.set_set, ints_set] at *
        rw [show (row.set i0 (row.getD j0 0)).set j0 (row.getD i0 0) = swapColR i0 j0 row from rfl, mapTo_set hrow] at R2
        exact R2
    · rintro σ' H' ⟨y4, rfl, eH, hR⟩
      rw [List.length_map, R.len, mapTo_all] at hR
      exact q H' eH hR
end
end Ef
end
section
/-! W8: the class Work: made, least_place -/
namespace Ef
open PySem PySem.Spec PyProof.Rows L2 Evl
def wfs (f m l : Addr) : List (Str × V) := [(("first" : Str), V.ref f), (("middle" : Str), V.ref m), (("last" : Str), V.ref l)]
theorem wfs_first (f m l : Addr) : (wfs f m l).lookup ("first" : Str) = some (.ref f) := by kernel_rfl
theorem wfs_middle (f m l : Addr) : (wfs f m l).lookup ("middle" : Str) = some (.ref m) := by kernel_rfl
theorem wfs_last (f m l : Addr) : (wfs f m l).lookup ("last" : Str) = some (.ref l) := by kernel_rfl
structure WorkC (K : PySem.W.Frag) (C : Addr) : Prop where
  cl : Cls K C
  nF : NoAttr K C "first"
  nM : NoAttr K C "middle"
  nL : NoAttr K C "last"
/-- a Work at p, new since H0 -/
structure WorkAt (C : Addr) (H0 H : Hp) (p dx af am al : Addr) (rf rm rl : List Addr) (F M L : List (List Int)) : Prop where
  e0 : Ex H0 H
  p0 : H0 p = none
  obj : H p = some (.ins C dx (wfs af am al))
  RF : RowsAt H0 H af rf F
  RM : RowsAt H0 H am rm M
  RL : RowsAt H0 H al rl L
  d1 : ∀ x ∈ af :: rf, x ∉ am :: rm
  d2 : ∀ x ∈ af :: rf, x ∉ al :: rl
  d3 : ∀ x ∈ am :: rm, x ∉ al :: rl
def Shp (h w : Nat) (M : List (List Int)) : Prop := M.length = h ∧ ∀ k, k < h → (M.getD k []).length = w
theorem Shp.wid {h w : Nat} {M : List (List Int)} (s : Shp h w M) : Wid w M := fun r hr => by
  obtain ⟨i, hi, e⟩ := List.mem_iff_getElem.mp hr
  have := s.2 i (by rw [← s.1]; exact hi)
  rw [List.getD_eq_getElem?_getD, List.getElem?_eq_getElem hi, e] at this
  exact this
theorem Shp.of {w : Nat} {M : List (List Int)} (h : Wid w M) : Shp M.length w M := ⟨rfl, fun k hk => wid_get h hk⟩
theorem RowsC.keepI {H0 H : Hp} {a x C dx : Addr} {rs : List Addr} {M : List (List Int)} {fs : List (Str × V)} {o : HO} (h : RowsAt H0 H a rs M) (hx : H x = some (.ins C dx fs)) : RowsAt H0 (upd H x o) a rs M :=
  h.keep (upd_ne (ne_of h.at_ hx (by intro z; cases z))) fun r hr => by
    obtain ⟨row, e⟩ := pr_mem h.rows hr
    exact upd_ne (ne_of e hx (by intro z; cases z))
theorem WorkAt.ex {C : Addr} {H0 H H' : Hp} {p dx af am al : Addr} {rf rm rl : List Addr} {F M L : List (List Int)} (h : WorkAt C H0 H p dx af am al rf rm rl F M L) (e : Ex H H') : WorkAt C H0 H' p dx af am al rf rm rl F M L :=
  ⟨h.e0.trans e, h.p0, e _ _ h.obj, h.RF.ex e, h.RM.ex e, h.RL.ex e, h.d1, h.d2, h.d3⟩
/-- a region new since a heap that holds another one -/
theorem RowsC.dis {c c' : List V → HO} {H0 H1 H2 : Hp} {a b : Addr} {rs rs2 : List Addr} {M N : List (List Int)} (h : RowsC c H0 H1 a rs M) (h2 : RowsC c' H1 H2 b rs2 N) : ∀ x ∈ a :: rs, x ∉ b :: rs2 := fun x hx hy => by
  have t : ∃ o, H1 x = some o := by
    rcases List.mem_cons.mp hx with z | z
    · exact ⟨_, by rw [z]; exact h.at_⟩
    · exact h.tr z
  have f : H1 x = none := by
    rcases List.mem_cons.mp hy with z | z
    · rw [z]; exact h2.fa
    · exact h2.fr x z
  obtain ⟨o, ho⟩ := t
  rw [f] at ho
  cases ho
def spWork (K : PySem.W.Frag) (CM C : Addr) : Sp := fun vs H Q _ => ∃ (H0 : Hp) (x dx : Addr) (m : V) (w : Nat) (M : List (List Int)), vs = [.ref x, m] ∧ Ex H0 H ∧ H0 x = none ∧ H x = some (.ins C dx []) ∧ IsMat K CM w M m H ∧ Wid w M ∧ 0 < M.length ∧ M.length ≤ 1000 ∧ 0 < w ∧ w ≤ 1000 ∧
  ∀ H' af am al rf rm rl, WorkAt C H0 H' x dx af am al rf rm rl (unitM M.length) M (unitM w) → Q .non H'
theorem putW_1 (v w : V) : putF ("middle" : Str) w (putF ("first" : Str) v []) = [(("first" : Str), v), (("middle" : Str), w)] := by
  show (if ("first" : Str) = "middle" then [(("first" : Str), w)] else (("first" : Str), v) :: putF "middle" w []) = _
  rw [if_neg (by decide +kernel)]
  rfl
theorem putW_2 (f m l : Addr) : putF ("last" : Str) (.ref l) [(("first" : Str), V.ref f), (("middle" : Str), V.ref m)] = wfs f m l := by
  show (if ("first" : Str) = "last" then _ else (("first" : Str), V.ref f) :: (if ("middle" : Str) = "last" then _ else (("middle" : Str), V.ref m) :: putF "last" (.ref l) [])) = _
  rw [if_neg (by decide +kernel), if_neg (by decide +kernel)]
  rfl
abbrev s_Work_init : Stmt := inClass (topS 32) 0
theorem sc_Work_init : FnScope ["self", "matrix", "row"] ["self", "matrix"] (defScope s_Work_init) := ⟨rfl, rfl, rfl, by decide +kernel, rfl, by decide +kernel, by decide +kernel⟩
section
variable {P : Program} {w : World} {K : PySem.W.Frag} {mg : Str → Option Value} {base : Heap} {C CM : Addr}
/-- [list(row) for row in m.rows] -/
theorem er_copy {σ : L2.St} {H : Hp} {te : TE} {M : List (List Int)} {wd j : Nat} {vs : List Nat} (MC : MatC K CM) (h : EvP te σ H (IsMat K CM wd M)) (hl : M.length ≤ 1000) (hj : ∀ x, ((wipe σ vs).set j (some x))[j]? = some (some x)) (hw : ∀ x, wipe ((wipe σ vs).set j (some x)) vs = wipe σ vs) :
    EvR HO.lst (tLc (iTup K (tFld K te "rows")) (gName j) tYes (tCB (rListOf K) (tCons (tVar j) tNil)) vs) σ H M := fun H1 e Q q =>
  h H1 e _ fun v H2 e2 hm => by
    obtain ⟨a, dx, p, rfl, ha, hT⟩ := hm
    obtain ⟨p', ps, ep, hps, lps, hrow⟩ := hT.rows
    cases ep
    refine ⟨a, CM, dx, _, .ref p, rfl, ha, MC.cl, MC.nR, mfs_rows _ _ _, ?_⟩
    refine ⟨p, rfl, ⟨ps, hps⟩, fun Dl hD => ?_⟩
    refine lc_tup (xs := ps) (fun i => Cr HO.lst H2 (givenR i (fun _ => true) fun i => M.getD i []) Dl) (cr_start hD) (fun i H' _ p => ex_t p.1 hps) (fun i x H' hi p => ⟨hw x, ?_⟩) (fun H' p => ?_)
    · have hi' : i < 50000 := by have := (List.getElem?_eq_some_iff.mp hi).1; omega
      obtain ⟨r, row, rfl, hM, hr⟩ := hrow i x hi
      refine cr_turn p hi' et_yes fun _ => ?_
      rw [getD_of hM]
      exact EvL.n (el_listS (ev_var (hj _)) ⟨r, rfl, .inr hr⟩)
    · rw [lps, givenR_all M (fun r => r) _ (fun i x hx => getD_of hx), List.map_id'] at p
      obtain ⟨rs, z1, z2⟩ := cr_end e2 p
      exact q Dl rs H' z1 z2
theorem c_Work (T : InitOk K mg C "Work" "Work.__init__" s_Work_init ["self", "matrix"]) (WC : WorkC K C) (MC : MatC K CM) (gM : mg "Matrix" = some (.ref CM)) (C_U : CmClb P w K mg base CX0 CM "unit" 4 (spUnit K CM)) (tl : mg "list" = none) :
    KClb P w K mg base CX0 C "Work" 5 ["self", "matrix"] (spWork K CM C) := by
  obtain ⟨f, fd, F, mk, gm, b⟩ := T.ex
  refine ⟨f, fd, F.ok sc_Work_init (fun vs H Q E h => ?_) (fun cdv A outer s H vs Q E hr h => ?_), mk, gm, b⟩
  · obtain ⟨_, _, _, _, _, _, rfl, _⟩ := h
    rfl
  · obtain ⟨H0, x, dx, m, wd, M, rfl, e0, x0, hx, hm, hwid, h0, hl, w0, hw, q⟩ := h
    have nd := sc_Work_init.nd
    refine ⟨_, (pss_cons (ps_fld (pv 0) (pe_lc (own := [("row", 2)]) (by rfl) nd (pi_tupK (K := K) (pe_fldK (K := K) (pe_cm (pe_cls gM) C_U hr pass0 (pa_cons (pe_fldK (K := K) (pv 1)) pa_nil)))) (blkOk_by (own := [("row", 2)]) (by kernel_rfl)) (fun _ _ _ _ _ => (pg_name (i := 2) nd rfl (Or.inl rfl))) (fun _ _ _ _ _ => pts_nil) (fun _ _ _ _ _ => (pe_callTy (call_listK (K := K)) (by rfl) tl (by decide +kernel) (pa_cons (pv 2) pa_nil)))) rfl)
      (pss_cons (ps_fld (pv 0) (pe_lc (own := [("row", 2)]) (by rfl) nd (pi_tupK (K := K) (pe_fldK (K := K) (pv 1))) (blkOk_by (own := [("row", 2)]) (by kernel_rfl)) (fun _ _ _ _ _ => (pg_name (i := 2) nd rfl (Or.inl rfl))) (fun _ _ _ _ _ => pts_nil) (fun _ _ _ _ _ => (pe_callTy (call_listK (K := K)) (by rfl) tl (by decide +kernel) (pa_cons (pv 2) pa_nil)))) rfl)
      (pss_one (ps_fld (pv 0) (pe_lc (own := [("row", 2)]) (by rfl) nd (pi_tupK (K := K) (pe_fldK (K := K) (pe_cm (pe_cls gM) C_U hr pass0 (pa_cons (pe_fldK (K := K) (pv 1)) pa_nil)))) (blkOk_by (own := [("row", 2)]) (by kernel_rfl)) (fun _ _ _ _ _ => (pg_name (i := 2) nd rfl (Or.inl rfl))) (fun _ _ _ _ _ => pts_nil) (fun _ _ _ _ _ => (pe_callTy (call_listK (K := K)) (by rfl) tl (by decide +kernel) (pa_cons (pv 2) pa_nil)))) rfl)))), ?_⟩
    obtain ⟨am, dm, pm, rfl, ha, hT⟩ := id hm
    have unitE : ∀ (σ : L2.St) (H : Hp) (te : TE) (n : Nat), Ev te σ H (.int (n : Int)) → 0 < n → n ≤ 1000 → EvP (ClX.tCMeth CM (spUnit K CM) E0 (tC (.ref CM)) (tCons te tNil)) σ H (IsMat K CM n (unitM n)) := fun σ H te n h h1 h2 H1 e1 Q q =>
      ⟨rfl, h H1 e1 _ fun H2 e2 => ⟨n, rfl, h1, h2, fun m H3 e3 hm => q m H3 (e2.trans e3) hm⟩⟩
    have lU : ∀ n, (unitM n).length = n := fun n => by unfold unitM; rw [diagUp_len]; exact List.length_replicate
    refine q_fldR (cc := HO.lst) (M := unitM M.length) (er_copy MC (unitE _ _ _ _ (ev_fld (ev_var rfl) ha MC.cl MC.nH (mfs_height _ _ _)) h0 hl) (by rw [lU]; exact hl) (fun x => rfl) (fun x => rfl)) (ev_var rfl) hx WC.cl WC.nF (by decide) fun af rf H1 e1 hF => ?_
    have nmx : am ≠ x := ne_of ha hx (by intro z; injection z with _ _ z; simp [mfs] at z)
    have matU : ∀ (G : Hp) (o : HO) (fs : List (Str × V)), IsMat K CM wd M (.ref am) G → G x = some (.ins C dx fs) → IsMat K CM wd M (.ref am) (upd G x o) := fun G o fs hg hgx => by
      obtain ⟨a', d', p', e', h1, h2⟩ := hg
      cases e'
      exact ⟨am, d', p', rfl, by rw [upd_ne nmx]; exact h1, TT2.keepI h2 hgx⟩
    have hx1 : H1 x = some (.ins C dx []) := e1 _ _ hx
    have m1 := matU H1 (.ins C dx (putF ("first" : Str) (.ref af) [])) _ (IsMat.m _ _ _ e1 hm) hx1
    have e01 : Ex H0 (upd H1 x (.ins C dx (putF ("first" : Str) (.ref af) []))) := fun b o hb => by rw [upd_ne (ne_of_none hb x0)]; exact e1 _ _ (e0 _ _ hb)
    have F1 := (hF.back e0).keepI (o := .ins C dx (putF ("first" : Str) (.ref af) [])) hx1
    generalize hG1 : upd H1 x (.ins C dx (putF ("first" : Str) (.ref af) [])) = G1 at *
    have gx1 : G1 x = some (.ins C dx (putF ("first" : Str) (.ref af) [])) := by rw [← hG1]; exact upd_same
    refine q_fldR (cc := HO.lst) (M := M) (er_copy MC (Ev.toP (ev_var rfl) fun H2 e2 => IsMat.m _ _ _ e2 m1) hl (fun x => rfl) (fun x => rfl)) (ev_var rfl) gx1 WC.cl WC.nM (show 1 < 1000 from by decide) fun am2 rm H3 e3 hM => ?_
    have hx3 := e3 _ _ gx1
    have m2 := matU H3 (.ins C dx (putF ("middle" : Str) (.ref am2) (putF ("first" : Str) (.ref af) []))) _ (IsMat.m _ _ _ e3 m1) hx3
    have e02 : Ex H0 (upd H3 x (.ins C dx (putF ("middle" : Str) (.ref am2) (putF ("first" : Str) (.ref af) [])))) := fun b o hb => by rw [upd_ne (ne_of_none hb x0)]; exact e3 _ _ (e01 _ _ hb)
    have F2 := (F1.ex e3).keepI (o := .ins C dx (putF ("middle" : Str) (.ref am2) (putF ("first" : Str) (.ref af) []))) hx3
    have M2 := (hM.back e01).keepI (o := .ins C dx (putF ("middle" : Str) (.ref am2) (putF ("first" : Str) (.ref af) []))) hx3
    have d1 := F1.dis hM
    generalize hG2 : upd H3 x (.ins C dx (putF ("middle" : Str) (.ref am2) (putF ("first" : Str) (.ref af) []))) = G2 at *
    have gx2 : G2 x = some (.ins C dx (putF ("middle" : Str) (.ref am2) (putF ("first" : Str) (.ref af) []))) := by rw [← hG2]; exact upd_same
    obtain ⟨_, dm2, pm2, e5', ha2, hT2⟩ := id m2
    cases e5'
    refine s_fldR (cc := HO.lst) (M := unitM wd) (er_copy MC (unitE _ _ _ _ (ev_fld (ev_var rfl) ha2 MC.cl MC.nW (mfs_width _ _ _)) w0 hw) (by rw [lU]; exact hw) (fun x => rfl) (fun x => rfl)) (ev_var rfl) gx2 WC.cl WC.nL (by rw [putW_1]; exact (by decide : 2 < 1000)) fun al rl H5 e5 hL => ?_
    have hx5 := e5 _ _ gx2
    rw [putW_1, putW_2]
    rw [putW_1] at hx5
    refine q _ af am2 al rf rm rl ⟨fun b o hb => by rw [upd_ne (ne_of_none hb x0)]; exact e5 _ _ (e02 _ _ hb), x0, upd_same, (F2.ex e5).keepI hx5, (M2.ex e5).keepI hx5, (hL.back e02).keepI hx5, d1, F2.dis hL, M2.dis hL⟩
end
end Ef
end
section
/-! W9: Work.least_place -/
namespace Ef
open PySem PySem.Spec PyProof.Rows L2 Evl
/-- a Work of shape h w at p, new since H0: its middle and last -/
def WS (C : Addr) (H0 H : Hp) (p : Addr) (h w : Nat) (M L : List (List Int)) : Prop := ∃ dx af am al rf rm rl F, WorkAt C H0 H p dx af am al rf rm rl F M L ∧ Shp h h F ∧ Shp h w M ∧ Shp w w L
theorem WS.ex {C : Addr} {H0 H H' : Hp} {p : Addr} {h w : Nat} {M L : List (List Int)} (s : WS C H0 H p h w M L) (e : Ex H H') : WS C H0 H' p h w M L := by
  obtain ⟨dx, af, am, al, rf, rm, rl, F, W, sF, sM, sL⟩ := s
  exact ⟨dx, af, am, al, rf, rm, rl, F, W.ex e, sF, sM, sL⟩
/-- the places of least item: what is looked at, in order -/
def Vis (w s n m i j : Nat) : Prop := s ≤ i ∧ s ≤ j ∧ j < w ∧ (i < s + n ∨ (i = s + n ∧ j < s + m))
def Best (w : Nat) (M : List (List Int)) (s n m : Nat) : Option (Nat × Nat) → Prop
  | none => ∀ i j, Vis w s n m i j → ent M i j = 0
  | some (a, b) => Vis w s n m a b ∧ ent M a b ≠ 0 ∧ (∀ i j, Vis w s n m i j → ent M i j ≠ 0 → (ent M a b).natAbs ≤ (ent M i j).natAbs) ∧ ((a, b) ≠ (s, s) → ent M s s = 0 ∨ (ent M a b).natAbs < (ent M s s).natAbs)
def upBest (M : List (List Int)) (i j : Nat) : Option (Nat × Nat) → Option (Nat × Nat)
  | none => if ent M i j ≠ 0 then some (i, j) else none
  | some (a, b) => if ent M i j ≠ 0 ∧ (ent M i j).natAbs < (ent M a b).natAbs then some (i, j) else some (a, b)
theorem Vis.up {w s n m i j : Nat} (h : Vis w s n (m + 1) i j) : Vis w s n m i j ∨ (i = s + n ∧ j = s + m) := by
  unfold Vis at *
  omega
theorem Vis.to {w s n m i j : Nat} (h : Vis w s n m i j) : Vis w s n (m + 1) i j := by
  unfold Vis at *
  omega
theorem Best.step {w s n m : Nat} {M : List (List Int)} {f : Option (Nat × Nat)} (h : Best w M s n m f) (hm : s + m < w) : Best w M s n (m + 1) (upBest M (s + n) (s + m) f) := by
  have hv : Vis w s n (m + 1) (s + n) (s + m) := by unfold Vis; omega
  cases f with
  | none =>
    have h : ∀ i j, Vis w s n m i j → ent M i j = 0 := h
    by_cases hz : ent M (s + n) (s + m) ≠ 0
    · rw [show upBest M (s + n) (s + m) none = some (s + n, s + m) from if_pos hz]
      refine ⟨hv, hz, fun i j v nz => ?_, fun ne => ?_⟩
      · rcases v.up with v | ⟨rfl, rfl⟩
        · exact absurd (h i j v) nz
        · omega
      · left
        refine h s s ?_
        by_cases hn : n = 0
        · subst hn
          by_cases hm0 : m = 0
          · subst hm0; exact absurd rfl ne
          · unfold Vis; omega
        · unfold Vis; omega
    · rw [show upBest M (s + n) (s + m) none = none from if_neg hz]
      intro i j v
      rcases v.up with v | ⟨rfl, rfl⟩
      · exact h i j v
      · exact Decidable.not_not.mp hz
  | some ab =>
    obtain ⟨a, b⟩ := ab
    obtain ⟨v, nz, hle, hpr⟩ := h
    by_cases hz : ent M (s + n) (s + m) ≠ 0 ∧ (ent M (s + n) (s + m)).natAbs < (ent M a b).natAbs
    · rw [show upBest M (s + n) (s + m) (some (a, b)) = some (s + n, s + m) from if_pos hz]
      refine ⟨hv, hz.1, fun i j v' nz' => ?_, fun ne => ?_⟩
      · rcases v'.up with v' | ⟨rfl, rfl⟩
        · have := hle i j v' nz'
          omega
        · omega
      · by_cases ess : ent M s s = 0
        · exact .inl ess
        · right
          have vs : Vis w s n m s s := by unfold Vis at *; omega
          have := hle s s vs ess
          omega
    · rw [show upBest M (s + n) (s + m) (some (a, b)) = some (a, b) from if_neg hz]
      refine ⟨v.to, nz, fun i j v' nz' => ?_, hpr⟩
      rcases v'.up with v' | ⟨rfl, rfl⟩
      · exact hle i j v' nz'
      · have : ¬ (ent M (s + n) (s + m)).natAbs < (ent M a b).natAbs := fun z => hz ⟨nz', z⟩
        omega
theorem Best.row {w s n m : Nat} {M : List (List Int)} {f : Option (Nat × Nat)} (h : Best w M s n m f) (hm : w = s + m) : Best w M s (n + 1) 0 f := by
  have e : ∀ i j, Vis w s (n + 1) 0 i j ↔ Vis w s n m i j := fun i j => by unfold Vis; omega
  cases f with
  | none => exact fun i j v => h i j ((e i j).mp v)
  | some ab =>
    obtain ⟨v, nz, hle, hpr⟩ := h
    exact ⟨(e _ _).mpr v, nz, fun i j v => hle i j ((e i j).mp v), hpr⟩
theorem Best.none {w s : Nat} {M : List (List Int)} : Best w M s 0 0 none := fun i j v => by unfold Vis at v; omega
/-- what least_place gives -/
def Least (h w : Nat) (M : List (List Int)) (s : Nat) : Option (Nat × Nat) → Prop
  | none => ∀ i j, s ≤ i → i < h → s ≤ j → j < w → ent M i j = 0
  | some (a, b) => s ≤ a ∧ a < h ∧ s ≤ b ∧ b < w ∧ ent M a b ≠ 0 ∧ (∀ i j, s ≤ i → i < h → s ≤ j → j < w → ent M i j ≠ 0 → (ent M a b).natAbs ≤ (ent M i j).natAbs) ∧ ((a, b) ≠ (s, s) → ent M s s = 0 ∨ (ent M a b).natAbs < (ent M s s).natAbs)
theorem Best.least {h w s : Nat} {M : List (List Int)} {f : Option (Nat × Nat)} (b : Best w M s (h - s) 0 f) (hs : s ≤ h) : Least h w M s f := by
  have e : ∀ i j, Vis w s (h - s) 0 i j ↔ s ≤ i ∧ i < h ∧ s ≤ j ∧ j < w := fun i j => by unfold Vis; omega
  cases f with
  | none => exact fun i j h1 h2 h3 h4 => b i j ((e i j).mpr ⟨h1, h2, h3, h4⟩)
  | some ab =>
    obtain ⟨a, c⟩ := ab
    obtain ⟨v, nz, hle, hpr⟩ := b
    obtain ⟨h1, h2, h3, h4⟩ := (e _ _).mp v
    exact ⟨h1, h2, h3, h4, nz, fun i j k1 k2 k3 k4 => hle i j ((e i j).mpr ⟨k1, k2, k3, k4⟩), hpr⟩
/-- none, or the pair -/
def FV (K : PySem.W.Frag) : Option (Nat × Nat) → VP
  | none => fun v _ => v = .non
  | some (a, b) => fun v H => ∃ t, v = .ref t ∧ SqT K H t [.int (a : Int), .int (b : Int)]
theorem FV.m {K : PySem.W.Frag} : ∀ {f : Option (Nat × Nat)}, Mono (FV K f)
  | none => fun _ _ _ _ h => h
  | some (a, b) => fun _ _ _ e ⟨t, h, q⟩ => ⟨t, h, ex_t e q⟩
def spLeast (K : PySem.W.Frag) (C : Addr) : Sp := fun vs H Q _ => ∃ (H0 : Hp) (x : Addr) (h w : Nat) (M L : List (List Int)) (s : Nat), vs = [.ref x, .int (s : Int)] ∧ WS C H0 H x h w M L ∧ s ≤ h ∧ s ≤ w ∧ 0 < h ∧ h ≤ 1000 ∧ w ≤ 1000 ∧
  ∀ v H' f, Ex H H' → Least h w M s f → FV K f v H' → Q v H'
abbrev s_Work_least_place : Stmt := inClass (topS 32) 1
theorem sc_Work_least_place : FnScope ["self", "start", "found", "i", "j", "item"] ["self", "start"] (defScope s_Work_least_place) := ⟨rfl, rfl, rfl, by decide +kernel, rfl, by decide +kernel, by decide +kernel⟩
section
variable {c : List V → HO} {K : PySem.W.Frag} {σ : L2.St} {H0 H : Hp} {tl ti : TE} {a : Addr} {rs : List Addr} {M : List (List Int)} {i : Nat}
theorem ev_lenRows (R : RowsAt H0 H a rs M) (hl : Ev tl σ H (.ref a)) : Ev (tCB (rLenOf K) (tCons tl tNil)) σ H (.int (M.length : Int)) := by
  have := ev_len (K := K) hl (sq_of R.at_)
  rw [List.length_map, R.len] at this
  exact this
theorem ev_lenRow (R : RowsAt H0 H a rs M) (hl : Ev tl σ H (.ref a)) (hi : Ev ti σ H (.int (i : Int))) (li : i < M.length) : Ev (tCB (rLenOf K) (tCons (tOp (rIxL K) tl ti) tNil)) σ H (.int ((M.getD i []).length : Int)) := by
  obtain ⟨r, e1, m1, x1, f1⟩ := R.refs (getD_get (d := []) li)
  have := ev_len (K := K) (ev_op (r := rIxL K) hl hi (rv_ixL (sq_of R.at_) (atI_nat x1))) (sq_of f1)
  rw [List.length_map] at this
  exact this
theorem rv_isN {x : V} : RV (fun x y H Q => y = .non ∧ Q (.bl (decide (x = .non))) H) x .non H (.bl (decide (x = .non))) := fun H1 _ Q q => ⟨rfl, q H1 (Ex.refl H1)⟩
end
section
variable {P : Program} {w : World} {K : PySem.W.Frag} {mg : Str → Option Value} {base : Heap} {C : Addr}
theorem c_least (T : MethOk K C "least_place" "Work.least_place" s_Work_least_place ["self", "start"]) (WC : WorkC K C) (tR : mg "range" = none) (tl : mg "len" = none) (tA : mg "abs" = none) :
    MClb P w K mg base CX0 C "least_place" 1 ["self", "start"] (spLeast K C) := by
  obtain ⟨f, fd, F, M, b⟩ := T.ex
  refine ⟨f, fd, F.ok sc_Work_least_place (fun vs H Q E h => ?_) (fun cdv A outer s H vs Q E hr h => ?_), M, b⟩
  · obtain ⟨_, _, _, _, _, _, _, rfl, _⟩ := h
    rfl
  · obtain ⟨H0, x, h, wd, M, L, st, rfl, W, sh, sw, h0, hh, hw, q⟩ := h
    have nd := sc_Work_least_place.nd
    refine ⟨_, (pss_cons (ps_set (i := 2) nd rfl (Or.inl rfl) pe_non)
      (pss_cons (ps_for PassesOwn.never rfl (pi_range2 (by rfl) tR (pa_cons (pv 1) (pa_cons (pe_callB (call_lenK (K := K)) (by rfl) tl PySem.boot_len (pa_cons (pe_fldK (K := K) (pv 0)) pa_nil)) pa_nil))) (pg_name (i := 3) nd rfl (Or.inl rfl))
        (pss_one (ps_for PassesOwn.never rfl (pi_range2 (by rfl) tR (pa_cons (pv 1) (pa_cons (pe_callB (call_lenK (K := K)) (by rfl) tl PySem.boot_len (pa_cons (pe_ix (ix_listK (K := K)) (pe_fldK (K := K) (pv 0)) pe_int (fun _ _ => rfl)) pa_nil)) pa_nil))) (pg_name (i := 4) nd rfl (Or.inl rfl))
          (pss_cons (ps_set (i := 5) nd rfl (Or.inl rfl) (pe_callB call_abs (by rfl) tA (by decide +kernel) (pa_cons (pe_ix (ix_listK (K := K)) (pe_ix (ix_listK (K := K)) (pe_fldK (K := K) (pv 0)) (pv 3) (fun _ _ => rfl)) (pv 4) (fun _ _ => rfl)) pa_nil)))
          (pss_one (ps_if (PW.pt (pw_and (pt_cmpR op_ne (pv 5) pe_int (nomark _)) (pw_and1 (PW.pt (pw_or (pt_cmpR op_isN (pv 2) pe_non (nomark _)) (pw_or1 (pt_cmpR op_lt (pv 5) (pe_callB call_abs (by rfl) tA (by decide +kernel) (pa_cons (pe_ix (ix_listK (K := K)) (pe_ix (ix_listK (K := K)) (pe_fldK (K := K) (pv 0)) (pe_ix (ix_tupK (K := K)) (pv 2) pe_int (fun _ _ => rfl)) (fun _ _ => rfl)) (pe_ix (ix_tupK (K := K)) (pv 2) pe_int (fun _ _ => rfl)) (fun _ _ => rfl)) pa_nil)) (nomark _))))))))
            (pss_one (ps_set (i := 2) nd rfl (Or.inl rfl) (pe_tup (pa_cons (pv 3) (pa_cons (pv 4) pa_nil)))))
            pss_nil))))))
      (pss_one (ps_ret (pv 2))))), ?_⟩
    obtain ⟨dx, af, am, al, rf, rm, rl, FF, WA, sF, sM, sL⟩ := W
    have lM : M.length = h := sM.1
    have fld : ∀ {σ : L2.St} {H1 : Hp}, Ex H H1 → σ[0]? = some (some (.ref x)) → Ev (tFld K (tVar 0) "middle") σ H1 (.ref am) := fun e hσ => ev_fld (ev_var hσ) (e _ _ WA.obj) WC.cl WC.nM (wfs_middle _ _ _)
    refine q_asg ev_c fun H1 e1 => ?_
    refine q_forR2 (lo := (st : Int)) (n := (h : Int)) (ea_cons (ev_var rfl) (ea_cons (ev_is (ev_lenRows (WA.RM.ex e1) (fld e1 rfl)) (by rw [lM])) ea_nil)) (by omega)
      (fun n σ' H' => ∃ v f y3 y4 y5, σ' = [some (.ref x), some (.int (st : Int)), some v, y3, y4, y5] ∧ Ex H H' ∧ Best wd M st n 0 f ∧ FV K f v H') (fun H2 e2 => ⟨.non, none, _, _, _, rfl, e1.trans e2, Best.none, rfl⟩) ?_ ?_
    · intro n σ' H' hn hP
      obtain ⟨v, f, y3, y4, y5, rfl, eH, hB, hv⟩ := hP
      rw [show (st : Int) + (n : Int) = ((st + n : Nat) : Int) by omega]
      refine s_forR2 (lo := (st : Int)) (n := (wd : Int)) (ea_cons (ev_var rfl) (ea_cons (ev_is (ev_lenRow (i := 0) (WA.RM.ex eH) (fld eH rfl) ev_c (by omega)) (by rw [sM.2 0 h0])) ea_nil)) (by omega)
        (fun m σ' H' => ∃ v f y4 y5, σ' = [some (.ref x), some (.int (st : Int)), some v, some (.int ((st + n : Nat) : Int)), y4, y5] ∧ Ex H H' ∧ Best wd M st n m f ∧ FV K f v H') (fun H2 e2 => ⟨v, f, _, _, rfl, eH.trans e2, hB, FV.m _ _ _ e2 hv⟩) ?_ ?_
      · intro m σ' H2 hm hP
        obtain ⟨v, f, y4, y5, rfl, eH, hB, hv⟩ := hP
        rw [show (st : Int) + (m : Int) = ((st + m : Nat) : Int) by omega]
        have entE : ∀ {σ : L2.St} {H3 : Hp} {ti tj : TE} {i j : Nat}, Ex H H3 → σ[0]? = some (some (.ref x)) → Ev ti σ H3 (.int (i : Int)) → Ev tj σ H3 (.int (j : Int)) → i < h → j < wd → Ev (tOp (rIxL K) (tOp (rIxL K) (tFld K (tVar 0) "middle") ti) tj) σ H3 (.int (ent M i j)) :=
          fun e hσ hi hj li lj => ev_entR (WA.RM.ex e) (fld e hσ) hi hj (by omega) (by rw [sM.2 _ li]; exact lj)
        have step := hB.step (by omega : st + m < wd)
        refine q_asg (ev_abs (entE eH rfl (ev_var rfl) (ev_var rfl) (by omega) (by omega))) fun H3 e3 => ?_
        have hv3 := FV.m _ _ _ e3 hv
        have eH3 := eH.trans e3
        have cmp0 : Ev (tOp rNe (tVar 5) (tC (.int 0))) [some (.ref x), some (.int (st : Int)), some v, some (.int ((st + n : Nat) : Int)), some (.int ((st + m : Nat) : Int)), some (.int ((ent M (st + n) (st + m)).natAbs : Int))] H3 (.bl (decide (ent M (st + n) (st + m) ≠ 0))) := by
          refine ev_is (ev_op (ev_var rfl) ev_c (rv_ne rfl)) ?_
          congr 1
          by_cases hz : ent M (st + n) (st + m) = 0
          · rw [hz]; rfl
          · rw [decide_eq_true hz]
            have : ¬ V.int ((ent M (st + n) (st + m)).natAbs : Int) = V.int 0 := fun z => hz (by injection z with z; omega)
            rw [decide_eq_false this]
            rfl
        cases f with
        | none =>
          have hv3 : v = .non := hv3
          subst hv3
          refine s_when (et_and (et_test cmp0) fun _ => et_or (b := false) (et_test (ev_op (ev_var rfl) ev_c rv_isN)) (fun z => by cases z)) (fun hb H4 e4 => ?_) (fun hb H4 e4 => ?_)
          · have hz : ent M (st + n) (st + m) ≠ 0 := by simpa using hb
            refine s_asgU (eu_tup (ea_cons (ev_var rfl) (ea_cons (ev_var rfl) ea_nil)) (Nat.le_of_ble_eq_true rfl)) fun p H5 hp e5 h5 => ?_
            refine ⟨_, _, _, _, rfl, (eH3.trans e4).trans e5, step, ?_⟩
            rw [upBest, if_pos hz]
            exact ⟨p, rfl, st_of h5⟩
          · have hz : ¬ ent M (st + n) (st + m) ≠ 0 := by simpa using hb
            refine ⟨_, _, _, _, rfl, eH3.trans e4, step, ?_⟩
            rw [upBest, if_neg hz]
            rfl
        | some ab =>
          obtain ⟨a, bb⟩ := ab
          obtain ⟨t, rfl, ht⟩ := hv3
          obtain ⟨va, vz, vl, vp⟩ := hB
          have ix : ∀ {σ : L2.St} {H4 : Hp}, Ex H3 H4 → σ[2]? = some (some (.ref t)) → Ev (tOp (rIxT K) (tVar 2) (tC (.int 0))) σ H4 (.int (a : Int)) ∧ Ev (tOp (rIxT K) (tVar 2) (tC (.int 1))) σ H4 (.int (bb : Int)) := fun e hσ => ⟨ev_op (ev_var hσ) ev_c (rv_ixT (ex_t e ht) rfl), ev_op (ev_var hσ) ev_c (rv_ixT (ex_t e ht) rfl)⟩
          unfold Vis at va
          refine s_when (b := decide (ent M (st + n) (st + m) ≠ 0) && decide ((ent M (st + n) (st + m)).natAbs < (ent M a bb).natAbs)) (et_and (et_test cmp0) fun _ => et_is (et_or (a := false) (et_test (ev_op (ev_var rfl) ev_c rv_isN)) (fun _ => et_test (ev_op (ev_var rfl) (ev_abs (entE eH3 rfl (ix (Ex.refl _) rfl).1 (ix (Ex.refl _) rfl).2 (by omega) (by omega))) rv_I0))) ?_) (fun hb H4 e4 => ?_) (fun hb H4 e4 => ?_)
          · rw [Bool.false_or]
            congr 1
            exact propext (by omega)
          · have hz : ent M (st + n) (st + m) ≠ 0 ∧ (ent M (st + n) (st + m)).natAbs < (ent M a bb).natAbs := by simpa using hb
            refine s_asgU (eu_tup (ea_cons (ev_var rfl) (ea_cons (ev_var rfl) ea_nil)) (Nat.le_of_ble_eq_true rfl)) fun p H5 hp e5 h5 => ?_
            refine ⟨_, _, _, _, rfl, (eH3.trans e4).trans e5, step, ?_⟩
            rw [upBest, if_pos hz]
            exact ⟨p, rfl, st_of h5⟩
          · have hz : ¬ (ent M (st + n) (st + m) ≠ 0 ∧ (ent M (st + n) (st + m)).natAbs < (ent M a bb).natAbs) := fun z => by
              rw [decide_eq_true z.1, decide_eq_true z.2] at hb
              cases hb
            refine ⟨_, _, _, _, rfl, eH3.trans e4, step, ?_⟩
            rw [upBest, if_neg hz]
            exact ⟨t, rfl, ex_t e4 ht⟩
      · rintro σ' H2 ⟨v, f, y4, y5, rfl, eH, hB, hv⟩
        exact ⟨v, f, _, _, _, rfl, eH, hB.row (by omega), hv⟩
    · rintro σ' H2 ⟨v, f, y3, y4, y5, rfl, eH, hB, hv⟩
      rw [show ((h : Int) - (st : Int)).toNat = h - st by omega] at hB
      refine s_retP (Ev.toP (ev_var rfl) fun H3 e3 => FV.m _ _ _ e3 hv) fun v' H3 e3 hv' => ?_
      exact q v' H3 f (eH.trans e3) (hB.least sh) hv'
end
end Ef
end
section
/-! W10: Work.bring, spread, turn_sign -/
namespace Ef
open PySem PySem.Spec PyProof.Rows L2 Evl
theorem RowsC.keepB {c : List V → HO} {H0 H H' : Hp} {a : Addr} {rs l : List Addr} {M : List (List Int)} (h : RowsC c H0 H a rs M) (b : ExButs l H H') (n : ∀ x ∈ a :: rs, x ∉ l) : RowsC c H0 H' a rs M :=
  ⟨h.fa, h.fr, h.na, h.inj, b _ _ (n a List.mem_cons_self) h.at_, pr_impm (fun r row hr e => b _ _ (n r (List.mem_cons_of_mem _ hr)) e) h.rows⟩
theorem ExButs.sub {l l' : List Addr} {H H' : Hp} (e : ExButs l H H') (s : ∀ x ∈ l, x ∈ l') : ExButs l' H H' := fun b o n h => e b o (fun z => n (s b z)) h
section
variable {C : Addr} {H0 H H' : Hp} {p dx af am al : Addr} {rf rm rl rs' : List Addr} {F M L N : List (List Int)}
theorem RowsC.nomem {c : List V → HO} {H0 H : Hp} {a p C dx : Addr} {fs : List (Str × V)} {rs : List Addr} {M : List (List Int)} (h : RowsAt H0 H a rs M) (hp : H p = some (.ins C dx fs)) : p ∉ a :: rs := fun z => by
  rcases List.mem_cons.mp z with z | z
  · rw [z, h.at_] at hp; cases hp
  · obtain ⟨row, e⟩ := pr_mem h.rows z
    rw [e] at hp; cases hp
theorem RowsC.e0 {c : List V → HO} {a : Addr} {rs : List Addr} (h : RowsC c H0 H a rs M) (e : Ex H0 H) (b : ExButs (a :: rs) H H') : Ex H0 H' := fun x o hx => b x o (fun z => by
  rcases List.mem_cons.mp z with z | z
  · rw [z, h.fa] at hx; cases hx
  · rw [h.fr x z] at hx; cases hx) (e x o hx)
theorem dis_new {a b a0 : Addr} {rs rb : List Addr} {c : List V → HO} (R : RowsC c H0 H a rs M) (d : ∀ x ∈ a :: rs, x ∉ b :: rb) {rb' : List Addr} (fr : ∀ r ∈ rb', r ∈ rb ∨ H r = none) : ∀ x ∈ a :: rs, x ∉ b :: rb' := fun x hx hy => by
  rcases List.mem_cons.mp hy with z | z
  · exact d x hx (by rw [z]; exact List.mem_cons_self)
  · rcases fr x z with z | z
    · exact d x hx (List.mem_cons_of_mem _ z)
    · have t : ∃ o, H x = some o := by
        rcases List.mem_cons.mp hx with k | k
        · exact ⟨_, by rw [k]; exact R.at_⟩
        · exact R.tr k
      obtain ⟨o, ho⟩ := t
      rw [z] at ho
      cases ho
theorem dis_sym {l m : List Addr} (d : ∀ x ∈ l, x ∉ m) : ∀ x ∈ m, x ∉ l := fun x hx hy => d x hy hx
theorem WorkAt.mid (W : WorkAt C H0 H p dx af am al rf rm rl F M L) (b : ExButs (am :: rm) H H') (R : RowsAt H0 H' am rs' N) (fr : ∀ r ∈ rs', r ∈ rm ∨ H r = none) : WorkAt C H0 H' p dx af am al rf rs' rl F N L :=
  ⟨W.RM.e0 W.e0 b, W.p0, b _ _ (W.RM.nomem (c := HO.lst) W.obj) W.obj, W.RF.keepB b W.d1, R, W.RL.keepB b (dis_sym W.d3), dis_new (a0 := am) W.RF W.d1 fr, W.d2, dis_sym (dis_new (a0 := am) W.RL (dis_sym W.d3) fr)⟩
theorem WorkAt.fst (W : WorkAt C H0 H p dx af am al rf rm rl F M L) (b : ExButs (af :: rf) H H') (R : RowsAt H0 H' af rs' N) (fr : ∀ r ∈ rs', r ∈ rf ∨ H r = none) : WorkAt C H0 H' p dx af am al rs' rm rl N M L :=
  ⟨W.RF.e0 W.e0 b, W.p0, b _ _ (W.RF.nomem (c := HO.lst) W.obj) W.obj, R, W.RM.keepB b (dis_sym W.d1), W.RL.keepB b (dis_sym W.d2), dis_sym (dis_new (a0 := am) W.RM (dis_sym W.d1) fr), dis_sym (dis_new (a0 := am) W.RL (dis_sym W.d2) fr), W.d3⟩
theorem WorkAt.lst (W : WorkAt C H0 H p dx af am al rf rm rl F M L) (b : ExButs (al :: rl) H H') (R : RowsAt H0 H' al rs' N) (fr : ∀ r ∈ rs', r ∈ rl ∨ H r = none) : WorkAt C H0 H' p dx af am al rf rm rs' F M N :=
  ⟨W.RL.e0 W.e0 b, W.p0, b _ _ (W.RL.nomem (c := HO.lst) W.obj) W.obj, W.RF.keepB b W.d2, W.RM.keepB b W.d3, R, W.d1, dis_new (a0 := am) W.RF W.d2 fr, dis_new (a0 := am) W.RM W.d3 fr⟩
theorem ExBut.cons {a : Addr} {l : List Addr} (e : ExBut a H H') : ExButs (a :: l) H H' := e.buts List.mem_cons_self
theorem ExButs.tail {a : Addr} {l : List Addr} (e : ExButs l H H') : ExButs (a :: l) H H' := e.sub fun _ h => List.mem_cons_of_mem _ h
theorem mem_set2 {rs : List Addr} {i j : Nat} {ri rj x : Addr} (h1 : rs[i]? = some ri) (h2 : rs[j]? = some rj) (h : x ∈ (rs.set i rj).set j ri) : x ∈ rs := by
  rcases List.mem_or_eq_of_mem_set h with h | h
  · rcases List.mem_or_eq_of_mem_set h with h | h
    · exact h
    · rw [h]; exact List.mem_of_getElem? h2
  · rw [h]; exact List.mem_of_getElem? h1
end
section
variable {K : PySem.W.Frag} {σ : L2.St} {H0 H : Hp} {tl ti te : TE} {D : Ends} {tz : TS} {a : Addr} {rs : List Addr} {M : List (List Int)} {i : Nat} {row : List Int}
/-- xs[i] = a new list -/
theorem s_setRow (R : RowsAt H0 H a rs M) (e0 : Ex H0 H) (he : EvL te σ H (Ints row)) (hl : ∀ H1, Ex H H1 → Ev tl σ H1 (.ref a)) (hi : ∀ H1, Ev ti σ H1 (.int (i : Int))) (li : i < M.length)
    (k : ∀ H1 q, H q = none → ExBut a H H1 → RowsAt H0 H1 a (rs.set i q) (M.set i row) → D.nx σ H1) : tAsg te (gSub tl ti rSetL) D σ H := by
  refine he H (Ex.refl H) _ fun q H1 hq e1 h1 => ?_
  refine hl H1 e1 _ (Ex.refl _) _ fun H2 e2 => hi _ _ (Ex.refl _) _ fun H3 e3 => ?_
  have R3 := R.ex ((e1.trans e2).trans e3)
  refine ⟨a, _, i, i, rfl, rfl, R3.at_, ixN_nat (by rw [List.length_map, R.len]; exact li), ?_⟩
  refine k _ q hq ((Ex.but a ((e1.trans e2).trans e3)).trans ExBut.upd) ?_
  refine R3.setRow (fresh_back e0 hq) (fun z => ?_) (ne_of_none R.at_ hq).symm ((e2.trans e3) _ _ h1)
  obtain ⟨o, ho⟩ := R.tr z
  rw [hq] at ho
  cases ho
theorem q_setRow (R : RowsAt H0 H a rs M) (e0 : Ex H0 H) (he : EvL te σ H (Ints row)) (hl : ∀ H1, Ex H H1 → Ev tl σ H1 (.ref a)) (hi : ∀ H1, Ev ti σ H1 (.int (i : Int))) (li : i < M.length)
    (k : ∀ H1 q, H q = none → ExBut a H H1 → RowsAt H0 H1 a (rs.set i q) (M.set i row) → tz D σ H1) : tSeq (tAsg te (gSub tl ti rSetL)) tz D σ H := s_setRow (D := { D with nx := tz D }) R e0 he hl hi li k
theorem s_forNLn {xs : List V} {tu : TS} {j : Nat} (h : EvL tl σ H xs) (Pv : Addr → Nat → L2.St → Hp → Prop) (h0 : ∀ p H1, H p = none → Ex H H1 → H1 p = some (.lst xs) → Pv p 0 σ H1) (hl : ∀ p i σ' H', i ≤ xs.length → Pv p i σ' H' → SqL K H' p xs)
    (hs : ∀ p i x σ' H', xs[i]? = some x → Pv p i σ' H' → tu { D with nx := Pv p (i + 1), ct := Pv p (i + 1), bk := D.nx } (σ'.set j (some x)) H') (hd : ∀ p σ' H', Pv p xs.length σ' H' → D.nx σ' H') : tFor (iList K tl) (gName j) tu D σ H :=
  s_forNL h Pv h0 hl hs hd
theorem s_call {sp : Sp} {E : XK} {ta : TA} {vs : List V} (h : EvA ta σ H vs) (k : ∀ H1, Ex H H1 → sp vs H1 (fun _ H2 => D.nx σ H2) E) : tDrop (tCall sp [] E ta) D σ H := h H (Ex.refl H) _ fun H1 e1 => by
  rw [List.append_nil]
  exact k H1 e1
theorem q_call {sp : Sp} {E : XK} {ta : TA} {vs : List V} (h : EvA ta σ H vs) (k : ∀ H1, Ex H H1 → sp vs H1 (fun _ H2 => tz D σ H2) E) : tSeq (tDrop (tCall sp [] E ta)) tz D σ H := s_call (D := { D with nx := tz D }) h k
theorem ev_any {bs : List Bool} (h : EvL te σ H (bs.map V.bl)) : Ev (tCB (rAny K) (tCons te tNil)) σ H (.bl (bs.any id)) := fun H1 e Q q => h H1 e _ fun p H2 hp e2 h2 => ⟨p, bs, rfl, sq_of h2, q H2 e2⟩
end
def spBring (K : PySem.W.Frag) (C : Addr) : Sp := fun vs H Q _ => ∃ (H0 : Hp) (x t : Addr) (h w : Nat) (M L : List (List Int)) (s i j : Nat), vs = [.ref x, .int (s : Int), .ref t] ∧ WS C H0 H x h w M L ∧ SqT K H t [.int (i : Int), .int (j : Int)] ∧ s < h ∧ s < w ∧ i < h ∧ j < w ∧
  ∀ H', WS C H0 H' x h w (swapCol (swapM M s i) s j) (swapCol L s j) → Ex H0 H' → Q .non H'
def negRow (M : List (List Int)) (i : Nat) : List (List Int) := M.set i ((M.getD i []).map fun z => -z)
def spTurn (C : Addr) : Sp := fun vs H Q _ => ∃ (H0 : Hp) (x : Addr) (h w : Nat) (M L : List (List Int)) (s : Nat), vs = [.ref x, .int (s : Int)] ∧ WS C H0 H x h w M L ∧ s < h ∧ s < w ∧ h ≤ 1000 ∧ w ≤ 1000 ∧
  ∀ H', WS C H0 H' x h w (if ent M s s < 0 then negRow M s else M) L → Q .non H'
def spSpread (C : Addr) : Sp := fun vs H Q _ => ∃ (H0 : Hp) (x : Addr) (h w : Nat) (M L : List (List Int)) (s : Nat), vs = [.ref x, .int (s : Int)] ∧ WS C H0 H x h w M L ∧ s < h ∧ s < w ∧ h ≤ 1000 ∧ w ≤ 1000 ∧ ent M s s ≠ 0 ∧
  ((∀ i j, s < i → i < h → j < w → ent M s s ∣ ent M i j) → ∀ H', WS C H0 H' x h w M L → Q (.bl true) H') ∧
  ∀ i, s < i → i < h → (∃ j, j < w ∧ ¬ ent M s s ∣ ent M i j) → ∀ H', WS C H0 H' x h w (addRow M s i 1) L → Q (.bl false) H'
theorem Shp.swap {h w s i : Nat} {M : List (List Int)} (S : Shp h w M) (hs : s < h) (hi : i < h) : Shp h w (swapM M s i) := by
  refine ⟨by rw [swapM_len]; exact S.1, fun k hk => ?_⟩
  rw [swapM_get M k (by rw [S.1]; exact hs) (by rw [S.1]; exact hi)]
  split
  · exact S.2 _ hs
  · split
    · exact S.2 _ hi
    · exact S.2 _ hk
theorem Shp.map {h w : Nat} {f : List Int → List Int} {M : List (List Int)} (S : Shp h w M) (hf : ∀ r, (f r).length = r.length) : Shp h w (M.map f) := by
  refine ⟨by rw [List.length_map]; exact S.1, fun k hk => ?_⟩
  rw [List.getD_eq_getElem?_getD, List.getElem?_map, getD_get (d := []) (by rw [S.1]; exact hk)]
  show (f _).length = w
  rw [hf]
  exact S.2 _ hk
theorem Shp.set {h w i : Nat} {row : List Int} {M : List (List Int)} (S : Shp h w M) (hr : row.length = w) : Shp h w (M.set i row) := by
  refine ⟨by rw [List.length_set]; exact S.1, fun k hk => ?_⟩
  by_cases e : i = k
  · subst e
    rw [getD_set_self (by rw [S.1]; exact hk)]
    exact hr
  · rw [getD_set_ne e]
    exact S.2 _ hk
theorem swapColR_len (i j : Nat) (r : List Int) : (swapColR i j r).length = r.length := by unfold swapColR; rw [List.length_set, List.length_set]
theorem addColR_len (t s : Nat) (f : Int) (r : List Int) : (addColR t s f r).length = r.length := by unfold addColR; rw [List.length_set]
theorem Shp.addRow {h w t s : Nat} {f : Int} {M : List (List Int)} (S : Shp h w M) (ht : t < h) (hs : s < h) : Shp h w (addRow M t s f) := S.set (by rw [List.length_zipWith, S.2 _ ht, S.2 _ hs, Nat.min_self])
theorem Shp.neg {h w s : Nat} {M : List (List Int)} (S : Shp h w M) (hs : s < h) : Shp h w (negRow M s) := S.set (by rw [List.length_map, S.2 _ hs])
abbrev s_Work_bring : Stmt := inClass (topS 32) 2
theorem sc_Work_bring : FnScope ["self", "at", "place", "i", "j", "rows"] ["self", "at", "place"] (defScope s_Work_bring) := ⟨rfl, rfl, rfl, by decide +kernel, rfl, by decide +kernel, by decide +kernel⟩
abbrev s_Work_spread : Stmt := inClass (topS 32) 4
theorem sc_Work_spread : FnScope ["self", "at", "pivot", "i", "item"] ["self", "at"] (defScope s_Work_spread) := ⟨rfl, rfl, rfl, by decide +kernel, rfl, by decide +kernel, by decide +kernel⟩
abbrev s_Work_turn_sign : Stmt := inClass (topS 32) 5
theorem sc_Work_turn_sign : FnScope ["self", "at", "item"] ["self", "at"] (defScope s_Work_turn_sign) := ⟨rfl, rfl, rfl, by decide +kernel, rfl, by decide +kernel, by decide +kernel⟩
section
variable {P : Program} {w : World} {K : PySem.W.Frag} {mg : Str → Option Value} {base : Heap} {C : Addr}
theorem c_turn (T : MethOk K C "turn_sign" "Work.turn_sign" s_Work_turn_sign ["self", "at"]) (WC : WorkC K C) : MClb P w K mg base CX0 C "turn_sign" 1 ["self", "at"] (spTurn C) := by
  obtain ⟨f, fd, F, M, b⟩ := T.ex
  refine ⟨f, fd, F.ok sc_Work_turn_sign (fun vs H Q E h => ?_) (fun cdv A outer s H vs Q E hr h => ?_), M, b⟩
  · obtain ⟨_, _, _, _, _, _, _, rfl, _⟩ := h
    rfl
  · obtain ⟨H0, x, h, wd, M, L, st, rfl, W, sh, sw, hh, hw, q⟩ := h
    have nd := sc_Work_turn_sign.nd
    refine ⟨_, (pss_one (ps_if (pt_cmpR op_lt (pe_ix (ix_listK (K := K)) (pe_ix (ix_listK (K := K)) (pe_fldK (K := K) (pv 0)) (pv 1) (fun _ _ => rfl)) (pv 1) (fun _ _ => rfl)) pe_int (nomark _))
        (pss_cons (ps_asg (pe_lc (own := [("item", 2)]) (by rfl) nd (pi_listK (K := K) (pe_ix (ix_listK (K := K)) (pe_fldK (K := K) (pv 0)) (pv 1) (fun _ _ => rfl))) (blkOk_by (own := [("item", 2)]) (by kernel_rfl)) (fun _ _ _ _ _ => (pg_name (i := 2) nd rfl (Or.inl rfl))) (fun _ _ _ _ _ => pts_nil) (fun _ _ _ _ _ => (pe_un un_neg (pv 2)))) (pg_sub (pe_fldK (K := K) (pv 0)) (pv 1) set_list))
        (pss_one (ps_asg (pe_lc (own := [("item", 2)]) (by rfl) nd (pi_listK (K := K) (pe_ix (ix_listK (K := K)) (pe_fldK (K := K) (pv 0)) (pv 1) (fun _ _ => rfl))) (blkOk_by (own := [("item", 2)]) (by kernel_rfl)) (fun _ _ _ _ _ => (pg_name (i := 2) nd rfl (Or.inl rfl))) (fun _ _ _ _ _ => pts_nil) (fun _ _ _ _ _ => (pe_un un_neg (pv 2)))) (pg_sub (pe_fldK (K := K) (pv 0)) (pv 1) set_list))))
        pss_nil)), ?_⟩
    obtain ⟨dx, af, am, al, rf, rm, rl, FF, WA, sF, sM, sL⟩ := W
    have lM : M.length = h := sM.1
    have negE : ∀ {H : Hp} {te : TE} {a : Addr} {rs : List Addr} {N : List (List Int)} {σ : L2.St}, σ.length = 3 → σ[1]? = some (some (.int (st : Int))) → σ[2]? = some none → st < N.length → (N.getD st []).length ≤ 1000 → RowsAt H0 H a rs N → Ev te σ H (.ref a) →
        EvL (tLc (iList K (tOp (rIxL K) te (tVar 1))) (gName 2) tYes (tUn (rU fun i => V.int (-i)) (tVar 2)) [2]) σ H (Ints ((N.getD st []).map fun z => -z)) := by
      intro H te a rs N σ h3 h1 h2 ls lr R he
      obtain ⟨r, e1, m1, x1, f1⟩ := R.refs (getD_get (d := []) ls)
      have ew : wipe σ [2] = σ := by
        obtain ⟨y0, y1, y2, rfl⟩ : ∃ y0 y1 y2, σ = [y0, y1, y2] := by
          match σ, h3 with
          | [a, b, c], _ => exact ⟨a, b, c, rfl⟩
        cases h2
        rfl
      refine EvL.cast (el_lcL (xs := Ints (N.getD st [])) (fun _ => true) (fun i => .int (-((N.getD st []).getD i 0))) (ev_op he (ev_var h1) (rv_ixL (sq_of R.at_) (atI_nat x1))) (sq_of f1) (by rw [List.length_map]; omega) (fun y => ?_) (fun i y H1 e1 hi => et_yes) (fun i y H1 e1 hi _ => ?_)) ?_
      · obtain ⟨y0, y1, y2, rfl⟩ : ∃ y0 y1 y2, σ = [y0, y1, y2] := by
          match σ, h3 with
          | [a, b, c], _ => exact ⟨a, b, c, rfl⟩
        rfl
      · rw [ew]
        rw [List.getElem?_map] at hi
        obtain ⟨z, hz, rfl⟩ := Option.map_eq_some_iff.mp hi
        rw [getD_of hz]
        exact ev_un (ev_var (by rw [List.getElem?_set_self (by omega)])) ru_neg
      · rw [List.length_map, given_all (N.getD st []) (fun z => V.int (-z)) _ (fun i z hz => by rw [getD_of hz])]
        exact ints_map _ _
    refine s_when (et_test (ev_op (ev_entR (i := st) (j := st) WA.RM (ev_fld (ev_var rfl) WA.obj WC.cl WC.nM (wfs_middle _ _ _)) (ev_var rfl) (ev_var rfl) (by omega) (by rw [sM.2 _ sh]; exact sw)) ev_c rv_I0)) (fun hb H1 e1 => ?_) (fun hb H1 e1 => ?_)
    · have hb : ent M st st < 0 := of_decide_eq_true hb
      have W1 := WA.ex e1
      refine q_setRow (i := st) W1.RM W1.e0 (negE rfl rfl rfl (by omega) (by rw [sM.2 _ sh]; exact hw) W1.RM (ev_fld (ev_var rfl) W1.obj WC.cl WC.nM (wfs_middle _ _ _))) (fun H2 e2 => ev_fld (ev_var rfl) (e2 _ _ W1.obj) WC.cl WC.nM (wfs_middle _ _ _)) (fun _ => ev_var rfl) (by omega) fun H2 q2 f2 b2 R2 => ?_
      have W2 := W1.mid b2.cons R2 (fun r hr => by
        rcases List.mem_or_eq_of_mem_set hr with z | z
        · exact .inl z
        · exact .inr (by rw [z]; exact f2))
      have lF : FF.length = h := sF.1
      refine s_setRow (i := st) W2.RF W2.e0 (negE rfl rfl rfl (by omega) (by rw [sF.2 _ sh]; exact hh) W2.RF (ev_fld (ev_var rfl) W2.obj WC.cl WC.nF (wfs_first _ _ _))) (fun H2 e2 => ev_fld (ev_var rfl) (e2 _ _ W2.obj) WC.cl WC.nF (wfs_first _ _ _)) (fun _ => ev_var rfl) (by omega) fun H3 q3 f3 b3 R3 => ?_
      have W3 := W2.fst b3.cons R3 (fun r hr => by
        rcases List.mem_or_eq_of_mem_set hr with z | z
        · exact .inl z
        · exact .inr (by rw [z]; exact f3))
      have q' := q H3
      rw [if_pos hb] at q'
      exact q' ⟨dx, af, am, al, _, _, _, _, W3, sF.neg sh, sM.neg sh, sL⟩
    · have hb : ¬ ent M st st < 0 := of_decide_eq_false hb
      have q' := q H1
      rw [if_neg hb] at q'
      exact q' ⟨dx, af, am, al, _, _, _, _, WA.ex e1, sF, sM, sL⟩
theorem c_bring (T : MethOk K C "bring" "Work.bring" s_Work_bring ["self", "at", "place"]) (WC : WorkC K C) (C_X : Clb P w K mg base CX0 "exchanged_columns" 1 ["rows", "first", "second"] spExch) : MClb P w K mg base CX0 C "bring" 2 ["self", "at", "place"] (spBring K C) := by
  obtain ⟨f, fd, F, M, b⟩ := T.ex
  refine ⟨f, fd, F.ok sc_Work_bring (fun vs H Q E h => ?_) (fun cdv A outer s H vs Q E hr h => ?_), M, b⟩
  · obtain ⟨_, _, _, _, _, _, _, _, _, _, rfl, _⟩ := h
    rfl
  · obtain ⟨H0, x, t, h, wd, M, L, st, i0, j0, rfl, W, ht, sh, sw, hi, hj, q⟩ := h
    have nd := sc_Work_bring.nd
    refine ⟨_, (pss_cons (ps_asg (pv 2) (pg_tupK (K := K) (n := 2) rfl (pgs_cons (pg_name (i := 3) nd rfl (Or.inl rfl)) (pgs_cons (pg_name (i := 4) nd rfl (Or.inl rfl)) pgs_nil))))
      (pss_cons (ps_for PassesOwn.never rfl (pi_listK (K := K) (pe_lst (pa_cons (pe_fldK (K := K) (pv 0)) (pa_cons (pe_fldK (K := K) (pv 0)) pa_nil)))) (pg_name (i := 5) nd rfl (Or.inl rfl))
        (pss_one (ps_asg (pe_tup (pa_cons (pe_ix (ix_listK (K := K)) (pv 5) (pv 3) (fun _ _ => rfl)) (pa_cons (pe_ix (ix_listK (K := K)) (pv 5) (pv 1) (fun _ _ => rfl)) pa_nil))) (pg_tupK (K := K) (n := 2) rfl (pgs_cons (pg_sub (pv 5) (pv 1) set_list) (pgs_cons (pg_sub (pv 5) (pv 3) set_list) pgs_nil))))))
      (pss_one (ps_for PassesOwn.never rfl (pi_listK (K := K) (pe_lst (pa_cons (pe_fldK (K := K) (pv 0)) (pa_cons (pe_fldK (K := K) (pv 0)) pa_nil)))) (pg_name (i := 5) nd rfl (Or.inl rfl))
        (pss_one (ps_expr (pe_cal C_X hr (by rfl) pass0 (pa_cons (pv 5) (pa_cons (pv 1) (pa_cons (pv 4) pa_nil)))))))))), ?_⟩
    obtain ⟨dx, af, am, al, rf, rm, rl, FF, WA, sF, sM, sL⟩ := W
    refine ⟨_, rfl, t, _, rfl, ht, rfl, _, _, rfl, _, _, rfl, rfl, ?_⟩
    refine q_forNLn (xs := [.ref am, .ref af]) (el_lst (ea_cons (ev_fld (ev_var rfl) WA.obj WC.cl WC.nM (wfs_middle _ _ _)) (ea_cons (ev_fld (ev_var rfl) WA.obj WC.cl WC.nF (wfs_first _ _ _)) ea_nil)) (Nat.le_of_ble_eq_true rfl))
      (fun p n σ' H' => ∃ rf' rm' F' y5, σ' = [some (.ref x), some (.int (st : Int)), some (.ref t), some (.int (i0 : Int)), some (.int (j0 : Int)), y5] ∧ WorkAt C H0 H' x dx af am al rf' rm' rl F' (if n = 0 then M else swapM M st i0) L ∧ Shp h h F' ∧ H' p = some (.lst [.ref am, .ref af]) ∧ H p = none)
      (fun p H1 hp e1 h1 => ⟨rf, rm, FF, none, rfl, WA.ex e1, sF, h1, hp⟩) (fun p i σ' H' _ ⟨_, _, _, _, _, _, _, h, _⟩ => sq_of h) ?_ ?_
    · rintro p n y σ' H' hx ⟨rf', rm', F', y5, rfl, W', sF', h1, hp⟩
      have npm : p ≠ am := (ne_of_none WA.RM.at_ hp).symm
      have npf : p ≠ af := (ne_of_none WA.RF.at_ hp).symm
      match n, hx with
      | 0, hx =>
        cases hx
        refine s_swap (i := st) (j := i0) W'.RM (fun _ => ev_var rfl) (fun _ => ev_var rfl) (fun _ => ev_var rfl) (by have := sM.1; show st < M.length; omega) (by have := sM.1; show i0 < M.length; omega) fun H2 ri rj hi1 hj1 b2 R2 => ?_
        refine ⟨rf', _, F', _, rfl, W'.mid b2.cons R2 (fun r hr => .inl (mem_set2 hi1 hj1 hr)), sF', b2 _ _ npm h1, hp⟩
      | 1, hx =>
        cases hx
        have lF : F'.length = h := sF'.1
        refine s_swap (i := st) (j := i0) W'.RF (fun _ => ev_var rfl) (fun _ => ev_var rfl) (fun _ => ev_var rfl) (by omega) (by omega) fun H2 ri rj hi1 hj1 b2 R2 => ?_
        refine ⟨_, rm', _, _, rfl, W'.fst b2.cons R2 (fun r hr => .inl (mem_set2 hi1 hj1 hr)), sF'.swap sh hi, b2 _ _ npf h1, hp⟩
      | n + 2, hx => cases hx
    · rintro p σ' H1 ⟨rf1, rm1, F1, y5, rfl, W1, sF1, h1, hp⟩
      have W1 : WorkAt C H0 H1 x dx af am al rf1 rm1 rl F1 (swapM M st i0) L := W1
      clear h1 hp p
      refine s_forNLn (xs := [.ref am, .ref al]) (el_lst (ea_cons (ev_fld (ev_var rfl) W1.obj WC.cl WC.nM (wfs_middle _ _ _)) (ea_cons (ev_fld (ev_var rfl) W1.obj WC.cl WC.nL (wfs_last _ _ _)) ea_nil)) (Nat.le_of_ble_eq_true rfl))
        (fun p n σ' H' => ∃ y5, σ' = [some (.ref x), some (.int (st : Int)), some (.ref t), some (.int (i0 : Int)), some (.int (j0 : Int)), y5] ∧ WorkAt C H0 H' x dx af am al rf1 rm1 rl F1 (if n = 0 then swapM M st i0 else swapCol (swapM M st i0) st j0) (if n ≤ 1 then L else swapCol L st j0) ∧ H' p = some (.lst [.ref am, .ref al]) ∧ H1 p = none)
        (fun p H2 hp e2 h2 => ⟨_, rfl, W1.ex e2, h2, hp⟩) (fun p i σ' H' _ ⟨_, _, _, h, _⟩ => sq_of h) ?_ ?_
      · rintro p n y σ' H' hx ⟨y5, rfl, W', h1, hp⟩
        have npm : p ∉ rm1 := fun z => by
          obtain ⟨o, ho⟩ := W1.RM.tr z
          rw [hp] at ho
          cases ho
        have npl : p ∉ rl := fun z => by
          obtain ⟨o, ho⟩ := W1.RL.tr z
          rw [hp] at ho
          cases ho
        match n, hx with
        | 0, hx =>
          cases hx
          refine s_call (ea_cons (ev_var rfl) (ea_cons (ev_var rfl) (ea_cons (ev_var rfl) ea_nil))) fun H2 e2 => ?_
          have W2 := W'.ex e2
          refine ⟨H0, am, rm1, swapM M st i0, st, j0, rfl, W2.RM, fun r hr => ?_, fun H3 b3 R3 => ?_⟩
          · rw [(sM.swap sh hi).wid r hr]
            exact ⟨sw, hj⟩
          · exact ⟨_, rfl, W2.mid b3.tail R3 (fun r hr => .inl hr), b3 _ _ npm (e2 _ _ h1), hp⟩
        | 1, hx =>
          cases hx
          refine s_call (ea_cons (ev_var rfl) (ea_cons (ev_var rfl) (ea_cons (ev_var rfl) ea_nil))) fun H2 e2 => ?_
          have W2 := W'.ex e2
          refine ⟨H0, al, rl, L, st, j0, rfl, W2.RL, fun r hr => ?_, fun H3 b3 R3 => ?_⟩
          · rw [sL.wid r hr]
            exact ⟨sw, hj⟩
          · exact ⟨_, rfl, W2.lst b3.tail R3 (fun r hr => .inl hr), b3 _ _ npl (e2 _ _ h1), hp⟩
        | n + 2, hx => cases hx
      · rintro p σ' H2 ⟨y5, rfl, W2, h2, hp⟩
        exact q H2 ⟨dx, af, am, al, _, _, _, _, W2, sF1, (sM.swap sh hi).map (swapColR_len st j0), sL.map (swapColR_len st j0)⟩ W2.e0
theorem c_spread (T : MethOk K C "spread" "Work.spread" s_Work_spread ["self", "at"]) (WC : WorkC K C) (C_R : Clb P w K mg base CX0 "added_row" 1 ["rows", "target", "source", "factor"] spAddRow) (tR : mg "range" = none) (tl : mg "len" = none) (tA : mg "any" = none) : MClb P w K mg base CX0 C "spread" 2 ["self", "at"] (spSpread C) := by
  obtain ⟨f, fd, F, M, b⟩ := T.ex
  refine ⟨f, fd, F.ok sc_Work_spread (fun vs H Q E h => ?_) (fun cdv A outer s H vs Q E hr h => ?_), M, b⟩
  · obtain ⟨_, _, _, _, _, _, _, rfl, _⟩ := h
    rfl
  · obtain ⟨H0, x, h, wd, M, L, st, rfl, W, sh, sw, hh, hw, pz, qt, qf⟩ := h
    have nd := sc_Work_spread.nd
    refine ⟨_, (pss_cons (ps_set (i := 2) nd rfl (Or.inr rfl) (pe_ix (ix_listK (K := K)) (pe_ix (ix_listK (K := K)) (pe_fldK (K := K) (pv 0)) (pv 1) (fun _ _ => rfl)) (pv 1) (fun _ _ => rfl)))
      (pss_cons (ps_for PassesOwn.never rfl (pi_range2 (by rfl) tR (pa_cons (pe_op op_add (pv 1) pe_int) (pa_cons (pe_callB (call_lenK (K := K)) (by rfl) tl PySem.boot_len (pa_cons (pe_fldK (K := K) (pv 0)) pa_nil)) pa_nil))) (pg_name (i := 3) nd rfl (Or.inl rfl))
        (pss_one (ps_if (pt_val (pe_callB (cr_anyK (K := K) rfl) (by rfl) tA (by decide +kernel) (pa_cons (pe_lc (own := [("item", 4)]) (by rfl) nd (pi_listK (K := K) (pe_ix (ix_listK (K := K)) (pe_fldK (K := K) (pv 0)) (pv 3) (fun _ _ => rfl))) (blkOk_by (own := [("item", 4)]) (by kernel_rfl)) (fun _ _ _ _ _ => (pg_name (i := 4) nd rfl (Or.inl rfl))) (fun _ _ _ _ _ => pts_nil) (fun _ _ _ _ _ => (pe_cmpR op_ne (pe_op op_modN (pv 4) (pv 2)) pe_int (nomark _)))) pa_nil)))
          (pss_cons (ps_expr (pe_cal C_R hr (by rfl) pass0 (pa_cons (pe_fldK (K := K) (pv 0)) (pa_cons (pv 1) (pa_cons (pv 3) (pa_cons pe_int pa_nil))))))
          (pss_cons (ps_expr (pe_cal C_R hr (by rfl) pass0 (pa_cons (pe_fldK (K := K) (pv 0)) (pa_cons (pv 1) (pa_cons (pv 3) (pa_cons pe_int pa_nil))))))
          (pss_one (ps_ret pe_bl))))
          pss_nil)))
      (pss_one (ps_ret pe_bl)))), ?_⟩
    obtain ⟨dx, af, am, al, rf, rm, rl, FF, WA, sF, sM, sL⟩ := W
    have lM : M.length = h := sM.1
    have lF : FF.length = h := sF.1
    have fld : ∀ {σ : L2.St} {H1 : Hp}, Ex H H1 → σ[0]? = some (some (.ref x)) → Ev (tFld K (tVar 0) "middle") σ H1 (.ref am) := fun e hσ => ev_fld (ev_var hσ) (e _ _ WA.obj) WC.cl WC.nM (wfs_middle _ _ _)
    refine q_asg (ev_entR (i := st) (j := st) WA.RM (fld (Ex.refl _) rfl) (ev_var rfl) (ev_var rfl) (by omega) (by rw [sM.2 _ sh]; exact sw)) fun H1 e1 => ?_
    refine q_forR2 (lo := (st : Int) + 1) (n := (h : Int)) (ea_cons (ev_op (ev_var rfl) ev_c rv_I0) (ea_cons (ev_is (ev_lenRows (WA.RM.ex e1) (fld e1 rfl)) (by rw [lM])) ea_nil)) (by omega)
      (fun n σ' H' => ∃ y3, σ' = [some (.ref x), some (.int (st : Int)), some (.int (ent M st st)), y3, none] ∧ Ex H H' ∧ ∀ i j, st < i → i < st + 1 + n → j < wd → ent M st st ∣ ent M i j) (fun H2 e2 => ⟨_, rfl, e1.trans e2, fun i j _ _ => by omega⟩) ?_ ?_
    · rintro n σ' H2 hn ⟨y3, rfl, eH, hd⟩
      rw [show (st : Int) + 1 + (n : Int) = ((st + 1 + n : Nat) : Int) by omega]
      have hi : st + 1 + n < h := by omega
      obtain ⟨r, z1, m1, x1, f1⟩ := (WA.RM.ex eH).refs (getD_get (d := []) (by omega : st + 1 + n < M.length))
      have lr : (M.getD (st + 1 + n) []).length = wd := sM.2 _ hi
      refine s_when (b := ((M.getD (st + 1 + n) []).map fun z => decide (z.fmod (ent M st st) ≠ 0)).any id) (et_test (ev_any (EvL.cast (el_lcL (xs := Ints (M.getD (st + 1 + n) [])) (fun _ => true) (fun i => .bl (decide (((M.getD (st + 1 + n) []).getD i 0).fmod (ent M st st) ≠ 0)))
        (ev_op (fld eH rfl) (ev_var rfl) (rv_ixL (sq_of (WA.RM.ex eH).at_) (atI_nat x1))) (sq_of f1) (by rw [List.length_map]; omega) (fun y => rfl) (fun i y H1 e1 hi => et_yes) (fun i y H3 e3 hy _ => ?_)) ?_))) (fun hb H3 e3 => ?_) (fun hb H3 e3 => ?_)
      · rw [List.getElem?_map] at hy
        obtain ⟨z, hz, rfl⟩ := Option.map_eq_some_iff.mp hy
        rw [getD_of hz]
        refine ev_is (ev_op (ev_op (ev_var rfl) (ev_var rfl) (rv_I pz)) ev_c (rv_ne rfl)) ?_
        congr 1
        by_cases hz : z.fmod (ent M st st) = 0
        · rw [hz]; rfl
        · rw [decide_eq_true hz]
          have : ¬ V.int (z.fmod (ent M st st)) = V.int 0 := fun k => hz (by injection k)
          rw [decide_eq_false this]
          rfl
      · rw [List.length_map, given_all (M.getD (st + 1 + n) []) (fun z => V.bl (decide (z.fmod (ent M st st) ≠ 0))) _ (fun i z hz => by rw [getD_of hz]), List.map_map]
        rfl
      · have hex : ∃ j, j < wd ∧ ¬ ent M st st ∣ ent M (st + 1 + n) j := by
          obtain ⟨b, hb1, hb2⟩ := List.any_eq_true.mp hb
          obtain ⟨z, hz, rfl⟩ := List.mem_map.mp hb1
          obtain ⟨j, hj, rfl⟩ := List.mem_iff_getElem.mp hz
          refine ⟨j, by omega, fun dv => ?_⟩
          have : (M.getD (st + 1 + n) [])[j].fmod (ent M st st) ≠ 0 := by simpa using hb2
          refine this ?_
          have e : ent M (st + 1 + n) j = (M.getD (st + 1 + n) [])[j] := by
            unfold ent
            rw [List.getD_eq_getElem?_getD, List.getElem?_eq_getElem hj]
            rfl
          rw [e] at dv
          exact Int.fmod_eq_zero_of_dvd dv
        have W3 := WA.ex (eH.trans e3)
        refine q_call (ea_cons (ev_fld (ev_var rfl) W3.obj WC.cl WC.nM (wfs_middle _ _ _)) (ea_cons (ev_var rfl) (ea_cons (ev_var rfl) (ea_cons ev_c ea_nil)))) fun H4 e4 => ?_
        have W4 := W3.ex e4
        refine ⟨H0, am, rm, M, st, st + 1 + n, 1, rfl, W4.e0, W4.RM, by omega, by omega, by rw [sM.2 _ sh, lr], by rw [sM.2 _ sh]; exact hw, fun y _ => .inl (.inl ⟨by decide, by decide⟩), fun H5 q5 b5 f5 R5 => ?_⟩
        have W5 := W4.mid b5.cons R5 (fun r hr => by
          rcases List.mem_or_eq_of_mem_set hr with z | z
          · exact .inl z
          · exact .inr (by rw [z]; exact f5))
        refine q_call (ea_cons (ev_fld (ev_var rfl) W5.obj WC.cl WC.nF (wfs_first _ _ _)) (ea_cons (ev_var rfl) (ea_cons (ev_var rfl) (ea_cons ev_c ea_nil)))) fun H6 e6 => ?_
        have W6 := W5.ex e6
        refine ⟨H0, af, rf, FF, st, st + 1 + n, 1, rfl, W6.e0, W6.RF, by omega, by omega, by rw [sF.2 _ sh, sF.2 _ hi], by rw [sF.2 _ sh]; exact hh, fun y _ => .inl (.inl ⟨by decide, by decide⟩), fun H7 q7 b7 f7 R7 => ?_⟩
        have W7 := W6.fst b7.cons R7 (fun r hr => by
          rcases List.mem_or_eq_of_mem_set hr with z | z
          · exact .inl z
          · exact .inr (by rw [z]; exact f7))
        exact s_ret ev_c fun H8 e8 => qf _ (by omega) hi hex H8 ⟨dx, af, am, al, _, _, _, _, W7.ex e8, sF.addRow sh hi, sM.addRow sh hi, sL⟩
      · refine ⟨_, rfl, eH.trans e3, fun i j h1 h2 h3 => ?_⟩
        by_cases hin : i < st + 1 + n
        · exact hd i j h1 hin h3
        · have ei : i = st + 1 + n := by omega
          subst ei
          have hj : j < (M.getD (st + 1 + n) []).length := by omega
          have e : ent M (st + 1 + n) j = (M.getD (st + 1 + n) [])[j] := by
            unfold ent
            rw [List.getD_eq_getElem?_getD, List.getElem?_eq_getElem hj]
            rfl
          rw [e]
          refine Int.dvd_of_fmod_eq_zero ?_
          have := List.any_eq_false.mp hb (decide ((M.getD (st + 1 + n) [])[j].fmod (ent M st st) ≠ 0)) (List.mem_map.mpr ⟨_, List.getElem_mem hj, rfl⟩)
          simpa using this
    · rintro σ' H2 ⟨y3, rfl, eH, hd⟩
      exact s_ret ev_c fun H3 e3 => qt (fun i j h1 h2 h3 => hd i j h1 (by omega) h3) H3 ⟨dx, af, am, al, _, _, _, _, WA.ex (eH.trans e3), sF, sM, sL⟩
end
end Ef
end
section
/-! W11: Work.clear -/
namespace Ef
open PySem PySem.Spec PyProof.Rows L2 Evl
theorem ent_getD {M : List (List Int)} {i j : Nat} : ent M i j = (M.getD i []).getD j 0 := rfl
theorem zipWith_getD {f : Int → Int → Int} (hf : f 0 0 = 0) : ∀ {l m : List Int} (j : Nat), l.length = m.length → (List.zipWith f l m).getD j 0 = f (l.getD j 0) (m.getD j 0)
  | [], [], j, _ => by simp [hf]
  | [], _ :: _, _, h => by cases h
  | _ :: _, [], _, h => by cases h
  | a :: l, b :: m, 0, h => rfl
  | a :: l, b :: m, j + 1, h => by
    have := zipWith_getD hf (l := l) (m := m) j (by simpa using h)
    simpa using this
theorem ent_addRow {h w : Nat} {M : List (List Int)} (S : Shp h w M) {t s : Nat} (f : Int) (i j : Nat) (ht : t < h) (hs : s < h) : ent (addRow M t s f) i j = if i = t then ent M t j + f * ent M s j else ent M i j := by
  unfold ent addRow
  by_cases e : t = i
  · subst e
    rw [getD_set_self (by rw [S.1]; exact ht), if_pos rfl, zipWith_getD (by simp) j (by rw [S.2 _ ht, S.2 _ hs])]
  · rw [getD_set_ne e, if_neg (fun z => e z.symm)]
theorem ent_map {h w : Nat} {M : List (List Int)} (S : Shp h w M) (g : List Int → List Int) (i j : Nat) (hi : i < h) : ent (M.map g) i j = (g (M.getD i [])).getD j 0 := by
  unfold ent
  rw [List.getD_eq_getElem?_getD (i := i), List.getElem?_map, getD_get (d := []) (by rw [S.1]; exact hi)]
  rfl
theorem ent_addCol {h w : Nat} {M : List (List Int)} (S : Shp h w M) {t s : Nat} (f : Int) (i j : Nat) (hi : i < h) (ht : t < w) : ent (addCol M t s f) i j = if j = t then ent M i t + f * ent M i s else ent M i j := by
  rw [show ent (addCol M t s f) i j = _ from ent_map S (addColR t s f) i j hi]
  unfold addColR
  by_cases e : t = j
  · subst e
    rw [getD_set_self (by rw [S.2 _ hi]; exact ht), if_pos rfl]
    rfl
  · rw [getD_set_ne e, if_neg (fun z => e z.symm)]
    rfl
theorem fdiv_abs (a b : Int) : (a.fdiv b).natAbs ≤ a.natAbs := by
  by_cases h : 0 ≤ b
  · rw [Int.fdiv_eq_ediv_of_nonneg _ h]
    exact Int.natAbs_ediv_le_natAbs a b
  · rw [← Int.neg_fdiv_neg, Int.fdiv_eq_ediv_of_nonneg _ (by omega)]
    have := Int.natAbs_ediv_le_natAbs (-a) (-b)
    rw [Int.natAbs_neg] at this
    exact this
theorem cdiv_ok {x p : Int} (h : x.natAbs < 2 ^ 62) (hp : p ≠ 0) : CDivX x p := ⟨hp, .inl (by
  by_cases z : x.natAbs = 0
  · rw [z]; decide
  · have := (Nat.log2_lt z).mpr h
    omega)⟩
theorem cmul_ok {x p y : Int} (h : x.natAbs < 2 ^ 62) : CMulX (-(x.fdiv p)) y := .inl (.inl (by
  have := fdiv_abs x p
  omega))
def RowCl (h w s : Nat) (M M1 : List (List Int)) : Prop := ∀ i j, ent M1 i j = if s < i ∧ i < h then ent M i j - (ent M i s).fdiv (ent M s s) * ent M s j else ent M i j
def ColCl (h w s : Nat) (p : Int) (M1 M2 L L2 : List (List Int)) : Prop :=
  (∀ i j, i < h → ent M2 i j = if s < j ∧ j < w then ent M1 i j - (ent M1 s j).fdiv p * ent M1 i s else ent M1 i j) ∧
  (∀ i j, i < w → ent L2 i j = if s < j ∧ j < w then ent L i j - (ent M1 s j).fdiv p * ent L i s else ent L i j)
def Clean (h w s : Nat) (M1 M2 : List (List Int)) : Prop := (∀ i, s < i → i < h → ent M1 i s = 0) ∧ ∀ j, s < j → j < w → ent M2 s j = 0
def spClear (C : Addr) : Sp := fun vs H Q _ => ∃ (H0 : Hp) (x : Addr) (h w : Nat) (M L : List (List Int)) (s : Nat), vs = [.ref x, .int (s : Int)] ∧ WS C H0 H x h w M L ∧ s < h ∧ s < w ∧ h ≤ 1000 ∧ w ≤ 1000 ∧ ent M s s ≠ 0 ∧ (∀ i j, (ent M i j).natAbs < 2 ^ 62) ∧
  ∀ b H' M1 M2 L2, WS C H0 H' x h w M2 L2 → RowCl h w s M M1 → ColCl h w s (ent M s s) M1 M2 L L2 → (b = true ↔ Clean h w s M1 M2) → Q (.bl b) H'
abbrev s_Work_clear : Stmt := inClass (topS 32) 3
theorem sc_Work_clear : FnScope ["self", "at", "pivot", "clean", "i", "quotient", "j"] ["self", "at"] (defScope s_Work_clear) := ⟨rfl, rfl, rfl, by decide +kernel, rfl, by decide +kernel, by decide +kernel⟩
section
variable {P : Program} {w : World} {K : PySem.W.Frag} {mg : Str → Option Value} {base : Heap} {C : Addr}
theorem c_clear (T : MethOk K C "clear" "Work.clear" s_Work_clear ["self", "at"]) (WC : WorkC K C) (C_R : Clb P w K mg base CX0 "added_row" 1 ["rows", "target", "source", "factor"] spAddRow) (C_C : Clb P w K mg base CX0 "added_column" 1 ["rows", "target", "source", "factor"] spAddCol) (tR : mg "range" = none) (tl : mg "len" = none) : MClb P w K mg base CX0 C "clear" 2 ["self", "at"] (spClear C) := by
  obtain ⟨f, fd, F, M, b⟩ := T.ex
  refine ⟨f, fd, F.ok sc_Work_clear (fun vs H Q E h => ?_) (fun cdv A outer s H vs Q E hr h => ?_), M, b⟩
  · obtain ⟨_, _, _, _, _, _, _, rfl, _⟩ := h
    rfl
  · obtain ⟨H0, x, h, wd, M, L, st, rfl, W, sh, sw, hh, hw, pz, bd, q⟩ := h
    have nd := sc_Work_clear.nd
    refine ⟨_, (pss_cons (ps_set (i := 2) nd rfl (Or.inl rfl) (pe_ix (ix_listK (K := K)) (pe_ix (ix_listK (K := K)) (pe_fldK (K := K) (pv 0)) (pv 1) (fun _ _ => rfl)) (pv 1) (fun _ _ => rfl)))
      (pss_cons (ps_set (i := 3) nd rfl (Or.inl rfl) pe_bl)
      (pss_cons (ps_for PassesOwn.never rfl (pi_range2 (by rfl) tR (pa_cons (pe_op op_add (pv 1) pe_int) (pa_cons (pe_callB (call_lenK (K := K)) (by rfl) tl PySem.boot_len (pa_cons (pe_fldK (K := K) (pv 0)) pa_nil)) pa_nil))) (pg_name (i := 4) nd rfl (Or.inl rfl))
        (pss_cons (ps_set (i := 5) nd rfl (Or.inl rfl) (pe_op op_fdivX (pe_ix (ix_listK (K := K)) (pe_ix (ix_listK (K := K)) (pe_fldK (K := K) (pv 0)) (pv 4) (fun _ _ => rfl)) (pv 1) (fun _ _ => rfl)) (pv 2)))
        (pss_cons (ps_expr (pe_cal C_R hr (by rfl) pass0 (pa_cons (pe_fldK (K := K) (pv 0)) (pa_cons (pv 4) (pa_cons (pv 1) (pa_cons (pe_un un_neg (pv 5)) pa_nil))))))
        (pss_cons (ps_expr (pe_cal C_R hr (by rfl) pass0 (pa_cons (pe_fldK (K := K) (pv 0)) (pa_cons (pv 4) (pa_cons (pv 1) (pa_cons (pe_un un_neg (pv 5)) pa_nil))))))
        (pss_one (ps_set (i := 3) nd rfl (Or.inl rfl) (pe_and (pv 3) (pe_one (pe_cmpR op_eq (pe_ix (ix_listK (K := K)) (pe_ix (ix_listK (K := K)) (pe_fldK (K := K) (pv 0)) (pv 4) (fun _ _ => rfl)) (pv 1) (fun _ _ => rfl)) pe_int (nomark _))))))))))
      (pss_cons (ps_for PassesOwn.never rfl (pi_range2 (by rfl) tR (pa_cons (pe_op op_add (pv 1) pe_int) (pa_cons (pe_callB (call_lenK (K := K)) (by rfl) tl PySem.boot_len (pa_cons (pe_ix (ix_listK (K := K)) (pe_fldK (K := K) (pv 0)) pe_int (fun _ _ => rfl)) pa_nil)) pa_nil))) (pg_name (i := 6) nd rfl (Or.inl rfl))
        (pss_cons (ps_set (i := 5) nd rfl (Or.inl rfl) (pe_op op_fdivX (pe_ix (ix_listK (K := K)) (pe_ix (ix_listK (K := K)) (pe_fldK (K := K) (pv 0)) (pv 1) (fun _ _ => rfl)) (pv 6) (fun _ _ => rfl)) (pv 2)))
        (pss_cons (ps_expr (pe_cal C_C hr (by rfl) pass0 (pa_cons (pe_fldK (K := K) (pv 0)) (pa_cons (pv 6) (pa_cons (pv 1) (pa_cons (pe_un un_neg (pv 5)) pa_nil))))))
        (pss_cons (ps_expr (pe_cal C_C hr (by rfl) pass0 (pa_cons (pe_fldK (K := K) (pv 0)) (pa_cons (pv 6) (pa_cons (pv 1) (pa_cons (pe_un un_neg (pv 5)) pa_nil))))))
        (pss_one (ps_set (i := 3) nd rfl (Or.inl rfl) (pe_and (pv 3) (pe_one (pe_cmpR op_eq (pe_ix (ix_listK (K := K)) (pe_ix (ix_listK (K := K)) (pe_fldK (K := K) (pv 0)) (pv 1) (fun _ _ => rfl)) (pv 6) (fun _ _ => rfl)) pe_int (nomark _))))))))))
      (pss_one (ps_ret (pv 3))))))), ?_⟩
    obtain ⟨dx, af, am, al, rf, rm, rl, FF, WA, sF, sM, sL⟩ := W
    have lM : M.length = h := sM.1
    refine q_asg (ev_entR (i := st) (j := st) WA.RM (ev_fld (ev_var rfl) WA.obj WC.cl WC.nM (wfs_middle _ _ _)) (ev_var rfl) (ev_var rfl) (by omega) (by rw [sM.2 _ sh]; exact sw)) fun H1 e1 => ?_
    refine q_asg ev_c fun H2 e2 => ?_
    have W2 := WA.ex (e1.trans e2)
    have hp : ∀ pv, pv = ent M st st → pv ≠ 0 := fun pv e => by rw [e]; exact pz
    generalize hpv : ent M st st = pv at *
    have pz := hp pv rfl
    refine q_forR2 (lo := (st : Int) + 1) (n := (h : Int)) (ea_cons (ev_op (ev_var rfl) ev_c rv_I0) (ea_cons (ev_is (ev_lenRows W2.RM (ev_fld (ev_var rfl) W2.obj WC.cl WC.nM (wfs_middle _ _ _))) (by rw [lM])) ea_nil)) (by omega)
      (fun n σ' H' => ∃ b y4 y5 y6 rf' rm' F' N, σ' = [some (.ref x), some (.int (st : Int)), some (.int pv), some (.bl b), y4, y5, y6] ∧ WorkAt C H0 H' x dx af am al rf' rm' rl F' N L ∧ Shp h h F' ∧ Shp h wd N ∧
        (∀ i j, ent N i j = if st < i ∧ i < st + 1 + n then ent M i j - (ent M i st).fdiv pv * ent M st j else ent M i j) ∧ (b = true ↔ ∀ i, st < i → i < st + 1 + n → ent N i st = 0))
      (fun H3 e3 => ⟨true, none, none, none, rf, rm, FF, M, rfl, W2.ex e3, sF, sM, fun i j => by rw [if_neg (by omega)], by simp; omega⟩) ?_ ?_
    · rintro n σ' H3 hn ⟨b, y4, y5, y6, rf', rm', F', N, rfl, W3, sF3, sN, hN, hb⟩
      rw [show (st : Int) + 1 + (n : Int) = ((st + 1 + n : Nat) : Int) by omega]
      have hi : st + 1 + n < h := by omega
      have lN : N.length = h := sN.1
      have lF : F'.length = h := sF3.1
      have g1 : ent N (st + 1 + n) st = ent M (st + 1 + n) st := by rw [hN, if_neg (by omega)]
      refine q_asg (ev_op (ev_entR (i := st + 1 + n) (j := st) W3.RM (ev_fld (ev_var rfl) W3.obj WC.cl WC.nM (wfs_middle _ _ _)) (ev_var rfl) (ev_var rfl) (by omega) (by rw [sN.2 _ hi]; exact sw)) (ev_var rfl) (rv_I (cdiv_ok (by rw [g1]; exact bd _ _) pz))) fun H4 e4 => ?_
      rw [g1]
      have W4 := W3.ex e4
      refine q_call (ea_cons (ev_fld (ev_var rfl) W4.obj WC.cl WC.nM (wfs_middle _ _ _)) (ea_cons (ev_var rfl) (ea_cons (ev_var rfl) (ea_cons (ev_un (ev_var rfl) ru_neg) ea_nil)))) fun H5 e5 => ?_
      have W5 := W4.ex e5
      refine ⟨H0, am, rm', N, st + 1 + n, st, _, rfl, W5.e0, W5.RM, by omega, by omega, by rw [sN.2 _ hi, sN.2 _ sh], by rw [sN.2 _ hi]; exact hw, fun y _ => cmul_ok (bd _ _), fun H6 q6 b6 f6 R6 => ?_⟩
      have W6 := W5.mid b6.cons R6 (fun r hr => by
        rcases List.mem_or_eq_of_mem_set hr with z | z
        · exact .inl z
        · exact .inr (by rw [z]; exact f6))
      refine q_call (ea_cons (ev_fld (ev_var rfl) W6.obj WC.cl WC.nF (wfs_first _ _ _)) (ea_cons (ev_var rfl) (ea_cons (ev_var rfl) (ea_cons (ev_un (ev_var rfl) ru_neg) ea_nil)))) fun H7 e7 => ?_
      have W7 := W6.ex e7
      refine ⟨H0, af, rf', F', st + 1 + n, st, _, rfl, W7.e0, W7.RF, by omega, by omega, by rw [sF3.2 _ hi, sF3.2 _ sh], by rw [sF3.2 _ hi]; exact hh, fun y _ => cmul_ok (bd _ _), fun H8 q8 b8 f8 R8 => ?_⟩
      have W8 := W7.fst b8.cons R8 (fun r hr => by
        rcases List.mem_or_eq_of_mem_set hr with z | z
        · exact .inl z
        · exact .inr (by rw [z]; exact f8))
      have sN' : Shp h wd (addRow N (st + 1 + n) st (-(ent M (st + 1 + n) st).fdiv pv)) := sN.addRow hi sh
      have hN' : ∀ i j, ent (addRow N (st + 1 + n) st (-(ent M (st + 1 + n) st).fdiv pv)) i j = if st < i ∧ i < st + 1 + (n + 1) then ent M i j - (ent M i st).fdiv pv * ent M st j else ent M i j := fun i j => by
        rw [ent_addRow sN _ _ _ hi sh]
        by_cases e : i = st + 1 + n
        · subst e
          rw [if_pos rfl, if_pos (by omega), hN, hN, if_neg (by omega), if_neg (by omega), Int.neg_mul, Int.sub_eq_add_neg]
        · rw [if_neg e, hN]
          by_cases c : st < i ∧ i < st + 1 + n
          · rw [if_pos c, if_pos (by omega)]
          · rw [if_neg c, if_neg (by omega)]
      generalize addRow N (st + 1 + n) st (-(ent M (st + 1 + n) st).fdiv pv) = N' at *
      have lN' : N'.length = h := sN'.1
      refine s_asg (v := .bl (b && decide (ent N' (st + 1 + n) st = 0))) (ev_andV (ev_var rfl) fun _ => ev_is (ev_op (ev_entR (i := st + 1 + n) (j := st) W8.RM (ev_fld (ev_var rfl) W8.obj WC.cl WC.nM (wfs_middle _ _ _)) (ev_var rfl) (ev_var rfl) (by omega) (by rw [sN'.2 _ hi]; exact sw)) ev_c (rv_eq rfl)) ?_) fun H9 e9 => ?_
      · congr 1
        exact decide_eq_decide.mpr ⟨fun z => by injection z, fun z => by rw [z]⟩
      · refine ⟨_, _, _, _, _, _, _, N', rfl, W8.ex e9, sF3.addRow hi sh, sN', hN', ?_⟩
        rw [Bool.and_eq_true, hb, decide_eq_true_eq]
        have same : ∀ i, i < st + 1 + n → ent N i st = ent N' i st := fun i h1 => by
          rw [hN, hN']
          by_cases c : st < i ∧ i < st + 1 + n
          · rw [if_pos c, if_pos (by omega)]
          · rw [if_neg c, if_neg (by omega)]
        constructor
        · rintro ⟨k1, k2⟩ i h1 h2
          by_cases e : i = st + 1 + n
          · rw [e]; exact k2
          · rw [← same i (by omega)]
            exact k1 i h1 (by omega)
        · intro k
          exact ⟨fun i h1 h2 => by rw [same i (by omega)]; exact k i h1 (by omega), k _ (by omega) (by omega)⟩
    · rintro σ' H3 ⟨b, y4, y5, y6, rf', rm', F', N, rfl, W3, sF3, sN, hN, hb⟩
      have en : st + 1 + ((h : Int) - ((st : Int) + 1)).toNat = h := by omega
      rw [en] at hN hb
      have lN : N.length = h := sN.1
      have rowS : ∀ j, ent N st j = ent M st j := fun j => by rw [hN, if_neg (by omega)]
      refine q_forR2 (lo := (st : Int) + 1) (n := (wd : Int)) (ea_cons (ev_op (ev_var rfl) ev_c rv_I0) (ea_cons (ev_is (ev_lenRow (i := 0) W3.RM (ev_fld (ev_var rfl) W3.obj WC.cl WC.nM (wfs_middle _ _ _)) ev_c (by omega)) (by rw [sN.2 0 (by omega)])) ea_nil)) (by omega)
        (fun m σ' H' => ∃ b2 y4 y5 y6 N2 L2, σ' = [some (.ref x), some (.int (st : Int)), some (.int pv), some (.bl b2), y4, y5, y6] ∧ WorkAt C H0 H' x dx af am al rf' rm' rl F' N2 L2 ∧ Shp h wd N2 ∧ Shp wd wd L2 ∧
          (∀ i j, i < h → ent N2 i j = if st < j ∧ j < st + 1 + m then ent N i j - (ent N st j).fdiv pv * ent N i st else ent N i j) ∧
          (∀ i j, i < wd → ent L2 i j = if st < j ∧ j < st + 1 + m then ent L i j - (ent N st j).fdiv pv * ent L i st else ent L i j) ∧ (b2 = true ↔ b = true ∧ ∀ j, st < j → j < st + 1 + m → ent N2 st j = 0))
        (fun H4 e4 => ⟨b, _, _, _, N, L, rfl, W3.ex e4, sN, sL, fun i j _ => by rw [if_neg (by omega)], fun i j _ => by rw [if_neg (by omega)], by simp; intro _; omega⟩) ?_ ?_
      · rintro m σ' H4 hm ⟨b2, z4, z5, z6, N2, L2, rfl, W4, sN2, sL2, hN2, hL2, hb2⟩
        rw [show (st : Int) + 1 + (m : Int) = ((st + 1 + m : Nat) : Int) by omega]
        have hj : st + 1 + m < wd := by omega
        have lN2 : N2.length = h := sN2.1
        have g1 : ent N2 st (st + 1 + m) = ent N st (st + 1 + m) := by rw [hN2 _ _ sh, if_neg (by omega)]
        have bq : (ent N st (st + 1 + m)).natAbs < 2 ^ 62 := by rw [rowS]; exact bd _ _
        refine q_asg (ev_op (ev_entR (i := st) (j := st + 1 + m) W4.RM (ev_fld (ev_var rfl) W4.obj WC.cl WC.nM (wfs_middle _ _ _)) (ev_var rfl) (ev_var rfl) (by omega) (by rw [sN2.2 _ sh]; exact hj)) (ev_var rfl) (rv_I (cdiv_ok (by rw [g1]; exact bq) pz))) fun H5 e5 => ?_
        rw [g1]
        have W5 := W4.ex e5
        refine q_call (ea_cons (ev_fld (ev_var rfl) W5.obj WC.cl WC.nM (wfs_middle _ _ _)) (ea_cons (ev_var rfl) (ea_cons (ev_var rfl) (ea_cons (ev_un (ev_var rfl) ru_neg) ea_nil)))) fun H6 e6 => ?_
        have W6 := W5.ex e6
        refine ⟨H0, am, rm', N2, st + 1 + m, st, _, rfl, W6.RM, fun r hr => by rw [sN2.wid r hr]; exact ⟨hj, sw⟩, fun r _ => cmul_ok bq, fun H7 b7 R7 => ?_⟩
        have W7 := W6.mid b7.tail R7 (fun r hr => .inl hr)
        refine q_call (ea_cons (ev_fld (ev_var rfl) W7.obj WC.cl WC.nL (wfs_last _ _ _)) (ea_cons (ev_var rfl) (ea_cons (ev_var rfl) (ea_cons (ev_un (ev_var rfl) ru_neg) ea_nil)))) fun H8 e8 => ?_
        have W8 := W7.ex e8
        refine ⟨H0, al, rl, L2, st + 1 + m, st, _, rfl, W8.RL, fun r hr => by rw [sL2.wid r hr]; exact ⟨hj, sw⟩, fun r _ => cmul_ok bq, fun H9 b9 R9 => ?_⟩
        have W9 := W8.lst b9.tail R9 (fun r hr => .inl hr)
        have sN' : Shp h wd (addCol N2 (st + 1 + m) st (-(ent N st (st + 1 + m)).fdiv pv)) := sN2.map (addColR_len _ _ _)
        have sL' : Shp wd wd (addCol L2 (st + 1 + m) st (-(ent N st (st + 1 + m)).fdiv pv)) := sL2.map (addColR_len _ _ _)
        have hN' : ∀ i j, i < h → ent (addCol N2 (st + 1 + m) st (-(ent N st (st + 1 + m)).fdiv pv)) i j = if st < j ∧ j < st + 1 + (m + 1) then ent N i j - (ent N st j).fdiv pv * ent N i st else ent N i j := fun i j hi => by
          rw [ent_addCol sN2 _ _ _ hi hj]
          by_cases e : j = st + 1 + m
          · subst e
            rw [if_pos rfl, if_pos (by omega), hN2 _ _ hi, hN2 _ _ hi, if_neg (by omega), if_neg (by omega), Int.neg_mul, Int.sub_eq_add_neg]
          · rw [if_neg e, hN2 _ _ hi]
            by_cases c : st < j ∧ j < st + 1 + m
            · rw [if_pos c, if_pos (by omega)]
            · rw [if_neg c, if_neg (by omega)]
        have hL' : ∀ i j, i < wd → ent (addCol L2 (st + 1 + m) st (-(ent N st (st + 1 + m)).fdiv pv)) i j = if st < j ∧ j < st + 1 + (m + 1) then ent L i j - (ent N st j).fdiv pv * ent L i st else ent L i j := fun i j hi => by
          rw [ent_addCol sL2 _ _ _ hi hj]
          by_cases e : j = st + 1 + m
          · subst e
            rw [if_pos rfl, if_pos (by omega), hL2 _ _ hi, hL2 _ _ hi, if_neg (by omega), if_neg (by omega), Int.neg_mul, Int.sub_eq_add_neg]
          · rw [if_neg e, hL2 _ _ hi]
            by_cases c : st < j ∧ j < st + 1 + m
            · rw [if_pos c, if_pos (by omega)]
            · rw [if_neg c, if_neg (by omega)]
        generalize addCol N2 (st + 1 + m) st (-(ent N st (st + 1 + m)).fdiv pv) = N' at *
        generalize addCol L2 (st + 1 + m) st (-(ent N st (st + 1 + m)).fdiv pv) = L' at *
        have lN' : N'.length = h := sN'.1
        refine s_asg (v := .bl (b2 && decide (ent N' st (st + 1 + m) = 0))) (ev_andV (ev_var rfl) fun _ => ev_is (ev_op (ev_entR (i := st) (j := st + 1 + m) W9.RM (ev_fld (ev_var rfl) W9.obj WC.cl WC.nM (wfs_middle _ _ _)) (ev_var rfl) (ev_var rfl) (by omega) (by rw [sN'.2 _ sh]; exact hj)) ev_c (rv_eq rfl)) ?_) fun H10 e10 => ?_
        · congr 1
          exact decide_eq_decide.mpr ⟨fun z => by injection z, fun z => by rw [z]⟩
        · refine ⟨_, _, _, _, N', L', rfl, W9.ex e10, sN', sL', hN', hL', ?_⟩
          rw [Bool.and_eq_true, hb2, decide_eq_true_eq]
          have same : ∀ j, j < st + 1 + m → ent N2 st j = ent N' st j := fun j h1 => by
            rw [hN2 _ _ sh, hN' _ _ sh]
            by_cases c : st < j ∧ j < st + 1 + m
            · rw [if_pos c, if_pos (by omega)]
            · rw [if_neg c, if_neg (by omega)]
          constructor
          · rintro ⟨⟨k0, k1⟩, k2⟩
            refine ⟨k0, fun j h1 h2 => ?_⟩
            by_cases e : j = st + 1 + m
            · rw [e]; exact k2
            · rw [← same j (by omega)]
              exact k1 j h1 (by omega)
          · rintro ⟨k0, k⟩
            exact ⟨⟨k0, fun j h1 h2 => by rw [same j (by omega)]; exact k j h1 (by omega)⟩, k _ (by omega) (by omega)⟩
      · rintro σ' H4 ⟨b2, z4, z5, z6, N2, L2, rfl, W4, sN2, sL2, hN2, hL2, hb2⟩
        have em : st + 1 + ((wd : Int) - ((st : Int) + 1)).toNat = wd := by omega
        rw [em] at hN2 hL2 hb2
        refine s_ret (ev_var rfl) fun H5 e5 => q b2 H5 N N2 L2 ⟨dx, af, am, al, _, _, _, _, W4.ex e5, sF3, sN2, sL2⟩ (fun i j => by rw [hpv]; exact hN i j) ⟨hN2, hL2⟩ ?_
        rw [hb2, hb]
        rfl
end
end Ef
end
section
/-! W12: diagonal, divisors -/
namespace Ef
open PySem PySem.Spec PyProof.Rows L2 Evl
abbrev IM := List (List Int)
/-- what is held at the turns of diagonal: Jv ahead of a turn, Iv within it, with a measure -/
structure DiagInv (h w : Nat) (Jv : Nat → IM → IM → Prop) (Iv : Nat → Nat → IM → IM → Prop) : Prop where
  enter : ∀ at_ M L, at_ < min h w → Shp h w M → Shp w w L → Jv at_ M L → ∃ m, Iv at_ m M L
  bound : ∀ at_ m M L a b, at_ < min h w → Shp h w M → Shp w w L → Iv at_ m M L → Least h w M at_ (some (a, b)) → ∀ i j, (ent (swapCol (swapM M at_ a) at_ b) i j).natAbs < 2 ^ 62
  none : ∀ at_ m M L, at_ < min h w → Shp h w M → Shp w w L → Iv at_ m M L → Least h w M at_ none → Jv (at_ + 1) M L
  turn : ∀ at_ m M L a b M1 M2 L2, at_ < min h w → Shp h w M → Shp w w L → Iv at_ m M L → Least h w M at_ (some (a, b)) → Shp h w M2 → Shp w w L2 →
    RowCl h w at_ (swapCol (swapM M at_ a) at_ b) M1 → ColCl h w at_ (ent (swapCol (swapM M at_ a) at_ b) at_ at_) M1 M2 (swapCol L at_ b) L2 →
    (Clean h w at_ M1 M2 → (∀ i j, at_ < i → i < h → j < w → ent M2 at_ at_ ∣ ent M2 i j) → Jv (at_ + 1) (if ent M2 at_ at_ < 0 then negRow M2 at_ else M2) L2) ∧
    (¬ Clean h w at_ M1 M2 → ∃ m', m' < m ∧ Iv at_ m' M2 L2) ∧
    (Clean h w at_ M1 M2 → ∀ i, at_ < i → i < h → (∃ j, j < w ∧ ¬ ent M2 at_ at_ ∣ ent M2 i j) → ∃ m', m' < m ∧ Iv at_ m' (addRow M2 at_ i 1) L2)
/-- the three matrices -/
def IsD (K : PySem.W.Frag) (CM : Addr) (h w : Nat) (M L : IM) : VP := fun v H => ∃ t a b c F, v = .ref t ∧ SqT K H t [a, b, c] ∧ IsMat K CM h F a H ∧ Shp h h F ∧ IsMat K CM w M b H ∧ Shp h w M ∧ IsMat K CM w L c H ∧ Shp w w L
theorem IsD.m {K : PySem.W.Frag} {CM : Addr} {h w : Nat} {M L : IM} : Mono (IsD K CM h w M L) := fun _ _ _ e ⟨t, a, b, c, F, h1, h2, h3, h4, h5, h6, h7, h8⟩ => ⟨t, a, b, c, F, h1, ex_t e h2, IsMat.m _ _ _ e h3, h4, IsMat.m _ _ _ e h5, h6, IsMat.m _ _ _ e h7, h8⟩
def spDiagonal (K : PySem.W.Frag) (CM : Addr) : Sp := fun vs H Q _ => ∃ (m : V) (w : Nat) (M : IM) (Jv : Nat → IM → IM → Prop) (Iv : Nat → Nat → IM → IM → Prop), vs = [m] ∧ IsMat K CM w M m H ∧ Wid w M ∧ 0 < M.length ∧ M.length ≤ 1000 ∧ 0 < w ∧ w ≤ 1000 ∧
  DiagInv M.length w Jv Iv ∧ Jv 0 M (unitM w) ∧ ∀ v H' N L, Ex H H' → Jv (min M.length w) N L → IsD K CM M.length w N L v H' → Q v H'
theorem WS.obj {C : Addr} {H0 H : Hp} {p : Addr} {h w : Nat} {M L : IM} (s : WS C H0 H p h w M L) : ∃ dx f m l, H p = some (.ins C dx (wfs f m l)) := by
  obtain ⟨dx, af, am, al, rf, rm, rl, F, W, _⟩ := s
  exact ⟨dx, af, am, al, W.obj⟩
theorem WS.e0 {C : Addr} {H0 H : Hp} {p : Addr} {h w : Nat} {M L : IM} (s : WS C H0 H p h w M L) : Ex H0 H := by
  obtain ⟨dx, af, am, al, rf, rm, rl, F, W, _⟩ := s
  exact W.e0
theorem WS.sM {C : Addr} {H0 H : Hp} {p : Addr} {h w : Nat} {M L : IM} (s : WS C H0 H p h w M L) : Shp h w M ∧ Shp w w L := by
  obtain ⟨dx, af, am, al, rf, rm, rl, F, W, _, h1, h2⟩ := s
  exact ⟨h1, h2⟩
theorem t_methW {C : Addr} {H0 H : Hp} {p : Addr} {h w i : Nat} {M L : IM} {σ : L2.St} {m : Str} {sp : Sp} {E : XK} {t : TA} {Q : VK} {vs : List V} (W : WS C H0 H p h w M L) (hv : σ[i]? = some (some (.ref p))) (hn : ∀ f m' l, (wfs f m' l).lookup m = none)
    (ht : EvA t σ H vs) (k : ∀ H1, Ex H H1 → sp (.ref p :: vs) H1 Q E) : tMeth C m sp [] E (tVar i) t σ H Q := by
  obtain ⟨dx, f, m', l, ho⟩ := W.obj
  exact ⟨_, hv, p, dx, _, rfl, ho, hn f m' l, ht H (Ex.refl H) _ fun H1 e1 => by rw [List.append_nil]; exact k H1 e1⟩
theorem t_make {C : Addr} {sp : Sp} {E : XK} {t : TA} {σ : L2.St} {H : Hp} {Q : VK} {vs : List V} (h : EvA t σ H vs)
    (k : ∀ H1, Ex H H1 → ∀ x dx, H1 x = none → H1 dx = none → dx ≠ x → sp (.ref x :: vs) (upd (upd H1 dx (.own x)) x (.ins C dx [])) (fun v H2 => v = .non ∧ Q (.ref x) H2) E) : tMake C sp [] E t σ H Q :=
  h H (Ex.refl H) _ fun H1 e1 x dx h1 h2 h3 => by rw [List.append_nil]; exact k H1 e1 x dx h1 h2 h3
theorem q_asgRaw {te : TE} {i : Nat} {tz : TS} {D : Ends} {σ : L2.St} {H : Hp} (h : te σ H fun v H1 => tz D (σ.set i (some v)) H1) : tSeq (tAsg te (gName i)) tz D σ H := h
theorem s_retTupP {ta : TA} {D : Ends} {σ : L2.St} {H : Hp} {P : List V → Hp → Prop} (h : EvAP ta σ H P) (k : ∀ vs H1, Ex H H1 → P vs H1 → vs.length ≤ sizeLine ∧ ∀ p, H1 p = none → D.rt (.ref p) (upd H1 p (.tup vs))) : tRet (tTup ta) D σ H := h H (Ex.refl H) _ k
theorem Shp.unit (n : Nat) : Shp n n (unitM n) := by
  have h : (unitM n).length = n := by unfold unitM; rw [diagUp_len]; exact List.length_replicate
  have := Shp.of (show Wid n (unitM n) from diagUp_wid _ (fun r hr => by rw [List.eq_of_mem_replicate hr]; exact List.length_replicate) n (show n ≤ (zeros n n).length by unfold zeros; rw [List.length_replicate]; exact Nat.le_refl _))
  rw [h] at this
  exact this
theorem FV.not {K : PySem.W.Frag} {f : Option (Nat × Nat)} {v : V} {H : Hp} (h : FV K f v H) : decide (v = .non) = f.isNone := by
  cases f with
  | none => rw [show v = .non from h]; rfl
  | some ab =>
    obtain ⟨t, rfl, _⟩ := h
    rfl
abbrev s_diagonal : Stmt := topS 33
theorem sc_diagonal : FnScope ["matrix", "work", "at", "place"] ["matrix"] (defScope s_diagonal) := ⟨rfl, rfl, rfl, by decide +kernel, rfl, by decide +kernel, by decide +kernel⟩
section
variable {P : Program} {w : World} {K : PySem.W.Frag} {mg : Str → Option Value} {base : Heap} {C CM : Addr}
theorem c_diagonal (T : DefOk K mg "diagonal" s_diagonal ["matrix"]) (WC : WorkC K C) (MC : MatC K CM) (tR : mg "range" = none) (tM : mg "min" = none)
    (C_W : KClb P w K mg base CX0 C "Work" 5 ["self", "matrix"] (spWork K CM C)) (C_M : KClb P w K mg base CX0 CM "Matrix" 1 ["self", "rows"] (spMatInit K CM))
    (C_L : MClb P w K mg base CX0 C "least_place" 1 ["self", "start"] (spLeast K C)) (C_B : MClb P w K mg base CX0 C "bring" 2 ["self", "at", "place"] (spBring K C))
    (C_Cl : MClb P w K mg base CX0 C "clear" 2 ["self", "at"] (spClear C)) (C_S : MClb P w K mg base CX0 C "spread" 2 ["self", "at"] (spSpread C)) (C_T : MClb P w K mg base CX0 C "turn_sign" 1 ["self", "at"] (spTurn C)) :
    Clb P w K mg base CX0 "diagonal" 7 ["matrix"] (spDiagonal K CM) := by
  obtain ⟨f, fd, F, gm, b⟩ := T.ex
  refine ⟨f, fd, F.ok sc_diagonal (fun vs H Q E h => ?_) (fun cdv A outer s H vs Q E hr h => ?_), gm, F.kp, b⟩
  · obtain ⟨_, _, _, _, _, rfl, _⟩ := h
    rfl
  · obtain ⟨m, wd, M, Jv, Iv, rfl, hm, hwid, h0, hl, w0, hw, DI, J0, q⟩ := h
    have nd := sc_diagonal.nd
    refine ⟨_, (pss_cons (ps_set (i := 1) nd rfl (Or.inl rfl) (pe_mak C_W hr (by rfl) pass0 (pa_cons (pv 0) pa_nil)))
      (pss_cons (ps_for PassesOwn.never rfl (pi_range1 (by rfl) tR (pa_cons (pe_callB (call_min2 rfl) (by rfl) tM (by decide +kernel) (pa_cons (pe_fldK (K := K) (pv 0)) (pa_cons (pe_fldK (K := K) (pv 0)) pa_nil))) pa_nil)) (pg_name (i := 2) nd rfl (Or.inl rfl))
        (pss_cons (ps_set (i := 3) nd rfl (Or.inl rfl) (pe_mth (pv 1) WC.cl C_L (hr.mono (by decide)) pass0 (pa_cons (pv 2) pa_nil)))
        (pss_one (ps_while PassesOwn.never (pt_cmpR op_notN (pv 3) pe_non (nomark _))
          (pss_cons (ps_expr (pe_mth (pv 1) WC.cl C_B (hr.mono (by decide)) pass0 (pa_cons (pv 2) (pa_cons (pv 3) pa_nil))))
          (pss_cons (ps_if (PW.pt (pw_and (pt_val (pe_mth (pv 1) WC.cl C_Cl (hr.mono (by decide)) pass0 (pa_cons (pv 2) pa_nil))) (pw_and1 (pt_val (pe_mth (pv 1) WC.cl C_S (hr.mono (by decide)) pass0 (pa_cons (pv 2) pa_nil))))))
            (pss_cons (ps_expr (pe_mth (pv 1) WC.cl C_T (hr.mono (by decide)) pass0 (pa_cons (pv 2) pa_nil)))
            (pss_one ps_break))
            pss_nil)
          (pss_one (ps_set (i := 3) nd rfl (Or.inl rfl) (pe_mth (pv 1) WC.cl C_L (hr.mono (by decide)) pass0 (pa_cons (pv 2) pa_nil))))))))))
      (pss_one (ps_ret (pe_tup (pa_cons (pe_mak C_M (hr.mono (by decide)) (by rfl) pass0 (pa_cons (pe_fldK (K := K) (pv 1)) pa_nil)) (pa_cons (pe_mak C_M (hr.mono (by decide)) (by rfl) pass0 (pa_cons (pe_fldK (K := K) (pv 1)) pa_nil)) (pa_cons (pe_mak C_M (hr.mono (by decide)) (by rfl) pass0 (pa_cons (pe_fldK (K := K) (pv 1)) pa_nil)) pa_nil)))))))), ?_⟩
    obtain ⟨am, dm, pm, rfl, ha, hT⟩ := id hm
    have sM0 : Shp M.length wd M := Shp.of hwid
    generalize hh : M.length = h at *
    refine q_asgRaw (t_make (ea_cons (ev_var rfl) ea_nil) fun H1 e1 x dx nx ndx nex => ?_)
    have e2 : Ex H1 (upd (upd H1 dx (.own x)) x (.ins C dx [])) := fun b o hb => by
      rw [upd_ne (ne_of_none hb nx), upd_ne (ne_of_none hb ndx)]
      exact hb
    refine ⟨H1, x, dx, .ref am, wd, M, rfl, e2, nx, upd_same, IsMat.m _ _ _ (e1.trans e2) hm, hwid, by omega, by omega, w0, hw, fun H2 af a2 al rf rm rl WA => ⟨rfl, ?_⟩⟩
    have W2 : WS C H1 H2 x h wd M (unitM wd) := ⟨dx, af, a2, al, rf, rm, rl, _, WA, hh ▸ Shp.unit _, sM0, Shp.unit wd⟩
    have e12 : Ex H1 H2 := WA.e0
    have hx0 : ∀ {H' : Hp}, Ex H1 H' → H' am = some (.ins CM dm (mfs pm h wd)) := fun e => e _ _ (e1 _ _ (hh ▸ ha))
    refine q_forR1 (n := ((min h wd : Nat) : Int)) (ea_cons (ev_min2 (i := h) (j := wd) (ev_fld (ev_var rfl) (hx0 e12) MC.cl MC.nH (mfs_height _ _ _)) (ev_fld (ev_var rfl) (hx0 e12) MC.cl MC.nW (mfs_width _ _ _))) ea_nil) (by omega)
      (fun n σ' H' => ∃ y2 y3 N L, σ' = [some (.ref am), some (.ref x), y2, y3] ∧ WS C H1 H' x h wd N L ∧ Jv n N L) (fun H3 e3 => ⟨_, _, M, unitM wd, rfl, W2.ex e3, J0⟩) ?_ ?_
    · rintro n σ' H3 hn ⟨y2, y3, N, L, rfl, W3, hJ⟩
      have hn : n < min h wd := by omega
      obtain ⟨m0, hI⟩ := DI.enter n N L hn W3.sM.1 W3.sM.2 hJ
      refine t_methW W3 rfl (fun _ _ _ => by kernel_rfl) (ea_cons (ev_var rfl) ea_nil) fun H4 e4 => ?_
      refine ⟨H1, x, h, wd, N, L, n, rfl, W3.ex e4, by omega, by omega, by omega, by omega, by omega, fun v H5 f e5 hf hv => ?_⟩
      refine s_while (fun m σ' H' => ∃ v f N L, σ' = [some (.ref am), some (.ref x), some (.int (n : Int)), some v] ∧ WS C H1 H' x h wd N L ∧ Iv n m N L ∧ Least h wd N n f ∧ FV K f v H') m0 ⟨v, f, N, L, rfl, (W3.ex e4).ex e5, hI, hf, hv⟩ ?_
      rintro m σ' H6 ⟨v, f, N, L, rfl, W6, hI, hf, hv⟩
      refine ⟨!f.isNone, et_test (ev_is (ev_op (ev_var rfl) ev_c (fun H1 _ _ q => ⟨rfl, q H1 (Ex.refl H1)⟩)) (by rw [FV.not hv])), fun hb H7 e7 => ?_, fun hb H7 e7 => ?_⟩
      · cases f with
        | none => cases hb
        | some ab =>
          obtain ⟨a, bb⟩ := ab
          obtain ⟨t, rfl, ht⟩ := hv
          refine ⟨fun σ' H' => ∃ m', m' < m ∧ ∃ v f N L, σ' = [some (.ref am), some (.ref x), some (.int (n : Int)), some v] ∧ WS C H1 H' x h wd N L ∧ Iv n m' N L ∧ Least h wd N n f ∧ FV K f v H', fun σ2 H2 h => h, ?_⟩
          have W7 := W6.ex e7
          refine t_methW W7 rfl (fun _ _ _ => by kernel_rfl) (ea_cons (ev_var rfl) (ea_cons (ev_var rfl) ea_nil)) fun H8 e8 => ?_
          have hf' := id hf
          obtain ⟨la, lh, lb, lw, lz, lmin, lpr⟩ := hf'
          refine ⟨H1, x, t, h, wd, N, L, n, a, bb, rfl, W7.ex e8, ex_t (e7.trans e8) ht, by omega, by omega, lh, lw, fun H9 W9 _ => ?_⟩
          have bnd := DI.bound n m N L a bb hn W6.sM.1 W6.sM.2 hI hf
          have piv : ent (swapCol (swapM N n a) n bb) n n ≠ 0 := by
            have sN := W6.sM.1
            have s1 : Shp h wd (swapM N n a) := sN.swap (by omega) lh
            rw [show ent (swapCol (swapM N n a) n bb) n n = _ from ent_map s1 (swapColR n bb) n n (by omega)]
            have lr : ((swapM N n a).getD n []).length = wd := s1.2 _ (by omega)
            have er : (swapM N n a).getD n [] = N.getD a [] := by
              rw [swapM_get N n (by rw [sN.1]; omega) (by rw [sN.1]; omega)]
              by_cases z : n = a
              · subst z; rw [if_pos rfl]
              · rw [if_neg z, if_pos rfl]
            unfold swapColR
            by_cases z : bb = n
            · subst z
              rw [getD_set_self (by rw [List.length_set]; omega), er]
              exact lz
            · rw [getD_set_ne z, getD_set_self (by omega), er]
              exact lz
          -- if clear and spread
          have again : ∀ (D : Ends) H10 N3 L3 m', (∀ σ' H', (∃ m', m' < m ∧ ∃ v f N L, σ' = [some (.ref am), some (.ref x), some (.int (n : Int)), some v] ∧ WS C H1 H' x h wd N L ∧ Iv n m' N L ∧ Least h wd N n f ∧ FV K f v H') → D.nx σ' H') → m' < m → Iv n m' N3 L3 → WS C H1 H10 x h wd N3 L3 →
              tAsg (tMeth C "least_place" (spLeast K C) [] E0 (tVar 1) (tCons (tVar 2) tNil)) (gName 3) D [some (.ref am), some (.ref x), some (.int (n : Int)), some (.ref t)] H10 := by
            intro D H10 N3 L3 m' kD lm hI3 W10
            refine t_methW W10 rfl (fun _ _ _ => by kernel_rfl) (ea_cons (ev_var rfl) ea_nil) fun H11 e11 => ?_
            refine ⟨H1, x, h, wd, N3, L3, n, rfl, W10.ex e11, by omega, by omega, by omega, by omega, by omega, fun v H12 f e12 hf hv => ?_⟩
            exact kD _ _ ⟨m', lm, v, f, N3, L3, rfl, (W10.ex e11).ex e12, hI3, hf, hv⟩
          refine t_methW W9 rfl (fun _ _ _ => by kernel_rfl) (ea_cons (ev_var rfl) ea_nil) fun H10 e10 => ?_
          refine ⟨H1, x, h, wd, _, _, n, rfl, W9.ex e10, by omega, by omega, by omega, by omega, piv, bnd, fun cb H11 M1 M2 L2 W11 hRow hCol hC => ⟨cb, rfl, ?_⟩⟩
          obtain ⟨D1, D2, D3⟩ := DI.turn n m N L a bb M1 M2 L2 hn W6.sM.1 W6.sM.2 hI hf W11.sM.1 W11.sM.2 hRow hCol
          have p2 : ent M2 n n ≠ 0 := by
            rw [hCol.1 n n (by omega), if_neg (by omega), hRow, if_neg (by omega)]
            exact piv
          cases cb with
          | false =>
            obtain ⟨m', lm, hI3⟩ := D2 (fun z => by have := hC.mpr z; cases this)
            exact again _ H11 M2 L2 m' (fun _ _ h => h) lm hI3 W11
          | true =>
            have hcl := hC.mp rfl
            refine t_methW W11 rfl (fun _ _ _ => by kernel_rfl) (ea_cons (ev_var rfl) ea_nil) fun H12 e12 => ?_
            refine ⟨H1, x, h, wd, M2, L2, n, rfl, W11.ex e12, by omega, by omega, by omega, by omega, p2, fun hd H13 W13 => ⟨true, rfl, ?_⟩, fun i hi1 hi2 hj H13 W13 => ⟨false, rfl, ?_⟩⟩
            · refine t_methW W13 rfl (fun _ _ _ => by kernel_rfl) (ea_cons (ev_var rfl) ea_nil) fun H14 e14 => ?_
              refine ⟨H1, x, h, wd, M2, L2, n, rfl, W13.ex e14, by omega, by omega, by omega, by omega, fun H15 W15 => ?_⟩
              exact ⟨_, _, _, L2, rfl, W15, D1 hcl hd⟩
            · obtain ⟨m', lm, hI3⟩ := D3 hcl i hi1 hi2 hj
              exact again _ H13 _ L2 m' (fun _ _ h => h) lm hI3 W13
      · cases f with
        | some ab => cases hb
        | none => exact ⟨_, _, N, L, rfl, W6.ex e7, DI.none n m N L hn W6.sM.1 W6.sM.2 hI hf⟩
    · rintro σ' H3 ⟨y2, y3, N, L, rfl, W3, hJ⟩
      rw [show ((min h wd : Nat) : Int).toNat = min h wd by omega] at hJ
      obtain ⟨dx', af', am', al', rf', rm', rl', FF, WA3, sF, sN, sL⟩ := id W3
      have mk : ∀ {H4 : Hp} {fl : Str} {a : Addr} {rs : List Addr} {N' : IM} {h' w' : Nat}, Ex H3 H4 → NoAttr K C fl → (wfs af' am' al').lookup fl = some (.ref a) → RowsAt H1 H3 a rs N' → Shp h' w' N' → 0 < h' → h' ≤ 1000 → w' ≤ 1000 →
          EvP (tMake CM (spMatInit K CM) [] E0 (tCons (tFld K (tVar 1) fl) tNil)) [some (.ref am), some (.ref x), y2, y3] H4 (IsMat K CM w' N') := by
        intro H4 fl a rs N' h' w' e4 nA lk R S k1 k2 k3
        refine ep_mat ?_ S.wid (fun z => by have := S.1; rw [z] at this; simp at this; omega) (by rw [S.1]; exact k2) k3
        exact Ev.toP (ev_fld (ev_var rfl) (e4 _ _ WA3.obj) WC.cl nA lk) fun H5 e5 => (R.ex (e4.trans e5)).ll
      refine s_retTupP (eap_cons (P := fun vs H => ∃ a b c, vs = [a, b, c] ∧ IsMat K CM h FF a H ∧ IsMat K CM wd N b H ∧ IsMat K CM wd L c H) IsMat.m (mk (Ex.refl _) WC.nF (wfs_first _ _ _) WA3.RF sF (by omega) (by omega) (by omega)) (fun va H4 e4 ha4 =>
        eap_cons IsMat.m (mk e4 WC.nM (wfs_middle _ _ _) WA3.RM sN (by omega) (by omega) (by omega)) (fun vb H5 e5 hb5 =>
          eap_one (EvP.imp (mk (e4.trans e5) WC.nL (wfs_last _ _ _) WA3.RL sL (by omega) (by omega) (by omega)) fun vc H6 e6 hc => ⟨va, vb, vc, rfl, IsMat.m _ _ _ (e5.trans e6) ha4, IsMat.m _ _ _ e6 hb5, hc⟩)))) fun vs H4 e4 hvs => ?_
      obtain ⟨va, vb, vc, rfl, k1, k2, k3⟩ := hvs
      refine ⟨sz_of (Nat.le_of_ble_eq_true rfl), fun t nt => ?_⟩
      have e5 := Ex.new (o := .tup [va, vb, vc]) nt
      exact q _ _ N L (((e1.trans W3.e0).trans e4).trans e5) hJ ⟨t, va, vb, vc, FF, rfl, .inl (.inl upd_same), IsMat.m _ _ _ e5 k1, sF, IsMat.m _ _ _ e5 k2, sN, IsMat.m _ _ _ e5 k3, sL⟩
end
end Ef
end
section
/-! W13: divisors -/
namespace Ef
open PySem PySem.Spec PyProof.Rows L2 Evl
theorem map_range_getD {α : Type} (l : List α) (d : α) : (List.range l.length).map (fun i => l.getD i d) = l :=
  List.ext_getElem (by simp) fun i h1 h2 => by
    simp only [List.getElem_map, List.getElem_range]
    rw [List.getD_eq_getElem?_getD, List.getElem?_eq_getElem h2]
    rfl
theorem given_filter {α : Type} (l : List α) (d : α) (p : α → Bool) (g : α → V) : given l.length (fun i => p (l.getD i d)) (fun i => g (l.getD i d)) = (l.filter p).map g := by
  unfold given
  have e : l.filter p = ((List.range l.length).filter fun i => p (l.getD i d)).map fun i => l.getD i d := by
    conv => lhs; rw [← map_range_getD l d]
    rw [List.filter_map]
    rfl
  rw [e, List.map_map]
  rfl
def diagL (n : Nat) (M : IM) : List Int := (List.range n).map fun i => ent M i i
def spDivisors (K : PySem.W.Frag) (CM : Addr) : Sp := fun vs H Q _ => ∃ (m : V) (w : Nat) (M : IM) (Jv : Nat → IM → IM → Prop) (Iv : Nat → Nat → IM → IM → Prop), vs = [m] ∧ IsMat K CM w M m H ∧ Wid w M ∧ 0 < M.length ∧ M.length ≤ 1000 ∧ 0 < w ∧ w ≤ 1000 ∧
  DiagInv M.length w Jv Iv ∧ Jv 0 M (unitM w) ∧ ∀ v H' N L, Ex H H' → Jv (min M.length w) N L → Shp M.length w N → Shp w w L → IsL K (Ints ((diagL (min M.length w) N).filter fun z => decide (z ≠ 0))) v H' → Q v H'
abbrev s_divisors : Stmt := topS 34
theorem sc_divisors : FnScope ["matrix", "middle", "numbers", "at", "number"] ["matrix"] (defScope s_divisors) := ⟨rfl, rfl, rfl, by decide +kernel, rfl, by decide +kernel, by decide +kernel⟩
section
variable {P : Program} {w : World} {K : PySem.W.Frag} {mg : Str → Option Value} {base : Heap} {C CM : Addr}
/-- middle.rows[at][at] -/
theorem ev_matEnt {σ : L2.St} {H : Hp} {tm ti tj : TE} {v : V} {h wd : Nat} {N : IM} {i j : Nat} (MC : MatC K CM) (hm : IsMat K CM wd N v H) (S : Shp h wd N) (he : Ev tm σ H v) (hi : Ev ti σ H (.int (i : Int))) (hj : Ev tj σ H (.int (j : Int))) (li : i < h) (lj : j < wd) :
    Ev (tOp (rIxT K) (tOp (rIxT K) (tFld K tm "rows") ti) tj) σ H (.int (ent N i j)) := by
  obtain ⟨a, dx, p, rfl, ha, hT⟩ := hm
  exact ev_entT (K := K) (ev_fld he ha MC.cl MC.nR (mfs_rows _ _ _)) hT hi hj (getD_get (d := []) (by rw [S.1]; exact li)) (getD_get (d := 0) (by rw [S.2 _ li]; exact lj))
theorem ev_matH {σ : L2.St} {H : Hp} {tm : TE} {v : V} {wd : Nat} {N : IM} (MC : MatC K CM) (hm : IsMat K CM wd N v H) (he : Ev tm σ H v) : Ev (tFld K tm "height") σ H (.int (N.length : Int)) := by
  obtain ⟨a, dx, p, rfl, ha, hT⟩ := hm
  exact ev_fld he ha MC.cl MC.nH (mfs_height _ _ _)
theorem ev_matW {σ : L2.St} {H : Hp} {tm : TE} {v : V} {wd : Nat} {N : IM} (MC : MatC K CM) (hm : IsMat K CM wd N v H) (he : Ev tm σ H v) : Ev (tFld K tm "width") σ H (.int (wd : Int)) := by
  obtain ⟨a, dx, p, rfl, ha, hT⟩ := hm
  exact ev_fld he ha MC.cl MC.nW (mfs_width _ _ _)
theorem c_divisors (T : DefOk K mg "divisors" s_divisors ["matrix"]) (MC : MatC K CM) (tR : mg "range" = none) (tM : mg "min" = none) (C_D : Clb P w K mg base CX0 "diagonal" 7 ["matrix"] (spDiagonal K CM)) :
    Clb P w K mg base CX0 "divisors" 8 ["matrix"] (spDivisors K CM) := by
  obtain ⟨f, fd, F, gm, b⟩ := T.ex
  refine ⟨f, fd, F.ok sc_divisors (fun vs H Q E h => ?_) (fun cdv A outer s H vs Q E hr h => ?_), gm, F.kp, b⟩
  · obtain ⟨_, _, _, _, _, rfl, _⟩ := h
    rfl
  · obtain ⟨m, wd, M, Jv, Iv, rfl, hm, hwid, h0, hl, w0, hw, DI, J0, q⟩ := h
    have nd := sc_divisors.nd
    refine ⟨_, (pss_cons (ps_set (i := 1) nd rfl (Or.inr rfl) (pe_ix (ix_tupK (K := K)) (pe_cal C_D hr (by rfl) pass0 (pa_cons (pv 0) pa_nil)) pe_int (fun _ _ => rfl)))
      (pss_cons (ps_setLc (i := 2) (own := [("at", 3)]) (by rfl) nd rfl rfl (sw_true rfl rfl rfl (by decide +kernel)) (pi_range1 (by rfl) tR (pa_cons (pe_callB (call_min2 rfl) (by rfl) tM (by decide +kernel) (pa_cons (pe_fldK (K := K) (pv 0)) (pa_cons (pe_fldK (K := K) (pv 0)) pa_nil))) pa_nil)) (blkOk_by (own := [("at", 3)]) (by kernel_rfl)) (fun _ _ _ _ _ => (pg_name (i := 3) nd rfl (Or.inl rfl))) (fun _ _ _ _ _ => pts_nil) (fun _ _ _ _ _ => (pe_ix (ix_tupK (K := K)) (pe_ix (ix_tupK (K := K)) (pe_fldK (K := K) (pv 1)) (pv 3) (fun _ _ => rfl)) (pv 3) (fun _ _ => rfl))))
      (pss_one (ps_ret (pe_lc (own := [("number", 4)]) (by rfl) nd (pi_listK (K := K) (pv 2)) (blkOk_by (own := [("number", 4)]) (by kernel_rfl)) (fun _ _ _ _ _ => (pg_name (i := 4) nd rfl (Or.inl rfl))) (fun _ _ _ _ _ => pts_one (pt_cmpR op_ne (pv 4) pe_int (nomark _))) (fun _ _ _ _ _ => (pv 4))))))), ?_⟩
    refine q_asgP (P := fun v H => ∃ N L, Jv (min M.length wd) N L ∧ Shp M.length wd N ∧ Shp wd wd L ∧ IsMat K CM wd N v H) (ep_op (P1 := fun v H => ∃ N L, Jv (min M.length wd) N L ∧ IsD K CM M.length wd N L v H) (P2 := fun v _ => v = .int 1)
      (ep_call (PA := fun vs H => vs = [m] ∧ IsMat K CM wd M m H) (EvA.toP (ea_cons (ev_var rfl) ea_nil) fun H1 e1 => ⟨rfl, IsMat.m _ _ _ e1 hm⟩) fun vs H1 e1 ⟨ev, hm1⟩ Q q E => ⟨m, wd, M, Jv, Iv, ev, hm1, hwid, h0, hl, w0, hw, DI, J0, fun v H2 N L e2 hJ hD => q v H2 e2 ⟨N, L, hJ, hD⟩⟩)
      (fun v H1 e1 _ => Ev.toP ev_c fun _ _ => rfl) (fun _ _ _ e ⟨N, L, hJ, hD⟩ => ⟨N, L, hJ, IsD.m _ _ _ e hD⟩) (fun a b H1 e1 ⟨N, L, hJ, hD⟩ hb Q q => ?_)) fun v H1 e1 ⟨N, L, hJ, sN, sL, hN⟩ => ?_
    · subst hb
      obtain ⟨t, va, vb, vc, FF, rfl, ht, k1, k2, k3, k4, k5, k6⟩ := hD
      exact ⟨t, _, 1, vb, rfl, rfl, ht, rfl, q vb H1 (Ex.refl _) ⟨N, L, hJ, k4, k6, k3⟩⟩
    · have hm1 := IsMat.m _ _ _ e1 hm
      generalize hh : M.length = h at *
      have hr1 : ∀ (σ : L2.St), σ[0]? = some (some m) → EvA (tCons (tCB (fun xs H Q => ∃ i j : Int, xs = [V.int i, V.int j] ∧ Q (.int (if j < i then j else i)) H) (tCons (tFld K (tVar 0) "height") (tCons (tFld K (tVar 0) "width") tNil))) tNil) σ H1 [.int ((min h wd : Nat) : Int)] := fun σ hσ =>
        ea_cons (ev_min2 (i := h) (j := wd) (hh ▸ ev_matH MC hm1 (ev_var hσ)) (ev_matW MC hm1 (ev_var hσ))) ea_nil
      refine q_asgL (xs := Ints (diagL (min h wd) N)) (EvL.cast (el_lcR1 (fun _ => true) (fun i => .int (ent N i i)) (hr1 _ rfl) (by omega) (fun x => rfl) (fun i H2 e2 hi => et_yes) (fun i H2 e2 hi _ => ev_matEnt MC (IsMat.m _ _ _ e2 hN) sN (ev_var rfl) (ev_var rfl) (ev_var rfl) (by omega) (by omega))) ?_) fun p H2 hp e2 h2 => ?_
      · rw [show ((min h wd : Nat) : Int).toNat = min h wd by omega]
        unfold given diagL
        rw [List.filter_eq_self.mpr (fun _ _ => rfl)]
        exact ints_map _ _
      · refine s_retL (EvL.cast (el_lcL (xs := Ints (diagL (min h wd) N)) (fun i => decide ((diagL (min h wd) N).getD i 0 ≠ 0)) (fun i => .int ((diagL (min h wd) N).getD i 0)) (ev_var rfl) (sq_of h2) (by rw [List.length_map]; unfold diagL; rw [List.length_map, List.length_range]; omega) (fun x => rfl) (fun i y H3 e3 hy => ?_) (fun i y H3 e3 hy _ => ?_)) ?_) fun p2 H3 hp3 e3 h3 => q _ _ N L ((e1.trans e2).trans e3) hJ sN sL ⟨p2, rfl, sq_of h3⟩
        · rw [List.getElem?_map] at hy
          obtain ⟨z, hz, rfl⟩ := Option.map_eq_some_iff.mp hy
          rw [getD_of hz]
          refine et_is (et_test (ev_op (ev_var rfl) ev_c (rv_ne rfl))) ?_
          by_cases c : z = 0
          · rw [c]; rfl
          · rw [decide_eq_true c]
            have : ¬ V.int z = V.int 0 := fun k => c (by injection k)
            rw [decide_eq_false this]
            rfl
        · rw [List.getElem?_map] at hy
          obtain ⟨z, hz, rfl⟩ := Option.map_eq_some_iff.mp hy
          rw [getD_of hz]
          exact ev_var rfl
        · rw [List.length_map]
          exact given_filter (diagL (min h wd) N) 0 (fun z => decide (z ≠ 0)) V.int
end
end Ef
end
section
/-! WX1: BadCharacteristic(p) is made: super().__init__(f'..'), self.p = p -/
namespace PySem
namespace BadX
open PySem.W PySem.Calls PyProof.Rows PySem.HandSPX
def iA (p1 p2 : Pos) : Arguments := { posonlyargs := [], args := [{ arg := "self", annotation := none, pos := p1 }, { arg := "p", annotation := none, pos := p2 }], vararg := none, kwonlyargs := [], kw_defaults := [], kwarg := none, defaults := [] }
def iB : List Stmt := [.Expr (.Call (.Attribute (.Call (.Name "super" ⟨15, 8, 15, 13⟩) [] [] ⟨15, 8, 15, 15⟩) "__init__" ⟨15, 8, 15, 24⟩) [.JoinedStr [.FormattedValue (.Name "p" ⟨15, 28, 15, 29⟩) (-1) none ⟨15, 27, 15, 30⟩, .Constant (.str " is neither 0 nor a prime") 0 ⟨15, 30, 15, 55⟩] ⟨15, 25, 15, 56⟩] [] ⟨15, 8, 15, 57⟩) ⟨15, 8, 15, 57⟩,
  .Assign [.Attribute (.Name "self" ⟨16, 8, 16, 12⟩) "p" ⟨16, 8, 16, 14⟩] (.Name "p" ⟨16, 17, 16, 18⟩) ⟨16, 8, 16, 18⟩]
def iS : Scope := { kind := .function, names := [(PySem.Str.ofString "self", .local), (PySem.Str.ofString "p", .local), (PySem.Str.ofString "__class__", .free), (PySem.Str.ofString "super", .globalImplicit)], isGenerator := false, isCoroutine := false, more := [] }
structure BadTxt (prog : Program) (K : Frag) (mg : Str → Option Value) (C fI : Addr) : Prop where
  gC : mg "BadCharacteristic" = some (.ref C)
  gS : mg "super" = none
  cls : ∃ nm q N bs bm sn sub ab col dd k0 k1 k2 k3 k5, K.lookup C = some (excClassObj nm q C N bs bm true sn sub ab col dd k0 k1 k2 k3 k5 "ValueError.__new__") ∧ refsVE bm = true
  sa : findIn K (.ref C) "__setattr__" = some (some (.builtin "object.__setattr__"))
  ga : findIn K (.ref C) "__getattribute__" = some (some (.builtin "BaseException.__getattribute__"))
  gg : findIn K (.ref C) "__getattr__" = some none
  noN : findIn K (.ref C) "p" = some none
  iC : findIn K (.ref C) "__init__" = some (some (.ref fI))
  tC : typeIn K (.ref fI) = some (.type "function")
  kC : keepIn K (.ref C) = true
  exC : subIn K (.ref C) (.type "BaseException") = some true
  veC : subIn K (.ref C) (.type "ValueError") = some true
  tyC : typeIn K (.ref C) = some (.type "type")
  hdC : hasDictIn K C = true
  te : exmOne K (.ref C) (.ref C) = some true
  su : ks_superIn K C C "__init__" = some (some (.builtin "ValueError.__init__"))
  mm : mroIn K C (.ref C) = some true
  op : nsIn K cStatics "thirdparty.any" = some none
  top : (prog.main.scope.names.lookup ("super" : Str)).isSome = false
  fn : ∃ (oc : Value) (od : Option Addr) (doc pm : Value) (an : Option Addr) (cda cc : Addr) (ct : Value) (osl : Array (Option Value)) (p1 p2 : Pos) (cl : Value) (cld : Option Addr) (csl : Array (Option Value)) (ccl : Value) (cdd : Option Addr) (vs : Array Value) (ccs : Array (Option Value)) (file : Str) (tf : Tok),
    K.lookup fI = some ⟨oc, od, .func (ksFn "__init__" "BadCharacteristic.__init__" (iA p1 p2) iB iS .none .none doc pm an (.ref cda) ct cc), osl⟩ ∧ codeIn K (.ref cda) "BadCharacteristic.__init__" = true ∧
    K.lookup cc = some ⟨cl, cld, .cell (some (.ref C)), csl⟩ ∧ K.lookup cda = some ⟨ccl, cdd, .fields vs, ccs⟩ ∧ vs[2]? = some (.str file tf) ∧ ((prog.main.file : Str) == file) = true
theorem one_size (v : Value) : [v].length ≤ sizeLine := by
  rw [sizeLine_eq]
  exact (by decide : 1 ≤ 16777216)
/-- what __init__ leaves of a fresh exception at x -/
structure InitEnd (h h' : Heap) (x C dx t1 : Addr) (v : Value) : Prop where
  keep : ∀ b o, b ≠ x → h.get? b = some o → h'.get? b = some o
  obj : h'.get? x = some { cls := .ref C, dict := some dx, data := .fields #[.ref t1, .none, .none, .none, .bool false, .none] }
  dbig : h.objs.size ≤ dx
  dne : dx ≠ x
  ns : h'.Ns1 dx (fun y => if y = "p" then some v else none)
structure OwnMade (h h' : Heap) (e C d : Addr) (v : Value) : Prop where
  keep : ∀ b o, h.get? b = some o → h'.get? b = some o
  new : h.objs.size ≤ e
  obj : ∃ oe vs, h'.get? e = some oe ∧ oe.cls = .ref C ∧ oe.dict = some d ∧ oe.data = .fields vs ∧ vs[1]? = some .none
  dbig : h.objs.size ≤ d
  dne : d ≠ e
  ns : h'.Ns1 d (fun y => if y = "p" then some v else none)
section
variable {prog : Program} {w : World} {A : Around} {E : Value → Shared → Prop} {R : Result → Shared → Prop} {s : Shared} {K : Frag} {mg : Str → Option Value} {C fI : Addr}
theorem cw1 {M : Model} {pos : Pos} {env : Env} {e : Expr} {u x : Addr} {i : String} {Q : Value → Shared → Prop}
    (h : wpAny M A (eval e env) (fun v s₁ => KxsAt i u x s₁.heap ∧ wpAny M A (call (.ref u) [v]) Q E s₁) E s)
    (he : starEach (e :: []) env = (false, eval e env) :: starEach [] env := by rfl) (hplain : (backTo pos (starEach [] env)).any (·.1) = false := by rfl) :
    wpAny M A (callWith pos (.ref u) [] (backTo pos (starEach (e :: []) env)) []) Q E s := by
  rw [he]
  refine kxs_callWith (i := i) (x := x) (by show (false || (backTo pos (starEach [] env)).any (·.1)) = false; rw [hplain]; rfl) ?_
  refine evalArgs_plain ?_
  show wpAny _ _ (spliced ((false, eval e env) :: backTo pos (starEach [] env))) _ _ s
  exact spliced_cons (wpAny_mono h (fun v s₁ hv => spliced_nil hv) fun _ _ z => z)
theorem call_mw {hp : Heap} {g : Array GenState} {d : Drawn} {t : Nat} {os : OsState} {u x t0 : Addr} {rest : List Value} {Q : Value → Shared → Prop} {nm q : Str} {N : Addr} {bs bm : List Value} {hdct : Bool} {sn : List Str} {sub : List Value} {ab : Bool} {col : Option Bool} {dd : Option Addr} {k0 k1 k2 k3 k5 : Option Value}
    (hC : hp.get? C = some (excClassObj nm q C N bs bm hdct sn sub ab col dd k0 k1 k2 k3 k5 "ValueError.__new__")) (he : hp.get? x = some (excO C t0)) (hu : hp.get? u = some (kxs_mw "ValueError.__init__" x)) (hrest : rest.length ≤ sizeLine)
    (hq : ∀ h' t1, (∀ b o, b ≠ x → hp.get? b = some o → h'.get? b = some o) → h'.get? x = some (excO C t1) → Q .none ⟨h', g, d, t, os⟩) :
    wpAny (model prog w) A (call (.ref u) rest) Q E ⟨hp, g, d, t, os⟩ := by
  refine wpAny_call (codeAny_of_tree ?_)
  show wpAny _ A.in1 (callAny (.ref u) ⟨rest, []⟩) _ _ _
  simp only [callAny]
  refine wpAny_bind (wpAny_load hu ?_)
  simp only [kxs_mw, show (Value.type "method-wrapper" == Value.type "method" || Value.type "method-wrapper" == Value.type "builtin_function_or_method" || Value.type "method-wrapper" == Value.type "method-wrapper") = true by decide, if_true]
  refine KFB.if_so (by decide) ?_
  refine wpAny_bind (check_bound_init F.excBase_ValueError.toExcCallFacts hC he rfl ?_)
  refine wpAny_bind (wpAny_pure (wpAny_pure ?_))
  refine ⟨plainId_quiet F.excBase_ValueError.init.plain _, codeAny_builtin F.excBase_ValueError.initEntry ?_⟩
  exact exc_init_tree (cls := .ref C) (t0 := t0) (dv := none) (c2 := .none) (c3 := .none) (b4 := .bool false) he hrest fun h' k e' _ => hq h' _ k e'
theorem bad_init (T : BadTxt prog K mg C fI) {x t0 : Addr} {n : Int} {u : Tok} (X : K.In s.heap) (G : s.heap.Ns mainGlobals mg) (B : ∃ mb, s.heap.Ns builtinsNs mb ∧ ∀ x : Str, x ≠ "__name__" → mb x = bootBuiltins x)
    (hlim : s.heap.NoLimit) (hx : s.heap.get? x = some (excO C t0)) (hnx : K.lookup x = none) (hroom : A.depth < recursionLimit) (hn : n.natAbs.log2 < 1920) (hsz : (Str.empty ++ (toString n : Str)).length ≤ sizeLine ∧ (Str.empty ++ (toString n : Str) ++ (" is neither 0 nor a prime" : Str)).length ≤ sizeLine)
    (hq : ∀ h' tk dx t1, InitEnd s.heap h' x C dx t1 (.int n u) → R (.ok (.ret .none)) { s with heap := h', toks := tk }) :
    codeAny (model prog w) A (.call (.ref fI) ⟨[.ref x, .int n u], []⟩) R s := by
  obtain ⟨oc, od, doc, pm, an, cda, cc, ct, osl, p1, p2, cl, cld, csl, ccl, cdd, vs, ccs, file, tf, ho, hcd, hcell, hcode, hvs, hfile⟩ := T.fn
  obtain ⟨nm, q, N, bs, bm, sn, sub, ab, col, dd, k0, k1, k2, k3, k5, hC, hbm⟩ := T.cls
  have hcl : clsIn K C = some { name := nm, bases := bs, mro := .ref C :: bm, ns := N, qualname := q, hasDict := true, slotNames := sn, subclasses := sub, abstract := ab, collection := col, hasDel := false } := by unfold clsIn; rw [hC] <;> rfl
  obtain ⟨mb, hb1, hb2⟩ := B
  refine ks_codeAny_call_defAt (fd := ksFn "__init__" "BadCharacteristic.__init__" (iA p1 p2) iB iS .none .none doc pm an (.ref cda) ct cc) (body := iB) (binds := [("self", .ref x), ("p", .int n u)]) hroom (X _ _ ho) rfl hlim (codeRec_of X hcd) rfl (BindsTo.of_eq (by first | rfl | with_unfolding_all rfl)) (show ∀ x ∈ iS.names, x.2 ≠ .cell by decide +kernel) (fun y hy => by
    rcases List.mem_cons.mp hy with rfl | hy
    · show iS.names.lookup ("self" : Str) = some .local; decide +kernel
    · rcases List.mem_cons.mp hy with rfl | hy
      · show iS.names.lookup ("p" : Str) = some .local; decide +kernel
      · cases hy) (fun h₁ hns k => ?_) rfl rfl rfl
  have X₁ : K.In h₁ := X.keeps k
  have hx₁ := k _ _ hx
  have hxL : s.heap.objs.size ≠ x := Nat.ne_of_gt (Heap.lt_size hx)
  refine ks_wpAt_execs_cons (ks_wpAt_Expr_any (ks_wpAt_MethodCall (ks_wpAt_super_base (env := ksEnv "BadCharacteristic.__init__" iS s.heap.objs.size fI (.ref cda) cc) (fd := ksFn "__init__" "BadCharacteristic.__init__" (iA p1 p2) iB iS .none .none doc pm an (.ref cda) ct cc) (ar := { arg := "self", annotation := none, pos := p1 }) rfl rfl rfl rfl (X₁ _ _ ho) rfl rfl rfl (X₁ _ _ hcode) rfl hvs hfile T.top ?_)))
  refine ks_loadName_global rfl rfl (loadGlobal_builtin (env := ksEnv "BadCharacteristic.__init__" iS s.heap.objs.size fI (.ref cda) cc) (G.keeps k) T.gS (hb1.keeps k) ((hb2 "super" (by decide)).trans PyProof.Rows.Boot.«super») ⟨rfl, ?_⟩)
  refine wpAny_loadName_free rfl rfl rfl ⟨_, X₁ _ _ hcell, rfl⟩ ?_
  refine wpAny_loadName_local (v := .ref x) rfl rfl hns (by first | rfl | with_unfolding_all rfl | kernel_rfl) ?_
  have hCo := X₁ _ _ hC
  refine ks_wpAny_isType_cls hCo rfl ⟨rfl, ?_⟩
  refine ks_wpAny_call_super hCo rfl hx₁ rfl (fun c z => by cases z) (looks_mroIn X₁ T.mm) (fun h2 e2 kk2 => ?_)
  have X₂ : K.In h2 := X₁.keeps kk2
  have hx2 := kk2 _ _ hx₁
  have hxC : x ≠ C := fun z => by rw [z, hC] at hnx; cases hnx
  have I2 : InstAt h2 x (excO C t0) C none := ⟨hx2, rfl, rfl, trivial⟩
  have su := T.su
  unfold ks_superIn at su
  rw [hcl] at su
  refine kxs_getMethod kxs_ValueError e2 (looks_opaque X₂ T.op) (l₀ := .ref C :: bm) (fun A Q E s k q => wpAny_bind ((looks_clsIn X₂ hcl) A _ E s k (wpAny_pure q))) rfl X₂ su (I2.type.andThen (looks_subIn X₂ T.veC)) hxC rfl ?_
  have k3 : ∀ b o, h2.get? b = some o → (h2.push (kxs_mw "ValueError.__init__" x)).get? b = some o := fun b o e => Heap.get?_push_of_some _ e
  have hmw : (h2.push (kxs_mw "ValueError.__init__" x)).get? h2.objs.size = some (kxs_mw "ValueError.__init__" x) := Heap.get?_push_at rfl rfl
  refine cw1 (i := "ValueError.__init__") (x := x) ?_
  refine wpAny_JoinedStr ?_
  refine wpAny_FormattedValue_plain ?_
  have hns3 := (hns.keeps kk2).keeps k3
  refine wpAny_Name (wpAny_loadName_local (v := .int n u) rfl rfl hns3 (by first | rfl | with_unfolding_all rfl | kernel_rfl) ?_) (by decide)
  refine wpAny_formatField_int hn ⟨_, _, rfl, hsz.1, ?_⟩
  refine wpAny_Constant_str ⟨_, _, rfl, hsz.2, hsz.2, ?_⟩
  refine ⟨hmw, ?_⟩
  -- the bound __init__ is called
  have k4 : ∀ b o, h₁.get? b = some o → (h2.push (kxs_mw "ValueError.__init__" x)).get? b = some o := fun b o e => k3 b o (kk2 b o e)
  have hx4 := k4 _ _ hx₁
  refine call_mw (k4 _ _ hCo) hx4 hmw (one_size _) fun h5 t1 k5' hx5 => ?_
  -- self.p = p
  have X5 : K.In h5 := fun a o e => k5' a o (fun z => by rw [z, hnx] at e; cases e) (k4 a o (X₁ a o e))
  have hns5 := hns.at (fun o z => k5' _ o hxL (k4 _ o z))
  refine ks_wpAt_execs_cons (ks_wpAt_Assign_Attr ?_)
  refine wpAt_of_wpAny (wpAny_Name (wpAny_loadName_local (v := .int n u) rfl rfl hns5 (by first | rfl | with_unfolding_all rfl | kernel_rfl) ?_) (by decide))
  refine wpAny_Name (wpAny_loadName_local (v := .ref x) rfl rfl hns5 (by first | rfl | with_unfolding_all rfl | kernel_rfl) ?_) (by decide)
  refine set_plain X5 (ox := excO C t1) (od := none) ⟨hx5, rfl, rfl, trivial⟩ T.sa ?_
  refine exc_osa X5 hx5 hcl (show refsVE (.ref C :: bm) = true from hbm) rfl T.noN (fun h₃ tk₃ dx k₃ dn dne hx₃ hn₃ => ?_)
  refine wpAt_of_wpAny (wpAny_execs_nil ?_)
  have z : s.heap.objs.size < h5.objs.size := hns5.lt
  have dn' : h5.objs.size ≤ dx := dn
  exact hq h₃ tk₃ dx t1 ⟨fun b o hb e => k₃ b o hb (k5' b o hb (k4 b o (k b o e))), hx₃, by omega, dne, hn₃⟩
theorem bad_made (T : BadTxt prog K mg C fI) {n : Int} {u : Tok} (X : K.In s.heap) (G : s.heap.Ns mainGlobals mg) (B : ∃ mb, s.heap.Ns builtinsNs mb ∧ ∀ x : Str, x ≠ "__name__" → mb x = bootBuiltins x) (hlim : s.heap.NoLimit) (hroom : A.depth + 1 < recursionLimit)
    (hn : n.natAbs.log2 < 1920) (hsz : (Str.empty ++ (toString n : Str)).length ≤ sizeLine ∧ (Str.empty ++ (toString n : Str) ++ (" is neither 0 nor a prime" : Str)).length ≤ sizeLine)
    (hq : ∀ h' tk e d, OwnMade s.heap h' e C d (.int n u) → R (.ok (.ret (.ref e))) { s with heap := h', toks := tk }) :
    codeAny (model prog w) A (.call (.ref C) ⟨[.int n u], []⟩) R s := by
  obtain ⟨nm, q, N, bs, bm, sn, sub, ab, col, dd, k0, k1, k2, k3, k5, hC, hbm⟩ := T.cls
  obtain ⟨hp, g, dr, tk, os⟩ := s
  have k : ∀ b o, hp.get? b = some o → ((hp.push (kdv_tup [.int n u])).push (excO C hp.objs.size)).get? b = some o := fun b o e => Heap.get?_push_of_some _ (Heap.get?_push_of_some _ e)
  have hget : ((hp.push (kdv_tup [.int n u])).push (excO C hp.objs.size)).get? (hp.objs.size + 1) = some (excO C hp.objs.size) := by heap_get
  have hnx : K.lookup (hp.objs.size + 1) = none := by
    cases e : K.lookup (hp.objs.size + 1) with
    | none => rfl
    | some o =>
      have z : hp.get? (hp.objs.size + 1) = some o := X _ _ e
      exact absurd (Nat.lt_of_succ_lt (Heap.lt_size z)) (Nat.lt_irrefl _)
  obtain ⟨mb, hb1, hb2⟩ := B
  refine call_own F.excBase_ValueError (fun X => refsVE_contains X bm hbm) (X _ _ hC) (looks_findIn X T.iC) (fun self => bind_fn X self T.tC) (one_size _) ?_
  refine bad_init (s := ⟨(hp.push (kdv_tup [.int n u])).push (excO C hp.objs.size), g, dr, tk, os⟩) T (X.keeps k) (G.keeps k) ⟨mb, hb1.keeps k, hb2⟩ (hlim.keeps k) hget hnx ?_ hn hsz fun h' tk' dx t1 ⟨k', hx, dn, dne, hns⟩ => ?_
  · show A.depth + 1 < recursionLimit
    exact hroom
  · have old : ∀ b o, hp.get? b = some o → h'.get? b = some o := fun b o e => k' b o (Nat.ne_of_lt (Nat.lt_succ_of_lt (Heap.lt_size e))) (k b o e)
    have z : hp.objs.size + 1 + 1 ≤ dx := by
      first
        | (simpa only [Heap.size_push] using dn)
        | exact dn
        | (have q := dn; rw [Heap.size_push, Heap.size_push] at q; exact q)
    exact ⟨rfl, hq h' tk' (hp.objs.size + 1) dx ⟨old, Nat.le_succ _, ⟨_, _, hx, rfl, rfl, rfl, rfl⟩, Nat.le_trans (Nat.le_trans (Nat.le_succ _) (Nat.le_succ _)) z, dne, hns⟩⟩
end
end BadX
end PySem
namespace L2
open PySem PySem.Spec PyProof.Rows
theorem relO_bad {v : V} {v' : Value} (r : RelV v v') (f : Str) : RelO (List.lookup f [(("p" : Str), v)]) (if f = "p" then some v' else none) := by
  by_cases hw : f = "p"
  · subst hw
    rw [if_pos rfl]
    have q : List.lookup ("p" : Str) [(("p" : Str), v)] = some v := by simp [List.lookup]
    rw [q]
    exact r
  · rw [if_neg hw]
    have qw : (f == ("p" : Str)) = false := by simpa using hw
    have q2 : List.lookup f [(("p" : Str), v)] = none := by simp [List.lookup, qw]
    rw [q2]
    trivial
/-- an int whose text is short -/
def ShortI (n : Int) : Prop := n.natAbs.log2 < 1920 ∧ (Str.empty ++ (toString n : Str)).length ≤ sizeLine ∧ (Str.empty ++ (toString n : Str) ++ (" is neither 0 nor a prime" : Str)).length ≤ sizeLine
section
variable {X : Cx} {C fI : Addr}
/-- BadCharacteristic(e) -/
def tMkBad (C : Addr) (ta : TA) : St → Hp → XK → Prop := fun σ H Q => ta σ H fun vs H1 => ∃ n : Int, vs = [.int n] ∧ ShortI n ∧ ∀ d, H1 d = none → Q (.ref C) (some d) (upd H1 d (.xd [(("p" : Str), .int n)]))
theorem pmk_bad {a : Expr} {ta : TA} {p pos : Pos} {k : Nat} (T : PySem.BadX.BadTxt X.prog X.K X.mg C fI) (hr : Room k X.A) (ha : PA X [a] ta) (hg : Gl X "BadCharacteristic" := by rfl)
    (he : starEach (a :: []) X.env = (false, eval a X.env) :: starEach [] X.env := by rfl) (hpl : (backTo pos (starEach [] X.env)).any (·.1) = false := by rfl) :
    PMk X (.Call (.Name "BadCharacteristic" p) [a] [] pos) (tMkBad C ta) := by
  intro pins s σ H Q I h
  refine wpAny_Call_Name_kw (ld_glob I hg T.gC ?_)
  refine PySem.W.callWith_K (h₀ := X.base) I.ok.mod.kin T.kC (thn (ha.run pos pins s σ H _ I h) fun us s1 hh => ?_) he hpl
  obtain ⟨vs, H1, I1, r1, n, ev, hsh, q1⟩ := hh
  subst ev
  refine ⟨I1.kIn, ?_⟩
  cases r1 with
  | cons rv rn =>
    rename_i v' us'
    cases rn
    obtain ⟨u, rfl⟩ := id rv
    show wpAny _ _ (call (.ref C) [.int n u]) _ _ _
    have hlim := I1.nolimit
    have hG := I1.mod.glob.keeps I1.bk
    obtain ⟨mb, hb1, hb2⟩ := I1.mod.blt
    have hB := hb1.keeps I1.bk
    obtain ⟨hp, g, dr, tk, os⟩ := s1
    refine wpAny_call (PySem.BadX.bad_made T I1.kIn hG ⟨mb, hB, hb2⟩ hlim (by have := hr.dp; omega) hsh.1 hsh.2 fun h' tk' e d M => ?_)
    show MkP X pins σ Q (.ref e) ⟨h', g, dr, tk', os⟩
    obtain ⟨oe, fv, hoe, hc, hd, hdat, h1⟩ := M.obj
    have hns := M.ns
    obtain ⟨G', g1, g2⟩ := restrict h' fun b => decide (b ≠ e)
    have gk : ∀ b, b ≠ e → G'.get? b = h'.get? b := fun b hb => g1 b (decide_eq_true hb)
    have ge : G'.get? e = none := g2 e (by simp)
    have old : ∀ b o, hp.get? b = some o → G'.get? b = some o := fun b o q => (gk b (Nat.ne_of_lt (Nat.lt_of_lt_of_le (Heap.lt_size q) M.new))).trans (M.keep b o q)
    have ob : ObjOk X.prog X.w (upd H1 d (.xd [(("p" : Str), .int n)])) G' d (.xd [(("p" : Str), .int n)]) :=
      ⟨_, hns.at (fun o q => (gk d M.dne).trans q), fun f => relO_bad rv f⟩
    have J : Inv X pins σ (upd H1 d (.xd [(("p" : Str), .int n)])) ⟨G', g, dr, tk', os⟩ := I1.laid (t' := tk') old M.dbig ob
    refine ⟨e, oe, fv, ⟨G', g, dr, tk', os⟩, _, .ref C, some d, rfl, J, fun b o q => ?_, ge, hoe, ⟨hc, hd⟩, hdat, h1, ?_, rfl, I1.bare, raises_own T.exC T.tyC, q1 d (I1.hok.fresh M.dbig)⟩
    · by_cases hb : b = e
      · have q' : G'.get? b = some o := q
        rw [hb, ge] at q'; cases q'
      · exact (gk b hb).symm.trans q
    · rw [upd_ne (Ne.symm M.dne)]
      exact I1.hok.fresh M.new
/-- raise BadCharacteristic(e) -/
def tRaiseBad (C : Addr) (W : WX) (ta : TA) : TS := fun _ σ H => tMkBad C ta σ H fun cls d H' => W cls d σ H'
theorem ps_raiseBad {a : Expr} {ta : TA} {W : WX} {p pos pos2 : Pos} {k : Nat} (hc : X.calm = true) (T : PySem.BadX.BadTxt X.prog X.K X.mg C fI) (hr : Room k X.A) (tk : Takes X W) (ha : PA X [a] ta) (hg : Gl X "BadCharacteristic" := by rfl)
    (he : starEach (a :: []) X.env = (false, eval a X.env) :: starEach [] X.env := by rfl) (hpl : (backTo pos (starEach [] X.env)).any (·.1) = false := by rfl) :
    PS X (.Raise (some (.Call (.Name "BadCharacteristic" p) [a] [] pos)) none pos2) (tRaiseBad C W ta) := ps_raise hc tk (pmk_bad T hr ha hg he hpl)
/-- e.p, e the exception that the suite holds -/
def tByBad (C : Addr) (a : Addr) (cls : Value) (d : Option Addr) (te : TE) : TE := fun σ H Q => te σ H fun x H1 => x = .ref a ∧ cls = .ref C ∧ ∃ (dd : Addr) (v : V), d = some dd ∧ H1 dd = some (.xd [(("p" : Str), v)]) ∧ Q v H1
theorem pe_byBad {a : Addr} {oe : Obj} {cls : Value} {d : Option Addr} {pn : List (Addr × Obj)} {e : Expr} {te : TE} {pos : Pos} (T : PySem.BadX.BadTxt X.prog X.K X.mg C fI) (hz : Zc cls d oe) (hf : ∃ vs, oe.data = .fields vs) (he : PE (X.suite a ((a, oe) :: pn)) e te)
    (hb : attributeBase e "p" X.env (eval e X.env) = eval e X.env := by rfl) :
    PE (X.suite a ((a, oe) :: pn)) (.Attribute e "p" pos) (tByBad C a cls d te) := by
  refine ⟨fun pins s σ H Q I h => ?_⟩
  refine attr_of hb (thn (he.run pins s σ H _ I h) fun u s1 hh => ?_)
  obtain ⟨x, H1, I1, rx, ex, ec, dd, v, ed, ea, q⟩ := hh
  subst ex
  obtain rfl : u = Value.ref a := rx
  subst ec
  subst ed
  obtain ⟨ha, _⟩ := I1.pin (a, oe) (List.mem_append_left _ List.mem_cons_self)
  obtain ⟨vs, hd⟩ := hf
  have hx : ObjOk X.prog X.w H1 s1.heap dd (.xd [(("p" : Str), v)]) := I1.hok dd _ ea
  obtain ⟨mA, hns, hr⟩ := hx
  obtain ⟨od, ho, hl⟩ := lookIn_ns hns
  have l : List.lookup ("p" : Str) [(("p" : Str), v)] = some v := by simp [List.lookup]
  obtain ⟨u, hu, ru⟩ := RelO.some_of (v := v) (o := mA "p") (by rw [← l]; exact hr "p")
  have J : PySem.W.InstAt s1.heap a oe C (some od) := ⟨ha, hz.1, by unfold PySem.W.notCls; rw [hd] <;> rfl, by rw [hz.2]; exact ho⟩
  exact HandSPX.exc_get I1.kIn J T.ga T.gg T.exC (PySem.W.findObj_own T.hdC T.noN rfl (by rw [hl, hu])) (handed_of ru) ⟨v, H1, I1.tok _, ru, q⟩
end
end L2
end
section
/-! WX2: set(an empty list or tuple); ~x and x | y of an own class; a loop over an empty list or tuple -/
namespace L2
open PySem PySem.Spec PyProof.Rows
section
variable {P : Program} {w : World} {A : Around} {E : Value → Shared → Prop} {s : Shared}
set_option maxHeartbeats 8000000 in
theorem ef_set_list {l : Addr} {items : Array Value} (ns : List Int) {Q : Value → Shared → Prop} (hh : A.handled = none) (hl : s.heap.IsList l items) (hit : IntsAre items.toList ns) (hb : ns.length + 1 < scanBound)
    (h : ∀ (h' : Heap) (tk c : Nat), SetR w h' s.heap.objs.size (fun j => decide (j ∈ ns)) c → c ≤ ns.length → (∀ b o, s.heap.get? b = some o → h'.get? b = some o) → Q (.ref s.heap.objs.size) { s with heap := h', toks := tk }) :
    wpAny (model P w) A (call (.type "set") [.ref l]) Q E s := by
  have hisz : items.size = ns.length := by
    have q := IntsAre.length hit
    rw [Array.length_toList] at q
    exact q
  obtain ⟨c, tl, hmro⟩ := F.called_set.mro
  have hmade := F.called_set.made
  have hsub := F.called_set.sub
  refine wpAny_call (codeAny_of_tree ?_)
  show wpAny _ _ (callAny (.type "set") _) _ _ _
  refine wpAny_pure ⟨Code.quiet_builtin _ (by decide +kernel), codeAny_builtin F.entry_type_call ?_⟩
  rw [Around.under_plain (weight_type_call_type "set" [.ref l] []) rfl]
  have h1 := F.called_set.notType
  have h2 := F.called_set.canCreate
  have hct := F.typeCall_set_1 (.ref l)
  repeat (any_goals (first | assumption | wp_step))
  refine codeAny_mono (code_set_led1 (.ref l) (E := E) (Q₁ := fun obj s₁ => obj = .ref s.heap.objs.size ∧ s₁ = { s with heap := s.heap.push { cls := .type "set", dict := none, data := .set #[] 0 (.fresh 0 0 (!w.params.followText "set-order")) } }) ⟨rfl, rfl⟩) fun r s₁ hr => ?_
  cases r with
  | error e => exact hr
  | ok fl =>
    cases fl with
    | ret obj =>
      obtain ⟨rfl, rfl⟩ := hr
      have hS : (s.heap.push { cls := .type "set", dict := none, data := .set #[] 0 (.fresh 0 0 (!w.params.followText "set-order")) }).get? s.heap.objs.size = some { cls := .type "set", dict := none, data := .set #[] 0 (.fresh 0 0 (!w.params.followText "set-order")) } := Heap.get?_push_size _ rfl
      have hT : Shared.TypeIs { s with heap := s.heap.push { cls := .type "set", dict := none, data := .set #[] 0 (.fresh 0 0 (!w.params.followText "set-order")) } } (.ref s.heap.objs.size) "set" := ⟨_, hS, rfl⟩
      have hli := F.called_set.init.lookup
      have hbi := F.called_set.init.bind (.ref s.heap.objs.size)
      repeat (any_goals (first | assumption | wp_step))
      refine codeAny_mono (codeAny_call_builtin (R := wants (fun r s₂ => r = .none ∧ ∃ h' tk c, s₂ = { s with heap := h', toks := tk } ∧ SetR w h' s.heap.objs.size (fun j => decide (j ∈ ns)) c ∧ c ≤ ns.length ∧
          (∀ b o, s.heap.get? b = some o → h'.get? b = some o)) E) F.called_set.init.plain F.entry_set_init (check_set_init_1 hT ?_)) fun r₂ s₂ hr₂ => ?_
      · obtain ⟨ol, hol, hcl, nl, hdl⟩ := hl
        obtain ⟨ocls, odict, odata, oslots⟩ := ol
        simp only at hcl hdl
        subst hcl; subst hdl
        have hol' : (s.heap.push { cls := .type "set", dict := none, data := .set #[] 0 (.fresh 0 0 (!w.params.followText "set-order")) }).get? l = some { cls := .type "list", dict := odict, data := .seq items nl, slots := oslots } := Heap.get?_push_of_some _ hol
        have hsls := F.sub_list_set
        have hslf := F.sub_list_frozenset
        have hne : (Value.type "list" == Value.type "dict") = false := by decide
        have hl1 : (s.heap.push { cls := .type "set", dict := none, data := .set #[] 0 (.fresh 0 0 (!w.params.followText "set-order")) }).IsList l items := ⟨_, hol', rfl, nl, rfl⟩
        unfold Builtin.«set.__init__» noKeywords Builtin.Frozenset.updateFrom
        generalize hPI : pyIter = PI
        wp_walk
        subst hPI
        refine wpAny_pyIter_list hl1 ?_
        refine wpAny_bind (wpAny_runValue ?_)
        have hlS : l < s.heap.objs.size := Heap.lt_size hol
        have hh3 : A.in1.in1.in1.handled = none := by simp [hh]
        have hneI : l ≠ (s.heap.push { cls := .type "set", dict := none, data := .set #[] 0 (.fresh 0 0 (!w.params.followText "set-order")) }).objs.size := by
          rw [Heap.size_push]; exact Nat.ne_of_lt (Nat.lt_succ_of_lt hlS)
        have hSf : s.heap.objs.size ∉ [(s.heap.push { cls := .type "set", dict := none, data := .set #[] 0 (.fresh 0 0 (!w.params.followText "set-order")) }).objs.size, l] := by
          rw [Heap.size_push]; simp only [List.mem_cons, List.mem_singleton, List.not_mem_nil, or_false, not_or]
          exact ⟨Nat.ne_of_lt (Nat.lt_succ_self _), Nat.ne_of_gt hlS⟩
        have hval : ∀ (i : Nat) (v : Value), items[i]? = some v → ∃ k t, ns[i]? = some k ∧ v = .int k t := fun i v hv => by
          have hi : i < ns.length := by rw [← hisz]; exact (Array.getElem?_eq_some_iff.mp hv).1
          obtain ⟨t, e⟩ := PyProof.Rows.IntsAre.int_at hit i v (by rw [Array.getElem?_toList]; exact hv)
          refine ⟨ns[i], t, List.getElem?_eq_getElem hi, ?_⟩
          rw [e, List.getD_eq_getElem?_getD, List.getElem?_eq_getElem hi] <;> rfl
        refine set_update_ints ((Walks.list hh3 _ l hneI items).toS) s.heap.objs.size
          hSf ns hisz hb hval (items.size - 0) 0 _ (by omega) (Nat.zero_le _)
          ⟨⟨_, Heap.get?_push_size _ rfl, rfl, rfl⟩, (hl1.push _)⟩ ?hS0 ?hR
        case hS0 =>
          exact ⟨0, Nat.le_refl 0, setR_new_at (Heap.get?_push_of_some _ hS)⟩
        case hR =>
          intro s' c' hm hc' hS'
          obtain ⟨h', g2, d', tk', os'⟩ := s'
          have eg : g2 = s.gens := hm.gens
          have ed : d' = s.drawn := hm.drawn
          have eo : os' = s.os := hm.os
          subst eg; subst ed; subst eo
          show wpAny _ _ _ _ _ _
          refine wpAny_pure ?_
          show wpAny _ _ (ret Value.none) _ _ _
          rw [hisz] at hc'
          refine wpAny_pure ⟨rfl, h', tk', c', rfl, hS', hc', fun b o e => ?_⟩
          have hb0 : b < s.heap.objs.size := Heap.lt_size e
          have hb1 : b ≠ s.heap.objs.size := Nat.ne_of_lt hb0
          have hb2 : b ≠ (s.heap.push { cls := .type "set", dict := none, data := .set #[] 0 (.fresh 0 0 (!w.params.followText "set-order")) }).objs.size := by
            rw [Heap.size_push]; exact Nat.ne_of_lt (Nat.lt_succ_of_lt hb0)
          exact hm.heap b o (by simp only [List.mem_cons, List.mem_singleton, List.not_mem_nil, or_false, not_or]; exact ⟨hb1, hb2⟩) (Heap.get?_push_of_some _ (Heap.get?_push_of_some _ e))
      · cases r₂ with
        | error e => exact hr₂
        | ok fl2 =>
          cases fl2 with
          | ret v =>
            obtain ⟨rfl, h', tk', c', rfl, hS', hc', hk⟩ := hr₂
            repeat (any_goals (first | assumption | wp_step))
            exact h h' _ c' hS' hc' hk
          | next => exact False.elim hr₂
          | brk => exact False.elim hr₂
          | cont => exact False.elim hr₂
    | next => exact False.elim hr
    | brk => exact False.elim hr
    | cont => exact False.elim hr
end
end L2
end
section
/-! W14: own operators; Chars (with no primes) -/
namespace Ef
open PySem PySem.Spec PyProof.Rows L2 Evl
section
variable {X : Cx} {CX : CXT} {k : Nat} {C : Addr} {sp : Sp} {E : XK} {m : Str} {pos apos : Pos} {e o : Expr} {ta : TE} {K : PySem.W.Frag}
/-- C.m() of a classmethod -/
theorem pe_cm0 {pl : Sem Bool} (he : PE X o ta) (M : CmClb X.prog X.w X.K X.mg X.base CX C m k sp) (hr : Room k X.A) (hx : Passes CX X E)
    (ht : eval (.Call (.Attribute o m apos) [] [] pos) X.env = (do
      let ov ← eval o X.env
      standAt apos.atName
      let (f, first) ← holding [ov] (getMethod ov m pl)
      callWith pos f first (backTo pos (starEach [] X.env)) (backToKw pos (keywordEach [] X.env))) := by rfl) :
    PE X (.Call (.Attribute o m apos) [] [] pos) (ClX.tCMeth C sp E ta tNil) := by
  obtain ⟨p, g, mc, r, c, F⟩ := M.ex
  refine ⟨fun pins s σ H Q I h => ?_⟩
  refine PySem.W.methodCall_KW (pl := pl) (thn (he.run pins s σ H _ I h) fun u s1 ⟨x, H1, I1, rx, ex, q⟩ => ?_) ht
  subst ex
  obtain rfl : u = Value.ref C := rx
  refine ClX.getmethcm_ok I1 r c fun s2 I2 => ?_
  exact PySem.W.callWith_M0 (K := X.K) (first := []) ⟨ClX.pin_at I2, I2.kIn⟩ c.fi (ClX.run_cm (us := []) (vs := []) F hr hx I2 .nil q)
abbrev rOwn1 (C : Addr) (sp : Sp) (E : XK) : V → Hp → VK → Prop := fun x H Q => ∃ a dx fs, x = .ref a ∧ H a = some (.ins C dx fs) ∧ sp [.ref a] H Q E
/-- ~x -/
theorem un_invOwn (M : MClb X.prog X.w X.K X.mg X.base CX C "__invert__" k ["self"] sp) (hr : Room k X.A) (hx : Passes CX X E) : UnR X (unaryOp .Invert) (rOwn1 C sp E) := by
  obtain ⟨f, fd, F, hm, b⟩ := M.ex
  intro pins s σ H x v Q I rx h
  obtain ⟨a, dx, fs, rfl, ea, q⟩ := h
  obtain rfl : v = Value.ref a := rx
  obtain ⟨mA, O, _, _, _, _⟩ := ins_get I.hok ea
  obtain ⟨od, J, _⟩ := O.look
  obtain ⟨m, fr⟩ := I.fr
  exact PySem.W.ksp_inv fr I.ok.mod.kin J hm.at_ hm.fn (run_fn (us := [.ref a]) (vs := [.ref a]) F hr b .nil hx I (.cons rfl .nil) q)
abbrev rOwn2 (C : Addr) (sp : Sp) (E : XK) : R2 := fun x y H Q => ∃ a b dx dx' fs fs', x = .ref a ∧ y = .ref b ∧ H a = some (.ins C dx fs) ∧ H b = some (.ins C dx' fs') ∧ sp [.ref a, .ref b] H (fun v H' => (∃ z, v = .ref z) ∧ Q v H') E
/-- x | y -/
theorem op_orOwn (M : MClb X.prog X.w X.K X.mg X.base CX C "__or__" k ["self", "other"] sp) (hc : PySem.W.selfFirst X.K C = true) (hr : Room k X.A) (hx : Passes CX X E) : OpR X (binaryOp .BitOr) (rOwn2 C sp E) := by
  obtain ⟨f, fd, F, hm, b⟩ := M.ex
  intro pins s σ H x y v u Q I rx ry h
  obtain ⟨a, b', dx, dx', fs, fs', rfl, rfl, ea, eb, q⟩ := h
  obtain rfl : v = Value.ref a := rx
  obtain rfl : u = Value.ref b' := ry
  obtain ⟨mA, O, _, _, _, _⟩ := ins_get I.hok ea
  obtain ⟨od, J, _⟩ := O.look
  obtain ⟨mB, O2, _, _, _, _⟩ := ins_get I.hok eb
  obtain ⟨od2, J2, _⟩ := O2.look
  obtain ⟨m, fr⟩ := I.fr
  refine PySem.W.binop_K (op := .BitOr) fr I.ok.mod.kin J J2.type hc hm.at_ hm.fn (thn (run_fn (us := [.ref a, .ref b']) (vs := [.ref a, .ref b']) F hr b .nil hx I (.cons rfl (.cons rfl .nil)) q) fun r s1 hq => ?_)
  obtain ⟨v, H', I', rv, ⟨z, ez⟩, q'⟩ := hq
  subst ez
  obtain rfl : r = Value.ref z := rv
  exact ⟨.ref z, H', I', rfl, q'⟩
/-- set(an empty list or tuple) -/
abbrev rSetE (K : PySem.W.Frag) (w : World) : List V → Hp → VK → Prop := fun xs H Q => ∃ a, xs = [.ref a] ∧ (SqL K H a [] ∨ SqT K H a []) ∧ ∀ p, H p = none → Q (.ref p) (upd H p (SetO w p (fun _ => false) 0))
theorem cr_setE (hc : X.calm = true) (hK : X.K = K := by rfl) : CallR X (.type "set") (rSetE K X.w) := by
  intro pins s σ H xs us Q I r h
  obtain ⟨a, rfl, hs, q⟩ := h
  subst hK
  obtain rfl := Vals.ref1 r
  have fin : ∀ (h' : Heap) (tk c : Nat), SetR X.w h' s.heap.objs.size (fun j => decide (j ∈ ([] : List Int))) c → c ≤ ([] : List Int).length → (∀ b o, s.heap.get? b = some o → h'.get? b = some o) → EP X pins σ Q (.ref s.heap.objs.size) { s with heap := h', toks := tk } := fun h' tk c R hc k => by
    obtain rfl : c = 0 := by simpa using hc
    refine ⟨.ref _, upd H s.heap.objs.size (SetO X.w s.heap.objs.size (fun _ => false) 0), I.laid (t' := tk) k (Nat.le_refl _) (setO_new (R.congr fun j => by simp)), rfl, q _ (I.hok.fresh (Nat.le_refl _))⟩
  rcases hs with hs | hs
  · obtain ⟨its, rv, pl, hz⟩ := I.list hs
    refine ef_set_list [] (I.ok.hd hc) pl.isList (by simpa using ints_of_vals (ns := []) rv) (by decide) fin
  · obtain ⟨its, rv, pl, hz⟩ := I.tuple hs
    refine call_set_tupI [] (I.ok.hd hc) pl (by simpa using ints_of_vals (ns := []) rv) (by decide) fin
theorem op_inK (h : X.K = K := by rfl) : OpR X (compareOp .In) (rIn K false) := h ▸ op_in_seq
/-- either reading -/
def tEither (t1 t2 : TS) : TS := fun D σ H => t1 D σ H ∨ t2 D σ H
theorem ps_either {st : Stmt} {t1 t2 : TS} (h1 : PS X st t1) (h2 : PS X st t2) : PS X st (tEither t1 t2) :=
  ⟨fun pins s σ H D I h => h.elim (h1.run pins s σ H D I) (h2.run pins s σ H D I)⟩
def rCat0 (K : PySem.W.Frag) : R2 := fun x y H Q => ∃ a b, x = .ref a ∧ y = .ref b ∧ SqT K H a [] ∧ SqT K H b [] ∧ Q (.ref b) H
theorem op_cat0 (hK : X.K = K := by rfl) : OpR X (binaryOp .Add) (rCat0 K) := by
  intro pins s σ H x y v u Q I rx ry h
  obtain ⟨a, b, rfl, rfl, ha, hb, q⟩ := h
  subst hK
  cases rx
  cases ry
  obtain ⟨its, r1, p1, _⟩ := I.tuple ha
  obtain ⟨its2, r2, p2, _⟩ := I.tuple hb
  cases r1
  exact cat_tup0 p1 p2 ⟨.ref b, H, I, rfl, q⟩
end
theorem sqL_keep {K : PySem.W.Frag} {H : Hp} {a x C dx : Addr} {xs : List V} {fs : List (Str × V)} {o : HO} (h : SqL K H a xs) (hx : H x = some (.ins C dx fs)) : SqL K (upd H x o) a xs := by
  rcases h with (h | ⟨u, h⟩) | h
  · exact .inl (.inl (by rw [upd_ne (ne_of h hx (by intro z; cases z))]; exact h))
  · exact .inl (.inr ⟨u, by rw [upd_ne (ne_of h hx (by intro z; cases z))]; exact h⟩)
  · exact .inr h
/-! ### Chars -/
def cfs (e : Bool) (t : Addr) : List (Str × V) := [(("endless" : Str), V.bl e), (("primes" : Str), V.ref t)]
theorem cfs_e (e : Bool) (t : Addr) : (cfs e t).lookup ("endless" : Str) = some (.bl e) := by kernel_rfl
theorem cfs_p (e : Bool) (t : Addr) : (cfs e t).lookup ("primes" : Str) = some (.ref t) := by kernel_rfl
structure ChC (K : PySem.W.Frag) (C : Addr) : Prop where
  cl : Cls K C
  nE : NoAttr K C "endless"
  nP : NoAttr K C "primes"
  sf : PySem.W.selfFirst K C = true
/-- a Chars without primes -/
def IsCh (K : PySem.W.Frag) (C : Addr) (e : Bool) : VP := fun v H => ∃ a dx t, v = .ref a ∧ H a = some (.ins C dx (cfs e t)) ∧ SqT K H t []
theorem IsCh.m {K : PySem.W.Frag} {C : Addr} {e : Bool} : Mono (IsCh K C e) := fun _ _ _ x ⟨a, dx, t, h1, h2, h3⟩ => ⟨a, dx, t, h1, x _ _ h2, ex_t x h3⟩
def spChInit (K : PySem.W.Frag) (C : Addr) : Sp := fun vs H Q _ => ∃ (x dx : Addr) (e : Bool) (p : V), vs = [.ref x, .bl e, p] ∧ H x = some (.ins C dx []) ∧ IsS K [] p H ∧
  ∀ t H', (∀ b o, H b = some o → b ≠ x → H' b = some o) → H' x = some (.ins C dx (cfs e t)) → SqT K H' t [] → Q .non H'
abbrev s_prime_divisors : Stmt := topS 10
theorem sc_prime_divisors : FnScope ["n", "found", "left", "divisor"] ["n"] (defScope s_prime_divisors) := ⟨rfl, rfl, rfl, by decide +kernel, rfl, by decide +kernel, by decide +kernel⟩
abbrev s_shared : Stmt := topS 19
theorem sc_shared : FnScope ["first", "second", "p"] ["first", "second"] (defScope s_shared) := ⟨rfl, rfl, rfl, by decide +kernel, rfl, by decide +kernel, by decide +kernel⟩
abbrev s_Chars_init : Stmt := inClass (topS 18) 0
theorem sc_Chars_init : FnScope ["self", "endless", "primes", "p"] ["self", "endless", "primes"] (defScope s_Chars_init) := ⟨rfl, rfl, rfl, by decide +kernel, rfl, by decide +kernel, by decide +kernel⟩
abbrev s_Chars_every : Stmt := inClass (topS 18) 1
theorem sc_Chars_every : FnScope ["cls"] ["cls"] (defScope s_Chars_every) := ⟨rfl, rfl, rfl, by decide +kernel, rfl, by decide +kernel, by decide +kernel⟩
abbrev s_Chars_none : Stmt := inClass (topS 18) 2
theorem sc_Chars_none : FnScope ["cls"] ["cls"] (defScope s_Chars_none) := ⟨rfl, rfl, rfl, by decide +kernel, rfl, by decide +kernel, by decide +kernel⟩
abbrev s_Chars_zero_of : Stmt := inClass (topS 18) 5
theorem sc_Chars_zero_of : FnScope ["cls", "n"] ["cls", "n"] (defScope s_Chars_zero_of) := ⟨rfl, rfl, rfl, by decide +kernel, rfl, by decide +kernel, by decide +kernel⟩
abbrev s_Chars_unit_of : Stmt := inClass (topS 18) 6
theorem sc_Chars_unit_of : FnScope ["cls", "n"] ["cls", "n"] (defScope s_Chars_unit_of) := ⟨rfl, rfl, rfl, by decide +kernel, rfl, by decide +kernel, by decide +kernel⟩
abbrev s_Chars_invert : Stmt := inClass (topS 18) 9
theorem sc_Chars_invert : FnScope ["self"] ["self"] (defScope s_Chars_invert) := ⟨rfl, rfl, rfl, by decide +kernel, rfl, by decide +kernel, by decide +kernel⟩
abbrev s_Chars_or : Stmt := inClass (topS 18) 11
theorem sc_Chars_or : FnScope ["self", "other"] ["self", "other"] (defScope s_Chars_or) := ⟨rfl, rfl, rfl, by decide +kernel, rfl, by decide +kernel, by decide +kernel⟩
theorem putC_1 (e : Bool) (t : Addr) : putF ("primes" : Str) (.ref t) (putF ("endless" : Str) (.bl e) []) = cfs e t := by
  show (if ("endless" : Str) = "primes" then [(("primes" : Str), V.ref t)] else (("endless" : Str), V.bl e) :: putF "primes" (.ref t) []) = _
  rw [if_neg (by decide +kernel)]
  rfl
section
variable {P : Program} {w : World} {K : PySem.W.Frag} {mg : Str → Option Value} {base : Heap} {C : Addr}
theorem c_Chars (T : InitOk K mg C "Chars" "Chars.__init__" s_Chars_init ["self", "endless", "primes"]) (CC : ChC K C) (C_P : Clb P w K mg base CX0 "is_prime" 1 ["n"] spIsPrime) (tT : mg "tuple" = none) (tS : mg "sorted" = none) (tE : mg "set" = none) : KClb P w K mg base CX0 C "Chars" 2 ["self", "endless", "primes"] (spChInit K C) := by
  obtain ⟨f, fd, F, mk, gm, b⟩ := T.ex
  refine ⟨f, fd, F.ok sc_Chars_init (fun vs H Q E h => ?_) (fun cdv A outer s H vs Q E hr h => ?_), mk, gm, b⟩
  · obtain ⟨_, _, _, _, rfl, _⟩ := h
    rfl
  · obtain ⟨x, dx, e, p, rfl, hx, hp, q⟩ := h
    have nd := sc_Chars_init.nd
    refine ⟨_, (pss_cons (ps_either (ps_for PassesOwn.never rfl (pi_listK (K := K) (pv 2)) (pg_name (i := 3) nd rfl (Or.inl rfl))
      (pss_one (ps_if (pt_not (pt_val (pe_cal C_P hr (by rfl) pass0 (pa_cons (pv 3) pa_nil))))
        (pss_one ps_never)
        pss_nil))) (ps_for PassesOwn.never rfl (pi_tupK (K := K) (pv 2)) (pg_name (i := 3) nd rfl (Or.inl rfl))
      (pss_one (ps_if (pt_not (pt_val (pe_cal C_P hr (by rfl) pass0 (pa_cons (pv 3) pa_nil))))
        (pss_one ps_never)
        pss_nil))))
    (pss_cons (ps_fld (pv 0) (pv 1) rfl)
    (pss_one (ps_fld (pv 0) (pe_callTy (call_tupleK (K := K)) (by rfl) tT (by decide +kernel) (pa_cons (pe_callB (cr_sortedSet rfl) (by rfl) tS (by decide +kernel) (pa_cons (pe_callTy (cr_setE (K := K) rfl) (by rfl) tE (by decide +kernel) (pa_cons (pv 2) pa_nil)) pa_nil)) pa_nil)) rfl)))), ?_⟩
    obtain ⟨a, rfl, hs⟩ := hp
    have rest : ∀ y3 H1, Ex H H1 → tSeq (sFld K (tVar 0) (tVar 1) "endless") (sFld K (tVar 0) (tCB (rTupleOf K) (tCons (tCB (rSortedSet w) (tCons (tCB (rSetE K w) (tCons (tVar 2) tNil)) tNil)) tNil)) "primes") { nx := fun x H' => Q V.non H', rt := Q } [some (.ref x), some (.bl e), some (.ref a), y3] H1 := by
      intro y3 H1 e1
      refine q_fld (ev_var rfl) (ev_var rfl) (e1 _ _ hx) CC.cl CC.nE (by decide) fun H2 e2 => ?_
      have hx2 : H2 x = some (.ins C dx []) := e2 _ _ (e1 _ _ hx)
      have sq3 : SqL K (upd H2 x (.ins C dx (putF ("endless" : Str) (.bl e) []))) a [] ∨ SqT K (upd H2 x (.ins C dx (putF ("endless" : Str) (.bl e) []))) a [] :=
        hs.elim (fun z => .inl (sqL_keep (ex_l (e1.trans e2) z) hx2)) fun z => .inr (sqT_keep (ex_t (e1.trans e2) z) hx2)
      have old : ∀ b o, H b = some o → b ≠ x → (upd H2 x (.ins C dx (putF ("endless" : Str) (.bl e) []))) b = some o := fun b o hb nb => by
        rw [upd_ne nb]
        exact e2 _ _ (e1 _ _ hb)
      have gx3 : (upd H2 x (.ins C dx (putF ("endless" : Str) (.bl e) []))) x = some (.ins C dx (putF ("endless" : Str) (.bl e) [])) := upd_same
      generalize upd H2 x (.ins C dx (putF ("endless" : Str) (.bl e) [])) = H3 at *
      refine s_fldP (P := fun v H => ∃ t, v = .ref t ∧ SqT K H t []) (ep_cb (PA := fun vs H => ∃ l, vs = [.ref l] ∧ H l = some (.lst [])) ?_ ?_) (ev_var rfl) gx3 CC.cl CC.nP (show 1 < 1000 by decide) (fun _ _ _ z ⟨t, h1, h2⟩ => ⟨t, h1, ex_t z h2⟩) fun y H4 e4 ⟨t, ey, ht⟩ => ?_
      · refine eap_one fun H4 e4 Q' q' => ?_
        refine ⟨_, rfl, a, rfl, sq3.elim (fun z => .inl (ex_l e4 z)) (fun z => .inr (ex_t e4 z)), fun p hp => ?_⟩
        refine ⟨p, _, 0, rfl, upd_same, by decide, fun ns p2 h1 h2 h3 h4 => ?_⟩
        obtain rfl := List.length_eq_zero_iff.mp h3
        exact q' _ _ ((Ex.new hp).trans (Ex.new h4)) ⟨p2, rfl, upd_same⟩
      · rintro vs H4 e4 ⟨l, rfl, hl⟩ Q' q'
        exact ⟨l, [], rfl, .inl ⟨sq_of hl, fun l' hl' => q' _ _ (Ex.new hl') ⟨l', rfl, .inl (.inl upd_same)⟩⟩⟩
      · subst ey
        have e : putF ("primes" : Str) (.ref t) (putF ("endless" : Str) (.bl e) []) = cfs e t := putC_1 e t
        rw [e]
        exact q t _ (fun b o hb nb => by rw [upd_ne nb]; exact e4 _ _ (old b o hb nb)) upd_same (sqT_keep ht (e4 _ _ gx3))
    rcases hs with z | z
    · refine .inl (s_forL (D := _) (xs := []) (ev_var rfl) z (fun i σ' H' => ∃ y3, σ' = [some (.ref x), some (.bl e), some (.ref a), y3] ∧ Ex H H') (fun H1 e1 => ⟨none, rfl, e1⟩) (fun i σ' H' _ ⟨_, _, e1⟩ => ex_l e1 z) (fun i x σ' H' hx => by cases hx) ?_)
      rintro σ' H' ⟨y3, rfl, e1⟩
      exact rest y3 H' e1
    · refine .inr (s_forT (D := _) (xs := []) (ev_var rfl) z (fun i σ' H' => ∃ y3, σ' = [some (.ref x), some (.bl e), some (.ref a), y3] ∧ Ex H H') (fun H1 e1 => ⟨none, rfl, e1⟩) (fun i σ' H' _ ⟨_, _, e1⟩ => ex_t e1 z) (fun i x σ' H' hx => by cases hx) ?_)
      rintro σ' H' ⟨y3, rfl, e1⟩
      exact rest y3 H' e1
end
theorem ep_mkCh {K : PySem.W.Frag} {σ : L2.St} {H : Hp} {C : Addr} {ta : TA} {e : Bool} {E : XK} (h : EvAP ta σ H fun vs H => ∃ p, vs = [.bl e, p] ∧ IsS K [] p H) : EvP (tMake C (spChInit K C) [] E ta) σ H (IsCh K C e) := fun H1 e1 Q q =>
  h H1 e1 _ fun vs H2 e2 ⟨p, ev, hp⟩ => fun x dx nx ndx nex => by
    have e3 : Ex H2 (upd (upd H2 dx (.own x)) x (.ins C dx [])) := fun b o hb => by
      rw [upd_ne (ne_of_none hb nx), upd_ne (ne_of_none hb ndx)]
      exact hb
    subst ev
    refine ⟨x, dx, e, p, rfl, upd_same, IsS.m _ _ _ e3 hp, fun t H' k1 k2 k3 => ⟨rfl, q _ _ (e2.trans fun b o hb => k1 b o (e3 _ _ hb) (ne_of_none hb nx)) ⟨x, dx, t, rfl, k2, k3⟩⟩⟩
theorem ep_mkChL {K : PySem.W.Frag} {σ : L2.St} {H : Hp} {C : Addr} {ta : TA} {e : Bool} {E : XK} {i : Nat} (hσ : σ[i]? = some (some (.ref C))) (h : EvAP ta σ H fun vs H => ∃ p, vs = [.bl e, p] ∧ IsS K [] p H) : EvP (tMakeL i C (spChInit K C) E ta) σ H (IsCh K C e) := fun H1 e1 Q q =>
  ⟨hσ, ep_mkCh h H1 e1 Q q⟩
theorem eap_newE {K : PySem.W.Frag} {σ : L2.St} {H : Hp} {tb tp : TE} {e : Bool} (h1 : Ev tb σ H (.bl e)) (h2 : ∀ H1, Ex H H1 → EvP tp σ H1 (IsS K [])) : EvAP (tCons tb (tCons tp tNil)) σ H fun vs H => ∃ p, vs = [.bl e, p] ∧ IsS K [] p H :=
  eap_cons (P1 := fun v _ => v = .bl e) (fun _ _ _ _ z => z) (Ev.toP h1 fun _ _ => rfl) fun v H1 e1 ev => by
    subst ev
    exact eap_one (EvP.imp (h2 H1 e1) fun p H2 e2 hp => ⟨p, rfl, hp⟩)
theorem ep_nil {K : PySem.W.Frag} {σ : L2.St} {H : Hp} : EvP (tLst tNil) σ H (IsS K []) := fun H1 e1 Q q => el_lst ea_nil (Nat.zero_le _) H1 e1 Q fun p H2 hp e2 h2 => q _ H2 e2 ⟨p, rfl, .inl (sq_of h2)⟩
def spEvery (K : PySem.W.Frag) (C : Addr) (e : Bool) : Sp := fun vs H Q _ => vs = [.ref C] ∧ ∀ v H', Ex H H' → IsCh K C e v H' → Q v H'
def spOf1 (K : PySem.W.Frag) (C : Addr) (e : Bool) : Sp := fun vs H Q _ => ∃ n : Int, vs = [.ref C, .int n] ∧ n.natAbs = 1 ∧ ∀ v H', Ex H H' → IsCh K C e v H' → Q v H'
def spInv (K : PySem.W.Frag) (C : Addr) : Sp := fun vs H Q _ => ∃ x e, vs = [x] ∧ IsCh K C e x H ∧ ∀ v H', Ex H H' → IsCh K C (!e) v H' → Q v H'
def spOr (K : PySem.W.Frag) (C : Addr) : Sp := fun vs H Q _ => ∃ x y e e', vs = [x, y] ∧ IsCh K C e x H ∧ IsCh K C e' y H ∧ ∀ v H', Ex H H' → IsCh K C (e || e') v H' → Q v H'
def spShared (K : PySem.W.Frag) (C : Addr) : Sp := fun vs H Q _ => ∃ x y e e', vs = [x, y] ∧ IsCh K C e x H ∧ IsCh K C e' y H ∧ ∀ v H', Ex H H' → IsS K [] v H' → Q v H'
def spPD (K : PySem.W.Frag) : Sp := fun vs H Q _ => ∃ n : Int, vs = [.int n] ∧ n.natAbs = 1 ∧ ∀ v H', Ex H H' → IsL K [] v H' → Q v H'
section
variable {P : Program} {w : World} {K : PySem.W.Frag} {mg : Str → Option Value} {base : Heap} {C : Addr}
theorem ev_chE {σ : L2.St} {H : Hp} {te : TE} {v : V} {e : Bool} (CC : ChC K C) (h : IsCh K C e v H) (he : Ev te σ H v) : Ev (tFld K te "endless") σ H (.bl e) := by
  obtain ⟨a, dx, t, rfl, ha, ht⟩ := h
  exact ev_fld he ha CC.cl CC.nE (cfs_e _ _)
theorem ev_chP {σ : L2.St} {H : Hp} {te : TE} {v : V} {e : Bool} (CC : ChC K C) (h : IsCh K C e v H) (he : Ev te σ H v) : ∃ t, Ev (tFld K te "primes") σ H (.ref t) ∧ SqT K H t [] := by
  obtain ⟨a, dx, t, rfl, ha, ht⟩ := h
  exact ⟨t, ev_fld he ha CC.cl CC.nP (cfs_p _ _), ht⟩
theorem c_PD (T : DefOk K mg "prime_divisors" s_prime_divisors ["n"]) (tA : mg "abs" = none) : Clb P w K mg base CX0 "prime_divisors" 1 ["n"] (spPD K) := by
  obtain ⟨f, fd, F, gm, b⟩ := T.ex
  refine ⟨f, fd, F.ok sc_prime_divisors (fun vs H Q E h => ?_) (fun cdv A outer s H vs Q E hr h => ?_), gm, F.kp, b⟩
  · obtain ⟨_, rfl, _⟩ := h
    rfl
  · obtain ⟨n, rfl, hn, q⟩ := h
    have nd := sc_prime_divisors.nd
    refine ⟨_, (pss_cons (ps_if (pt_cmpR op_eq (pv 0) pe_int (nomark _))
        (pss_one ps_never)
        pss_nil)
      (pss_cons (ps_set (i := 1) nd rfl (Or.inl rfl) (pe_lst pa_nil))
      (pss_cons (ps_set (i := 2) nd rfl (Or.inl rfl) (pe_callB call_abs (by rfl) tA (by decide +kernel) (pa_cons (pv 0) pa_nil)))
      (pss_cons (ps_set (i := 3) nd rfl (Or.inl rfl) pe_int)
      (pss_cons (ps_while PassesOwn.never (pt_cmpR op_le (pe_op op_mul (pv 3) (pv 3)) (pv 2) (nomark _))
        (pss_cons (ps_if (pt_cmpR op_eq (pe_op op_modN (pv 2) (pv 3)) pe_int (nomark _))
          (pss_cons (ps_expr (pe_bm PySem.F.plainAttrs_list PySem.F.slot_list_append PySem.F.type_list_append mt_append (pv 1) (pa_cons (pv 3) pa_nil)))
          (pss_one (ps_while PassesOwn.never (pt_cmpR op_eq (pe_op op_modN (pv 2) (pv 3)) pe_int (nomark _))
            (pss_one (ps_set (i := 2) nd rfl (Or.inl rfl) (pe_op op_fdivN (pv 2) (pv 3)))))))
          pss_nil)
        (pss_one (ps_aug (i := 3) nd rfl (Or.inl rfl) pe_int ip_add))))
      (pss_cons (ps_if (pt_cmpR op_gt (pv 2) pe_int (nomark _))
        (pss_one (ps_expr (pe_bm PySem.F.plainAttrs_list PySem.F.slot_list_append PySem.F.type_list_append mt_append (pv 1) (pa_cons (pv 2) pa_nil))))
        pss_nil)
      (pss_one (ps_ret (pv 1))))))))), ?_⟩
    refine q_when (b := false) (et_is (et_test (ev_op (ev_var rfl) ev_c (rv_eq rfl))) ?_) (fun hb => by cases hb) (fun _ H1 e1 => ?_)
    · exact decide_eq_false (fun z => by injection z with z; rw [z] at hn; cases hn)
    refine q_asgL (el_lst ea_nil (Nat.zero_le _)) fun l H2 hl e2 h2 => ?_
    refine q_asg (ev_abs (ev_var rfl)) fun H3 e3 => ?_
    rw [hn]
    refine q_asg ev_c fun H4 e4 => ?_
    refine q_while (fun m σ' H' => σ' = [some (.int n), some (.ref l), some (.int 1), some (.int 2)] ∧ Ex H2 H') 0 ⟨rfl, e3.trans e4⟩ fun m σ' H' ⟨eσ, eH⟩ => ?_
    subst eσ
    refine ⟨false, et_test (ev_op (ev_op (ev_var rfl) (ev_var rfl) (rv_I (.inl ⟨by decide, by decide⟩))) (ev_var rfl) rv_I0), (fun hb => by cases hb), fun _ H5 e5 => ?_⟩
    refine q_when (b := false) (et_test (ev_op (ev_var rfl) ev_c rv_I0)) (fun hb => by cases hb) (fun _ H6 e6 => ?_)
    exact s_ret (ev_var rfl) fun H7 e7 => q _ _ ((e1.trans e2).trans (((eH.trans e5).trans e6).trans e7)) ⟨l, rfl, sq_of ((((eH.trans e5).trans e6).trans e7) _ _ h2)⟩
theorem c_every (T : CmOk K C "every" "Chars.every" s_Chars_every ["cls"]) (C_C : KClb P w K mg base CX0 C "Chars" 2 ["self", "endless", "primes"] (spChInit K C)) : CmClb P w K mg base CX0 C "every" 4 (spEvery K C true) := by
  obtain ⟨pp, g, mc, fd, rd, cm, F, b⟩ := T.ex
  refine .of rd cm b (F.ok sc_Chars_every (fun vs H Q E h => ?_) (fun cdv A outer s H vs Q E hr h => ?_))
  · obtain ⟨rfl, _⟩ := h
    rfl
  · obtain ⟨rfl, q⟩ := h
    have nd := sc_Chars_every.nd
    refine ⟨_, (pss_one (ps_ret (pe_makL (i := 0) C_C hr (by rfl) (.inl rfl) pass0 (pa_cons pe_bl (pa_cons (pe_lst pa_nil) pa_nil))))), ?_⟩
    exact s_retP (ep_mkChL rfl (eap_newE ev_c fun _ _ => ep_nil)) fun v H1 e1 h => q v H1 e1 h
theorem c_none (T : CmOk K C "none" "Chars.none" s_Chars_none ["cls"]) (C_C : KClb P w K mg base CX0 C "Chars" 2 ["self", "endless", "primes"] (spChInit K C)) : CmClb P w K mg base CX0 C "none" 4 (spEvery K C false) := by
  obtain ⟨pp, g, mc, fd, rd, cm, F, b⟩ := T.ex
  refine .of rd cm b (F.ok sc_Chars_none (fun vs H Q E h => ?_) (fun cdv A outer s H vs Q E hr h => ?_))
  · obtain ⟨rfl, _⟩ := h
    rfl
  · obtain ⟨rfl, q⟩ := h
    have nd := sc_Chars_none.nd
    refine ⟨_, (pss_one (ps_ret (pe_makL (i := 0) C_C hr (by rfl) (.inl rfl) pass0 (pa_cons pe_bl (pa_cons (pe_lst pa_nil) pa_nil))))), ?_⟩
    exact s_retP (ep_mkChL rfl (eap_newE ev_c fun _ _ => ep_nil)) fun v H1 e1 h => q v H1 e1 h
theorem c_zero_of (T : CmOk K C "zero_of" "Chars.zero_of" s_Chars_zero_of ["cls", "n"]) (C_C : KClb P w K mg base CX0 C "Chars" 2 ["self", "endless", "primes"] (spChInit K C)) (C_D : Clb P w K mg base CX0 "prime_divisors" 1 ["n"] (spPD K)) : CmClb P w K mg base CX0 C "zero_of" 4 (spOf1 K C false) := by
  obtain ⟨pp, g, mc, fd, rd, cm, F, b⟩ := T.ex
  refine .of rd cm b (F.ok sc_Chars_zero_of (fun vs H Q E h => ?_) (fun cdv A outer s H vs Q E hr h => ?_))
  · obtain ⟨_, rfl, _⟩ := h
    rfl
  · obtain ⟨n, rfl, hn, q⟩ := h
    have nd := sc_Chars_zero_of.nd
    refine ⟨_, (pss_cons (ps_if (pt_cmpR op_eq (pv 1) pe_int (nomark _))
        (pss_one (ps_ret (pe_makL (i := 0) C_C hr (by rfl) (.inl rfl) pass0 (pa_cons pe_bl (pa_cons (pe_lst pa_nil) pa_nil)))))
        pss_nil)
      (pss_one (ps_ret (pe_makL (i := 0) C_C hr (by rfl) (.inl rfl) pass0 (pa_cons pe_bl (pa_cons (pe_cal C_D (hr.mono (by decide)) (by rfl) pass0 (pa_cons (pv 1) pa_nil)) pa_nil)))))), ?_⟩
    refine q_when (b := false) (et_is (et_test (ev_op (ev_var rfl) ev_c (rv_eq rfl))) ?_) (fun hb => by cases hb) (fun _ H1 e1 => ?_)
    · exact decide_eq_false (fun z => by injection z with z; rw [z] at hn; cases hn)
    refine s_retP (ep_mkChL rfl (eap_newE ev_c fun H2 e2 => EvP.imp (ep_call (PA := fun vs _ => vs = [.int n]) (EvA.toP (ea_cons (ev_var rfl) ea_nil) fun _ _ => rfl) fun vs H3 e3 ev Q' q' E' => ⟨n, ev, hn, fun v H4 e4 hv => q' v H4 e4 hv⟩) fun v H3 e3 hv => IsL.s hv)) fun v H2 e2 h => q v H2 (e1.trans e2) h
theorem c_invert (T : MethOk K C "__invert__" "Chars.__invert__" s_Chars_invert ["self"]) (CC : ChC K C) (C_C : KClb P w K mg base CX0 C "Chars" 2 ["self", "endless", "primes"] (spChInit K C)) : MClb P w K mg base CX0 C "__invert__" 4 ["self"] (spInv K C) := by
  obtain ⟨f, fd, F, M, b⟩ := T.ex
  refine ⟨f, fd, F.ok sc_Chars_invert (fun vs H Q E h => ?_) (fun cdv A outer s H vs Q E hr h => ?_), M, b⟩
  · obtain ⟨_, _, rfl, _⟩ := h
    rfl
  · obtain ⟨x, e, rfl, hx, q⟩ := h
    have nd := sc_Chars_invert.nd
    refine ⟨_, (pss_one (ps_ret (pe_mak C_C hr (by rfl) pass0 (pa_cons (pe_not (pe_fldK (K := K) (pv 0))) (pa_cons (pe_fldK (K := K) (pv 0)) pa_nil))))), ?_⟩
    obtain ⟨t, hp, ht⟩ := ev_chP (σ := [some x]) (te := tVar 0) CC hx (ev_var rfl)
    exact s_retP (ep_mkCh (eap_newE (ev_notV (ev_chE CC hx (ev_var rfl))) fun H1 e1 => Ev.toP (hp.mono e1) fun H2 e2 => ⟨t, rfl, .inr (ex_t (e1.trans e2) ht)⟩)) fun v H1 e1 h => q v H1 e1 h
theorem ep_inv {σ : L2.St} {H : Hp} {te : TE} {e : Bool} {E : XK} (h : EvP te σ H (IsCh K C e)) : EvP (tUn (rOwn1 C (spInv K C) E) te) σ H (IsCh K C (!e)) := fun H1 e1 Q q =>
  h H1 e1 _ fun v H2 e2 hv => by
    obtain ⟨a, dx, t, rfl, ha, ht⟩ := id hv
    exact ⟨a, dx, _, rfl, ha, .ref a, e, rfl, hv, fun v H3 e3 h3 => q v H3 (e2.trans e3) h3⟩
theorem c_unit_of (T : CmOk K C "unit_of" "Chars.unit_of" s_Chars_unit_of ["cls", "n"]) (C_Z : CmClb P w K mg base CX0 C "zero_of" 4 (spOf1 K C false)) (C_I : MClb P w K mg base CX0 C "__invert__" 4 ["self"] (spInv K C)) : CmClb P w K mg base CX0 C "unit_of" 5 (spOf1 K C true) := by
  obtain ⟨pp, g, mc, fd, rd, cm, F, b⟩ := T.ex
  refine .of rd cm b (F.ok sc_Chars_unit_of (fun vs H Q E h => ?_) (fun cdv A outer s H vs Q E hr h => ?_))
  · obtain ⟨_, rfl, _⟩ := h
    rfl
  · obtain ⟨n, rfl, hn, q⟩ := h
    have nd := sc_Chars_unit_of.nd
    refine ⟨_, (pss_one (ps_ret (pe_un (un_invOwn C_I hr pass0) (pe_cm (pv 0) C_Z hr pass0 (pa_cons (pv 1) pa_nil))))), ?_⟩
    refine s_retP (ep_inv (e := false) fun H1 e1 Q' q' => ?_) fun v H1 e1 h => q v H1 e1 h
    refine ⟨_, rfl, rfl, (ea_cons (ev_var rfl) ea_nil : EvA (tCons (tVar 1) tNil) [some (.ref C), some (.int n)] H1 [.int n]) H1 (Ex.refl _) _ fun H2 e2 => ⟨n, rfl, hn, fun v H3 e3 h3 => q' v H3 (e2.trans e3) h3⟩⟩
theorem c_shared (T : DefOk K mg "shared" s_shared ["first", "second"]) (CC : ChC K C) : Clb P w K mg base CX0 "shared" 1 ["first", "second"] (spShared K C) := by
  obtain ⟨f, fd, F, gm, b⟩ := T.ex
  refine ⟨f, fd, F.ok sc_shared (fun vs H Q E h => ?_) (fun cdv A outer s H vs Q E hr h => ?_), gm, F.kp, b⟩
  · obtain ⟨_, _, _, _, rfl, _⟩ := h
    rfl
  · obtain ⟨x, y, e, e', rfl, hx, hy, q⟩ := h
    have nd := sc_shared.nd
    refine ⟨_, (pss_cons (ps_if (PW.pt (pw_and (pt_val (pe_fldK (K := K) (pv 0))) (pw_and1 (pt_val (pe_fldK (K := K) (pv 1))))))
        (pss_one (ps_ret (pe_op (op_cat0 (K := K)) (pe_fldK (K := K) (pv 0)) (pe_fldK (K := K) (pv 1)))))
        pss_nil)
      (pss_cons (ps_if (pt_val (pe_fldK (K := K) (pv 0)))
        (pss_one (ps_ret (pe_lc (own := [("p", 2)]) (by rfl) nd (pi_tupK (K := K) (pe_fldK (K := K) (pv 1))) (blkOk_by (own := [("p", 2)]) (by kernel_rfl)) (fun _ _ _ _ _ => (pg_name (i := 2) nd rfl (Or.inl rfl))) (fun _ _ _ _ _ => pts_one (pt_cmpR (op_notInK (K := K)) (pv 2) (pe_fldK (K := K) (pv 0)) (by rfl))) (fun _ _ _ _ _ => (pv 2)))))
        pss_nil)
      (pss_cons (ps_if (pt_val (pe_fldK (K := K) (pv 1)))
        (pss_one (ps_ret (pe_lc (own := [("p", 2)]) (by rfl) nd (pi_tupK (K := K) (pe_fldK (K := K) (pv 0))) (blkOk_by (own := [("p", 2)]) (by kernel_rfl)) (fun _ _ _ _ _ => (pg_name (i := 2) nd rfl (Or.inl rfl))) (fun _ _ _ _ _ => pts_one (pt_cmpR (op_notInK (K := K)) (pv 2) (pe_fldK (K := K) (pv 1)) (by rfl))) (fun _ _ _ _ _ => (pv 2)))))
        pss_nil)
      (pss_one (ps_ret (pe_lc (own := [("p", 2)]) (by rfl) nd (pi_tupK (K := K) (pe_fldK (K := K) (pv 0))) (blkOk_by (own := [("p", 2)]) (by kernel_rfl)) (fun _ _ _ _ _ => (pg_name (i := 2) nd rfl (Or.inl rfl))) (fun _ _ _ _ _ => pts_one (pt_cmpR (op_inK (K := K)) (pv 2) (pe_fldK (K := K) (pv 1)) (by rfl))) (fun _ _ _ _ _ => (pv 2)))))))), ?_⟩
    have hxE : ∀ {σ : L2.St} {H1 : Hp}, Ex H H1 → σ[0]? = some (some x) → Ev (tFld K (tVar 0) "endless") σ H1 (.bl e) := fun e1 hσ => ev_chE CC (IsCh.m _ _ _ e1 hx) (ev_var hσ)
    have hyE : ∀ {σ : L2.St} {H1 : Hp}, Ex H H1 → σ[1]? = some (some y) → Ev (tFld K (tVar 1) "endless") σ H1 (.bl e') := fun e1 hσ => ev_chE CC (IsCh.m _ _ _ e1 hy) (ev_var hσ)
    obtain ⟨t1, hp1, ht1⟩ := ev_chP (σ := [some x, some y, none]) (te := tVar 0) CC hx (ev_var rfl)
    obtain ⟨t2, hp2, ht2⟩ := ev_chP (σ := [some x, some y, none]) (te := tVar 1) CC hy (ev_var rfl)
    refine q_when (b := e && e') (et_and (et_test (hxE (Ex.refl _) rfl)) fun _ => et_test (hyE (Ex.refl _) rfl)) (fun hb H1 e1 => ?_) (fun hb H1 e1 => ?_)
    · refine s_ret (v := .ref t2) (ev_op (hp1.mono e1) (hp2.mono e1) (fun H2 e2 Q' q' => ⟨t1, t2, rfl, rfl, ex_t (e1.trans e2) ht1, ex_t (e1.trans e2) ht2, q' H2 (Ex.refl _)⟩)) fun H2 e2 => q _ _ (e1.trans e2) ⟨t2, rfl, .inr (ex_t (e1.trans e2) ht2)⟩
    refine q_when (b := e) (et_test (hxE e1 rfl)) (fun hb H2 e2 => ?_) (fun hb H2 e2 => ?_)
    · exact s_retL (EvL.cast (el_lcT (xs := []) (fun _ => true) (fun _ => .non) (hp2.mono (e1.trans e2)) (ex_t (e1.trans e2) ht2) (by decide) (fun x => rfl) (fun i z H3 e3 hz => by cases hz) (fun i z H3 e3 hz => by cases hz)) (ys := []) rfl) fun p H3 hp e3 h3 => q _ _ ((e1.trans e2).trans e3) ⟨p, rfl, .inl (sq_of h3)⟩
    refine q_when (b := e') (et_test (hyE (e1.trans e2) rfl)) (fun hb H3 e3 => ?_) (fun hb H3 e3 => ?_)
    · exact s_retL (EvL.cast (el_lcT (xs := []) (fun _ => true) (fun _ => .non) (hp1.mono ((e1.trans e2).trans e3)) (ex_t ((e1.trans e2).trans e3) ht1) (by decide) (fun x => rfl) (fun i z H3 e3 hz => by cases hz) (fun i z H3 e3 hz => by cases hz)) (ys := []) rfl) fun p H4 hp e4 h4 => q _ _ (((e1.trans e2).trans e3).trans e4) ⟨p, rfl, .inl (sq_of h4)⟩
    · exact s_retL (EvL.cast (el_lcT (xs := []) (fun _ => true) (fun _ => .non) (hp1.mono ((e1.trans e2).trans e3)) (ex_t ((e1.trans e2).trans e3) ht1) (by decide) (fun x => rfl) (fun i z H3 e3 hz => by cases hz) (fun i z H3 e3 hz => by cases hz)) (ys := []) rfl) fun p H4 hp e4 h4 => q _ _ (((e1.trans e2).trans e3).trans e4) ⟨p, rfl, .inl (sq_of h4)⟩
theorem c_or (T : MethOk K C "__or__" "Chars.__or__" s_Chars_or ["self", "other"]) (CC : ChC K C) (C_C : KClb P w K mg base CX0 C "Chars" 2 ["self", "endless", "primes"] (spChInit K C)) (C_S : Clb P w K mg base CX0 "shared" 1 ["first", "second"] (spShared K C)) (C_I : MClb P w K mg base CX0 C "__invert__" 4 ["self"] (spInv K C)) :
    MClb P w K mg base CX0 C "__or__" 5 ["self", "other"] (spOr K C) := by
  obtain ⟨f, fd, F, M, b⟩ := T.ex
  refine ⟨f, fd, F.ok sc_Chars_or (fun vs H Q E h => ?_) (fun cdv A outer s H vs Q E hr h => ?_), M, b⟩
  · obtain ⟨_, _, _, _, rfl, _⟩ := h
    rfl
  · obtain ⟨x, y, e, e', rfl, hx, hy, q⟩ := h
    have nd := sc_Chars_or.nd
    refine ⟨_, (pss_one (ps_ret (pe_mak C_C (hr.mono (by decide)) (by rfl) pass0 (pa_cons (pe_or (pe_fldK (K := K) (pv 0)) (pe_one (pe_fldK (K := K) (pv 1)))) (pa_cons (pe_cal C_S (hr.mono (by decide)) (by rfl) pass0 (pa_cons (pe_un (un_invOwn C_I hr pass0) (pv 0)) (pa_cons (pe_un (un_invOwn C_I hr pass0) (pv 1)) pa_nil))) pa_nil))))), ?_⟩
    refine s_retP (ep_mkCh (eap_newE (ev_orV (ev_chE CC hx (ev_var rfl)) fun _ => ev_chE CC hy (ev_var rfl)) fun H1 e1 => ?_)) fun v H1 e1 h => q v H1 e1 h
    refine ep_call (PA := fun vs H => ∃ a b, vs = [a, b] ∧ IsCh K C (!e) a H ∧ IsCh K C (!e') b H) (eap_cons IsCh.m (ep_inv (Ev.toP (ev_var rfl) fun H2 e2 => IsCh.m _ _ _ (e1.trans e2) hx)) fun a H2 e2 ha => eap_one (EvP.imp (ep_inv (Ev.toP (ev_var rfl) fun H3 e3 => IsCh.m _ _ _ ((e1.trans e2).trans e3) hy)) fun b H3 e3 hb => ⟨a, b, rfl, IsCh.m _ _ _ e3 ha, hb⟩)) fun vs H2 e2 ⟨a, b, ev, ha, hb⟩ Q' q' E' => ⟨a, b, _, _, ev, ha, hb, fun v H3 e3 hv => q' v H3 e3 hv⟩
end
end Ef
end
section
/-! W15: column_part, independent, all_columns, changes -/
namespace Ef
open PySem PySem.Spec PyProof.Rows L2 Evl
theorem el_listRg1 {σ : L2.St} {H : Hp} {te : TE} {n : Nat} (h : Ev te σ H (.int (n : Int))) (hn : n ≤ 100000) : EvL (tLstRg (tRg1 te)) σ H (Ints (natsI (List.range n))) := fun H1 e Q q =>
  h H1 e _ fun H2 e2 => ⟨(n : Int), rfl, RgOk.of_le (Int.le_refl 0) (by omega) (by omega) (by omega), fun p hp => by
    have e3 : rgV 0 (n : Int) = Ints (natsI (List.range n)) := by
      unfold rgV natsI
      show List.map _ _ = List.map _ (List.map _ _)
      rw [List.map_map, show ((n : Int) - 0).toNat = n by omega]
      refine List.map_congr_left fun i _ => ?_
      show V.int (0 + (i : Int)) = V.int (i : Int)
      rw [Int.zero_add]
    rw [e3]
    exact q p _ (fresh_back e2 hp) (e2.trans (Ex.new hp)) upd_same⟩
def spColPart (K : PySem.W.Frag) (CM : Addr) : Sp := fun vs H Q _ => ∃ (m c : V) (w : Nat) (M : IM) (Cs : List Nat), vs = [m, c] ∧ IsMat K CM w M m H ∧ Wid w M ∧ IsL K (Ints (natsI Cs)) c H ∧ (∀ j ∈ Cs, j < w) ∧ 0 < M.length ∧ M.length ≤ 1000 ∧ Cs.length ≤ 1000 ∧
  ∀ m' H', Ex H H' → IsMat K CM Cs.length (partM M (List.range M.length) Cs) m' H' → Q m' H'
/-- the columns Cs are told of: fewer divisors than columns, or the last one is a unit -/
def IndOk (M : IM) (Cs : List Nat) : Prop := ∃ (Jv : Nat → IM → IM → Prop) (Iv : Nat → Nat → IM → IM → Prop), DiagInv M.length Cs.length Jv Iv ∧ Jv 0 (partM M (List.range M.length) Cs) (unitM Cs.length) ∧
  ∀ N L, Jv (min M.length Cs.length) N L → Shp M.length Cs.length N → ((diagL (min M.length Cs.length) N).filter fun z => decide (z ≠ 0)).length < Cs.length ∨ ∃ d, ((diagL (min M.length Cs.length) N).filter fun z => decide (z ≠ 0)).getLast? = some d ∧ d.natAbs = 1
def spIndep (K : PySem.W.Frag) (CM C : Addr) : Sp := fun vs H Q _ => ∃ (m c : V) (w : Nat) (M : IM) (Cs : List Nat), vs = [m, c] ∧ IsMat K CM w M m H ∧ Wid w M ∧ IsL K (Ints (natsI Cs)) c H ∧ (∀ j ∈ Cs, j < w) ∧ 0 < M.length ∧ M.length ≤ 1000 ∧ Cs.length ≤ 1000 ∧
  (Cs ≠ [] → IndOk M Cs) ∧ ∀ v e H', Ex H H' → IsCh K C e v H' → Q v H'
def allCh (w n : Nat) : List (List Nat) := (List.range n).flatMap fun s => chs w s
def spAllCols (K : PySem.W.Frag) (CM : Addr) : Sp := fun vs H Q _ => ∃ (m : V) (w : Nat) (M : IM), vs = [m] ∧ IsMat K CM w M m H ∧ w ≤ 7 ∧
  ∀ a rs H', Ex H H' → RowsAt H H' a rs ((allCh w (w + 1)).map natsI) → Q (.ref a) H'
def spChanges (K : PySem.W.Frag) (CM : Addr) : Sp := fun vs H Q _ => ∃ (m : V) (w : Nat) (M : IM), vs = [m] ∧ IsMat K CM w M m H ∧ Wid w M ∧ 0 < M.length ∧ M.length ≤ 1000 ∧ w ≤ 7 ∧
  (∀ Cs ∈ allCh w (w + 1), (∀ j ∈ Cs, j < w) ∧ Cs.length ≤ 1000 ∧ (Cs ≠ [] → IndOk M Cs)) ∧ (allCh w (w + 1)).length ≤ 40000 ∧ ∀ v H', Ex H H' → IsL K [] v H' → Q v H'
theorem ev_if_raw {σ : L2.St} {H : Hp} {t : TT} {ta tb : TE} {b : Bool} {Q : VK} (h : EvT t σ H b) (h1 : b = true → ∀ H1, Ex H H1 → ta σ H1 Q) (h2 : b = false → ∀ H1, Ex H H1 → tb σ H1 Q) : tIf t ta tb σ H Q := h H (Ex.refl H) _ fun H1 e1 => by
  cases b with
  | true => exact h1 rfl H1 e1
  | false => exact h2 rfl H1 e1
theorem cons_at {σ : L2.St} {H : Hp} {te : TE} {tr : TA} {Q : List V → Hp → Prop} (h : te σ H fun x H1 => tr σ H1 fun xs H2 => Q (x :: xs) H2) : tCons te tr σ H Q := h
theorem call_at {σ : L2.St} {H : Hp} {sp : Sp} {E : XK} {ta : TA} {vs : List V} {Q : VK} (h : EvA ta σ H vs) (k : ∀ H1, Ex H H1 → sp vs H1 Q E) : tCall sp [] E ta σ H Q := h H (Ex.refl H) _ fun H1 e1 => by
  rw [List.append_nil]
  exact k H1 e1
abbrev s_column_part : Stmt := topS 40
theorem sc_column_part : FnScope ["matrix", "columns"] ["matrix", "columns"] (defScope s_column_part) := ⟨rfl, rfl, rfl, by decide +kernel, rfl, by decide +kernel, by decide +kernel⟩
abbrev s_independent : Stmt := topS 41
theorem sc_independent : FnScope ["matrix", "columns", "numbers"] ["matrix", "columns"] (defScope s_independent) := ⟨rfl, rfl, rfl, by decide +kernel, rfl, by decide +kernel, by decide +kernel⟩
abbrev s_all_columns : Stmt := topS 42
theorem sc_all_columns : FnScope ["matrix", "rows", "size"] ["matrix"] (defScope s_all_columns) := ⟨rfl, rfl, rfl, by decide +kernel, rfl, by decide +kernel, by decide +kernel⟩
abbrev s_changes : Stmt := topS 43
theorem sc_changes : FnScope ["matrix", "missing", "columns", "found"] ["matrix"] (defScope s_changes) := ⟨rfl, rfl, rfl, by decide +kernel, rfl, by decide +kernel, by decide +kernel⟩
section
variable {P : Program} {w : World} {K : PySem.W.Frag} {mg : Str → Option Value} {base : Heap} {C CM : Addr}
theorem c_column_part (T : DefOk K mg "column_part" s_column_part ["matrix", "columns"]) (MC : MatC K CM) (C_P : MClb P w K mg base CX0 CM "part" 3 ["self", "rows", "columns"] (spPart K CM)) (tl : mg "list" = none) (tR : mg "range" = none) :
    Clb P w K mg base CX0 "column_part" 4 ["matrix", "columns"] (spColPart K CM) := by
  obtain ⟨f, fd, F, gm, b⟩ := T.ex
  refine ⟨f, fd, F.ok sc_column_part (fun vs H Q E h => ?_) (fun cdv A outer s H vs Q E hr h => ?_), gm, F.kp, b⟩
  · obtain ⟨_, _, _, _, _, rfl, _⟩ := h
    rfl
  · obtain ⟨m, c, wd, M, Cs, rfl, hm, hwid, hc, hj, h0, hl, hcl, q⟩ := h
    have nd := sc_column_part.nd
    refine ⟨_, (pss_one (ps_ret (pe_mth (pv 0) MC.cl C_P hr pass0 (pa_cons (pe_listRg rfl (by rfl) tl (prg_1 (by rfl) tR (pe_fldK (K := K) (pv 0)))) (pa_cons (pv 1) pa_nil))))), ?_⟩
    obtain ⟨am, dm, pm, rfl, ha, hT⟩ := id hm
    refine ⟨_, rfl, am, dm, _, rfl, ha, by kernel_rfl, ?_⟩
    refine eap_cons (P := fun vs H1 => ∃ r, vs = [r, c] ∧ IsL K (Ints (natsI (List.range M.length))) r H1 ∧ IsL K (Ints (natsI Cs)) c H1) (P1 := IsL K (Ints (natsI (List.range M.length)))) IsL.m (fun H1 e1 Q' q' => el_listRg1 (ev_matH MC hm (ev_var rfl)) (by omega) H1 e1 Q' fun p H2 hp e2 h2 => q' _ H2 e2 ⟨p, rfl, sq_of h2⟩)
      (fun r H1 e1 hr1 => eap_one (Ev.toP (ev_var rfl) fun H2 e2 => ⟨r, rfl, IsL.m _ _ _ e2 hr1, IsL.m _ _ _ (e1.trans e2) hc⟩)) H (Ex.refl _) _ fun vs H1 e1 ⟨r, ev, hr1, hc1⟩ => ?_
    subst ev
    refine ⟨.ref am, r, c, wd, M, List.range M.length, Cs, rfl, IsMat.m _ _ _ e1 hm, hwid, hr1, hc1, fun i hi => List.mem_range.mp hi, hj, fun z => ?_, by rw [List.length_range]; exact hl, hcl, fun m' H2 e2 h2 => q m' H2 (e1.trans e2) h2⟩
    exact absurd (List.range_eq_nil.mp z) (by omega)
theorem c_independent (T : DefOk K mg "independent" s_independent ["matrix", "columns"]) (gC : mg "Chars" = some (.ref C)) (tL : mg "len" = none) (C_P : Clb P w K mg base CX0 "column_part" 4 ["matrix", "columns"] (spColPart K CM)) (C_D : Clb P w K mg base CX0 "divisors" 8 ["matrix"] (spDivisors K CM))
    (C_E : CmClb P w K mg base CX0 C "every" 4 (spEvery K C true)) (C_N : CmClb P w K mg base CX0 C "none" 4 (spEvery K C false)) (C_U : CmClb P w K mg base CX0 C "unit_of" 5 (spOf1 K C true)) :
    Clb P w K mg base CX0 "independent" 9 ["matrix", "columns"] (spIndep K CM C) := by
  obtain ⟨f, fd, F, gm, b⟩ := T.ex
  refine ⟨f, fd, F.ok sc_independent (fun vs H Q E h => ?_) (fun cdv A outer s H vs Q E hr h => ?_), gm, F.kp, b⟩
  · obtain ⟨_, _, _, _, _, rfl, _⟩ := h
    rfl
  · obtain ⟨m, c, wd, M, Cs, rfl, hm, hwid, hc, hj, h0, hl, hcl, hI, q⟩ := h
    have nd := sc_independent.nd
    refine ⟨_, (pss_cons (ps_if (pt_cmpR op_eq (pe_callB (call_lenK (K := K)) (by rfl) tL PySem.boot_len (pa_cons (pv 1) pa_nil)) pe_int (nomark _))
        (pss_one (ps_ret (pe_cm0 (pe_cls gC) C_E (hr.mono (by decide)) pass0)))
        pss_nil)
      (pss_cons (ps_set (i := 2) nd rfl (Or.inl rfl) (pe_cal C_D hr (by rfl) pass0 (pa_cons (pe_cal C_P (hr.mono (by decide)) (by rfl) pass0 (pa_cons (pv 0) (pa_cons (pv 1) pa_nil))) pa_nil)))
      (pss_cons (ps_if (pt_cmpR op_lt (pe_callB (call_lenK (K := K)) (by rfl) tL PySem.boot_len (pa_cons (pv 2) pa_nil)) (pe_callB (call_lenK (K := K)) (by rfl) tL PySem.boot_len (pa_cons (pv 1) pa_nil)) (nomark _))
        (pss_one (ps_ret (pe_cm0 (pe_cls gC) C_N (hr.mono (by decide)) pass0)))
        pss_nil)
      (pss_one (ps_ret (pe_cm (pe_cls gC) C_U (hr.mono (by decide)) pass0 (pa_cons (pe_ix (ix_listK (K := K)) (pv 2) (pe_un un_neg pe_int) (fun _ _ => rfl)) pa_nil))))))), ?_⟩
    refine q_when (b := decide ((Cs.length : Int) = 0)) (et_is (et_test (ev_op (ev_lenL (xs := Ints (natsI Cs)) (ev_var rfl) hc) ev_c (rv_eq rfl))) ?_) (fun hb H1 e1 => ?_) (fun hb H1 e1 => ?_)
    · rw [List.length_map, natsI, List.length_map]
      exact decide_eq_decide.mpr ⟨fun z => by injection z, fun z => by rw [z]⟩
    · exact s_retP (P := IsCh K C true) (fun H2 e2 Q' q' => ⟨rfl, rfl, fun v H3 e3 h3 => q' v H3 e3 h3⟩) fun v H2 e2 h2 => q v true H2 (e1.trans e2) h2
    · have hne : Cs ≠ [] := fun z => by
        rw [z] at hb
        exact absurd hb (by decide)
      have hp : 0 < Cs.length := List.length_pos_iff.mpr hne
      obtain ⟨Jv, Iv, DI, J0, hfin⟩ := hI hne
      have lP : (partM M (List.range M.length) Cs).length = M.length := by unfold partM; rw [List.length_map, List.length_range]
      have wP : Wid Cs.length (partM M (List.range M.length) Cs) := fun r hr => by
        unfold partM at hr
        obtain ⟨i, _, rfl⟩ := List.mem_map.mp hr
        exact List.length_map _
      refine q_asgP (P := fun v H => ∃ N L, Jv (min M.length Cs.length) N L ∧ Shp M.length Cs.length N ∧ IsL K (Ints ((diagL (min M.length Cs.length) N).filter fun z => decide (z ≠ 0))) v H) (ep_call (PA := fun vs H => ∃ m', vs = [m'] ∧ IsMat K CM Cs.length (partM M (List.range M.length) Cs) m' H)
        (eap_one (EvP.imp (ep_call (PA := fun vs H => vs = [m, c] ∧ IsMat K CM wd M m H ∧ IsL K (Ints (natsI Cs)) c H) (EvA.toP (ea_cons (ev_var rfl) (ea_cons (ev_var rfl) ea_nil)) fun H2 e2 => ⟨rfl, IsMat.m _ _ _ (e1.trans e2) hm, IsL.m _ _ _ (e1.trans e2) hc⟩) fun vs H2 e2 ⟨ev, hm2, hc2⟩ Q' q' E' => ⟨m, c, wd, M, Cs, ev, hm2, hwid, hc2, hj, h0, hl, hcl, fun m' H3 e3 h3 => q' m' H3 e3 h3⟩) fun m' H2 e2 h2 => ⟨m', rfl, h2⟩))
        fun vs H2 e2 ⟨m', ev, hm2⟩ Q' q' E' => ⟨m', Cs.length, _, Jv, Iv, ev, hm2, wP, by rw [lP]; exact h0, by rw [lP]; exact hl, hp, hcl, by rw [lP]; exact DI, J0, fun v H3 N L e3 hJ sN sL hv => q' v H3 e3 (by rw [lP] at hJ sN hv; exact ⟨N, L, hJ, sN, hv⟩)⟩) fun v H2 e2 ⟨N, L, hJ, sN, hv⟩ => ?_
      have hfin := hfin N L hJ sN
      generalize (diagL (min M.length Cs.length) N).filter (fun z => decide (z ≠ 0)) = ns at *
      refine q_when (b := decide (ns.length < Cs.length)) (et_is (et_test (ev_op (ev_lenL (xs := Ints ns) (ev_var rfl) hv) (ev_lenL (xs := Ints (natsI Cs)) (ev_var rfl) (IsL.m _ _ _ (e1.trans e2) hc)) rv_I0)) ?_) (fun hb2 H3 e3 => ?_) (fun hb2 H3 e3 => ?_)
      · rw [List.length_map, List.length_map, natsI, List.length_map]
        exact decide_eq_decide.mpr (by omega)
      · exact s_retP (P := IsCh K C false) (fun H4 e4 Q' q' => ⟨rfl, rfl, fun v H5 e5 h5 => q' v H5 e5 h5⟩) fun v H4 e4 h4 => q v false H4 (((e1.trans e2).trans e3).trans e4) h4
      · obtain ⟨d, hd, hd1⟩ := hfin.resolve_left (of_decide_eq_false hb2)
        obtain ⟨p, rfl, hs⟩ := IsL.m _ _ _ e3 hv
        have lst : atI (Ints ns) (-1) = some (.int d) := by
          obtain ⟨ini, rfl⟩ := List.getLast?_eq_some_iff.mp hd
          rw [show Ints (ini ++ [d]) = ini.map V.int ++ [V.int d] from by show List.map _ _ = _; rw [List.map_append]; rfl]
          exact atI_last _ _
        refine s_retP (P := IsCh K C true) (fun H4 e4 Q' q' => ⟨rfl, (ea_cons (ev_op (ev_var rfl) (ev_un ev_c ru_neg) (rv_ixL (ex_l e4 hs) lst)) ea_nil : EvA _ _ H4 [.int d]) H4 (Ex.refl _) _ fun H5 e5 => ⟨d, rfl, hd1, fun v H6 e6 h6 => q' v H6 (e5.trans e6) h6⟩⟩) fun v H4 e4 h4 => q v true H4 (((e1.trans e2).trans e3).trans e4) h4
theorem c_all_columns (T : DefOk K mg "all_columns" s_all_columns ["matrix"]) (MC : MatC K CM) (tR : mg "range" = none) (C_C : Clb P w K mg base CX0 "choices" 8 ["many", "size"] (spChoices 8)) : Clb P w K mg base CX0 "all_columns" 9 ["matrix"] (spAllCols K CM) := by
  obtain ⟨f, fd, F, gm, b⟩ := T.ex
  refine ⟨f, fd, F.ok sc_all_columns (fun vs H Q E h => ?_) (fun cdv A outer s H vs Q E hr h => ?_), gm, F.kp, b⟩
  · obtain ⟨_, _, _, rfl, _⟩ := h
    rfl
  · obtain ⟨m, wd, M, rfl, hm, h7, q⟩ := h
    have nd := sc_all_columns.nd
    refine ⟨_, (pss_cons (ps_set (i := 1) nd rfl (Or.inl rfl) (pe_lst pa_nil))
      (pss_cons (ps_for PassesOwn.never rfl (pi_range1 (by rfl) tR (pa_cons (pe_op op_add (pe_fldK (K := K) (pv 0)) pe_int) pa_nil)) (pg_name (i := 2) nd rfl (Or.inl rfl))
        (pss_one (ps_expr (pe_bm PySem.F.plainAttrs_list PySem.F.slot_list_extend PySem.F.type_list_extend mt_extend (pv 1) (pa_cons (pe_cal C_C hr (by rfl) pass0 (pa_cons (pe_fldK (K := K) (pv 0)) (pa_cons (pv 2) pa_nil))) pa_nil)))))
      (pss_one (ps_ret (pv 1))))), ?_⟩
    refine q_asgL (el_lst ea_nil (Nat.zero_le _)) fun a H1 ha e1 h1 => ?_
    refine q_forR1 (n := ((wd + 1 : Nat) : Int)) (ea_cons (ev_is (ev_op (ev_matW MC (IsMat.m _ _ _ e1 hm) (ev_var rfl)) ev_c rv_I0) (by simp)) ea_nil) (by omega)
      (fun i σ' H' => ∃ y2 rs, σ' = [some m, some (.ref a), y2] ∧ Ex H H' ∧ RowsAt H H' a rs ((allCh wd i).map natsI)) (fun H2 e2 => ⟨_, [], rfl, e1.trans e2, ⟨ha, (fun r hr => by cases hr), by simp, inj_nil, e2 _ _ h1, .nil⟩⟩) ?_ ?_
    · rintro i σ' H2 hi ⟨y2, rs, rfl, eH, hR⟩
      have hi8 : i < 8 := by omega
      refine ⟨_, rfl, .inl ⟨rfl, _, sq_of hR.at_⟩, ?_⟩
      refine cons_at (σ := [some m, some (.ref a), some (.int (i : Int))]) (call_at (σ := [some m, some (.ref a), some (.int (i : Int))]) (vs := [.int (wd : Int), .int (i : Int)]) (ea_cons (ev_matW MC (IsMat.m _ _ _ eH hm) (ev_var rfl)) (ea_cons (ev_var rfl) ea_nil)) fun H3 e3 => ?_)
      refine ⟨wd, i, rfl, h7, hi8, by omega, fun b rs2 H4 e4 hB => ?_⟩
      have hR4 := (hR.ex e3).ex e4
      have len7 : ∀ s, s ≤ 7 → (chs wd s).length ≤ 7 ^ 7 := fun s hs => Nat.le_trans (chs_len wd h7 s) (Nat.pow_le_pow_right (by decide) hs)
      have lA : rs.length ≤ 8 * 7 ^ 7 := by
        rw [hR.len, List.length_map]
        have : ∀ k, k ≤ 8 → (allCh wd k).length ≤ k * 7 ^ 7 := by
          intro k
          induction k with
          | zero => intro _; simp [allCh]
          | succ k ih =>
            intro hk
            have := ih (by omega)
            have e : allCh wd (k + 1) = allCh wd k ++ chs wd k := by
              unfold allCh
              rw [List.range_succ, List.flatMap_append]
              simp
            rw [e, List.length_append, Nat.succ_mul]
            exact Nat.add_le_add this (len7 k (by omega))
        exact Nat.le_trans (this i (by omega)) (Nat.mul_le_mul_right _ (by omega))
      have lB : rs2.length ≤ 7 ^ 7 := by
        rw [hB.len, List.length_map]
        exact len7 i (by omega)
      refine ⟨a, b, _, _, rfl, rfl, hR4.at_, hB.at_, ?_, some (.int (i : Int)), rs ++ rs2, rfl, Ex.mut ((eH.trans e3).trans e4) hR.fa, ?_⟩
      · rw [List.length_map, List.length_map, sizeLine_eq]
        rw [show (7 ^ 7 : Nat) = 823543 by decide +kernel] at lA lB
        clear len7
        omega
      · have e : (allCh wd (i + 1)).map natsI = (allCh wd i).map natsI ++ chsI wd i := by
          unfold allCh chsI
          rw [List.range_succ, List.flatMap_append, List.map_append]
          simp
        rw [e]
        exact RowsC.extend (hR.ex e3) hB (eH.trans e3) e4
    · rintro σ' H2 ⟨y2, rs, rfl, eH, hR⟩
      rw [show ((wd + 1 : Nat) : Int).toNat = wd + 1 by omega] at hR
      exact s_ret (ev_var rfl) fun H3 e3 => q a rs H3 (eH.trans e3) (hR.ex e3)
theorem c_changes (T : DefOk K mg "changes" s_changes ["matrix"]) (CC : ChC K C) (gC : mg "Chars" = some (.ref C)) (tl : mg "list" = none) (C_A : Clb P w K mg base CX0 "all_columns" 9 ["matrix"] (spAllCols K CM)) (C_I : Clb P w K mg base CX0 "independent" 9 ["matrix", "columns"] (spIndep K CM C))
    (C_N : CmClb P w K mg base CX0 C "none" 4 (spEvery K C false)) (C_V : MClb P w K mg base CX0 C "__invert__" 4 ["self"] (spInv K C)) (C_O : MClb P w K mg base CX0 C "__or__" 5 ["self", "other"] (spOr K C)) :
    Clb P w K mg base CX0 "changes" 10 ["matrix"] (spChanges K CM) := by
  obtain ⟨f, fd, F, gm, b⟩ := T.ex
  refine ⟨f, fd, F.ok sc_changes (fun vs H Q E h => ?_) (fun cdv A outer s H vs Q E hr h => ?_), gm, F.kp, b⟩
  · obtain ⟨_, _, _, rfl, _⟩ := h
    rfl
  · obtain ⟨m, wd, M, rfl, hm, hwid, h0, hl, h7, hAll, hlen, q⟩ := h
    have nd := sc_changes.nd
    refine ⟨_, (pss_cons (ps_set (i := 1) nd rfl (Or.inl rfl) (pe_cm0 (pe_cls gC) C_N (hr.mono (by decide)) pass0))
      (pss_cons (ps_for PassesOwn.never rfl (pi_listK (K := K) (pe_cal C_A hr (by rfl) pass0 (pa_cons (pv 0) pa_nil))) (pg_name (i := 2) nd rfl (Or.inl rfl))
        (pss_cons (ps_set (i := 3) nd rfl (Or.inl rfl) (pe_cal C_I hr (by rfl) pass0 (pa_cons (pv 0) (pa_cons (pv 2) pa_nil))))
        (pss_one (ps_set (i := 1) nd rfl (Or.inl rfl) (pe_op (op_orOwn C_O CC.sf (hr.mono (by decide)) pass0) (pv 1) (pe_ifExp (pt_val (pe_fldK (K := K) (pv 3))) (pe_un (un_invOwn C_V (hr.mono (by decide)) pass0) (pv 3)) (pv 3)))))))
      (pss_one (ps_ret (pe_callTy (call_listK (K := K)) (by rfl) tl (by decide +kernel) (pa_cons (pe_fldK (K := K) (pv 1)) pa_nil)))))), ?_⟩
    refine q_asgP (P := IsCh K C false) (fun H1 e1 Q' q' => ⟨rfl, rfl, fun v H2 e2 h2 => q' v H2 e2 h2⟩) fun v0 H1 e1 hv0 => ?_
    refine call_at (vs := [m]) (ea_cons (ev_var rfl) ea_nil) fun H2 e2 => ?_
    refine ⟨m, wd, M, rfl, IsMat.m _ _ _ (e1.trans e2) hm, h7, fun a rs H3 e3 hA => ?_⟩
    have e13 := (e1.trans e2).trans e3
    refine ⟨a, rfl, ⟨_, sq_of hA.at_⟩, for_list (D := _) (xs := rs.map V.ref) (fun i σ' H' => ∃ v y2 y3, σ' = [some m, some v, y2, y3] ∧ Ex H3 H' ∧ IsCh K C false v H') ⟨v0, none, none, rfl, Ex.refl _, IsCh.m _ _ _ (e2.trans e3) hv0⟩ (fun i σ' H' _ ⟨_, _, _, _, e, _⟩ => ex_l e (sq_of hA.at_)) ?_ ?_⟩
    · rintro i x σ' H4 hx ⟨v, y2, y3, rfl, e4, hv⟩
      have hi : i < (allCh wd (wd + 1)).length := by
        have := (List.getElem?_eq_some_iff.mp hx).1
        rw [List.length_map, hA.len, List.length_map] at this
        exact this
      have hrow : ((allCh wd (wd + 1)).map natsI)[i]? = some (natsI (allCh wd (wd + 1))[i]) := by rw [List.getElem?_map, List.getElem?_eq_getElem hi]; rfl
      obtain ⟨r, er, mr, xr, fr⟩ := hA.refs hrow
      rw [xr] at hx
      cases hx
      obtain ⟨k1, k2, k3⟩ := hAll _ (List.getElem_mem hi)
      generalize (allCh wd (wd + 1))[i] = Cs at *
      refine q_asgP (P := fun v H => ∃ e, IsCh K C e v H) (ep_call (PA := fun vs H => vs = [m, .ref r] ∧ IsMat K CM wd M m H ∧ IsL K (Ints (natsI Cs)) (.ref r) H) (EvA.toP (ea_cons (ev_var rfl) (ea_cons (ev_var rfl) ea_nil)) fun H5 e5 => ⟨rfl, IsMat.m _ _ _ ((e13.trans e4).trans e5) hm, ⟨r, rfl, sq_of ((e4.trans e5) _ _ fr)⟩⟩)
        fun vs H5 e5 ⟨ev, hm5, hc5⟩ Q' q' E' => ⟨m, .ref r, wd, M, Cs, ev, hm5, hwid, hc5, k1, h0, hl, k2, k3, fun v e H6 e6 h6 => q' v H6 e6 ⟨e, h6⟩⟩) fun v3 H5 e5 ⟨e, hv3⟩ => ?_
      refine s_asgP (P := IsCh K C false) (ep_op (P1 := IsCh K C false) (P2 := IsCh K C false) (Ev.toP (ev_var rfl) fun H6 e6 => IsCh.m _ _ _ (e5.trans e6) hv) (fun v' H6 e6 hv' => ?_) IsCh.m (fun x y H6 e6 hx hy Q' q' => ?_)) fun v' H6 e6 hv' => ⟨v', _, _, rfl, (e4.trans e5).trans e6, hv'⟩
      · cases e with
        | true => exact fun H7 e7 Q' q' => ev_if_raw (et_test (ev_chE CC (IsCh.m _ _ _ (e6.trans e7) hv3) (ev_var rfl))) (fun _ H8 e8 => ep_inv (e := true) (Ev.toP (ev_var rfl) fun H9 e9 => IsCh.m _ _ _ (((e6.trans e7).trans e8).trans e9) hv3) H8 (Ex.refl _) _ fun v H9 e9 h9 => q' v H9 (e8.trans e9) h9) (fun hb => by cases hb)
        | false => exact fun H7 e7 Q' q' => ev_if_raw (et_test (ev_chE CC (IsCh.m _ _ _ (e6.trans e7) hv3) (ev_var rfl))) (fun hb => by cases hb) (fun _ H8 e8 => ⟨_, rfl, q' _ H8 e8 (IsCh.m _ _ _ ((e6.trans e7).trans e8) hv3)⟩)
      · obtain ⟨a1, d1, t1, rfl, ha1, ht1⟩ := id hx
        obtain ⟨a2, d2, t2, rfl, ha2, ht2⟩ := id hy
        exact ⟨a1, a2, d1, d2, _, _, rfl, rfl, ha1, ha2, .ref a1, .ref a2, false, false, rfl, hx, hy, fun v H7 e7 h7 => ⟨by obtain ⟨z, _, _, hz, _⟩ := h7; exact ⟨z, hz⟩, q' v H7 e7 h7⟩⟩
    · rintro σ' H4 ⟨v, y2, y3, rfl, e4, hv⟩
      obtain ⟨t, hp, ht⟩ := ev_chP (σ := [some m, some v, y2, y3]) (te := tVar 1) CC hv (ev_var rfl)
      exact s_retL (el_listS hp ⟨t, rfl, .inr ht⟩) fun p H5 hp5 e5 h5 => q _ H5 ((e13.trans e4).trans e5) ⟨p, rfl, sq_of h5⟩
end
end Ef
end
section
/-! W16: bad_square -/
namespace Ef
open PySem PySem.Spec PyProof.Rows L2 Evl
theorem fs_none {α β : Type} {f : α → Option β} : ∀ {l : List α}, (∀ (i : Nat) (x : α), l[i]? = some x → f x = none) → l.findSome? f = none
  | [], _ => rfl
  | a :: l, h => by
    rw [List.findSome?_cons, h 0 a rfl]
    exact fs_none fun i x hx => h (i + 1) x hx
theorem fs_hit {α β : Type} {f : α → Option β} {z : β} {y : α} : ∀ {l : List α} {i : Nat}, (∀ (j : Nat) (x : α), j < i → l[j]? = some x → f x = none) → l[i]? = some y → f y = some z → l.findSome? f = some z
  | [], i, _, hi, _ => by simp at hi
  | a :: l, 0, _, hi, hy => by
    cases hi
    rw [List.findSome?_cons, hy]
  | a :: l, i + 1, h, hi, hy => by
    rw [List.findSome?_cons, h 0 a (by omega) rfl]
    exact fs_hit (fun j x hj hx => h (j + 1) x (by omega) hx) hi hy
/-- one pair of rows and columns -/
def bs3 (M : IM) (R Cs : List Nat) : Option (List Nat × List Nat) := if 1 < (Dn R.length (partM M R Cs)).natAbs then some (R, Cs) else none
def bs2 (w : Nat) (M : IM) (s : Nat) (R : List Nat) : Option (List Nat × List Nat) := (chs w s).findSome? (bs3 M R)
def bs1 (h w : Nat) (M : IM) (s : Nat) : Option (List Nat × List Nat) := (chs h s).findSome? (bs2 w M s)
def badSq (h w : Nat) (M : IM) : Option (List Nat × List Nat) := ((List.range (min h w)).map (· + 1)).findSome? (bs1 h w M)
/-- none, or a pair of lists -/
def FV2 (K : PySem.W.Frag) : Option (List Nat × List Nat) → VP
  | none => fun v _ => v = .non
  | some (R, Cs) => fun v H => ∃ t a b, v = .ref t ∧ SqT K H t [.ref a, .ref b] ∧ SqL K H a (Ints (natsI R)) ∧ SqL K H b (Ints (natsI Cs))
theorem FV2.m {K : PySem.W.Frag} : ∀ {f : Option (List Nat × List Nat)}, Mono (FV2 K f)
  | none => fun _ _ _ _ h => h
  | some (R, Cs) => fun _ _ _ e ⟨t, a, b, h, q1, q2, q3⟩ => ⟨t, a, b, h, ex_t e q1, ex_l e q2, ex_l e q3⟩
theorem chs_ok (n : Nat) : ∀ s, s ≤ 7 → ∀ R ∈ chs n s, R.length = s ∧ ∀ i ∈ R, i < n
  | 0, _ => fun R hR => by
    rw [show chs n 0 = [[]] from rfl] at hR
    rw [List.mem_singleton.mp hR]
    exact ⟨rfl, fun i hi => by cases hi⟩
  | s + 1, hs => fun R hR => by
    obtain ⟨row, hrow, hR⟩ := List.mem_flatMap.mp (show R ∈ (chs n s).flatMap _ from hR)
    obtain ⟨i, hi, rfl⟩ := List.mem_map.mp hR
    have hi := List.mem_range.mp hi
    obtain ⟨k1, k2⟩ := chs_ok n s (by omega) row hrow
    refine ⟨by rw [List.length_append, k1]; rfl, fun j hj => ?_⟩
    rcases List.mem_append.mp hj with z | z
    · exact k2 j z
    · rw [List.mem_singleton.mp z]
      omega
theorem ent_part {M : IM} {R Cs : List Nat} {k l : Nat} (hk : k < R.length) (hl : l < Cs.length) : ent (partM M R Cs) k l = ent M R[k] Cs[l] := by
  unfold ent partM
  rw [List.getD_eq_getElem?_getD (i := k), List.getElem?_map, List.getElem?_eq_getElem hk]
  show ((Cs.map fun j => (M.getD R[k] []).getD j 0)).getD l 0 = _
  rw [List.getD_eq_getElem?_getD (i := l), List.getElem?_map, List.getElem?_eq_getElem hl]
  rfl
theorem ent_out {M : IM} {k l : Nat} (h : M.length ≤ k ∨ (M.getD k []).length ≤ l) : ent M k l = 0 := by
  unfold ent
  rcases h with h | h
  · rw [List.getD_eq_getElem?_getD (i := k), List.getElem?_eq_none h]
    rfl
  · rw [List.getD_eq_getElem?_getD (i := l), List.getElem?_eq_none h]
    rfl
def spBad (K : PySem.W.Frag) (CM : Addr) : Sp := fun vs H Q _ => ∃ (m : V) (h w : Nat) (M : IM), vs = [m] ∧ IsMat K CM w M m H ∧ Shp h w M ∧ 0 < h ∧ h ≤ 3 ∧ w ≤ 4 ∧ (∀ k l, (ent M k l).natAbs ≤ 2) ∧
  ∀ v H', Ex H H' → FV2 K (badSq h w M) v H' → Q v H'
abbrev s_bad_square : Stmt := topS 44
theorem sc_bad_square : FnScope ["matrix", "size", "rows", "columns"] ["matrix"] (defScope s_bad_square) := ⟨rfl, rfl, rfl, by decide +kernel, rfl, by decide +kernel, by decide +kernel⟩
section
variable {P : Program} {w : World} {K : PySem.W.Frag} {mg : Str → Option Value} {base : Heap} {CM : Addr}
theorem c_bad_square (T : DefOk K mg "bad_square" s_bad_square ["matrix"]) (MC : MatC K CM) (tR : mg "range" = none) (tM : mg "min" = none) (tA : mg "abs" = none) (C_C : Clb P w K mg base CX0 "choices" 8 ["many", "size"] (spChoices 8))
    (C_P : MClb P w K mg base CX0 CM "part" 3 ["self", "rows", "columns"] (spPart K CM)) (C_D : MClb P w K mg base CX0 CM "determinant" 2 ["self"] (spMdet K CM)) : Clb P w K mg base CX0 "bad_square" 9 ["matrix"] (spBad K CM) := by
  obtain ⟨f, fd, F, gm, b⟩ := T.ex
  refine ⟨f, fd, F.ok sc_bad_square (fun vs H Q E h => ?_) (fun cdv A outer s H vs Q E hr h => ?_), gm, F.kp, b⟩
  · obtain ⟨_, _, _, _, rfl, _⟩ := h
    rfl
  · obtain ⟨m, h, wd, M, rfl, hm, sM, h0, h3, w4, bM, q⟩ := h
    have nd := sc_bad_square.nd
    refine ⟨_, (pss_cons (ps_for PassesOwn.never rfl (pi_range2 (by rfl) tR (pa_cons pe_int (pa_cons (pe_op op_add (pe_callB (call_min2 rfl) (by rfl) tM (by decide +kernel) (pa_cons (pe_fldK (K := K) (pv 0)) (pa_cons (pe_fldK (K := K) (pv 0)) pa_nil))) pe_int) pa_nil))) (pg_name (i := 1) nd rfl (Or.inl rfl))
        (pss_one (ps_for PassesOwn.never rfl (pi_listK (K := K) (pe_cal C_C hr (by rfl) pass0 (pa_cons (pe_fldK (K := K) (pv 0)) (pa_cons (pv 1) pa_nil)))) (pg_name (i := 2) nd rfl (Or.inl rfl))
          (pss_one (ps_for PassesOwn.never rfl (pi_listK (K := K) (pe_cal C_C hr (by rfl) pass0 (pa_cons (pe_fldK (K := K) (pv 0)) (pa_cons (pv 1) pa_nil)))) (pg_name (i := 3) nd rfl (Or.inl rfl))
            (pss_one (ps_if (pt_cmpR op_gt (pe_callB call_abs (by rfl) tA (by decide +kernel) (pa_cons (pe_mth0 (pe_mth (pv 0) MC.cl C_P (hr.mono (by decide)) pass0 (pa_cons (pv 2) (pa_cons (pv 3) pa_nil))) MC.cl C_D (hr.mono (by decide)) pass0) pa_nil)) pe_int (nomark _))
              (pss_one (ps_ret (pe_tup (pa_cons (pv 2) (pa_cons (pv 3) pa_nil)))))
              pss_nil)))))))
      (pss_one (ps_ret pe_non))), ?_⟩
    have lM : M.length = h := sM.1
    refine q_forR2 (lo := 1) (n := ((min h wd : Nat) : Int) + 1) (ea_cons ev_c (ea_cons (ev_op (ev_min2 (i := h) (j := wd) (lM ▸ ev_matH MC hm (ev_var rfl)) (ev_matW MC hm (ev_var rfl))) ev_c rv_I0) ea_nil)) (by omega)
      (fun n σ' H' => ∃ y1 y2 y3, σ' = [some m, y1, y2, y3] ∧ Ex H H' ∧ ∀ s, s < n → bs1 h wd M (s + 1) = none) (fun H1 e1 => ⟨_, _, _, rfl, e1, fun s hs => by omega⟩) ?_ ?_
    · rintro n σ' H1 hn ⟨y1, y2, y3, rfl, e1, hs1⟩
      rw [show (1 : Int) + (n : Int) = ((n + 1 : Nat) : Int) by omega]
      have n7 : n + 1 ≤ 3 := by omega
      have chE : ∀ {σ : L2.St} {H2 : Hp} {te : TE} (k : Nat) {Q : VK}, Ex H H2 → k ≤ 7 → Ev te σ H2 (.int (k : Int)) → σ[1]? = some (some (.int ((n + 1 : Nat) : Int))) → (∀ a rs H3, Ex H2 H3 → RowsAt H2 H3 a rs (chsI k (n + 1)) → Q (.ref a) H3) → tCall (spChoices 8) [] E0 (tCons te (tCons (tVar 1) tNil)) σ H2 Q := by
        intro σ H2 te k Q e2 hk hv hσ hq
        refine call_at (ea_cons hv (ea_cons (ev_var hσ) ea_nil)) fun H3 e3 => ⟨k, n + 1, rfl, hk, by omega, by omega, fun a rs H4 e4 hR => hq a rs H4 (e3.trans e4) (hR.back e3)⟩
      refine chE h e1 (by omega) (lM ▸ ev_matH MC (IsMat.m _ _ _ e1 hm) (ev_var rfl)) rfl fun a rs H2 e2 hA => ?_
      refine ⟨a, rfl, ⟨_, sq_of hA.at_⟩, for_list (D := _) (xs := rs.map V.ref) (fun i σ' H' => ∃ y2 y3, σ' = [some m, some (.int ((n + 1 : Nat) : Int)), y2, y3] ∧ Ex H2 H' ∧ ∀ j R, j < i → (chs h (n + 1))[j]? = some R → bs2 wd M (n + 1) R = none) ⟨_, _, rfl, Ex.refl _, fun j R hj => by omega⟩ (fun i σ' H' _ ⟨_, _, _, e, _⟩ => ex_l e (sq_of hA.at_)) ?_ ?_⟩
      · rintro i x σ' H3 hx ⟨y2, y3, rfl, e3, hs2⟩
        have hi : i < (chs h (n + 1)).length := by
          have := (List.getElem?_eq_some_iff.mp hx).1
          rw [List.length_map, hA.len, List.length_map] at this
          exact this
        have gR : (chs h (n + 1))[i]? = some (chs h (n + 1))[i] := List.getElem?_eq_getElem hi
        obtain ⟨lR, mR⟩ := chs_ok h (n + 1) (by omega) _ (List.getElem_mem hi)
        obtain ⟨r, er, mr, xr, fr⟩ := hA.refs (show (chsI h (n + 1))[i]? = some (natsI (chs h (n + 1))[i]) by unfold chsI; rw [List.getElem?_map, gR]; rfl)
        rw [xr] at hx
        cases hx
        generalize (chs h (n + 1))[i] = R at *
        have e12 := (e1.trans e2).trans e3
        refine chE wd e12 (by omega) (ev_matW MC (IsMat.m _ _ _ e12 hm) (ev_var rfl)) rfl fun a2 rs2 H4 e4 hA2 => ?_
        refine ⟨a2, rfl, ⟨_, sq_of hA2.at_⟩, for_list (D := _) (xs := rs2.map V.ref) (fun i σ' H' => ∃ y3, σ' = [some m, some (.int ((n + 1 : Nat) : Int)), some (.ref r), y3] ∧ Ex H4 H' ∧ ∀ j Cs, j < i → (chs wd (n + 1))[j]? = some Cs → bs3 M R Cs = none) ⟨_, rfl, Ex.refl _, fun j R hj => by omega⟩ (fun i σ' H' _ ⟨_, _, e, _⟩ => ex_l e (sq_of hA2.at_)) ?_ ?_⟩
        · rintro i2 x σ' H5 hx ⟨y3, rfl, e5, hs3⟩
          have hi2 : i2 < (chs wd (n + 1)).length := by
            have := (List.getElem?_eq_some_iff.mp hx).1
            rw [List.length_map, hA2.len, List.length_map] at this
            exact this
          have gC : (chs wd (n + 1))[i2]? = some (chs wd (n + 1))[i2] := List.getElem?_eq_getElem hi2
          obtain ⟨lC, mC⟩ := chs_ok wd (n + 1) (by omega) _ (List.getElem_mem hi2)
          obtain ⟨r2, er2, mr2, xr2, fr2⟩ := hA2.refs (show (chsI wd (n + 1))[i2]? = some (natsI (chs wd (n + 1))[i2]) by unfold chsI; rw [List.getElem?_map, gC]; rfl)
          rw [xr2] at hx
          cases hx
          generalize (chs wd (n + 1))[i2] = Cs at *
          have e15 := (e12.trans e4).trans e5
          have sqr : SqL K H5 r (Ints (natsI R)) := sq_of ((((e3.trans e4).trans e5) _ _ fr))
          have sqr2 : SqL K H5 r2 (Ints (natsI Cs)) := sq_of (e5 _ _ fr2)
          have hPL : (partM M R Cs).length = n + 1 := by unfold partM; rw [List.length_map, lR]
          have hPW : ∀ k, k < n + 1 → ((partM M R Cs).getD k []).length = n + 1 := fun k hk => by
            unfold partM
            rw [List.getD_eq_getElem?_getD, List.getElem?_map, List.getElem?_eq_getElem (by omega)]
            show (List.map _ Cs).length = _
            rw [List.length_map, lC]
          have detE : Ev (tMeth CM "determinant" (spMdet K CM) [] E0 (tMeth CM "part" (spPart K CM) [] E0 (tVar 0) (tCons (tVar 2) (tCons (tVar 3) tNil))) tNil) [some m, some (.int ((n + 1 : Nat) : Int)), some (.ref r), some (.ref r2)] H5 (.int (Dn (n + 1) (partM M R Cs))) := by
            intro H6 e6 Q' q'
            obtain ⟨am, dm, pm, rfl, ha, hT⟩ := id hm
            have e16 := e15.trans e6
            refine ⟨_, rfl, am, dm, _, rfl, e16 _ _ ha, by kernel_rfl, ?_⟩
            refine (ea_cons (ev_var rfl) (ea_cons (ev_var rfl) ea_nil) : EvA _ [some (.ref am), some (.int ((n + 1 : Nat) : Int)), some (.ref r), some (.ref r2)] H6 [.ref r, .ref r2]) H6 (Ex.refl _) _ fun H7 e7 => ?_
            refine ⟨.ref am, .ref r, .ref r2, wd, M, R, Cs, rfl, IsMat.m _ _ _ (e16.trans e7) hm, sM.wid, ⟨r, rfl, ex_l (e6.trans e7) sqr⟩, ⟨r2, rfl, ex_l (e6.trans e7) sqr2⟩, fun i hi => by rw [lM]; exact mR i hi, mC, fun z => by rw [z] at lR; simp at lR, by omega, by omega, fun m' H8 e8 h8 => ?_⟩
            obtain ⟨am2, dm2, pm2, rfl, ha2, hT2⟩ := id h8
            refine ⟨am2, dm2, _, rfl, ha2, by kernel_rfl, ?_⟩
            have h8' : IsMat K CM (partM M R Cs).length (partM M R Cs) (.ref am2) H8 := by
              rw [hPL, ← lC]
              exact h8
            refine ⟨.ref am2, partM M R Cs, rfl, h8', ⟨rfl, fun k hk => by rw [hPL] at hk; rw [hPW k hk, hPL]⟩, by omega, by omega, fun k l => ?_, fun H9 e9 => ?_⟩
            · by_cases hk : k < R.length
              · by_cases hl : l < Cs.length
                · rw [ent_part hk hl]
                  exact bM _ _
                · rw [ent_out (.inr (by rw [hPW k (by omega)]; omega))]
                  decide
              · rw [ent_out (.inl (by rw [hPL]; omega))]
                decide
            · rw [hPL]
              exact q' H9 ((e7.trans e8).trans e9)
          refine s_when (b := decide (1 < (Dn (n + 1) (partM M R Cs)).natAbs)) (et_is (et_test (ev_op (ev_abs detE) ev_c rv_I0)) (decide_eq_decide.mpr (by omega))) (fun hb H6 e6 => ?_) (fun hb H6 e6 => ?_)
          · have hb := of_decide_eq_true hb
            refine s_retU (eu_tup (ea_cons (ev_var rfl) (ea_cons (ev_var rfl) ea_nil)) (Nat.le_of_ble_eq_true rfl)) fun p H7 hp e7 h7 => ?_
            have f3 : bs3 M R Cs = some (R, Cs) := by unfold bs3; rw [lR, if_pos hb]
            have f2 : bs2 wd M (n + 1) R = some (R, Cs) := fs_hit hs3 gC f3
            have f1 : bs1 h wd M (n + 1) = some (R, Cs) := fs_hit hs2 gR f2
            have f0 : badSq h wd M = some (R, Cs) := by
              refine fs_hit (i := n) (y := n + 1) (fun j x hj hx => ?_) ?_ f1
              · rw [List.getElem?_map, List.getElem?_range (by omega)] at hx
                cases hx
                exact hs1 j hj
              · rw [List.getElem?_map, List.getElem?_range (by omega)]
                rfl
            refine q _ H7 ((e15.trans e6).trans e7) ?_
            rw [f0]
            exact ⟨p, r, r2, rfl, st_of h7, ex_l (e6.trans e7) sqr, ex_l (e6.trans e7) sqr2⟩
          · have hb := of_decide_eq_false hb
            refine ⟨_, rfl, e5.trans e6, fun j Cs' hj hCs => ?_⟩
            by_cases hji : j < i2
            · exact hs3 j Cs' hji hCs
            · obtain rfl : j = i2 := by omega
              rw [gC] at hCs
              cases hCs
              unfold bs3
              rw [lR, if_neg hb]
        · rintro σ' H5 ⟨y3, rfl, e5, hs3⟩
          refine ⟨_, _, rfl, (e3.trans e4).trans e5, fun j R' hj hR' => ?_⟩
          by_cases hji : j < i
          · exact hs2 j R' hji hR'
          · obtain rfl : j = i := by omega
            rw [gR] at hR'
            cases hR'
            refine fs_none fun k Cs hk => hs3 k Cs ?_ hk
            rw [List.length_map, hA2.len, List.length_map]
            exact (List.getElem?_eq_some_iff.mp hk).1
      · rintro σ' H3 ⟨y2, y3, rfl, e3, hs2⟩
        refine ⟨_, _, _, rfl, (e1.trans e2).trans e3, fun s hs => ?_⟩
        by_cases hsn : s < n
        · exact hs1 s hsn
        · obtain rfl : s = n := by omega
          refine fs_none fun k R hk => hs2 k R ?_ hk
          rw [List.length_map, hA.len, List.length_map]
          exact (List.getElem?_eq_some_iff.mp hk).1
    · rintro σ' H1 ⟨y1, y2, y3, rfl, e1, hs1⟩
      refine s_ret ev_c fun H2 e2 => q _ H2 (e1.trans e2) ?_
      have f0 : badSq h wd M = none := fs_none fun i x hx => by
        rw [List.getElem?_map] at hx
        obtain ⟨s, hs, rfl⟩ := Option.map_eq_some_iff.mp hx
        have hi := (List.getElem?_eq_some_iff.mp hs).1
        rw [List.length_range] at hi
        rw [List.getElem?_range hi] at hs
        cases hs
        exact hs1 i (by omega)
      rw [f0]
      rfl
end
end Ef
end
section
/-! W17: checked, is_zero, check_length, Diagonal -/
namespace Ef
open PySem PySem.Spec PyProof.Rows L2 Evl
section
variable {X : Cx} {o : Expr} {f : Str} {pos : Pos} {to : TE} {K : PySem.W.Frag}
/-- o.f as a target -/
def gFld (K : PySem.W.Frag) (to : TE) (f : Str) : TG := fun v σ H Q => to σ H fun x H1 => ∃ a C dx fs, x = .ref a ∧ H1 a = some (.ins C dx fs) ∧ Cls K C ∧ NoAttr K C f ∧ fs.length < 1000 ∧ Q σ (upd H1 a (.ins C dx (putF f v fs)))
theorem pg_fldK (ho : PE X o to) (hK : X.K = K := by rfl) : PG X (.Attribute o f pos) (gFld K to f) := by
  subst hK
  refine ⟨fun pins s σ H v u Q I r h => ?_⟩
  rw [arm_assign_Attribute]
  refine wpAny_bind (wpAny_holding (thn (ho.run pins s σ H _ I h) fun ov s1 ⟨x, H1, I1, r1, a, C, dx, fs, ex, ea, c, n, l, q1⟩ => ?_))
  subst ex
  obtain rfl : ov = Value.ref a := r1
  refine wpAny_bind (wpAny_standAt (wpAny_bind (wpAny_holding (setattr_ok I1 ea c n l r fun s2 I2 => ?_))))
  exact wpAny_release ⟨σ, _, I2, q1⟩
/-- what a def lets out leaves its caller -/
theorem passX {E : XK} {E₁ : Value → Shared → Prop} (hs : X.stack = X.env :: X.outer) (hf : X.env.frame = some X.env.locals) (hex : X.ex = [])
    (hx : X.xe = fun e s' => wpAny (model X.prog X.w) X.A (leaving X.env e) (fun _ s'' => CX X.prog X.w X.outer X.H_0 X.s_0 E e s'') E₁ s') : Passes (L2.CX X.prog X.w) X E :=
  passes_call (W := fun cls d _ H => E cls d H) (takes_of hs hf hex hx) fun _ _ _ _ h => h
end
def IsP (p : Int) : Prop := p = 0 ∨ PrimeTD p
/-- BadCharacteristic of p is let out -/
def XBad (C : Addr) (p : Int) (H : Hp) (E : XK) : Prop := ∀ d H', Ex H H' → H d = none → H' d = some (.xd [(("p" : Str), .int p)]) → E (.ref C) (some d) H'
def spChecked (C : Addr) : Sp := fun vs H Q E => ∃ p : Int, vs = [.int p] ∧ p < 1000000 ∧ (IsP p → ∀ H', Ex H H' → Q (.int p) H') ∧ (¬ IsP p → ShortI p ∧ XBad C p H E)
def spIsZero : Sp := fun vs H Q _ => ∃ n p : Int, vs = [.int n, .int p] ∧ p < 1000000 ∧ IsP p ∧ ∀ H', Ex H H' → Q (.bl (decide (p ∣ n))) H'
def spCheckLen (K : PySem.W.Frag) (CM : Addr) : Sp := fun vs H Q _ => ∃ (m b : V) (w : Nat) (M : IM) (xs : List V), vs = [m, b] ∧ IsMat K CM w M m H ∧ IsS K xs b H ∧ xs.length = M.length ∧ ∀ H', Ex H H' → Q .non H'
def numsL (h w : Nat) (N : IM) (k : Nat) : List Int := (List.range h).map fun i => if i < k then ent N i i else 0
theorem numsL_len (h w k : Nat) (N : IM) : (numsL h w N k).length = h := by simp [numsL]
theorem numsL_at {h w k i : Nat} {N : IM} (hi : i < (numsL h w N k).length) : (numsL h w N k)[i] = if i < k then ent N i i else 0 := by simp [numsL]
theorem numsL_step {h w k : Nat} {N : IM} (hk : k < h) : (numsL h w N k).set k (ent N k k) = numsL h w N (k + 1) := by
  refine List.ext_getElem (by simp [numsL]) fun i h1 h2 => ?_
  rw [List.getElem_set, numsL_at h2]
  by_cases e : k = i
  · subst e
    rw [if_pos rfl, if_pos (by omega)]
  · rw [if_neg e, numsL_at]
    by_cases c : i < k
    · rw [if_pos c, if_pos (by omega)]
    · rw [if_neg c, if_neg (by omega)]
theorem numsL_0 (h w : Nat) (N : IM) : numsL h w N 0 = List.replicate h 0 := by
  unfold numsL
  refine List.ext_getElem (by simp) fun i h1 h2 => by simp
structure DgC (K : PySem.W.Frag) (D : Addr) : Prop where
  cl : Cls K D
  nP : NoAttr K D "p"
  nF : NoAttr K D "first"
  nL : NoAttr K D "last"
  nN : NoAttr K D "numbers"
  nS : NoAttr K D "sides"
/-- a Diagonal -/
def IsDg (K : PySem.W.Frag) (CM D : Addr) (h w : Nat) (N L : IM) (a : Addr) (H : Hp) : Prop := ∃ dx fs l n, H a = some (.ins D dx fs) ∧ fs.lookup ("last" : Str) = some l ∧ fs.lookup ("numbers" : Str) = some (.ref n) ∧ IsMat K CM w L l H ∧ H n = some (.lst (Ints (numsL h w N (min h w)))) ∧ Shp w w L
def spDgInit (K : PySem.W.Frag) (C CM D : Addr) : Sp := fun vs H Q E => ∃ (x dx : Addr) (m b : V) (w : Nat) (M : IM) (p : Int), vs = [.ref x, m, b, .int p] ∧ H x = some (.ins D dx []) ∧ IsMat K CM w M m H ∧ Wid w M ∧ 0 < M.length ∧ M.length ≤ 1000 ∧ 0 < w ∧ w ≤ 1000 ∧
  IsL K (Ints (List.replicate M.length 0)) b H ∧ p < 1000000 ∧ (¬ IsP p → ShortI p ∧ XBad C p H E) ∧
  (IsP p → ∃ (Jv : Nat → IM → IM → Prop) (Iv : Nat → Nat → IM → IM → Prop), DiagInv M.length w Jv Iv ∧ Jv 0 M (unitM w) ∧
    ∀ H' N L, (∀ b o, H b = some o → b ≠ x → H' b = some o) → Jv (min M.length w) N L → IsDg K CM D M.length w N L x H' → Q .non H')
theorem q_asgG {te : TE} {g : TG} {tz : TS} {D : Ends} {σ : L2.St} {H : Hp} {P : VP} (h : EvP te σ H P) (k : ∀ v H1, Ex H H1 → P v H1 → g v σ H1 (fun σ' H' => tz D σ' H')) : tSeq (tAsg te g) tz D σ H := h H (Ex.refl H) _ fun v H1 e p => k v H1 e p
def dg1 (p : Int) : List (Str × V) := [(("p" : Str), V.int p)]
def dg2 (p : Int) (f : V) : List (Str × V) := [(("p" : Str), V.int p), (("first" : Str), f)]
def dg3 (p : Int) (f l : V) : List (Str × V) := [(("p" : Str), V.int p), (("first" : Str), f), (("last" : Str), l)]
def dg4 (p : Int) (f l n : V) : List (Str × V) := [(("p" : Str), V.int p), (("first" : Str), f), (("last" : Str), l), (("numbers" : Str), n)]
def dg5 (p : Int) (f l n s : V) : List (Str × V) := [(("p" : Str), V.int p), (("first" : Str), f), (("last" : Str), l), (("numbers" : Str), n), (("sides" : Str), s)]
theorem put_ne {f g : Str} {v u : V} {r : List (Str × V)} (h : g ≠ f) : putF f v ((g, u) :: r) = (g, u) :: putF f v r := if_neg h
theorem put_d2 (p : Int) (f : V) : putF ("first" : Str) f (dg1 p) = dg2 p f := by unfold dg1 dg2; rw [put_ne (by decide +kernel)]; rfl
theorem put_d3 (p : Int) (f l : V) : putF ("last" : Str) l (dg2 p f) = dg3 p f l := by unfold dg2 dg3; rw [put_ne (by decide +kernel), put_ne (by decide +kernel)]; rfl
theorem put_d4 (p : Int) (f l n : V) : putF ("numbers" : Str) n (dg3 p f l) = dg4 p f l n := by unfold dg3 dg4; rw [put_ne (by decide +kernel), put_ne (by decide +kernel), put_ne (by decide +kernel)]; rfl
theorem put_d5 (p : Int) (f l n s : V) : putF ("sides" : Str) s (dg4 p f l n) = dg5 p f l n s := by unfold dg4 dg5; rw [put_ne (by decide +kernel), put_ne (by decide +kernel), put_ne (by decide +kernel), put_ne (by decide +kernel)]; rfl
theorem mfs_ne {a : Addr} {h w : Nat} {v : V} {r : List (Str × V)} : mfs a h w ≠ (("p" : Str), v) :: r := fun z => by
  unfold mfs at z
  injection z with z _
  injection z with z _
  exact absurd z (by decide +kernel)
theorem IsMat.updI {K : PySem.W.Frag} {CM D x dx : Addr} {w : Nat} {M : IM} {v : V} {H : Hp} {fs : List (Str × V)} {o : HO} (h : IsMat K CM w M v H) (hx : H x = some (.ins D dx fs)) (hf : ∀ a h w, mfs a h w ≠ fs) : IsMat K CM w M v (upd H x o) := by
  obtain ⟨a, d, p, rfl, ha, hT⟩ := h
  exact ⟨a, d, p, rfl, by rw [upd_ne (ne_of ha hx (by intro z; injection z with _ _ z; exact hf _ _ _ z))]; exact ha, TT2.keepI hT hx⟩
theorem sqL_keep' {K : PySem.W.Frag} {H : Hp} {a x C dx : Addr} {xs : List V} {fs : List (Str × V)} {o : HO} (h : SqL K H a xs) (hx : H x = some (.ins C dx fs)) : SqL K (upd H x o) a xs := by
  rcases h with (h | ⟨u, h⟩) | h
  · exact .inl (.inl (by rw [upd_ne (ne_of h hx (by intro z; cases z))]; exact h))
  · exact .inl (.inr ⟨u, by rw [upd_ne (ne_of h hx (by intro z; cases z))]; exact h⟩)
  · exact .inr h
theorem upd_upd' {H : Hp} {a : Addr} {o u : HO} : upd (upd H a o) a u = upd H a u := by
  funext b
  by_cases h : b = a
  · rw [h, upd_same, upd_same]
  · rw [upd_ne h, upd_ne h, upd_ne h]
abbrev s_checked : Stmt := topS 12
theorem sc_checked : FnScope ["p"] ["p"] (defScope s_checked) := ⟨rfl, rfl, rfl, by decide +kernel, rfl, by decide +kernel, by decide +kernel⟩
abbrev s_is_zero : Stmt := topS 13
theorem sc_is_zero : FnScope ["n", "p"] ["n", "p"] (defScope s_is_zero) := ⟨rfl, rfl, rfl, by decide +kernel, rfl, by decide +kernel, by decide +kernel⟩
abbrev s_check_length : Stmt := topS 36
theorem sc_check_length : FnScope ["matrix", "b"] ["matrix", "b"] (defScope s_check_length) := ⟨rfl, rfl, rfl, by decide +kernel, rfl, by decide +kernel, by decide +kernel⟩
abbrev s_Diagonal_init : Stmt := inClass (topS 37) 0
theorem sc_Diagonal_init : FnScope ["self", "matrix", "b", "p", "middle", "at"] ["self", "matrix", "b", "p"] (defScope s_Diagonal_init) := ⟨rfl, rfl, rfl, by decide +kernel, rfl, by decide +kernel, by decide +kernel⟩
theorem XBad.m {C : Addr} {p : Int} {H H1 : Hp} {E : XK} (h : XBad C p H E) (e : Ex H H1) : XBad C p H1 E := fun d H' e2 hd h2 => h d H' (e.trans e2) (fresh_back e hd) h2
section
variable {P : Program} {w : World} {K : PySem.W.Frag} {mg : Str → Option Value} {base : Heap} {C CM D fI : Addr}
theorem c_checked (T : DefOk K mg "checked" s_checked ["p"]) (B : PySem.BadX.BadTxt P K mg C fI) (C_P : Clb P w K mg base CX0 "is_prime" 1 ["n"] spIsPrime) : Clb P w K mg base (L2.CX P w) "checked" 3 ["p"] (spChecked C) := by
  obtain ⟨f, fd, F, gm, b⟩ := T.ex
  refine ⟨f, fd, F.okX sc_checked (fun vs H Q E h => ?_) (fun cdv A outer s H vs Q E hr h => ?_), gm, F.kp, b⟩
  · obtain ⟨_, rfl, _⟩ := h
    rfl
  · obtain ⟨p, rfl, hp, qy, qn⟩ := h
    have nd := sc_checked.nd
    refine ⟨_, (pss_cons (ps_if (PW.pt (pw_and (pt_cmpR op_ne (pv 0) pe_int (nomark _)) (pw_and1 (pt_not (pt_val (pe_cal C_P (hr.mono (by decide)) (by rfl) pass0 (pa_cons (pv 0) pa_nil)))))))
      (pss_one (ps_raiseBad rfl B hr (takes_of rfl rfl rfl rfl) (pa_cons (pv 0) pa_nil)))
      pss_nil)
    (pss_one (ps_ret (pv 0)))), ?_⟩
    have isp : EvP (tCall spIsPrime [] E0 (tCons (tVar 0) tNil)) [some (.int p)] H (fun v _ => ∃ b : Bool, v = .bl b ∧ (b = true ↔ PrimeTD p)) := ep_call (PA := fun vs _ => vs = [.int p]) (EvA.toP (ea_cons (ev_var rfl) ea_nil) fun _ _ => rfl) fun vs H1 e1 ev Q' q' E' => ⟨p, ev, hp, fun b H2 e2 hb => q' _ H2 e2 ⟨b, rfl, hb⟩⟩
    by_cases hP : IsP p
    · have t : EvT (tAnd (tTest (tOp rNe (tVar 0) (tC (.int 0)))) (tNot (tTest (tCall spIsPrime [] E0 (tCons (tVar 0) tNil))))) [some (.int p)] H false := by
        by_cases h0 : p = 0
        · exact et_is (et_and (a := false) (b := false) (et_is (et_test (ev_op (ev_var rfl) ev_c (rv_ne rfl))) (by rw [h0]; rfl)) (fun z => by cases z)) rfl
        · refine et_is (et_and (a := true) (b := false) (et_is (et_test (ev_op (ev_var rfl) ev_c (rv_ne rfl))) ?_) fun _ => ?_) rfl
          · have : ¬ V.int p = V.int 0 := fun z => h0 (by injection z)
            rw [decide_eq_false this]
            rfl
          · exact et_not (a := true) fun H1 e1 Q' q' => isp H1 e1 _ fun v H2 e2 ⟨b, ev, hb⟩ => ⟨b, ev, by rw [hb.mpr (hP.resolve_left h0)]; exact q' H2 e2⟩
      exact q_when t (fun hb => by cases hb) (fun _ H1 e1 => s_ret (ev_var rfl) fun H2 e2 => qy hP H2 (e1.trans e2))
    · have t : EvT (tAnd (tTest (tOp rNe (tVar 0) (tC (.int 0)))) (tNot (tTest (tCall spIsPrime [] E0 (tCons (tVar 0) tNil))))) [some (.int p)] H true := by
        have h0 : p ≠ 0 := fun z => hP (.inl z)
        refine et_is (et_and (a := true) (b := true) (et_is (et_test (ev_op (ev_var rfl) ev_c (rv_ne rfl))) ?_) fun _ => ?_) rfl
        · have : ¬ V.int p = V.int 0 := fun z => h0 (by injection z)
          rw [decide_eq_false this]
          rfl
        · exact et_not (a := false) fun H1 e1 Q' q' => isp H1 e1 _ fun v H2 e2 ⟨b, ev, hb⟩ => ⟨b, ev, by
            have : b = false := by
              cases b with
              | false => rfl
              | true => exact absurd (.inr (hb.mp rfl)) hP
            rw [this]
            exact q' H2 e2⟩
      obtain ⟨hsh, qx⟩ := qn hP
      refine q_when t (fun _ H1 e1 => ?_) (fun hb => by cases hb)
      exact ⟨_, rfl, p, rfl, hsh, fun d hd => qx d _ (e1.trans (Ex.new hd)) (fresh_back e1 hd) upd_same⟩
theorem c_is_zero (T : DefOk K mg "is_zero" s_is_zero ["n", "p"]) (C_C : Clb P w K mg base (L2.CX P w) "checked" 3 ["p"] (spChecked C)) : Clb P w K mg base CX0 "is_zero" 4 ["n", "p"] spIsZero := by
  obtain ⟨f, fd, F, gm, b⟩ := T.ex
  refine ⟨f, fd, F.ok sc_is_zero (fun vs H Q E h => ?_) (fun cdv A outer s H vs Q E hr h => ?_), gm, F.kp, b⟩
  · obtain ⟨_, _, rfl, _⟩ := h
    rfl
  · obtain ⟨n, p, rfl, hp, hP, q⟩ := h
    have nd := sc_is_zero.nd
    refine ⟨_, (pss_cons (ps_if (pt_cmpR op_eq (pe_cal C_C hr (by rfl) passL (pa_cons (pv 1) pa_nil)) pe_int (nomark _))
        (pss_one (ps_ret (pe_cmpR op_eq (pv 0) pe_int (nomark _))))
        pss_nil)
      (pss_one (ps_ret (pe_cmpR op_eq (pe_op op_modN (pv 0) (pv 1)) pe_int (nomark _))))), ?_⟩
    have chk : Ev (tCall (spChecked C) [] E0 (tCons (tVar 1) tNil)) [some (.int n), some (.int p)] H (.int p) := ev_call (ea_cons (ev_var rfl) ea_nil) fun H1 e1 Q' q' E' => ⟨p, rfl, hp, fun _ H2 e2 => q' H2 e2, fun z => absurd hP z⟩
    refine q_when (b := decide (p = 0)) (et_is (et_test (ev_op chk ev_c (rv_eq rfl))) (decide_eq_decide.mpr ⟨fun z => by injection z, fun z => by rw [z]⟩)) (fun hb H1 e1 => ?_) (fun hb H1 e1 => ?_)
    · have h0 : p = 0 := of_decide_eq_true hb
      refine s_ret (v := .bl (decide (p ∣ n))) (ev_is (ev_op (ev_var rfl) ev_c (rv_eq rfl)) ?_) fun H2 e2 => q H2 (e1.trans e2)
      congr 1
      rw [h0]
      exact decide_eq_decide.mpr ⟨fun z => by injection z with z; rw [z]; exact Int.dvd_refl 0, fun z => by rw [Int.zero_dvd.mp z]⟩
    · have h0 : p ≠ 0 := of_decide_eq_false hb
      refine s_ret (v := .bl (decide (p ∣ n))) (ev_is (ev_op (ev_op (ev_var rfl) (ev_var rfl) (rv_I h0)) ev_c (rv_eq rfl)) ?_) fun H2 e2 => q H2 (e1.trans e2)
      congr 1
      exact decide_eq_decide.mpr ⟨fun z => by injection z with z; exact fmod_zero.mp z, fun z => by rw [fmod_zero.mpr z]⟩
theorem c_check_length (T : DefOk K mg "check_length" s_check_length ["matrix", "b"]) (MC : MatC K CM) (tL : mg "len" = none) : Clb P w K mg base CX0 "check_length" 1 ["matrix", "b"] (spCheckLen K CM) := by
  obtain ⟨f, fd, F, gm, b⟩ := T.ex
  refine ⟨f, fd, F.ok sc_check_length (fun vs H Q E h => ?_) (fun cdv A outer s H vs Q E hr h => ?_), gm, F.kp, b⟩
  · obtain ⟨_, _, _, _, _, rfl, _⟩ := h
    rfl
  · obtain ⟨m, b, wd, M, xs, rfl, hm, hb, hl, q⟩ := h
    have nd := sc_check_length.nd
    refine ⟨_, (pss_one (ps_if (pt_cmpR op_ne (pe_callB (call_lenK (K := K)) (by rfl) tL PySem.boot_len (pa_cons (pv 1) pa_nil)) (pe_fldK (K := K) (pv 0)) (nomark _))
        (pss_one ps_never)
        pss_nil)), ?_⟩
    refine s_when (b := false) (et_is (et_test (ev_op (ev_lenS (K := K) (ev_var rfl) hb) (ev_matH MC hm (ev_var rfl)) (rv_ne rfl))) ?_) (fun hb => by cases hb) (fun _ H1 e1 => q H1 e1)
    rw [hl, decide_eq_true rfl]
    rfl
theorem c_Dg (T : InitOk K mg D "Diagonal" "Diagonal.__init__" s_Diagonal_init ["self", "matrix", "b", "p"]) (DC : DgC K D) (MC : MatC K CM) (tR : mg "range" = none) (tM : mg "min" = none)
    (C_C : Clb P w K mg base (L2.CX P w) "checked" 3 ["p"] (spChecked C)) (C_L : Clb P w K mg base CX0 "check_length" 1 ["matrix", "b"] (spCheckLen K CM)) (C_D : Clb P w K mg base CX0 "diagonal" 7 ["matrix"] (spDiagonal K CM))
    (C_T : MClb P w K mg base CX0 CM "times" 1 ["self", "vector"] (spTimes0 K CM)) : KClb P w K mg base (L2.CX P w) D "Diagonal" 8 ["self", "matrix", "b", "p"] (spDgInit K C CM D) := by
  obtain ⟨f, fd, F, mk, gm, b⟩ := T.ex
  refine ⟨f, fd, F.okX sc_Diagonal_init (fun vs H Q E h => ?_) (fun cdv A outer s H vs Q E hr h => ?_), mk, gm, b⟩
  · obtain ⟨_, _, _, _, _, _, _, rfl, _⟩ := h
    rfl
  · obtain ⟨x, dx, m, b, wd, M, p, rfl, hx, hm, hwid, h0, hl, w0, hw, hb, hp, qn, qy⟩ := h
    have nd := sc_Diagonal_init.nd
    refine ⟨_, (pss_cons (ps_expr (pe_cal C_C (hr.mono (by decide)) (by rfl) (passX (E := E) rfl rfl rfl rfl) (pa_cons (pv 3) pa_nil)))
      (pss_cons (ps_expr (pe_cal C_L (hr.mono (by decide)) (by rfl) pass0 (pa_cons (pv 1) (pa_cons (pv 2) pa_nil))))
      (pss_cons (ps_fld (pv 0) (pv 3) rfl)
      (pss_cons (ps_asg (pe_cal C_D hr (by rfl) pass0 (pa_cons (pv 1) pa_nil)) (pg_tupK (K := K) (n := 3) rfl (pgs_cons (pg_fldK (K := K) (pv 0)) (pgs_cons (pg_name (i := 4) nd rfl (Or.inl rfl)) (pgs_cons (pg_fldK (K := K) (pv 0)) pgs_nil)))))
      (pss_cons (ps_fld (pv 0) (pe_op op_rep (pe_lst (pa_cons pe_int pa_nil)) (pe_fldK (K := K) (pv 1))) rfl)
      (pss_cons (ps_for (passes_of rfl) rfl (pi_range1 (by rfl) tR (pa_cons (pe_callB (call_min2 rfl) (by rfl) tM (by decide +kernel) (pa_cons (pe_fldK (K := K) (pv 1)) (pa_cons (pe_fldK (K := K) (pv 1)) pa_nil))) pa_nil)) (pg_name (i := 5) nd rfl (Or.inl rfl))
        (pss_one (ps_asg (pe_ix (ix_tupK (K := K)) (pe_ix (ix_tupK (K := K)) (pe_fldK (K := K) (pv 4)) (pv 5) (fun _ _ => rfl)) (pv 5) (fun _ _ => rfl)) (pg_sub (pe_fldK (K := K) (pv 0)) (pv 5) set_list))))
      (pss_one (ps_fld (pv 0) (pe_mth (pe_fldK (K := K) (pv 0)) MC.cl C_T (hr.mono (by decide)) pass0 (pa_cons (pv 2) pa_nil)) rfl)))))))), ?_⟩
    by_cases hP : IsP p
    · obtain ⟨Jv, Iv, DI, J0, q⟩ := qy hP
      refine q_call (ea_cons (ev_var rfl) ea_nil) fun H1 e1 => ⟨p, rfl, hp, fun _ H2 e2 => ?_, fun z => absurd hP z⟩
      have e12 := e1.trans e2
      refine q_call (ea_cons (ev_var rfl) (ea_cons (ev_var rfl) ea_nil)) fun H3 e3 => ⟨m, b, wd, M, _, rfl, IsMat.m _ _ _ (e12.trans e3) hm, (IsL.m _ _ _ (e12.trans e3) hb).s, by rw [List.length_map, List.length_replicate], fun H4 e4 => ?_⟩
      have e14 := (e12.trans e3).trans e4
      have hx4 : H4 x = some (.ins D dx []) := e14 _ _ hx
      refine q_fld (ev_var rfl) (ev_var rfl) hx4 DC.cl DC.nP (by decide) fun H5 e5 => ?_
      have hx5 : H5 x = some (.ins D dx []) := e5 _ _ hx4
      have m6 : IsMat K CM wd M m (upd H5 x (.ins D dx (dg1 p))) := IsMat.updI (IsMat.m _ _ _ (e14.trans e5) hm) hx5 (fun a h w z => by simp [mfs] at z)
      obtain ⟨ab, rfl, hsb⟩ := id hb
      have b6 : SqL K (upd H5 x (.ins D dx (dg1 p))) ab (Ints (List.replicate M.length 0)) := sqL_keep' (ex_l (e14.trans e5) hsb) hx5
      have old6 : ∀ b o, H b = some o → b ≠ x → (upd H5 x (.ins D dx (dg1 p))) b = some o := fun b o hb nb => by rw [upd_ne nb]; exact e5 _ _ (e14 _ _ hb)
      have gx6 : (upd H5 x (.ins D dx (dg1 p))) x = some (.ins D dx (dg1 p)) := upd_same
      show tSeq _ _ _ _ (upd H5 x (.ins D dx (dg1 p)))
      generalize upd H5 x (.ins D dx (dg1 p)) = G6 at *
      refine q_asgG (P := fun v H => ∃ N L, Jv (min M.length wd) N L ∧ IsD K CM M.length wd N L v H) (ep_call (PA := fun vs H => vs = [m] ∧ IsMat K CM wd M m H) (EvA.toP (ea_cons (ev_var rfl) ea_nil) fun H1 e1 => ⟨rfl, IsMat.m _ _ _ e1 m6⟩) fun vs H1 e1 ⟨ev, hm1⟩ Q' q' E' => ⟨m, wd, M, Jv, Iv, ev, hm1, hwid, h0, hl, w0, hw, DI, J0, fun v H2 N L e2 hJ hD => q' v H2 e2 ⟨N, L, hJ, hD⟩⟩) fun v H7 e7 ⟨N, L, hJ, hD⟩ => ?_
      obtain ⟨t, va, vb, vc, FF, rfl, ht, kF, sF, kN, sN, kL, sL⟩ := hD
      have gx7 := e7 _ _ gx6
      have m7 := IsMat.m _ _ _ e7 m6
      have b7 := ex_l e7 b6
      have old7 : ∀ b o, H b = some o → b ≠ x → H7 b = some o := fun b o hb nb => e7 _ _ (old6 b o hb nb)
      refine ⟨t, [va, vb, vc], rfl, ht, rfl, va, _, rfl, .ref x, rfl, x, D, dx, _, rfl, gx7, DC.cl, DC.nF, (show 1 < 1000 by decide), ?_⟩
      rw [put_d2]
      have nf : ∀ {a : Addr} {h w : Nat} {r : List (Str × V)}, mfs a h w ≠ (("p" : Str), V.int p) :: r := mfs_ne
      refine ⟨vb, _, rfl, vc, _, rfl, .ref x, rfl, x, D, dx, _, rfl, upd_same, DC.cl, DC.nL, (show 2 < 1000 by decide), rfl, ?_⟩
      rw [put_d3, upd_upd']
      have F8 := IsMat.updI (o := .ins D dx (dg3 p va vc)) kF gx7 (fun _ _ _ => nf)
      have N8 := IsMat.updI (o := .ins D dx (dg3 p va vc)) kN gx7 (fun _ _ _ => nf)
      have L8 := IsMat.updI (o := .ins D dx (dg3 p va vc)) kL gx7 (fun _ _ _ => nf)
      have m8 := IsMat.updI (o := .ins D dx (dg3 p va vc)) m7 gx7 (fun _ _ _ => nf)
      have b8 : SqL K (upd H7 x (.ins D dx (dg3 p va vc))) ab (Ints (List.replicate M.length 0)) := sqL_keep' b7 gx7
      have old8 : ∀ b o, H b = some o → b ≠ x → (upd H7 x (.ins D dx (dg3 p va vc))) b = some o := fun b o hb nb => by rw [upd_ne nb]; exact old7 b o hb nb
      have gx8 : (upd H7 x (.ins D dx (dg3 p va vc))) x = some (.ins D dx (dg3 p va vc)) := upd_same
      show tSeq _ _ _ [some (.ref x), some m, some (.ref ab), some (.int p), some vb, none] (upd H7 x (.ins D dx (dg3 p va vc)))
      generalize upd H7 x (.ins D dx (dg3 p va vc)) = G8 at *
      generalize hh : M.length = h at *
      -- self.numbers = [0] * matrix.height
      refine q_fldP (P := fun v H1 => ∃ n, v = .ref n ∧ G8 n = none ∧ H1 n = some (.lst (Ints (List.replicate h 0)))) (fun H9 e9 Q' q' => ?_) (ev_var rfl) gx8 DC.cl DC.nN (show 3 < 1000 by decide) (fun _ _ _ e ⟨n, h1, h2, h3⟩ => ⟨n, h1, h2, e _ _ h3⟩) fun y H9 e9 ⟨n, ey, hn, h9⟩ => ?_
      · exact el_rep (k := (h : Int)) (el_lst (ea_cons ev_c ea_nil) (Nat.le_of_ble_eq_true rfl)) (fun H1 e1 => hh ▸ ev_matH MC (IsMat.m _ _ _ (e9.trans e1) m8) (ev_var rfl)) (by omega) (by simp; omega) (by omega) H9 (Ex.refl _) Q' fun n H10 hn e10 h10 => q' _ H10 e10 ⟨n, rfl, fresh_back e9 hn, by rw [show ((h : Int)).toNat = h by omega, ints_rep] at h10; exact h10⟩
      subst ey
      rw [put_d4]
      have gx9 := e9 _ _ gx8
      have nx : n ≠ x := (ne_of_none gx8 hn).symm
      have F10 := IsMat.updI (o := .ins D dx (dg4 p va vc (.ref n))) (IsMat.m _ _ _ e9 F8) gx9 (fun _ _ _ => nf)
      have N10 := IsMat.updI (o := .ins D dx (dg4 p va vc (.ref n))) (IsMat.m _ _ _ e9 N8) gx9 (fun _ _ _ => nf)
      have L10 := IsMat.updI (o := .ins D dx (dg4 p va vc (.ref n))) (IsMat.m _ _ _ e9 L8) gx9 (fun _ _ _ => nf)
      have m10 := IsMat.updI (o := .ins D dx (dg4 p va vc (.ref n))) (IsMat.m _ _ _ e9 m8) gx9 (fun _ _ _ => nf)
      -- the heap without n
      have base0 : ∀ (v : V) (w' : Nat) (M' : IM), IsMat K CM w' M' v G8 → ∀ H', (∀ b o, G8 b = some o → b ≠ x → H' b = some o) → IsMat K CM w' M' v H' := fun v w' M' hv H' hk => by
        have := IsMat.updI (o := .ins D dx []) hv gx8 (fun _ _ _ => nf)
        have z : Ex (upd G8 x (.ins D dx [])) (upd H' x (.ins D dx [])) := fun b o hb => by
          by_cases e : b = x
          · rw [e, upd_same] at hb ⊢; exact hb
          · rw [upd_ne e] at hb ⊢; exact hk b o hb e
        have := IsMat.m _ _ _ z this
        obtain ⟨a, d, pp, rfl, ha, hT⟩ := hv
        have nax : a ≠ x := ne_of ha gx8 (by intro z; injection z with _ _ z; exact nf z)
        refine ⟨a, d, pp, rfl, hk _ _ ha nax, ?_⟩
        obtain ⟨aa, vs, ee, hs, hp⟩ := hT
        have sq : ∀ (c : Addr) (ys : List V), SqT K G8 c ys → SqT K H' c ys := fun c ys h => by
          rcases h with (h | ⟨u, h⟩) | h
          · exact .inl (.inl (hk _ _ h (ne_of h gx8 (by intro z; cases z))))
          · exact .inl (.inr ⟨u, hk _ _ h (ne_of h gx8 (by intro z; cases z))⟩)
          · exact .inr h
        exact ⟨aa, vs, ee, sq _ _ hs, pr_imp (fun u r z => by obtain ⟨c, h1, h2⟩ := z; exact ⟨c, h1, sq _ _ h2⟩) hp⟩
      refine q_forR1 (n := ((min h wd : Nat) : Int)) (ea_cons (ev_min2 (i := h) (j := wd) (hh ▸ ev_matH MC m10 (ev_var rfl)) (ev_matW MC m10 (ev_var rfl))) ea_nil) (by omega)
        (fun i σ' H' => ∃ y5, σ' = [some (.ref x), some m, some (.ref ab), some (.int p), some vb, y5] ∧ (∀ b o, G8 b = some o → b ≠ x → H' b = some o) ∧ H' x = some (.ins D dx (dg4 p va vc (.ref n))) ∧ H' n = some (.lst (Ints (numsL h wd N i))))
        (fun H11 e11 => ⟨_, rfl, fun b o hb nb => e11 _ _ (by rw [upd_ne nb]; exact e9 _ _ hb), e11 _ _ upd_same, by rw [numsL_0]; exact e11 _ _ (by rw [upd_ne nx]; exact h9)⟩) ?_ ?_
      · rintro i σ' H11 hi ⟨y5, rfl, hk, hgx, hgn⟩
        refine s_setL hgn (ev_matEnt MC (base0 _ _ _ N8 H11 hk) sN (ev_var rfl) (ev_var rfl) (ev_var rfl) (by omega) (by omega)) (ev_fld (ev_var rfl) hgx DC.cl DC.nN (by kernel_rfl)) (ev_var rfl) (by rw [List.length_map, numsL_len]; omega) fun H12 e12 => ?_
        refine ⟨_, rfl, fun b o hb nb => ?_, by rw [upd_ne nx.symm]; exact e12 _ _ hgx, ?_⟩
        · rw [upd_ne (ne_of_none hb hn)]
          exact e12 _ _ (hk b o hb nb)
        · rw [upd_same, ints_set, numsL_step (by omega)]
      · rintro σ' H11 ⟨y5, rfl, hk, hgx, hgn⟩
        rw [show ((min h wd : Nat) : Int).toNat = min h wd by omega] at hgn
        refine s_fldP (P := fun _ _ => True) (fun H12 e12 Q' q' => ?_) (ev_var rfl) hgx DC.cl DC.nS (show 4 < 1000 by decide) (fun _ _ _ _ _ => trivial) fun y H12 e12 _ => ?_
        · obtain ⟨af, df, pf, rfl, haf, hTf⟩ := id (IsMat.m _ _ _ e12 (base0 _ _ _ F8 H11 hk))
          refine (ev_fld (v := .ref af) (ev_var rfl) (e12 _ _ hgx) DC.cl DC.nF (by kernel_rfl)) H12 (Ex.refl _) _ fun H13 e13 => ?_
          refine ⟨af, df, _, rfl, e13 _ _ haf, by kernel_rfl, ?_⟩
          refine (ea_cons (ev_var rfl) ea_nil : EvA _ [some (.ref x), some m, some (.ref ab), some (.int p), some vb, y5] H13 [.ref ab]) H13 (Ex.refl _) _ fun H14 e14 => ?_
          have hbb : SqL K H11 ab (Ints (List.replicate h 0)) := by
            rcases b8 with (z | ⟨u, z⟩) | z
            · exact .inl (.inl (hk _ _ z (ne_of z gx8 (by intro k; cases k))))
            · exact .inl (.inr ⟨u, hk _ _ z (ne_of z gx8 (by intro k; cases k))⟩)
            · exact .inr z
          refine ⟨.ref af, .ref ab, h, FF, rfl, IsMat.m _ _ _ ((e12.trans e13).trans e14) (base0 _ _ _ F8 H11 hk), sF.wid, by omega, by rw [sF.1]; omega, ⟨ab, rfl, ex_l ((e12.trans e13).trans e14) hbb⟩, fun p' H15 e15 _ _ => q' _ _ ((e13.trans e14).trans e15) trivial⟩
        · rw [put_d5]
          refine q _ N L (fun b o hb nb => ?_) hJ ⟨dx, _, vc, n, upd_same, by kernel_rfl, by kernel_rfl, ?_, ?_, sL⟩
          · rw [upd_ne nb]
            exact e12 _ _ (hk b o (old8 b o hb nb) nb)
          · exact base0 _ _ _ L8 _ fun b o hb nb => by rw [upd_ne nb]; exact e12 _ _ (hk b o hb nb)
          · rw [upd_ne nx]
            exact e12 _ _ hgn
    · obtain ⟨sh, xb⟩ := qn hP
      exact q_call (ea_cons (ev_var rfl) ea_nil) fun H1 e1 => ⟨p, rfl, hp, fun z => absurd z hP, fun _ => ⟨sh, xb.m e1⟩⟩
end
end Ef
end
section
/-! W18: kernel, dual -/
namespace Ef
open PySem PySem.Spec PyProof.Rows L2 Evl
theorem cutV_take (xs : List V) (k : Nat) : cutV xs none (some (k : Int)) = xs.take k := by
  unfold cutV
  rw [HT.sIx_none, HT.sIx_nat, Nat.sub_zero, List.drop_zero]
  by_cases h : k ≤ xs.length
  · rw [Nat.min_eq_left h]
  · rw [Nat.min_eq_right (by omega), List.take_length, List.take_of_length_le (by omega)]
theorem cutV_drop (xs : List V) (k : Nat) : cutV xs (some (k : Int)) none = xs.drop k := by
  unfold cutV
  rw [HT.sIx_none, HT.sIx_nat]
  by_cases h : k ≤ xs.length
  · rw [Nat.min_eq_left h, List.take_of_length_le (by rw [List.length_drop]; omega)]
  · rw [Nat.min_eq_right (by omega), List.drop_length, List.drop_eq_nil_of_le (by omega), List.take_nil]
def dgAt (h w : Nat) (N : IM) (i : Nat) : Int := if i < min h w then ent N i i else 0
/-- the rows of the kernel -/
def kerRows (p : Int) (h w : Nat) (N L : IM) : IM := ((List.range w).filter fun j => decide (p ∣ dgAt h w N j)).map fun j => L.map fun row => row.getD j 0
def dualM (w : Nat) (R : IM) : IM := if R = [] then [List.replicate w 0] else R
theorem kerRows_wid (p : Int) (h w : Nat) (N L : IM) (hL : L.length = w) : Wid w (kerRows p h w N L) := fun r hr => by
  obtain ⟨j, _, rfl⟩ := List.mem_map.mp hr
  rw [List.length_map, hL]
def spKernel (K : PySem.W.Frag) (C CM : Addr) : Sp := fun vs H Q E => ∃ (m : V) (w : Nat) (M : IM) (p : Int), vs = [m, .int p] ∧ IsMat K CM w M m H ∧ Wid w M ∧ 0 < M.length ∧ M.length ≤ 1000 ∧ 0 < w ∧ w ≤ 1000 ∧
  p < 1000000 ∧ (¬ IsP p → ShortI p ∧ XBad C p H E) ∧
  (IsP p → ∃ (Jv : Nat → IM → IM → Prop) (Iv : Nat → Nat → IM → IM → Prop), DiagInv M.length w Jv Iv ∧ Jv 0 M (unitM w) ∧
    ∀ a rs H' N L, Ex H H' → Jv (min M.length w) N L → Shp w w L → RowsAt H H' a rs (kerRows p M.length w N L) → Q (.ref a) H')
def spDual (K : PySem.W.Frag) (C CM : Addr) : Sp := fun vs H Q E => ∃ (m : V) (w : Nat) (M : IM) (p : Int), vs = [m, .int p] ∧ IsMat K CM w M m H ∧ Wid w M ∧ 0 < M.length ∧ M.length ≤ 1000 ∧ 0 < w ∧ w ≤ 1000 ∧
  p < 1000000 ∧ (¬ IsP p → ShortI p ∧ XBad C p H E) ∧
  (IsP p → ∃ (Jv : Nat → IM → IM → Prop) (Iv : Nat → Nat → IM → IM → Prop), DiagInv M.length w Jv Iv ∧ Jv 0 M (unitM w) ∧
    ∀ v H' N L, Ex H H' → Jv (min M.length w) N L → Shp w w L → IsMat K CM w (dualM w (kerRows p M.length w N L)) v H' → Q v H')
abbrev gKw : {α : Type} → List α → List α → List α := fun us ws => us ++ ws
/-- a def f(x, *, p) -/
structure KwClb (P : Program) (w : World) (K : PySem.W.Frag) (mg : Str → Option Value) (base : Heap) (CX : CXT) (x : Str) (k : Nat) (ps : List Str) (sp : Sp) : Prop where
  ex : ∃ f fd, FnOk P w K mg base CX k f fd ps sp ∧ mg x = some (.ref f) ∧ PySem.W.keepIn K (.ref f) = true ∧ KBn K fd ps 1 ["p"] (fun us ws => us ++ ws) (fun us ws => us ++ ws)
structure KwOk (K : PySem.W.Frag) (mg : Str → Option Value) (x : Str) (st : Stmt) (ps : List Str) : Prop where
  ex : ∃ f fd, Fun K x x st f fd ∧ mg x = some (.ref f) ∧ KBn K fd ps 1 ["p"] (fun us ws => us ++ ws) (fun us ws => us ++ ws)
theorem pe_kw {X : Cx} {CX : CXT} {k : Nat} {ps : List Str} {sp : Sp} {E : XK} {x : Str} {p pos : Pos} {e : Expr} {es : List Expr} {kws : List Keyword} {t tk : TA} (C : KwClb X.prog X.w X.K X.mg X.base CX x k ps sp) (hr : Room k X.A) (hg : Gl X x) (hx : Passes CX X E)
    (ha : PA X (e :: es) t) (hkw : PK X kws tk) (hall : (backToKw pos (keywordEach kws X.env)).all (·.1.isSome) = true := by rfl) (hks : (backToKw pos (keywordEach kws X.env)).filterMap (·.1) = [("p" : Str)] := by rfl)
    (hdb : (x == ("__debug__" : Str)) = false := by decide) (he : starEach (e :: es) X.env = (false, eval e X.env) :: starEach es X.env := by rfl)
    (hpl : ((backTo pos (starEach (e :: es) X.env)).any (·.1) || (backToKw pos (keywordEach kws X.env)).any (·.1.isNone)) = false := by rfl) :
    PE X (.Call (.Name x p) (e :: es) kws pos) (tCallN 1 1 sp (fun us ws => us ++ ws) E t tk) := by
  obtain ⟨f, fd, F, gm, kp, b⟩ := C.ex
  exact pe_callN F hr hg gm kp b hx ha hkw hall hks hdb he hpl
abbrev s_kernel : Stmt := topS 38
theorem sc_kernel : FnScope ["matrix", "p", "system", "columns", "numbers", "at"] ["matrix", "p"] (defScope s_kernel) := ⟨rfl, rfl, rfl, by decide +kernel, rfl, by decide +kernel, by decide +kernel⟩
abbrev s_dual : Stmt := topS 45
theorem sc_dual : FnScope ["matrix", "p", "rows"] ["matrix", "p"] (defScope s_dual) := ⟨rfl, rfl, rfl, by decide +kernel, rfl, by decide +kernel, by decide +kernel⟩
theorem t_makeP {C : Addr} {sp : Sp} {E : XK} {t : TA} {σ : L2.St} {H : Hp} {Q : VK} {PA : List V → Hp → Prop} (h : EvAP t σ H PA)
    (k : ∀ vs H1, Ex H H1 → PA vs H1 → ∀ x dx, H1 x = none → H1 dx = none → dx ≠ x → sp (.ref x :: vs) (upd (upd H1 dx (.own x)) x (.ins C dx [])) (fun v H2 => v = .non ∧ Q (.ref x) H2) E) : tMake C sp [] E t σ H Q :=
  h H (Ex.refl H) _ fun vs H1 e1 hp x dx h1 h2 h3 => by rw [List.append_nil]; exact k vs H1 e1 hp x dx h1 h2 h3
theorem el_slN {K : PySem.W.Frag} {σ : L2.St} {H : Hp} {te : TE} {tl th : TO} {xs : List V} {lo hi : Option Int} (h : EvL te σ H xs) (h1 : EvO tl σ H lo) (h2 : ∀ H1, Ex H H1 → EvO th σ H1 hi) : EvL (tSl (rSlL K) te tl th) σ H (cutV xs lo hi) := fun H1 e _ q =>
  h H1 e _ fun a H2 ha e2 hs => h1 H2 (e.trans e2) _ fun H3 e3 => h2 H3 ((e.trans e2).trans e3) H3 (Ex.refl _) _ fun H4 e4 =>
    ⟨a, xs, rfl, sq_of ((e3.trans e4) _ _ hs), fun p hp => q p _ (fresh_back ((e2.trans e3).trans e4) hp) (((e2.trans e3).trans e4).trans (Ex.new hp)) upd_same⟩
theorem op_eqDK {X : Cx} {K : PySem.W.Frag} (hu : X.A.units + 64 < cLine) (h : X.K = K := by rfl) : OpR X (compareOp .Eq) (rEqD K) := h ▸ op_eqD hu
theorem ep_rows {K : PySem.W.Frag} {CM : Addr} {σ : L2.St} {H : Hp} {te : TE} {w : Nat} {M : IM} (MC : MatC K CM) (h : EvP te σ H (IsMat K CM w M)) : EvP (tFld K te "rows") σ H (TT2 K M) := fun H1 e1 Q q => h H1 e1 _ fun v H2 e2 hv => by
  obtain ⟨a, dx, p, rfl, ha, hT⟩ := hv
  exact ⟨a, CM, dx, _, .ref p, rfl, ha, MC.cl, MC.nR, mfs_rows _ _ _, q _ H2 e2 hT⟩
theorem ep_meth0 {C a dx : Addr} {fs : List (Str × V)} {σ : L2.St} {H : Hp} {te : TE} {m : Str} {sp : Sp} {E : XK} {P : VP} (h : Ev te σ H (.ref a)) (ha : H a = some (.ins C dx fs)) (hl : fs.lookup m = none) (hs : ∀ H1, Ex H H1 → SpP sp [.ref a] H1 P) : EvP (tMeth C m sp [] E te tNil) σ H P := fun H1 e1 Q q =>
  h H1 e1 _ fun H2 e2 => ⟨a, dx, fs, rfl, (e1.trans e2) _ _ ha, hl, hs H2 (e1.trans e2) Q (fun v H3 e3 hv => q v H3 (e2.trans e3) hv) E⟩
theorem er_if {c : List V → HO} {te : TE} {σ : L2.St} {H : Hp} {M : IM} (h : EvR c te σ H M) : EvR c te σ H M := h
section
variable {P : Program} {w : World} {K : PySem.W.Frag} {mg : Str → Option Value} {base : Heap} {C CM D : Addr}
theorem el_catL {σ : L2.St} {H : Hp} {ta tb : TE} {xs ys : List V} {a : Addr} (ha : Ev ta σ H (.ref a)) (hx : H a = some (.lst xs)) (hb : ∀ H1, Ex H H1 → EvL tb σ H1 ys) (hl : xs.length + ys.length ≤ 100000) : EvL (tOp rCat ta tb) σ H (xs ++ ys) := el_cat ha hx (hb H (Ex.refl H)) hl
theorem c_kernel (T : KwOk K mg "kernel" s_kernel ["matrix", "p"]) (DC : DgC K D) (MC : MatC K CM) (tR : mg "range" = none) (tl : mg "list" = none) (C_D : KClb P w K mg base (L2.CX P w) D "Diagonal" 8 ["self", "matrix", "b", "p"] (spDgInit K C CM D))
    (C_T : MClb P w K mg base CX0 CM "transposed" 3 ["self"] (spTrans K CM)) (C_Z : Clb P w K mg base CX0 "is_zero" 4 ["n", "p"] spIsZero) : KwClb P w K mg base (L2.CX P w) "kernel" 10 ["matrix", "p"] (spKernel K C CM) := by
  obtain ⟨f, fd, F, gm, b⟩ := T.ex
  refine ⟨f, fd, F.okX sc_kernel (fun vs H Q E h => ?_) (fun cdv A outer s H vs Q E hr h => ?_), gm, F.kp, b⟩
  · obtain ⟨_, _, _, _, rfl, _⟩ := h
    rfl
  · obtain ⟨m, wd, M, p, rfl, hm, hwid, h0, hl, w0, hw, hp, qn, qy⟩ := h
    have nd := sc_kernel.nd
    refine ⟨_, (pss_cons (ps_set (i := 2) nd rfl (Or.inl rfl) (pe_mak C_D hr (by rfl) (passX (E := E) rfl rfl rfl rfl) (pa_cons (pv 0) (pa_cons (pe_op op_rep (pe_lst (pa_cons pe_int pa_nil)) (pe_fldK (K := K) (pv 0))) (pa_cons (pv 1) pa_nil)))))
      (pss_cons (ps_set (i := 3) nd rfl (Or.inr rfl) (pe_fldK (K := K) (pe_mth0 (pe_fldK (K := K) (pv 2)) MC.cl C_T (hr.mono (by decide)) pass0)))
      (pss_cons (ps_set (i := 4) nd rfl (Or.inr rfl) (pe_slice (sl_listK (K := K)) (pe_op op_cat (pe_fldK (K := K) (pv 2)) (pe_op op_rep (pe_lst (pa_cons pe_int pa_nil)) (pe_fldK (K := K) (pv 0)))) po_none (po_some (pe_fldK (K := K) (pv 0)))))
      (pss_one (ps_ret (pe_lc (own := [("at", 5)]) (by rfl) nd (pi_range1 (by rfl) tR (pa_cons (pe_fldK (K := K) (pv 0)) pa_nil)) (blkOk_by (own := [("at", 5)]) (by kernel_rfl)) (fun _ _ _ _ _ => (pg_name (i := 5) nd rfl (Or.inl rfl))) (fun _ _ _ _ _ => pts_one (pt_val (pe_cal C_Z (hr.mono (by decide)) (by rfl) pass0 (pa_cons (pe_ix (ix_listK (K := K)) (pv 4) (pv 5) (fun _ _ => rfl)) (pa_cons (pv 1) pa_nil))))) (fun _ _ _ _ _ => (pe_callTy (call_listK (K := K)) (by rfl) tl (by decide +kernel) (pa_cons (pe_ix (ix_tupK (K := K)) (pv 3) (pv 5) (fun _ _ => rfl)) pa_nil))))))))), ?_⟩
    have zer : ∀ {H1 : Hp} {σ : L2.St} {f : Str} {n : Nat}, n ≤ 1000 → Ex H H1 → (∀ H2, Ex H1 H2 → Ev (tFld K (tVar 0) f) σ H2 (.int (n : Int))) → EvL (tOp rRep (tLst (tCons (tC (.int 0)) tNil)) (tFld K (tVar 0) f)) σ H1 (Ints (List.replicate n 0)) := fun {H1 σ f n} hn e1 hv =>
      EvL.cast (el_rep (k := (n : Int)) (el_lst (ea_cons ev_c ea_nil) (Nat.le_of_ble_eq_true rfl)) hv (by omega) (by simp; omega) (by omega)) (by rw [show ((n : Int)).toNat = n by omega, ints_rep])
    have hH : ∀ {H1 : Hp} {σ : L2.St}, Ex H H1 → σ[0]? = some (some m) → Ev (tFld K (tVar 0) "height") σ H1 (.int (M.length : Int)) := fun e hσ => ev_matH MC (IsMat.m _ _ _ e hm) (ev_var hσ)
    have hW : ∀ {H1 : Hp} {σ : L2.St}, Ex H H1 → σ[0]? = some (some m) → Ev (tFld K (tVar 0) "width") σ H1 (.int (wd : Int)) := fun e hσ => ev_matW MC (IsMat.m _ _ _ e hm) (ev_var hσ)
    refine q_asgRaw (t_makeP (PA := fun vs H1 => ∃ z, vs = [m, z, .int p] ∧ IsL K (Ints (List.replicate M.length 0)) z H1) (eap_cons (P1 := fun v _ => v = m) (fun _ _ _ _ z => z) (Ev.toP (ev_var rfl) fun _ _ => rfl) fun v H1 e1 ev => eap_cons (P1 := IsL K (Ints (List.replicate M.length 0))) IsL.m (fun H2 e2 Q' q' => zer hl (e1.trans e2) (fun H3 e3 => hH ((e1.trans e2).trans e3) rfl) H2 (Ex.refl _) Q' fun a H3 ha e3 h3 => q' _ H3 e3 ⟨a, rfl, sq_of h3⟩) fun z H2 e2 hz => eap_one (Ev.toP (ev_var rfl) fun H3 e3 => ⟨z, by rw [ev], IsL.m _ _ _ e3 hz⟩)) fun vs H1 e1 ⟨z, ev, hz⟩ x dx nx ndx nex => ?_)
    subst ev
    have e2 : Ex H1 (upd (upd H1 dx (.own x)) x (.ins D dx [])) := fun b o hb => by
      rw [upd_ne (ne_of_none hb nx), upd_ne (ne_of_none hb ndx)]
      exact hb
    refine ⟨x, dx, m, z, wd, M, p, rfl, upd_same, IsMat.m _ _ _ (e1.trans e2) hm, hwid, h0, hl, w0, hw, IsL.m _ _ _ e2 hz, hp, fun hn => ⟨(qn hn).1, (qn hn).2.m (e1.trans e2)⟩, fun hP => ?_⟩
    obtain ⟨Jv, Iv, DI, J0, q⟩ := qy hP
    refine ⟨Jv, Iv, DI, J0, fun H2 N L hk hJ hD => ⟨rfl, ?_⟩⟩
    have e12 : Ex H1 H2 := fun b o hb => hk b o (e2 _ _ hb) (ne_of_none hb nx)
    have e02 := e1.trans e12
    obtain ⟨dx', fs, l, n, hx2, hlast, hnum, hL, hn2, sL⟩ := hD
    generalize hh : M.length = h at *
    -- columns
    obtain ⟨al, dl, pl, rfl, hal, hTl⟩ := id hL
    refine q_asgP (P := TT2 K (transM L wd)) (ep_rows MC (w := L.length) (ep_meth0 (ev_fld (v := .ref al) (ev_var rfl) hx2 DC.cl DC.nL hlast) hal (by kernel_rfl) fun H3 e3 Q' q' E' => ⟨.ref al, wd, L, rfl, IsMat.m _ _ _ e3 hL, sL.wid, w0, hw, by rw [sL.1]; exact hw, fun m' H5 e5 h5 => q' _ H5 e5 h5⟩)) fun cv H3 e3 hc => ?_
    -- numbers
    have lT : (transM L wd).length = wd := by unfold transM; rw [List.length_map, List.length_range]
    refine q_asgL (xs := Ints ((List.range wd).map (dgAt h wd N))) (EvL.cast (el_slN (EvL.cast (el_cat (ev_fld (ev_var rfl) (e3 _ _ hx2) DC.cl DC.nN hnum) (e3 _ _ hn2) (zer hw (e02.trans e3) fun H4 e4 => hW ((e02.trans e3).trans e4) rfl) (by rw [List.length_map, List.length_map, numsL_len, List.length_replicate]; omega)) rfl) eo_none fun H4 e4 => eo_some (hW ((e02.trans e3).trans e4) rfl)) ?_) fun nl H4 hnl e4 h4 => ?_
    · rw [cutV_take]
      rw [← List.map_append, ← List.map_take]
      congr 1
      refine List.ext_getElem (by simp [numsL_len]) fun i h1 h2 => ?_
      rw [List.length_map, List.length_range] at h2
      rw [List.getElem_take, List.getElem_map, List.getElem_range]
      unfold dgAt
      by_cases hi : i < h
      · rw [List.getElem_append_left (by rw [numsL_len]; exact hi), numsL_at]
      · rw [List.getElem_append_right (by rw [numsL_len]; omega), List.getElem_replicate, if_neg (by omega)]
    have e04 := (e02.trans e3).trans e4
    obtain ⟨cp, cs, rfl, hcs, lcs, hrow⟩ := (TT2.m _ _ _ e4 hc).rows
    refine s_retR (cc := HO.lst) (EvR.cast (er_lcR1 (fun j => decide (p ∣ dgAt h wd N j)) (fun j => (transM L wd).getD j []) (ea_cons (hW e04 rfl) ea_nil) (by omega) (fun x => rfl) (fun j H5 e5 hj => ?_) (fun j H5 e5 hj _ => ?_)) ?_) fun a rs H5 e5 hR => q a rs H5 N L (e04.trans e5) hJ sL (hR.back e04)
    · have hj : j < wd := by omega
      refine et_test (ev_call (vs := [.int (dgAt h wd N j), .int p]) (ea_cons (ev_op (ev_var rfl) (ev_var rfl) (rv_ixL (sq_of (e5 _ _ h4)) (atI_nat (by rw [List.getElem?_map, List.getElem?_map, List.getElem?_range hj]; rfl)))) (ea_cons (ev_var rfl) ea_nil)) fun H6 e6 Q' q' E' => ⟨_, p, rfl, hp, hP, fun H7 e7 => q' H7 e7⟩)
    · have hj : j < wd := by omega
      obtain ⟨r, row, er, hM, hr⟩ := hrow j (cs[j]'(by omega)) (List.getElem?_eq_getElem (by omega))
      rw [getD_of hM]
      refine EvL.n (el_listS (x := cs[j]'(by omega)) (ev_op (ev_var rfl) (ev_var rfl) (rv_ixT (ex_t e5 hcs) (atI_nat (List.getElem?_eq_getElem (by omega))))) ?_)
      rw [er]
      exact ⟨r, rfl, .inr (ex_t e5 hr)⟩
    · rw [show ((wd : Int)).toNat = wd by omega]
      unfold givenR kerRows
      refine List.map_congr_left fun j hj => ?_
      have hj : j < wd := List.mem_range.mp (List.mem_filter.mp hj).1
      unfold transM
      rw [List.getD_eq_getElem?_getD, List.getElem?_map, List.getElem?_range hj]
      rfl
theorem c_dual (T : KwOk K mg "dual" s_dual ["matrix", "p"]) (MC : MatC K CM) (C_K : KwClb P w K mg base (L2.CX P w) "kernel" 10 ["matrix", "p"] (spKernel K C CM)) (C_M : KClb P w K mg base CX0 CM "Matrix" 1 ["self", "rows"] (spMatInit K CM)) : KwClb P w K mg base (L2.CX P w) "dual" 11 ["matrix", "p"] (spDual K C CM) := by
  obtain ⟨f, fd, F, gm, b⟩ := T.ex
  refine ⟨f, fd, F.okX sc_dual (fun vs H Q E h => ?_) (fun cdv A outer s H vs Q E hr h => ?_), gm, F.kp, b⟩
  · obtain ⟨_, _, _, _, rfl, _⟩ := h
    rfl
  · obtain ⟨m, wd, M, p, rfl, hm, hwid, h0, hl, w0, hw, hp, qn, qy⟩ := h
    have nd := sc_dual.nd
    refine ⟨_, (pss_cons (ps_set (i := 2) nd rfl (Or.inl rfl) (pe_kw C_K hr (by rfl) (passX (E := E) rfl rfl rfl rfl) (pa_cons (pv 0) pa_nil) (pk_cons (pv 1) pk_nil)))
      (pss_cons (ps_if (pt_cmpR (op_eqDK (K := K) hr.units) (pv 2) (pe_lst pa_nil) (nomark _))
        (pss_one (ps_ret (pe_mak C_M (hr.mono (by decide)) (by rfl) pass0 (pa_cons (pe_lst (pa_cons (pe_op op_rep (pe_lst (pa_cons pe_int pa_nil)) (pe_fldK (K := K) (pv 0))) pa_nil)) pa_nil))))
        pss_nil)
      (pss_one (ps_ret (pe_mak C_M (hr.mono (by decide)) (by rfl) pass0 (pa_cons (pv 2) pa_nil)))))), ?_⟩
    refine q_asgRaw ?_
    refine (ea_cons (ev_var rfl) ea_nil : EvA _ [some m, some (.int p), none] H [m]) H (Ex.refl _) _ fun H1 e1 => (ea_cons (ev_var rfl) ea_nil : EvA _ [some m, some (.int p), none] H1 [.int p]) H1 (Ex.refl _) _ fun H2 e2 => ⟨rfl, rfl, ?_⟩
    have e12 := e1.trans e2
    refine ⟨m, wd, M, p, rfl, IsMat.m _ _ _ e12 hm, hwid, h0, hl, w0, hw, hp, fun hn => ⟨(qn hn).1, (qn hn).2.m e12⟩, fun hP => ?_⟩
    obtain ⟨Jv, Iv, DI, J0, q⟩ := qy hP
    refine ⟨Jv, Iv, DI, J0, fun a rs H3 N L e3 hJ sL hR => ?_⟩
    have e13 := e12.trans e3
    have wK := kerRows_wid p M.length wd N L sL.1
    have lK : (kerRows p M.length wd N L).length ≤ wd := by
      unfold kerRows
      rw [List.length_map]
      exact Nat.le_trans (List.length_filter_le ..) (by rw [List.length_range]; exact Nat.le_refl _)
    have q : ∀ v H', Ex H H' → IsMat K CM wd (dualM wd (kerRows p M.length wd N L)) v H' → Q v H' := fun v H' e hv => q v H' N L e hJ sL hv
    generalize kerRows p M.length wd N L = R at *
    unfold dualM at q
    refine q_when (b := decide (R = [])) (et_test fun H4 e4 Q' q' => ?_) (fun hb H4 e4 => ?_) (fun hb H4 e4 => ?_)
    · refine ⟨_, rfl, el_lst ea_nil (Nat.zero_le _) H4 (Ex.refl _) _ fun p H5 hp e5 h5 => ?_⟩
      refine ⟨dL R, dL [], dp_ll (LL.m _ _ _ (e4.trans e5) hR.ll), dp_ll ⟨p, [], rfl, sq_of h5, .nil⟩, sh_ll _, sh_ll _, ?_⟩
      rw [eqv_ll]
      exact q' _ e5
    · have hb := of_decide_eq_true hb
      rw [if_pos hb] at q
      refine s_retP (ep_mat (M := [List.replicate wd 0]) (wd := wd) (fun H5 e5 Q' q' => ?_) (fun r hr => by rw [List.mem_singleton.mp hr, List.length_replicate]) (by simp) (by simp) hw) fun v H5 e5 h5 => q v H5 ((e13.trans e4).trans e5) h5
      refine (show tLst (tCons _ tNil) _ H5 Q' from ?_)
      refine (el_rep (k := (wd : Int)) (el_lst (ea_cons ev_c ea_nil) (Nat.le_of_ble_eq_true rfl)) (fun H6 e6 => ev_matW MC (IsMat.m _ _ _ (((e13.trans e4).trans e5).trans e6) hm) (ev_var rfl)) (by omega) (by simp; omega) (by omega)) H5 (Ex.refl _) _ fun r H6 hr6 e6 h6 => ?_
      refine ⟨sz_of (Nat.le_of_ble_eq_true rfl), fun t nt => q' _ _ (e6.trans (Ex.new nt)) ⟨t, [.ref r], rfl, sq_of upd_same, .cons ⟨r, rfl, sq_of ?_⟩ .nil⟩⟩
      rw [upd_ne (ne_of_none h6 nt), h6, show ((wd : Int)).toNat = wd by omega, ints_rep]
    · have hb := of_decide_eq_false hb
      rw [if_neg hb] at q
      exact s_retP (ep_mat (Ev.toP (ev_var rfl) fun H5 e5 => (hR.ex (e4.trans e5)).ll) wK hb (by omega) hw) fun v H5 e5 h5 => q v H5 ((e13.trans e4).trans e5) h5
end
end Ef
end
section
/-! W19: the law's small functions: cell, draws, primes, less -/
namespace Ef
open PySem PySem.Spec PyProof.Rows L2 Evl
def spCell (K : PySem.W.Frag) : Sp := fun vs H Q _ => ∃ (a : V) (xs : List Int) (k : Nat), vs = [a, .int (k : Int)] ∧ IsL K (Ints xs) a H ∧ ∀ z H', Ex H H' → Q (.int z) H'
/-- each drawn number is below its size -/
def Drawn (sizes ds : List Int) : Prop := ds.length = sizes.length ∧ ∀ (i : Nat) z s, ds[i]? = some z → sizes[i]? = some s → 0 ≤ z ∧ z < s
def spDraws (K : PySem.W.Frag) : Sp := fun vs H Q _ => ∃ (c : Int) (a : V) (sizes : List Int), vs = [.int c, a] ∧ IsL K (Ints sizes) a H ∧ sizes.length ≤ 1000 ∧ (∀ s ∈ sizes, 0 < s ∧ s < 1000000) ∧
  ∀ p ds H', Ex H H' → H p = none → H' p = some (.lst (Ints ds)) → Drawn sizes ds → Q (.ref p) H'
def PLO (n : Int) : Prop := 3 ≤ n ∧ ¬ n % 2 = 0 ∧ ∀ k : Int, 3 ≤ k → k % 2 = 1 → k * k ≤ n → ¬ k ∣ n
def spLPrime : Sp := fun vs H Q _ => ∃ n : Int, vs = [.int n] ∧ n < 1000000 ∧ ∀ b H', Ex H H' → (b = true ↔ PLO n) → Q (.bl b) H'
def spPrimeFrom : Sp := fun vs H Q _ => ∃ n : Int, vs = [.int n] ∧ 0 ≤ n ∧ n < 2000 ∧ ∀ r H', Ex H H' → PrimeTD r → 3 ≤ r → r ≤ 2003 → Q (.int r) H'
theorem PLO.prime {n : Int} (h : PLO n) : PrimeTD n := by
  obtain ⟨h3, h2, hk⟩ := h
  refine ⟨by omega, fun d hd hdd hdv => ?_⟩
  by_cases e : d % 2 = 1
  · exact hk d (by omega) e hdd hdv
  · have : (2 : Int) ∣ d := by omega
    have := Int.dvd_trans this hdv
    omega
theorem plo_2003 : PLO 2003 := by
  refine ⟨by decide, by decide, fun k h3 ho hk hd => ?_⟩
  have h45 : k < 45 := by
    by_cases c : k < 45
    · exact c
    · have : (45 : Int) * 45 ≤ k * k := Int.mul_le_mul (by omega) (by omega) (by omega) (by omega)
      omega
  have : ∀ j : Nat, j < 45 → 2 ≤ j → ¬ (j : Int) ∣ 2003 := by decide +kernel
  refine this k.toNat (by omega) (by omega) ?_
  rw [show ((k.toNat : Nat) : Int) = k by omega]
  exact hd
abbrev s_l_cell : Stmt := topS 47
theorem sc_l_cell : FnScope ["_law_script", "_law_k"] ["_law_script", "_law_k"] (defScope s_l_cell) := ⟨rfl, rfl, rfl, by decide +kernel, rfl, by decide +kernel, by decide +kernel⟩
abbrev s_l_draws : Stmt := topS 48
theorem sc_l_draws : FnScope ["_law_cell_here", "_law_sizes", "_law_drawn_here", "_law_left", "_law_at", "_law_mixed"] ["_law_cell_here", "_law_sizes"] (defScope s_l_draws) := ⟨rfl, rfl, rfl, by decide +kernel, rfl, by decide +kernel, by decide +kernel⟩
abbrev s_l_is_prime : Stmt := topS 50
theorem sc_l_is_prime : FnScope ["_law_n", "_law_k"] ["_law_n"] (defScope s_l_is_prime) := ⟨rfl, rfl, rfl, by decide +kernel, rfl, by decide +kernel, by decide +kernel⟩
abbrev s_l_prime_from : Stmt := topS 51
theorem sc_l_prime_from : FnScope ["_law_n"] ["_law_n"] (defScope s_l_prime_from) := ⟨rfl, rfl, rfl, by decide +kernel, rfl, by decide +kernel, by decide +kernel⟩
section
variable {P : Program} {w : World} {K : PySem.W.Frag} {mg : Str → Option Value} {base : Heap}
theorem c_l_cell (T : DefOk K mg "_law_cell" s_l_cell ["_law_script", "_law_k"]) (tL : mg "len" = none) : Clb P w K mg base CX0 "_law_cell" 1 ["_law_script", "_law_k"] (spCell K) := by
  obtain ⟨f, fd, F, gm, b⟩ := T.ex
  refine ⟨f, fd, F.ok sc_l_cell (fun vs H Q E h => ?_) (fun cdv A outer s H vs Q E hr h => ?_), gm, F.kp, b⟩
  · obtain ⟨_, _, _, rfl, _⟩ := h
    rfl
  · obtain ⟨a, xs, k, rfl, ha, q⟩ := h
    have nd := sc_l_cell.nd
    refine ⟨_, (pss_cons (ps_if (pt_cmpR op_lt (pv 1) (pe_callB (call_lenK (K := K)) (by rfl) tL PySem.boot_len (pa_cons (pv 0) pa_nil)) (nomark _))
        (pss_one (ps_ret (pe_ix (ix_listK (K := K)) (pv 0) (pv 1) (fun _ _ => rfl))))
        pss_nil)
      (pss_one (ps_ret pe_int))), ?_⟩
    refine q_when (b := decide (k < xs.length)) (et_is (et_test (ev_op (ev_var rfl) (ev_lenL (xs := Ints xs) (ev_var rfl) ha) rv_I0)) (decide_eq_decide.mpr (by rw [List.length_map]; omega))) (fun hb H1 e1 => ?_) (fun hb H1 e1 => ?_)
    · have hk : k < xs.length := of_decide_eq_true hb
      exact s_ret (v := .int xs[k]) (ev_ixL (xs := Ints xs) (ev_var rfl) (IsL.m _ _ _ e1 ha) (ev_var rfl) (by rw [List.getElem?_map, List.getElem?_eq_getElem hk]; rfl)) fun H2 e2 => q _ H2 (e1.trans e2)
    · exact s_ret ev_c fun H2 e2 => q _ H2 (e1.trans e2)
theorem c_l_draws (T : DefOk K mg "_law_draws" s_l_draws ["_law_cell_here", "_law_sizes"]) (tL : mg "len" = none) (tA : mg "abs" = none) (tR : mg "range" = none) (tI : mg "int" = none) : Clb P w K mg base CX0 "_law_draws" 1 ["_law_cell_here", "_law_sizes"] (spDraws K) := by
  obtain ⟨f, fd, F, gm, b⟩ := T.ex
  refine ⟨f, fd, F.ok sc_l_draws (fun vs H Q E h => ?_) (fun cdv A outer s H vs Q E hr h => ?_), gm, F.kp, b⟩
  · obtain ⟨_, _, _, rfl, _⟩ := h
    rfl
  · obtain ⟨c, a, sizes, rfl, ha, hl, hs, q⟩ := h
    have nd := sc_l_draws.nd
    refine ⟨_, (pss_cons (ps_set (i := 2) nd rfl (Or.inl rfl) (pe_lst pa_nil))
      (pss_cons (ps_set (i := 3) nd rfl (Or.inl rfl) (pe_callB call_abs (by rfl) tA (by decide +kernel) (pa_cons (pv 0) pa_nil)))
      (pss_cons (ps_for PassesOwn.never rfl (pi_range1 (by rfl) tR (pa_cons (pe_callB (call_lenK (K := K)) (by rfl) tL PySem.boot_len (pa_cons (pv 1) pa_nil)) pa_nil)) (pg_name (i := 4) nd rfl (Or.inl rfl))
        (pss_one (ps_if (pt_cmpR op_ge (pe_callB call_abs (by rfl) tA (by decide +kernel) (pa_cons (pv 0) pa_nil)) (pe_op op_pow pe_int pe_int) (nomark _))
          (pss_cons (ps_expr (pe_bm PySem.F.plainAttrs_list PySem.F.slot_list_append PySem.F.type_list_append mt_append (pv 2) (pa_cons (pe_op op_modN (pe_callTy call_int1 (by rfl) tI (by decide +kernel) (pa_cons (pv 3) pa_nil)) (pe_ix (ix_listK (K := K)) (pv 1) (pv 4) (fun _ _ => rfl))) pa_nil)))
          (pss_one (ps_set (i := 3) nd rfl (Or.inl rfl) (pe_op op_fdivN (pv 3) (pe_ix (ix_listK (K := K)) (pv 1) (pv 4) (fun _ _ => rfl))))))
          (pss_cons (ps_set (i := 5) nd rfl (Or.inl rfl) (pe_op op_modN (pe_callTy call_int1 (by rfl) tI (by decide +kernel) (pa_cons (pe_op op_mul (pe_op op_add (pe_op op_add (pv 3) (pe_op op_mul pe_int (pv 4))) pe_int) pe_int) pa_nil)) pe_int))
          (pss_cons (ps_set (i := 5) nd rfl (Or.inl rfl) (pe_op op_modN (pe_callTy call_int1 (by rfl) tI (by decide +kernel) (pa_cons (pe_op op_add (pe_op op_add (pe_op op_mul (pe_op op_mul (pv 5) (pv 5)) pe_int) (pe_op op_mul pe_int (pv 4))) (pv 5)) pa_nil)) pe_int))
          (pss_one (ps_expr (pe_bm PySem.F.plainAttrs_list PySem.F.slot_list_append PySem.F.type_list_append mt_append (pv 2) (pa_cons (pe_op op_modN (pe_op op_fdivN (pv 5) pe_int) (pe_ix (ix_listK (K := K)) (pv 1) (pv 4) (fun _ _ => rfl))) pa_nil)))))))))
      (pss_one (ps_ret (pv 2)))))), ?_⟩
    refine q_asgL (el_lst ea_nil (Nat.zero_le _)) fun l H1 hl1 e1 h1 => ?_
    refine q_asg (ev_abs (ev_var rfl)) fun H2 e2 => ?_
    refine q_forR1 (n := (sizes.length : Int)) (ea_cons (ev_is (ev_lenL (xs := Ints sizes) (ev_var rfl) (IsL.m _ _ _ (e1.trans e2) ha)) (by rw [List.length_map])) ea_nil) (by omega)
      (fun i σ' H' => ∃ (lf : Int) (ds : List Int) (y4 y5 : Option V), σ' = [some (.int c), some a, some (.ref l), some (.int lf), y4, y5] ∧ Ex H H' ∧ H' l = some (.lst (Ints ds)) ∧ ds.length = i ∧ (∀ (j : Nat) z s, ds[j]? = some z → sizes[j]? = some s → 0 ≤ z ∧ z < s) ∧ 0 ≤ lf ∧ (c.natAbs < 10 ^ 18 → lf = (c.natAbs : Int)))
      (fun H3 e3 => ⟨_, [], _, _, rfl, (e1.trans e2).trans e3, (e2.trans e3) _ _ h1, rfl, (fun j z s hz => by cases hz), by omega, fun _ => rfl⟩) ?_ ?_
    · rintro i σ' H3 hi ⟨lf, ds, y4, y5, rfl, e3, h3, hdl, hd, h0, hlf⟩
      have hi : i < sizes.length := by omega
      have hsz := hs sizes[i] (List.getElem_mem hi)
      have hix : (Ints sizes)[i]? = some (.int sizes[i]) := by rw [List.getElem?_map, List.getElem?_eq_getElem hi]; rfl
      have szE : ∀ {σ : L2.St} {H4 : Hp}, Ex H H4 → σ[1]? = some (some a) → σ[4]? = some (some (.int (i : Int))) → Ev (tOp (rIxL K) (tVar 1) (tVar 4)) σ H4 (.int sizes[i]) := fun e h1 h4 => ev_ixL (xs := Ints sizes) (ev_var h1) (IsL.m _ _ _ e ha) (ev_var h4) hix
      have app : ∀ {z : Int}, 0 ≤ z → z < sizes[i] → ∀ (j : Nat) z' s, (ds ++ [z])[j]? = some z' → sizes[j]? = some s → 0 ≤ z' ∧ z' < s := fun {z} z0 z1 j z' s hz hss => by
        rcases Nat.lt_or_ge j ds.length with hj | hj
        · rw [List.getElem?_append_left hj] at hz
          exact hd j z' s hz hss
        · rw [List.getElem?_append_right hj] at hz
          by_cases ej : j = i
          · subst ej
            rw [hdl, Nat.sub_self] at hz
            cases hz
            rw [List.getElem?_eq_getElem hi] at hss
            cases hss
            exact ⟨z0, z1⟩
          · rw [List.getElem?_eq_none (by simp; omega)] at hz
            cases hz
      have i2 : ∀ z : Int, Ints ds ++ [V.int z] = Ints (ds ++ [z]) := fun z => by show List.map _ _ ++ _ = List.map _ _; rw [List.map_append]; rfl
      refine s_if (b := decide (10 ^ 18 ≤ c.natAbs)) (et_is (et_test (ev_op (ev_abs (ev_var rfl)) (ev_op ev_c ev_c (rv_I ⟨by decide, by decide, by decide⟩)) rv_I0)) ?_) (fun hb H4 e4 => ?_) (fun hb H4 e4 => ?_)
      · rw [show (10 : Int) ^ (18 : Int).toNat = 1000000000000000000 by decide +kernel]
        exact decide_eq_decide.mpr (by omega)
      · refine q_app (e4 _ _ h3) (ev_var rfl) (ev_op (ev_cb (z := .int lf) (ea_cons (ev_var rfl) ea_nil) ?_) (szE (e3.trans e4) rfl rfl) (rv_I (by omega))) (by rw [List.length_map]; omega) fun H5 e5 => ?_
        · exact fun H1 e1 Q' q' => .inl ⟨_, rfl, q' H1 (Ex.refl _)⟩
        have e45 : Ex H (upd H5 l (.lst (Ints ds ++ [V.int (lf.fmod sizes[i])]))) := Ex.mut ((e3.trans e4).trans e5) hl1
        refine s_asg (ev_op (ev_var rfl) (szE e45 rfl rfl) (rv_I ⟨by omega, by omega⟩)) fun H6 e6 => ?_
        refine ⟨_, ds ++ [lf.fmod sizes[i]], _, _, rfl, e45.trans e6, by rw [← i2]; exact e6 _ _ upd_same, by simp [hdl], app ?_ ?_, ?_, fun z => absurd (of_decide_eq_true hb) (by omega)⟩
        · rw [Int.fmod_eq_emod_of_nonneg _ (by omega)]; exact Int.emod_nonneg _ (by omega)
        · rw [Int.fmod_eq_emod_of_nonneg _ (by omega)]; exact Int.emod_lt_of_pos _ (by omega)
        · exact Int.fdiv_nonneg h0 (by omega)
      · have hc : c.natAbs < 10 ^ 18 := by have := of_decide_eq_false hb; omega
        have elf := hlf hc
        refine q_asg (v := .int (((lf + 11 * (i : Int) + 3) * 48271).fmod 2147483647)) (ev_op (ev_cb (ea_cons (ev_op (ev_op (ev_op (ev_var rfl) (ev_op ev_c (ev_var rfl) (rv_I (.inl ⟨by decide, by decide⟩))) rv_I0) ev_c rv_I0) ev_c (rv_I (.inr ⟨by decide, by decide⟩))) ea_nil) ?_) ev_c (rv_I (by decide))) fun H5 e5 => ?_
        · exact fun H1 e1 Q' q' => .inl ⟨_, rfl, q' H1 (Ex.refl _)⟩
        have b1 : 0 ≤ ((lf + 11 * (i : Int) + 3) * 48271).fmod 2147483647 ∧ ((lf + 11 * (i : Int) + 3) * 48271).fmod 2147483647 < 2147483647 := by
          rw [Int.fmod_eq_emod_of_nonneg _ (by decide)]
          exact ⟨Int.emod_nonneg _ (by decide), Int.emod_lt_of_pos _ (by decide)⟩
        generalize ((lf + 11 * (i : Int) + 3) * 48271).fmod 2147483647 = m1 at *
        refine q_asg (v := .int ((m1 * m1 * 16807 + 97 * (i : Int) + m1).fmod 2147483629)) (ev_op (ev_cb (ea_cons (ev_op (ev_op (ev_op (ev_op (ev_var rfl) (ev_var rfl) (rv_I (.inl ⟨by omega, by omega⟩))) ev_c (rv_I (.inr ⟨by decide, by decide⟩))) (ev_op ev_c (ev_var rfl) (rv_I (.inl ⟨by decide, by decide⟩))) rv_I0) (ev_var rfl) rv_I0) ea_nil) ?_) ev_c (rv_I (by decide))) fun H6 e6 => ?_
        · exact fun H1 e1 Q' q' => .inl ⟨_, rfl, q' H1 (Ex.refl _)⟩
        generalize (m1 * m1 * 16807 + 97 * (i : Int) + m1).fmod 2147483629 = m2 at *
        have e36 := ((e3.trans e4).trans e5).trans e6
        refine s_app ((((e4.trans e5).trans e6) _ _ h3)) (ev_var rfl) (ev_op (ev_op (ev_var rfl) ev_c (rv_I ⟨by decide, by decide⟩)) (szE e36 rfl rfl) (rv_I (by omega))) (by rw [List.length_map]; omega) fun H7 e7 => ?_
        refine ⟨_, ds ++ [(m2.fdiv 5).fmod sizes[i]], _, _, rfl, Ex.mut (e36.trans e7) hl1, by rw [← i2]; exact upd_same, by simp [hdl], app ?_ ?_, h0, fun _ => elf⟩
        · rw [Int.fmod_eq_emod_of_nonneg _ (by omega)]; exact Int.emod_nonneg _ (by omega)
        · rw [Int.fmod_eq_emod_of_nonneg _ (by omega)]; exact Int.emod_lt_of_pos _ (by omega)
    · rintro σ' H3 ⟨lf, ds, y4, y5, rfl, e3, h3, hdl, hd, h0, hlf⟩
      exact s_ret (ev_var rfl) fun H4 e4 => q l ds H4 (e3.trans e4) hl1 (e4 _ _ h3) ⟨by omega, hd⟩
theorem c_l_is_prime (T : DefOk K mg "_law_is_prime" s_l_is_prime ["_law_n"]) : Clb P w K mg base CX0 "_law_is_prime" 1 ["_law_n"] spLPrime := by
  obtain ⟨f, fd, F, gm, b⟩ := T.ex
  refine ⟨f, fd, F.ok sc_l_is_prime (fun vs H Q E h => ?_) (fun cdv A outer s H vs Q E hr h => ?_), gm, F.kp, b⟩
  · obtain ⟨_, rfl, _⟩ := h
    rfl
  · obtain ⟨n, rfl, hn, q⟩ := h
    have nd := sc_l_is_prime.nd
    refine ⟨_, (pss_cons (ps_if (PW.pt (pw_or (pt_cmpR op_lt (pv 0) pe_int (nomark _)) (pw_or1 (pt_cmpR op_eq (pe_op op_modN (pv 0) pe_int) pe_int (nomark _)))))
        (pss_one (ps_ret pe_bl))
        pss_nil)
      (pss_cons (ps_set (i := 1) nd rfl (Or.inl rfl) pe_int)
      (pss_cons (ps_while PassesOwn.never (pt_cmpR op_le (pe_op op_mul (pv 1) (pv 1)) (pv 0) (nomark _))
        (pss_cons (ps_if (pt_cmpR op_eq (pe_op op_modN (pv 0) (pv 1)) pe_int (nomark _))
          (pss_one (ps_ret pe_bl))
          pss_nil)
        (pss_one (ps_set (i := 1) nd rfl (Or.inl rfl) (pe_op op_add (pv 1) pe_int)))))
      (pss_one (ps_ret pe_bl))))), ?_⟩
    refine q_when (b := decide (n < 3) || decide (n % 2 = 0)) (et_or (et_test (ev_op (ev_var rfl) ev_c rv_I0)) fun _ => et_is (et_test (ev_op (ev_op (ev_var rfl) ev_c (rv_I (by decide))) ev_c (rv_eq rfl))) ?_) (fun hb H1 e1 => ?_) (fun hb H1 e1 => ?_)
    · refine decide_eq_decide.mpr ?_
      rw [Int.fmod_eq_emod_of_nonneg _ (by decide)]
      exact ⟨fun z => by injection z, fun z => by rw [z]⟩
    · refine s_ret ev_c fun H2 e2 => q _ H2 (e1.trans e2) ⟨(fun z => by cases z), fun z => ?_⟩
      exfalso
      rcases Bool.or_eq_true_iff.mp hb with k | k
      · have := of_decide_eq_true k
        have := z.1
        omega
      · exact z.2.1 (of_decide_eq_true k)
    · have hb := Bool.or_eq_false_iff.mp hb
      have n3 : ¬ n < 3 := of_decide_eq_false hb.1
      have n2 : ¬ n % 2 = 0 := of_decide_eq_false hb.2
      refine q_asg ev_c fun H2 e2 => ?_
      refine q_while (fun m σ' H' => ∃ k : Int, σ' = [some (.int n), some (.int k)] ∧ Ex H H' ∧ 3 ≤ k ∧ k % 2 = 1 ∧ k ≤ 2 * n + 3 ∧ m = (2 * n + 3 - k).toNat ∧ ∀ j : Int, 3 ≤ j → j % 2 = 1 → j < k → ¬ j ∣ n) _ ⟨3, rfl, e1.trans e2, by decide, by decide, by omega, rfl, fun j h1 _ h2 => by omega⟩ fun m σ' H3 ⟨k, eσ, e3, k3, ko, kn, em, hk⟩ => ?_
      subst eσ
      have kb : -(2 ^ 64) < k ∧ k < 2 ^ 64 := by omega
      refine ⟨decide (k * k ≤ n), et_test (ev_op (ev_op (ev_var rfl) (ev_var rfl) (rv_I (.inl kb))) (ev_var rfl) rv_I0), fun hb2 H4 e4 => ?_, fun hb2 H4 e4 => ?_⟩
      · have hkk : k * k ≤ n := of_decide_eq_true hb2
        have hkn : k ≤ n := by
          have : k * 1 ≤ k * k := Int.mul_le_mul_of_nonneg_left (by omega) (by omega)
          omega
        refine ⟨fun σ' H' => ∃ m', m' < m ∧ ∃ k : Int, σ' = [some (.int n), some (.int k)] ∧ Ex H H' ∧ 3 ≤ k ∧ k % 2 = 1 ∧ k ≤ 2 * n + 3 ∧ m' = (2 * n + 3 - k).toNat ∧ ∀ j : Int, 3 ≤ j → j % 2 = 1 → j < k → ¬ j ∣ n, fun _ _ h => h, ?_⟩
        refine q_when (b := decide (k ∣ n)) (et_is (et_test (ev_op (ev_op (ev_var rfl) (ev_var rfl) (rv_I (by omega))) ev_c (rv_eq rfl))) ?_) (fun hb3 H5 e5 => ?_) (fun hb3 H5 e5 => ?_)
        · exact decide_eq_decide.mpr ⟨fun z => by injection z with z; exact fmod_zero.mp z, fun z => by rw [fmod_zero.mpr z]⟩
        · refine s_ret ev_c fun H6 e6 => q _ H6 (((e3.trans e4).trans e5).trans e6) ⟨(fun z => by cases z), fun z => absurd (of_decide_eq_true hb3) (z.2.2 k k3 ko hkk)⟩
        · have hnd : ¬ k ∣ n := of_decide_eq_false hb3
          refine s_asg (ev_op (ev_var rfl) ev_c rv_I0) fun H6 e6 => ⟨_, ?_, k + 2, rfl, ((e3.trans e4).trans e5).trans e6, by omega, by omega, by omega, rfl, fun j h1 h2 h3 => ?_⟩
          · omega
          · by_cases hj : j < k
            · exact hk j h1 h2 hj
            · obtain rfl : j = k := by omega
              exact hnd
      · have hkk : ¬ k * k ≤ n := of_decide_eq_false hb2
        refine s_ret ev_c fun H5 e5 => q _ H5 ((e3.trans e4).trans e5) ⟨fun _ => ⟨by omega, n2, fun j h1 h2 h3 => hk j h1 h2 ?_⟩, fun _ => rfl⟩
        by_cases c : j < k
        · exact c
        · have : k * k ≤ j * j := Int.mul_le_mul (by omega) (by omega) (by omega) (by omega)
          omega
theorem c_l_prime_from (T : DefOk K mg "_law_prime_from" s_l_prime_from ["_law_n"]) (tM : mg "max" = none) (C_P : Clb P w K mg base CX0 "_law_is_prime" 1 ["_law_n"] spLPrime) : Clb P w K mg base CX0 "_law_prime_from" 2 ["_law_n"] spPrimeFrom := by
  obtain ⟨f, fd, F, gm, b⟩ := T.ex
  refine ⟨f, fd, F.ok sc_l_prime_from (fun vs H Q E h => ?_) (fun cdv A outer s H vs Q E hr h => ?_), gm, F.kp, b⟩
  · obtain ⟨_, rfl, _⟩ := h
    rfl
  · obtain ⟨n, rfl, n0, n2, q⟩ := h
    have nd := sc_l_prime_from.nd
    refine ⟨_, (pss_cons (ps_set (i := 0) nd rfl (Or.inl rfl) (pe_callB (call_max2 rfl) (by rfl) tM (by decide +kernel) (pa_cons (pv 0) (pa_cons pe_int pa_nil))))
      (pss_cons (ps_set (i := 0) nd rfl (Or.inl rfl) (pe_op op_sub (pe_op op_add (pv 0) pe_int) (pe_op op_modN (pv 0) pe_int)))
      (pss_cons (ps_while PassesOwn.never (pt_not (pt_val (pe_cal C_P hr (by rfl) pass0 (pa_cons (pv 0) pa_nil))))
        (pss_one (ps_set (i := 0) nd rfl (Or.inl rfl) (pe_op op_add (pv 0) pe_int))))
      (pss_one (ps_ret (pv 0)))))), ?_⟩
    refine q_asg (ev_max2 (ev_var rfl) ev_c) fun H1 e1 => ?_
    have hm : ∃ m : Int, (if (3 : Int) > n then (3 : Int) else n) = m ∧ 3 ≤ m ∧ m < 2000 := ⟨_, rfl, by split <;> omega, by split <;> omega⟩
    obtain ⟨m, em, m3, m2⟩ := hm
    rw [em]
    refine q_asg (v := .int (m + 1 - m % 2)) (ev_is (ev_op (ev_op (ev_var rfl) ev_c rv_I0) (ev_op (ev_var rfl) ev_c (rv_I (by decide))) rv_I0) (by rw [Int.fmod_eq_emod_of_nonneg _ (by decide)])) fun H2 e2 => ?_
    refine q_while (fun j σ' H' => ∃ k : Int, σ' = [some (.int k)] ∧ Ex H H' ∧ 3 ≤ k ∧ k % 2 = 1 ∧ k ≤ 2003 ∧ j = (2003 - k).toNat) _ ⟨_, rfl, e1.trans e2, by omega, by omega, by omega, rfl⟩ fun j σ' H3 ⟨k, eσ, e3, k3, ko, kn, ej⟩ => ?_
    subst eσ
    have chk : ∀ b, (b = true ↔ PLO k) → EvT (tNot (tTest (tCall spLPrime [] E0 (tCons (tVar 0) tNil)))) [some (.int k)] H3 (!b) := fun b hb => et_not (a := b) fun H4 e4 Q' q' => ep_call (PA := fun vs _ => vs = [.int k]) (P := fun v _ => v = .bl b) (EvA.toP (ea_cons (ev_var rfl) ea_nil) fun _ _ => rfl) (fun vs H5 e5 ev Q2 q2 E2 => ⟨k, ev, by omega, fun b' H6 e6 hb' => q2 _ H6 e6 (by
      congr 1
      cases b <;> cases b'
      · rfl
      · exact absurd (hb.mpr (hb'.mp rfl)) (by decide)
      · exact absurd (hb'.mpr (hb.mp rfl)) (by decide)
      · rfl)⟩) H4 e4 _ fun v H5 e5 ev => ⟨b, ev, q' H5 e5⟩
    by_cases hP : PLO k
    · exact ⟨false, chk true ⟨fun _ => hP, fun _ => rfl⟩, (fun hb => by cases hb), fun _ H4 e4 => s_ret (ev_var rfl) fun H5 e5 => q k H5 ((e3.trans e4).trans e5) hP.prime k3 kn⟩
    · refine ⟨true, chk false ⟨(fun z => by cases z), fun z => absurd z hP⟩, fun _ H4 e4 => ?_, (fun hb => by cases hb)⟩
      have hne : k ≠ 2003 := fun z => hP (by rw [z]; exact plo_2003)
      refine ⟨fun σ' H' => ∃ j', j' < j ∧ ∃ k : Int, σ' = [some (.int k)] ∧ Ex H H' ∧ 3 ≤ k ∧ k % 2 = 1 ∧ k ≤ 2003 ∧ j' = (2003 - k).toNat, fun _ _ h => h, ?_⟩
      exact s_asg (ev_op (ev_var rfl) ev_c rv_I0) fun H5 e5 => ⟨_, by omega, k + 2, rfl, (e3.trans e4).trans e5, by omega, by omega, by omega, rfl⟩
end
end Ef
end
section
/-! W20: the law's elimination step and rank -/
namespace Ef
open PySem PySem.Spec PyProof.Rows L2 Evl
def modc (c x : Int) : Int := if 0 < c then x % c else x
def lessRow (c : Int) (r b : List Int) (at_ : Nat) : List Int := (List.range r.length).map fun j => modc c (r.getD j 0 * b.getD at_ 0 - b.getD j 0 * r.getD at_ 0)
def placesL (M : IM) (at_ s : Nat) : List Nat := ((List.range (M.length - s)).filter fun i => decide (ent M (s + i) at_ ≠ 0)).map fun i => s + i
def firstK (M : IM) (at_ s : Nat) : Option Nat := (placesL M at_ s).head?
def elimM (c : Int) (M : IM) (s at_ n : Nat) : IM := (List.range M.length).map fun i => if s < i ∧ i < n then lessRow c (M.getD i []) (M.getD s []) at_ else M.getD i []
def rankStep (c : Int) (at_ : Nat) (p : IM × Nat) : IM × Nat := match firstK p.1 at_ p.2 with
  | none => p
  | some k => (elimM c (swapM p.1 p.2 k) p.2 at_ p.1.length, p.2 + 1)
def rankN (c : Int) (M : IM) : Nat → IM × Nat
  | 0 => (M, 0)
  | n + 1 => rankStep c n (rankN c M n)
def pickM (c : Int) (M : IM) (Cs : List Nat) : IM := M.map fun row => Cs.map fun j => modc c (row.getD j 0)
def rankF (c : Int) (M : IM) (Cs : List Nat) : Nat := (rankN c (pickM c M Cs) Cs.length).2
def spLess (K : PySem.W.Frag) : Sp := fun vs H Q _ => ∃ (a b : V) (r bs : List Int) (at_ : Nat) (c : Int), vs = [a, b, .int (at_ : Int), .int c] ∧ IsL K (Ints r) a H ∧ IsL K (Ints bs) b H ∧ bs.length = r.length ∧ at_ < r.length ∧ r.length ≤ 1000 ∧
  (∀ x ∈ r, ∀ y ∈ bs, CMulX x y ∧ CMulX y x) ∧ ∀ p H', Ex H H' → H p = none → H' p = some (.lst (Ints (lessRow c r bs at_))) → Q (.ref p) H'
/-- numbers of few bits -/
def Bits (k : Nat) (M : IM) : Prop := ∀ i j, (ent M i j).natAbs < 2 ^ k
def RankOk (c : Int) (M : IM) : Prop := M.length ≤ 1 ∨ 0 < c ∨ Bits 10000 M
def spRank (K : PySem.W.Frag) : Sp := fun vs H Q _ => ∃ (a b : V) (M : IM) (w : Nat) (Cs : List Nat) (c : Int), vs = [a, b, .int c] ∧ LL K M a H ∧ IsL K (Ints (natsI Cs)) b H ∧ Wid w M ∧ (∀ j ∈ Cs, j < w) ∧ M.length ≤ 100 ∧ Cs.length ≤ 4 ∧ 0 ≤ c ∧ c < 1000000 ∧ RankOk c M ∧
  ∀ H', Ex H H' → Q (.int (rankF c M Cs : Int)) H'
abbrev s_l_less : Stmt := topS 52
theorem sc_l_less : FnScope ["_law_row", "_law_base", "_law_at", "_law_char", "_law_factor", "_law_less_here", "_law_j", "_law_item"] ["_law_row", "_law_base", "_law_at", "_law_char"] (defScope s_l_less) := ⟨rfl, rfl, rfl, by decide +kernel, rfl, by decide +kernel, by decide +kernel⟩
abbrev s_l_rank : Stmt := topS 53
theorem sc_l_rank : FnScope ["_law_rows_here", "_law_columns", "_law_char", "_law_at", "_law_left", "_law_size", "_law_k", "_law_places", "_law_row", "_law_item"] ["_law_rows_here", "_law_columns", "_law_char"] (defScope s_l_rank) := ⟨rfl, rfl, rfl, by decide +kernel, rfl, by decide +kernel, by decide +kernel⟩
theorem lessRow_len (c : Int) (r b : List Int) (at_ : Nat) : (lessRow c r b at_).length = r.length := by simp [lessRow]
theorem lessRow_get (c : Int) (r b : List Int) (at_ j : Nat) (h : r.length ≤ b.length) (hb : b.length ≤ r.length) : (lessRow c r b at_).getD j 0 = modc c (r.getD j 0 * b.getD at_ 0 - b.getD j 0 * r.getD at_ 0) := by
  unfold lessRow
  by_cases hj : j < r.length
  · rw [List.getD_eq_getElem?_getD, List.getElem?_map, List.getElem?_range hj]
    rfl
  · rw [List.getD_eq_getElem?_getD, List.getElem?_eq_none (by simp; omega), List.getD_eq_getElem?_getD (l := r) (i := j), List.getElem?_eq_none (by omega), List.getD_eq_getElem?_getD (l := b) (i := j), List.getElem?_eq_none (by omega)]
    simp [modc]
section
variable {K : PySem.W.Frag} {σ : L2.St} {H0 H : Hp} {tl ti tj te : TE} {D : Ends} {tz : TS} {a : Addr} {rs : List Addr} {M : IM} {i j : Nat}
theorem q_swapB (R : RowsAt H0 H a rs M) (hl : ∀ H1, ExBut a H H1 → Ev tl σ H1 (.ref a)) (hi : ∀ H1, ExBut a H H1 → Ev ti σ H1 (.int (i : Int))) (hj : ∀ H1, ExBut a H H1 → Ev tj σ H1 (.int (j : Int))) (li : i < M.length) (lj : j < M.length)
    (k : ∀ H1 ri rj, rs[i]? = some ri → rs[j]? = some rj → ExBut a H H1 → RowsAt H0 H1 a ((rs.set i rj).set j ri) (swapM M i j) → tz D σ H1) :
    tSeq (tAsg (tTup (tCons (tOp (rIxL K) tl tj) (tCons (tOp (rIxL K) tl ti) tNil))) (gTup K 2 (gCons (gSub tl ti rSetL) (gCons (gSub tl tj rSetL) gNil)))) tz D σ H := by
  obtain ⟨ri, e1, m1, x1, f1⟩ := R.refs (getD_get (d := []) li)
  obtain ⟨rj, e2, m2, x2, f2⟩ := R.refs (getD_get (d := []) lj)
  have l1 : i < (rs.map V.ref).length := by rw [List.length_map, R.len]; exact li
  have l2 : j < (rs.map V.ref).length := by rw [List.length_map, R.len]; exact lj
  have b0 : ExBut a H H := fun _ _ _ h => h
  refine ev_op (hl H b0) (hj H b0) (rv_ixL (sq_of R.at_) (atI_nat x2)) H (Ex.refl H) _ fun H2 g2 => ?_
  have b2 := Ex.but a g2
  refine ev_op (hl H2 b2) (hi H2 b2) (rv_ixL (sq_of (g2 _ _ R.at_)) (atI_nat x1)) H2 (Ex.refl _) _ fun H3 g3 => ⟨sz_of (Nat.le_of_ble_eq_true rfl), fun t nt => ?_⟩
  have g4 : Ex H (upd H3 t (.tup [.ref rj, .ref ri])) := (g2.trans g3).trans (Ex.new nt)
  refine ⟨t, [.ref rj, .ref ri], rfl, .inl (.inl upd_same), rfl, .ref rj, [.ref ri], rfl, ?_⟩
  refine hl _ (Ex.but a g4) _ (Ex.refl _) _ fun H5 g5 => hi _ (Ex.but a (g4.trans g5)) _ (Ex.refl _) _ fun H6 g6 => ?_
  have g7 : Ex H H6 := (g4.trans g5).trans g6
  refine ⟨a, _, i, i, rfl, rfl, g7 _ _ R.at_, ixN_nat l1, .ref ri, [], rfl, ?_⟩
  have b7 : ∀ {o}, ExBut a H (upd H6 a o) := (Ex.but a g7).trans ExBut.upd
  refine hl _ b7 _ (Ex.refl _) _ fun H8 g8 => hj _ (b7.trans (Ex.but a g8)) _ (Ex.refl _) _ fun H9 g9 => ?_
  have ha9 : H9 a = some (.lst ((rs.map V.ref).set i (.ref rj))) := g9 _ _ (g8 _ _ upd_same)
  refine ⟨a, _, j, j, rfl, rfl, ha9, ixN_nat (by rw [List.length_set]; exact l2), rfl, ?_⟩
  have b6 : ExBut a H6 H9 := ExBut.upd.trans (Ex.but a (g8.trans g9))
  have S := (R.ex g7).swap e1 e2 (getD_get (d := []) li) (getD_get (d := []) lj)
  refine k _ ri rj e1 e2 ((Ex.but a g7).trans (b6.trans ExBut.upd)) (RowsC.keep S ?_ fun r hr => ?_)
  · rw [upd_same, upd_same]
  · have nr : r ≠ a := fun z => S.na (by rw [← z]; exact hr)
    obtain ⟨o, ho⟩ := S.tr hr
    rw [upd_ne nr, ho]
    rw [upd_ne nr] at ho
    exact b6 _ _ nr ho
end
theorem cmulx_bits {k : Nat} {x y : Int} (hk : k ≤ 400000) (h1 : x.natAbs < 2 ^ k) (h2 : y.natAbs < 2 ^ k) : CMulX x y := by
  have lg : ∀ n : Nat, n < 2 ^ k → n.log2 ≤ k := fun n hn => by
    by_cases z : n = 0
    · rw [z]; exact Nat.zero_le _
    · exact Nat.le_of_lt ((Nat.log2_lt z).mpr hn)
  refine .inr ?_
  show x.natAbs.log2 + y.natAbs.log2 < 1000000
  have := lg _ h1
  have := lg _ h2
  omega
theorem modc_mod {c x : Int} : modc c (modc c x) = modc c x := by
  unfold modc
  split
  · rw [Int.emod_emod_of_dvd _ (Int.dvd_refl c)]
  · rfl
theorem modc_0 (c : Int) : modc c 0 = 0 := by
  unfold modc
  split
  · exact Int.zero_emod c
  · rfl
theorem modc_small {c x : Int} {k : Nat} (hc : c < 1000000) (hk : 20 ≤ k) (hx : 0 < c ∨ x.natAbs < 2 ^ k) : (modc c x).natAbs < 2 ^ k := by
  unfold modc
  split
  · rename_i h
    have h1 := Int.emod_nonneg x (by omega : c ≠ 0)
    have h2 := Int.emod_lt_of_pos x h
    have : (2 : Nat) ^ 20 ≤ 2 ^ k := Nat.pow_le_pow_right (by decide) hk
    have e20 : (2 : Nat) ^ 20 = 1048576 := by decide
    omega
  · rename_i h
    exact hx.resolve_left h
section
variable {P : Program} {w : World} {K : PySem.W.Frag} {mg : Str → Option Value} {base : Heap}
theorem c_l_less (T : DefOk K mg "_law_less" s_l_less ["_law_row", "_law_base", "_law_at", "_law_char"]) (tL : mg "len" = none) (tR : mg "range" = none) (tI : mg "int" = none) : Clb P w K mg base CX0 "_law_less" 1 ["_law_row", "_law_base", "_law_at", "_law_char"] (spLess K) := by
  obtain ⟨f, fd, F, gm, b⟩ := T.ex
  refine ⟨f, fd, F.ok sc_l_less (fun vs H Q E h => ?_) (fun cdv A outer s H vs Q E hr h => ?_), gm, F.kp, b⟩
  · obtain ⟨_, _, _, _, _, _, rfl, _⟩ := h
    rfl
  · obtain ⟨a, b, r, bs, at_, c, rfl, ha, hb, hl, hat, hlen, hmul, q⟩ := h
    have nd := sc_l_less.nd
    refine ⟨_, (pss_cons (ps_set (i := 4) nd rfl (Or.inr rfl) (pe_ix (ix_listK (K := K)) (pv 0) (pv 2) (fun _ _ => rfl)))
      (pss_cons (ps_setLc (i := 5) (own := [("_law_j", 6)]) (by rfl) nd rfl rfl (sw_true rfl rfl rfl (by decide +kernel)) (pi_range1 (by rfl) tR (pa_cons (pe_callB (call_lenK (K := K)) (by rfl) tL PySem.boot_len (pa_cons (pv 0) pa_nil)) pa_nil)) (blkOk_by (own := [("_law_j", 6)]) (by kernel_rfl)) (fun _ _ _ _ _ => (pg_name (i := 6) nd rfl (Or.inl rfl))) (fun _ _ _ _ _ => pts_nil) (fun _ _ _ _ _ => (pe_op op_sub (pe_op op_mulX (pe_ix (ix_listK (K := K)) (pv 0) (pv 6) (fun _ _ => rfl)) (pe_ix (ix_listK (K := K)) (pv 1) (pv 2) (fun _ _ => rfl))) (pe_op op_mulX (pe_ix (ix_listK (K := K)) (pv 1) (pv 6) (fun _ _ => rfl)) (pv 4)))))
      (pss_cons (ps_if (pt_cmpR op_gt (pv 3) pe_int (nomark _))
        (pss_one (ps_setLc (i := 5) (own := [("_law_item", 7)]) (by rfl) nd rfl rfl (sw_true rfl rfl rfl (by decide +kernel)) (pi_listK (K := K) (pv 5)) (blkOk_by (own := [("_law_item", 7)]) (by kernel_rfl)) (fun _ _ _ _ _ => (pg_name (i := 7) nd rfl (Or.inl rfl))) (fun _ _ _ _ _ => pts_nil) (fun _ _ _ _ _ => (pe_op op_modN (pe_callTy call_int1 (by rfl) tI (by decide +kernel) (pa_cons (pv 7) pa_nil)) (pv 3)))))
        pss_nil)
      (pss_one (ps_ret (pv 5)))))), ?_⟩
    have rE : ∀ {σ : L2.St} {H1 : Hp} {tj : TE} {j : Nat}, Ex H H1 → σ[0]? = some (some a) → Ev tj σ H1 (.int (j : Int)) → j < r.length → Ev (tOp (rIxL K) (tVar 0) tj) σ H1 (.int (r.getD j 0)) := fun e hσ hj lj => ev_ixL (xs := Ints r) (ev_var hσ) (IsL.m _ _ _ e ha) hj (by rw [List.getElem?_map, getD_get (d := 0) lj]; rfl)
    have bE : ∀ {σ : L2.St} {H1 : Hp} {tj : TE} {j : Nat}, Ex H H1 → σ[1]? = some (some b) → Ev tj σ H1 (.int (j : Int)) → j < r.length → Ev (tOp (rIxL K) (tVar 1) tj) σ H1 (.int (bs.getD j 0)) := fun e hσ hj lj => ev_ixL (xs := Ints bs) (ev_var hσ) (IsL.m _ _ _ e hb) hj (by rw [List.getElem?_map, getD_get (d := 0) (by omega)]; rfl)
    have mr : ∀ j, j < r.length → r.getD j 0 ∈ r := fun j hj => List.mem_of_getElem? (getD_get (d := 0) hj)
    have mb : ∀ j, j < r.length → bs.getD j 0 ∈ bs := fun j hj => List.mem_of_getElem? (getD_get (d := 0) (by omega))
    refine q_asg (rE (Ex.refl _) rfl (ev_var rfl) hat) fun H1 e1 => ?_
    refine q_asgL (xs := Ints ((List.range r.length).map fun j => r.getD j 0 * bs.getD at_ 0 - bs.getD j 0 * r.getD at_ 0)) (EvL.cast (el_lcR1 (fun _ => true) (fun j => .int (r.getD j 0 * bs.getD at_ 0 - bs.getD j 0 * r.getD at_ 0)) (ea_cons (ev_is (ev_lenL (xs := Ints r) (ev_var rfl) (IsL.m _ _ _ e1 ha)) (by rw [List.length_map])) ea_nil) (by omega) (fun x => rfl) (fun j H2 e2 hj => et_yes) (fun j H2 e2 hj _ => ?_)) ?_) fun l H2 hl2 e2 h2 => ?_
    · have hj : j < r.length := by omega
      exact ev_op (ev_op (rE (e1.trans e2) rfl (ev_var rfl) hj) (bE (e1.trans e2) rfl (ev_var rfl) hat) (rv_I (hmul _ (mr _ hj) _ (mb _ hat)).1)) (ev_op (bE (e1.trans e2) rfl (ev_var rfl) hj) (ev_var rfl) (rv_I (hmul _ (mr _ hat) _ (mb _ hj)).2)) rv_I0
    · rw [show ((r.length : Nat) : Int).toNat = r.length by omega]
      unfold given
      rw [List.filter_eq_self.mpr (fun _ _ => rfl)]
      exact ints_map _ _
    · refine q_whenJ (fun σ' H' => ∃ l' , σ' = [some a, some b, some (.int (at_ : Int)), some (.int c), some (.int (r.getD at_ 0)), some (.ref l'), none, none] ∧ Ex H H' ∧ H l' = none ∧ H' l' = some (.lst (Ints (lessRow c r bs at_)))) (et_test (ev_op (ev_var rfl) ev_c rv_I0)) (fun hb3 H3 e3 go => ?_) (fun hb3 H3 e3 => ?_) ?_
      · have hc : 0 < c := of_decide_eq_true hb3
        refine s_asgL (xs := Ints (lessRow c r bs at_)) (EvL.cast (el_lcL (xs := Ints ((List.range r.length).map fun j => r.getD j 0 * bs.getD at_ 0 - bs.getD j 0 * r.getD at_ 0)) (fun _ => true) (fun j => .int ((((List.range r.length).map fun j => r.getD j 0 * bs.getD at_ 0 - bs.getD j 0 * r.getD at_ 0).getD j 0).fmod c)) (ev_var rfl) (sq_of (e3 _ _ h2)) (by simp; omega) (fun x => rfl) (fun j x H4 e4 hx => et_yes) (fun j x H4 e4 hx _ => ?_)) ?_) fun p H4 hp e4 h4 => ?_
        · rw [List.getElem?_map] at hx
          obtain ⟨z, hz, rfl⟩ := Option.map_eq_some_iff.mp hx
          rw [getD_of hz]
          exact ev_op (ev_cb (z := .int z) (ea_cons (ev_var rfl) ea_nil) (fun H1 e1 Q' q' => .inl ⟨_, rfl, q' H1 (Ex.refl _)⟩)) (ev_var rfl) (rv_I (by omega))
        · rw [List.length_map, given_all _ (fun z => V.int (z.fmod c)) _ (fun i z hz => by rw [getD_of hz])]
          rw [ints_map, List.map_map]
          unfold lessRow modc
          congr 1
          refine List.map_congr_left fun j _ => ?_
          rw [if_pos hc]
          exact Int.fmod_eq_emod_of_nonneg _ (by omega)
        · exact go _ _ ⟨p, rfl, ((e1.trans e2).trans e3).trans e4, fresh_back ((e1.trans e2).trans e3) hp, h4⟩
      · have hc : ¬ 0 < c := of_decide_eq_false hb3
        refine ⟨l, rfl, (e1.trans e2).trans e3, fresh_back e1 hl2, ?_⟩
        rw [e3 _ _ h2]
        unfold lessRow modc
        rw [show (fun j => if 0 < c then (r.getD j 0 * bs.getD at_ 0 - bs.getD j 0 * r.getD at_ 0) % c else r.getD j 0 * bs.getD at_ 0 - bs.getD j 0 * r.getD at_ 0) = (fun j => r.getD j 0 * bs.getD at_ 0 - bs.getD j 0 * r.getD at_ 0) from funext fun j => if_neg hc]
      · rintro σ' H3 ⟨l', rfl, e3, hl', h3⟩
        exact s_ret (ev_var rfl) fun H4 e4 => q l' H4 (e3.trans e4) hl' (e4 _ _ h3)
end
end Ef
end
section
/-! W21: the law's rank -/
namespace Ef
open PySem PySem.Spec PyProof.Rows L2 Evl
theorem elimM_len (c : Int) (M : IM) (s at_ n : Nat) : (elimM c M s at_ n).length = M.length := by simp [elimM]
theorem elimM_row {c : Int} {M : IM} {s at_ n i : Nat} (hi : i < M.length) : (elimM c M s at_ n).getD i [] = if s < i ∧ i < n then lessRow c (M.getD i []) (M.getD s []) at_ else M.getD i [] := by
  unfold elimM
  rw [List.getD_eq_getElem?_getD, List.getElem?_map, List.getElem?_range hi]
  rfl
theorem list_eq_getD {M N : IM} (hl : M.length = N.length) (h : ∀ i, i < M.length → M.getD i [] = N.getD i []) : M = N := List.ext_getElem hl fun i h1 h2 => by
  have := h i h1
  rw [List.getD_eq_getElem?_getD, List.getElem?_eq_getElem h1, List.getD_eq_getElem?_getD, List.getElem?_eq_getElem h2] at this
  exact this
theorem elimM_start (c : Int) (M : IM) (s at_ : Nat) : elimM c M s at_ (s + 1) = M := list_eq_getD (elimM_len ..) fun i hi => by
  rw [elimM_len] at hi
  rw [elimM_row hi, if_neg (by omega)]
theorem elimM_step {c : Int} {M : IM} {s at_ n : Nat} (hs : s < n) (hn : n < M.length) : (elimM c M s at_ n).set n (lessRow c (M.getD n []) (M.getD s []) at_) = elimM c M s at_ (n + 1) := list_eq_getD (by rw [List.length_set, elimM_len, elimM_len]) fun i hi => by
  rw [List.length_set, elimM_len] at hi
  rw [elimM_row hi]
  by_cases e : n = i
  · subst e
    rw [getD_set_self (by rw [elimM_len]; exact hi), if_pos ⟨hs, by omega⟩]
  · rw [getD_set_ne e, elimM_row hi]
    by_cases c : s < i ∧ i < n
    · rw [if_pos c, if_pos (by omega)]
    · rw [if_neg c, if_neg (by omega)]
theorem Shp.elim {h w s at_ n : Nat} {c : Int} {M : IM} (S : Shp h w M) : Shp h w (elimM c M s at_ n) := by
  refine ⟨by rw [elimM_len]; exact S.1, fun k hk => ?_⟩
  rw [elimM_row (by rw [S.1]; exact hk)]
  split
  · rw [lessRow_len, S.2 _ hk]
  · exact S.2 _ hk
theorem Bits.mono {k l : Nat} {M : IM} (h : Bits k M) (hl : k ≤ l) : Bits l M := fun i j => Nat.lt_of_lt_of_le (h i j) (Nat.pow_le_pow_right (by decide) hl)
theorem Bits.swap {k s i h w : Nat} {M : IM} (b : Bits k M) (S : Shp h w M) (hs : s < h) (hi : i < h) : Bits k (swapM M s i) := fun r j => by
  unfold ent
  rw [swapM_get M r (by rw [S.1]; exact hs) (by rw [S.1]; exact hi)]
  split
  · exact b _ _
  · split <;> exact b _ _
theorem bits_step {k : Nat} {c x y z t : Int} (hk : 20 ≤ k) (hc : c < 1000000) (h1 : x.natAbs < 2 ^ k) (h2 : y.natAbs < 2 ^ k) (h3 : z.natAbs < 2 ^ k) (h4 : t.natAbs < 2 ^ k) : (modc c (x * y - z * t)).natAbs < 2 ^ (k * 3) := by
  refine modc_small hc (by omega) (.inr ?_)
  have e1 : (x * y).natAbs < 2 ^ k * 2 ^ k := by
    rw [Int.natAbs_mul]
    exact Nat.mul_lt_mul'' h1 h2
  have e2 : (z * t).natAbs < 2 ^ k * 2 ^ k := by
    rw [Int.natAbs_mul]
    exact Nat.mul_lt_mul'' h3 h4
  have e3 : 2 ^ (k * 3) = 2 ^ k * 2 ^ k * 2 ^ k := by
    rw [← Nat.pow_add, ← Nat.pow_add]
    congr 1
    omega
  have e4 : 2 ≤ 2 ^ k := Nat.le_trans (by decide : 2 ≤ 2 ^ 1) (Nat.pow_le_pow_right (by decide) (by omega))
  have e5 : 2 ^ k * 2 ^ k * 2 ≤ 2 ^ k * 2 ^ k * 2 ^ k := Nat.mul_le_mul_left _ e4
  omega
theorem ent_out' {M : IM} {k l : Nat} (h : M.length ≤ k) : ent M k l = 0 := by
  unfold ent
  rw [List.getD_eq_getElem?_getD (i := k), List.getElem?_eq_none h]
  rfl
theorem Bits.elim {k s at_ n h w : Nat} {c : Int} {M : IM} (b : Bits k M) (S : Shp h w M) (hs : s < h) (hk : 20 ≤ k) (hc : c < 1000000) : Bits (k * 3) (elimM c M s at_ n) := fun i j => by
  by_cases hi : i < h
  · unfold ent
    rw [elimM_row (by rw [S.1]; exact hi)]
    split
    · rw [lessRow_get _ _ _ _ _ (by rw [S.2 _ hi, S.2 _ hs]; exact Nat.le_refl _) (by rw [S.2 _ hi, S.2 _ hs]; exact Nat.le_refl _)]
      exact bits_step hk hc (b _ _) (b _ _) (b _ _) (b _ _)
    · exact b.mono (by omega) i j
  · rw [ent_out' (show (elimM c M s at_ n).length ≤ i by rw [elimM_len, S.1]; omega)]
    exact Nat.pow_pos (by decide)
theorem mem_ent {k : Nat} {M : IM} {x : Int} {i : Nat} (b : Bits k M) (hx : x ∈ M.getD i []) : x.natAbs < 2 ^ k := by
  obtain ⟨j, hj, rfl⟩ := List.mem_iff_getElem.mp hx
  have := b i j
  unfold ent at this
  rw [List.getD_eq_getElem?_getD (i := j), List.getElem?_eq_getElem hj] at this
  exact this
theorem pick_ent (c : Int) (M : IM) (Cs : List Nat) (i j : Nat) : ent (pickM c M Cs) i j = 0 ∨ ∃ x, (∃ j', x = ent M i j') ∧ ent (pickM c M Cs) i j = modc c x := by
  unfold pickM
  by_cases hi : i < M.length
  · by_cases hj : j < Cs.length
    · refine .inr ⟨ent M i Cs[j], ⟨_, rfl⟩, ?_⟩
      unfold ent
      rw [List.getD_eq_getElem?_getD (i := i), List.getElem?_map, List.getElem?_eq_getElem hi]
      show (List.map _ Cs).getD j 0 = _
      rw [List.getD_eq_getElem?_getD (i := j), List.getElem?_map, List.getElem?_eq_getElem hj, List.getD_eq_getElem?_getD (l := M) (i := i), List.getElem?_eq_getElem hi]
      rfl
    · left
      unfold ent
      rw [List.getD_eq_getElem?_getD (i := i), List.getElem?_map, List.getElem?_eq_getElem hi]
      show (List.map _ Cs).getD j 0 = _
      rw [List.getD_eq_getElem?_getD (i := j), List.getElem?_eq_none (by simp; omega)]
      rfl
  · left
    exact ent_out' (by simp; omega)
def pickR (M : IM) (Cs : List Nat) : IM := M.map fun row => Cs.map fun j => row.getD j 0
section
variable {P : Program} {w : World} {K : PySem.W.Frag} {mg : Str → Option Value} {base : Heap}
theorem c_l_rank (T : DefOk K mg "_law_rank" s_l_rank ["_law_rows_here", "_law_columns", "_law_char"]) (tL : mg "len" = none) (tR : mg "range" = none) (tI : mg "int" = none) (C_L : Clb P w K mg base CX0 "_law_less" 1 ["_law_row", "_law_base", "_law_at", "_law_char"] (spLess K)) :
    Clb P w K mg base CX0 "_law_rank" 2 ["_law_rows_here", "_law_columns", "_law_char"] (spRank K) := by
  obtain ⟨f, fd, F, gm, b⟩ := T.ex
  refine ⟨f, fd, F.ok sc_l_rank (fun vs H Q E h => ?_) (fun cdv A outer s H vs Q E hr h => ?_), gm, F.kp, b⟩
  · obtain ⟨_, _, _, _, _, _, rfl, _⟩ := h
    rfl
  · obtain ⟨a, b, M, wd, Cs, c, rfl, ha, hb, hwid, hCs, h100, l4, c0, c1, hok, q⟩ := h
    have nd := sc_l_rank.nd
    refine ⟨_, (pss_cons (ps_set (i := 4) nd rfl (Or.inr rfl) (pe_lc (own := [("_law_row", 8)]) (by rfl) nd (pi_listK (K := K) (pv 0)) (blkOk_by (own := [("_law_row", 8)]) (by kernel_rfl)) (fun _ _ _ _ _ => (pg_name (i := 8) nd rfl (Or.inr rfl))) (fun _ _ _ _ _ => pts_nil) (fun _ _ _ _ _ => (pe_lc (own := [("_law_at", 3)]) (by rfl) nd (pi_listK (K := K) (pv 1)) (blkOk_by (own := [("_law_at", 3)]) (by kernel_rfl)) (fun _ _ _ _ _ => (pg_name (i := 3) nd rfl (Or.inl rfl))) (fun _ _ _ _ _ => pts_nil) (fun _ _ _ _ _ => (pe_ix (ix_listK (K := K)) (pv 8) (pv 3) (fun _ _ => rfl)))))))
      (pss_cons (ps_if (pt_cmpR op_gt (pv 2) pe_int (nomark _))
        (pss_one (ps_set (i := 4) nd rfl (Or.inr rfl) (pe_lc (own := [("_law_row", 8)]) (by rfl) nd (pi_listK (K := K) (pv 4)) (blkOk_by (own := [("_law_row", 8)]) (by kernel_rfl)) (fun _ _ _ _ _ => (pg_name (i := 8) nd rfl (Or.inl rfl))) (fun _ _ _ _ _ => pts_nil) (fun _ _ _ _ _ => (pe_lc (own := [("_law_item", 9)]) (by rfl) nd (pi_listK (K := K) (pv 8)) (blkOk_by (own := [("_law_item", 9)]) (by kernel_rfl)) (fun _ _ _ _ _ => (pg_name (i := 9) nd rfl (Or.inl rfl))) (fun _ _ _ _ _ => pts_nil) (fun _ _ _ _ _ => (pe_op op_modN (pe_callTy call_int1 (by rfl) tI (by decide +kernel) (pa_cons (pv 9) pa_nil)) (pv 2))))))))
        pss_nil)
      (pss_cons (ps_set (i := 5) nd rfl (Or.inl rfl) pe_int)
      (pss_cons (ps_for PassesOwn.never rfl (pi_range1 (by rfl) tR (pa_cons (pe_callB (call_lenK (K := K)) (by rfl) tL PySem.boot_len (pa_cons (pv 1) pa_nil)) pa_nil)) (pg_name (i := 3) nd rfl (Or.inr rfl))
        (pss_cons (ps_setLc (i := 7) (own := [("_law_k", 6)]) (by rfl) nd rfl rfl (sw_true rfl rfl rfl (by decide +kernel)) (pi_range2 (by rfl) tR (pa_cons (pv 5) (pa_cons (pe_callB (call_lenK (K := K)) (by rfl) tL PySem.boot_len (pa_cons (pv 4) pa_nil)) pa_nil))) (blkOk_by (own := [("_law_k", 6)]) (by kernel_rfl)) (fun _ _ _ _ _ => (pg_name (i := 6) nd rfl (Or.inl rfl))) (fun _ _ _ _ _ => pts_one (pt_cmpR op_ne (pe_ix (ix_listK (K := K)) (pe_ix (ix_listK (K := K)) (pv 4) (pv 6) (fun _ _ => rfl)) (pv 3) (fun _ _ => rfl)) pe_int (nomark _))) (fun _ _ _ _ _ => (pv 6)))
        (pss_one (ps_if (pt_cmpR (op_neDK (K := K) hr.units) (pv 7) (pe_lst pa_nil) (nomark _))
          (pss_cons (ps_asg (pe_tup (pa_cons (pe_ix (ix_listK (K := K)) (pv 4) (pe_ix (ix_listK (K := K)) (pv 7) pe_int (fun _ _ => rfl)) (fun _ _ => rfl)) (pa_cons (pe_ix (ix_listK (K := K)) (pv 4) (pv 5) (fun _ _ => rfl)) pa_nil))) (pg_tupK (K := K) (n := 2) rfl (pgs_cons (pg_sub (pv 4) (pv 5) set_list) (pgs_cons (pg_sub (pv 4) (pe_ix (ix_listK (K := K)) (pv 7) pe_int (fun _ _ => rfl)) set_list) pgs_nil))))
          (pss_cons (ps_for PassesOwn.never rfl (pi_range2 (by rfl) tR (pa_cons (pe_op op_add (pv 5) pe_int) (pa_cons (pe_callB (call_lenK (K := K)) (by rfl) tL PySem.boot_len (pa_cons (pv 4) pa_nil)) pa_nil))) (pg_name (i := 6) nd rfl (Or.inl rfl))
            (pss_one (ps_asg (pe_cal C_L hr (by rfl) pass0 (pa_cons (pe_ix (ix_listK (K := K)) (pv 4) (pv 6) (fun _ _ => rfl)) (pa_cons (pe_ix (ix_listK (K := K)) (pv 4) (pv 5) (fun _ _ => rfl)) (pa_cons (pv 3) (pa_cons (pv 2) pa_nil))))) (pg_sub (pv 4) (pv 6) set_list))))
          (pss_one (ps_set (i := 5) nd rfl (Or.inl rfl) (pe_op op_add (pv 5) pe_int)))))
          pss_nil))))
      (pss_one (ps_ret (pv 5))))))), ?_⟩
    obtain ⟨aa, vs, rfl, hs, lvs, hrow⟩ := id ha.rows
    obtain ⟨ab, rfl, hsb⟩ := id hb
    -- the parts of the rows
    refine q_asgR (cc := HO.lst) (M := pickR M Cs) (EvR.cast (er_lcL (xs := vs) (fun _ => true) (fun i => Cs.map fun j => (M.getD i []).getD j 0) (ev_var rfl) hs (by omega) (fun x => rfl) (fun i x H1 e1 hx => et_yes) (fun i x H1 e1 hx _ => ?_)) ?_) fun l rs H1 e1 hR => ?_
    · obtain ⟨r, row, rfl, hM, hr1⟩ := hrow i x hx
      rw [getD_of hM]
      have lrow : row.length = wd := hwid row (List.mem_of_getElem? hM)
      refine EvL.n (EvL.cast (el_lcL (xs := Ints (natsI Cs)) (fun _ => true) (fun k => .int (row.getD (Cs.getD k 0) 0)) (ev_var rfl) (ex_l e1 hsb) (by rw [List.length_map, natsI, List.length_map]; omega) (fun x => rfl) (fun k x H2 e2 hx => et_yes) (fun k x H2 e2 hx _ => ?_)) ?_)
      · obtain ⟨n, hn, rfl⟩ := natsI_get hx
        rw [getD_of hn]
        have hnw : n < row.length := by rw [lrow]; exact hCs n (List.mem_of_getElem? hn)
        exact ev_op (ev_var rfl) (ev_var rfl) (rv_ixL (ex_l (e1.trans e2) hr1) (atI_nat (by rw [List.getElem?_map, getD_get (d := 0) hnw]; rfl)))
      · have l2 : (Ints (natsI Cs)).length = Cs.length := by rw [List.length_map, natsI, List.length_map]
        rw [l2, given_all Cs (fun j => V.int (row.getD j 0)) _ (fun i x hx => by rw [getD_of hx])]
        exact ints_map _ _
    · rw [lvs, givenR_all M (fun row => Cs.map fun j => row.getD j 0) _ (fun i x hx => by rw [getD_of hx])]
      rfl
    -- modulo
    refine q_whenJ (fun σ' H' => ∃ l rs, σ' = [some (.ref aa), some (.ref ab), some (.int c), none, some (.ref l), none, none, none, none, none] ∧ Ex H H' ∧ RowsAt H H' l rs (pickM c M Cs)) (et_test (ev_op (ev_var rfl) ev_c rv_I0)) (fun hb2 H2 e2 go => ?_) (fun hb2 H2 e2 => ?_) ?_
    · have hc : 0 < c := of_decide_eq_true hb2
      have hR2 := hR.ex e2
      refine s_asgR (cc := HO.lst) (M := pickM c M Cs) (EvR.cast (er_lcL (xs := rs.map V.ref) (fun _ => true) (fun i => ((pickR M Cs).getD i []).map fun z => z % c) (ev_var rfl) (sq_of hR2.at_) (by rw [List.length_map, hR.len, pickR, List.length_map]; omega) (fun x => rfl) (fun i x H3 e3 hx => et_yes) (fun i x H3 e3 hx _ => ?_)) ?_) fun l2 rs2 H3 e3 hR3 => go _ _ ⟨l2, rs2, rfl, (e1.trans e2).trans e3, hR3.back (e1.trans e2)⟩
      · have hi : i < (pickR M Cs).length := by
          have := (List.getElem?_eq_some_iff.mp hx).1
          rw [List.length_map, hR.len] at this
          exact this
        obtain ⟨r, er, mr, xr, fr⟩ := hR2.refs (getD_get (d := []) hi)
        rw [xr] at hx
        cases hx
        have lrow : ((pickR M Cs).getD i []).length = Cs.length := by
          unfold pickR at hi ⊢
          rw [List.length_map] at hi
          rw [List.getD_eq_getElem?_getD, List.getElem?_map, List.getElem?_eq_getElem hi]
          exact List.length_map _
        generalize (pickR M Cs).getD i [] = row at *
        refine EvL.n (EvL.cast (el_lcL (xs := Ints row) (fun _ => true) (fun k => .int ((row.getD k 0) % c)) (ev_var rfl) (sq_of (e3 _ _ fr)) (by rw [List.length_map]; omega) (fun x => rfl) (fun k x H4 e4 hx => et_yes) (fun k x H4 e4 hx _ => ?_)) ?_)
        · rw [List.getElem?_map] at hx
          obtain ⟨z, hz, rfl⟩ := Option.map_eq_some_iff.mp hx
          rw [getD_of hz]
          exact ev_is (ev_op (ev_cb (z := .int z) (ea_cons (ev_var rfl) ea_nil) (fun H1 e1 Q' q' => .inl ⟨_, rfl, q' H1 (Ex.refl _)⟩)) (ev_var rfl) (rv_I (by omega))) (by rw [Int.fmod_eq_emod_of_nonneg _ (by omega)])
        · rw [List.length_map, given_all row (fun z => V.int (z % c)) _ (fun i x hx => by rw [getD_of hx])]
          exact ints_map _ _
      · rw [List.length_map, hR2.len, givenR_all (pickR M Cs) (fun row => row.map fun z => z % c) _ (fun i x hx => by rw [getD_of hx])]
        unfold pickR pickM modc
        rw [List.map_map]
        refine List.map_congr_left fun row _ => ?_
        show List.map _ (List.map _ _) = _
        rw [List.map_map]
        refine List.map_congr_left fun j _ => ?_
        rw [if_pos hc]
        rfl
    · have hc : ¬ 0 < c := of_decide_eq_false hb2
      refine ⟨l, rs, rfl, e1.trans e2, ?_⟩
      have : pickM c M Cs = pickR M Cs := by
        unfold pickR pickM modc
        refine List.map_congr_left fun row _ => List.map_congr_left fun j _ => if_neg hc
      rw [this]
      exact hR.ex e2
    rintro σ' H3 ⟨l, rs, rfl, e3, hR3⟩
    clear hR e1
    -- the columns one by one
    have S0 : Shp M.length Cs.length (pickM c M Cs) := by
      unfold pickM
      exact ⟨List.length_map _, fun k hk => by rw [List.getD_eq_getElem?_getD, List.getElem?_map, List.getElem?_eq_getElem hk]; exact List.length_map _⟩
    have B0 : M.length ≤ 1 ∨ Bits 10000 (pickM c M Cs) := by
      rcases hok with h | h | h
      · exact .inl h
      · refine .inr fun i j => ?_
        rcases pick_ent c M Cs i j with z | ⟨x, _, z⟩
        · rw [z]; exact Nat.pow_pos (by decide)
        · rw [z]; exact modc_small c1 (by decide) (.inl h)
      · refine .inr fun i j => ?_
        rcases pick_ent c M Cs i j with z | ⟨x, hx, z⟩
        · rw [z]; exact Nat.pow_pos (by decide)
        · rw [z]
          refine modc_small c1 (by decide) (.inr ?_)
          obtain ⟨j', rfl⟩ := hx
          exact h i j'
    generalize hh : M.length = h at *
    unfold rankF at q
    generalize pickM c M Cs = M0 at *
    refine q_asg ev_c fun H4 e4 => ?_
    refine q_forR1 (n := (Cs.length : Int)) (ea_cons (ev_is (ev_lenL (xs := Ints (natsI Cs)) (ev_var rfl) ⟨ab, rfl, ex_l (e3.trans e4) hsb⟩) (by rw [List.length_map, natsI, List.length_map])) ea_nil) (by omega)
      (fun n σ' H' => ∃ (y3 y6 y7 : Option V) (rs : List Addr) (N : IM) (sz : Nat), σ' = [some (.ref aa), some (.ref ab), some (.int c), y3, some (.ref l), some (.int (sz : Int)), y6, y7, none, none] ∧ Ex H H' ∧ RowsAt H H' l rs N ∧ rankN c M0 n = (N, sz) ∧ Shp h Cs.length N ∧ sz ≤ n ∧ (h ≤ 1 ∨ Bits (10000 * 3 ^ n) N))
      (fun H5 e5 => ⟨_, _, _, rs, M0, 0, rfl, (e3.trans e4).trans e5, (hR3.ex e4).ex e5, rfl, S0, Nat.le_refl _, B0⟩) ?_ ?_
    · rintro n σ' H5 hn ⟨y3, y6, y7, rs, N, sz, rfl, e5, hR, hrk, S, hsz, hB⟩
      have hn : n < Cs.length := by omega
      have lN : N.length = h := S.1
      have pB : (10000 * 3 ^ n) ≤ 270000 := by
        have : 3 ^ n ≤ 3 ^ 3 := Nat.pow_le_pow_right (by decide) (by omega)
        omega
      -- the places
      refine q_asgL (xs := Ints (natsI (placesL N n sz))) (EvL.cast (el_lcR2 (lo := (sz : Int)) (n := (h : Int)) (fun i => decide (ent N (sz + i) n ≠ 0)) (fun i => .int ((sz + i : Nat) : Int)) (ea_cons (ev_var rfl) (ea_cons (ev_is (ev_lenRows hR (ev_var rfl)) (by rw [lN])) ea_nil)) (by omega) (fun x => rfl) (fun i H6 e6 hi => ?_) (fun i H6 e6 hi _ => ?_)) ?_) fun pl H6 hpl e6 h6 => ?_
      · have hi : sz + i < h := by omega
        refine et_is (et_test (ev_op (ev_entR (i := sz + i) (j := n) (hR.ex e6) (ev_var rfl) (ev_is (ev_var rfl) (by rw [show (sz : Int) + (i : Int) = ((sz + i : Nat) : Int) by omega])) (ev_var rfl) (by omega) (by rw [S.2 _ hi]; exact hn)) ev_c (rv_ne rfl))) ?_
        by_cases z : ent N (sz + i) n = 0
        · rw [z]; rfl
        · rw [decide_eq_true z]
          have : ¬ V.int (ent N (sz + i) n) = V.int 0 := fun k => z (by injection k)
          rw [decide_eq_false this]
          rfl
      · exact ev_is (ev_var rfl) (by rw [show (sz : Int) + (i : Int) = ((sz + i : Nat) : Int) by omega])
      · rw [show ((h : Int) - (sz : Int)).toNat = h - sz by omega]
        unfold given placesL natsI
        rw [lN, List.map_map]
        show _ = List.map _ (List.map _ _)
        rw [List.map_map]
        rfl
      have hR6 := hR.ex e6
      have B3 : (h ≤ 1 ∨ Bits (10000 * 3 ^ (n + 1)) N) := hB.imp id fun z => z.mono (by rw [Nat.pow_succ]; omega)
      -- whether there is one
      refine s_when (b := !decide (natsI (placesL N n sz) = [])) (et_test (ev_neI (a := natsI (placesL N n sz)) (b := []) (ev_var rfl) ⟨pl, rfl, sq_of h6⟩ (el_lst ea_nil (Nat.zero_le _)))) (fun hb H7 e7 => ?_) (fun hb H7 e7 => ?_)
      · have hne : placesL N n sz ≠ [] := fun z => by rw [z] at hb; exact absurd hb (by decide)
        obtain ⟨k, tl', hP⟩ := List.exists_cons_of_ne_nil hne
        have hfk : firstK N n sz = some k := by unfold firstK; rw [hP]; rfl
        have hk : sz ≤ k ∧ k < h := by
          have : k ∈ placesL N n sz := by rw [hP]; exact List.mem_cons_self
          unfold placesL at this
          obtain ⟨i, hi, rfl⟩ := List.mem_map.mp this
          have := List.mem_range.mp (List.mem_filter.mp hi).1
          omega
        have hR7 := hR6.ex e7
        have h7 := e7 _ _ h6
        have npl : pl ≠ l := (ne_of_none hR.at_ hpl).symm
        refine q_swapB (i := sz) (j := k) hR7 (fun _ _ => ev_var rfl) (fun _ _ => ev_var rfl) (fun H8 b8 => ev_op (ev_var rfl) ev_c (rv_ixL (sq_of (b8 _ _ npl h7)) (by rw [hP]; exact atI_nat (j := 0) (show (Ints (natsI (k :: tl')))[0]? = some (.int (k : Int)) from rfl)))) (by omega) (by omega) fun H8 ri rj hi1 hj1 b8 R8 => ?_
        have S8 : Shp h Cs.length (swapM N sz k) := S.swap (by omega) hk.2
        have B8 : h ≤ 1 ∨ Bits (10000 * 3 ^ n) (swapM N sz k) := hB.imp id fun z => z.swap S (by omega) hk.2
        have fl : H l = none := hR.fa
        have e8 : Ex H H8 := ExBut.ex ((Ex.but l ((e5.trans e6).trans e7)).trans b8) fl
        have stp : rankN c M0 (n + 1) = (elimM c (swapM N sz k) sz n h, sz + 1) := by
          show rankStep c n (rankN c M0 n) = _
          rw [hrk]
          unfold rankStep
          rw [show firstK (N, sz).1 n (N, sz).2 = some k from hfk]
          rw [← lN]
        generalize swapM N sz k = N8 at *
        generalize (rs.set sz rj).set k ri = rs8 at *
        refine q_forR2 (lo := (sz : Int) + 1) (n := (h : Int)) (ea_cons (ev_op (ev_var rfl) ev_c rv_I0) (ea_cons (ev_is (ev_lenRows R8 (ev_var rfl)) (by rw [S8.1])) ea_nil)) (by omega)
          (fun i σ' H' => ∃ (y6 : Option V) (rs : List Addr), σ' = [some (.ref aa), some (.ref ab), some (.int c), some (.int (n : Int)), some (.ref l), some (.int (sz : Int)), y6, some (.ref pl), none, none] ∧ Ex H H' ∧ RowsAt H H' l rs (elimM c N8 sz n (sz + 1 + i)))
          (fun H9 e9 => ⟨_, rs8, rfl, e8.trans e9, by rw [elimM_start]; exact R8.ex e9⟩) ?_ ?_
        · rintro i σ' H9 hi ⟨y6, rs9, rfl, e9, R9⟩
          rw [show (sz : Int) + 1 + (i : Int) = ((sz + 1 + i : Nat) : Int) by omega]
          have hi9 : sz + 1 + i < h := by omega
          have S9 : Shp h Cs.length (elimM c N8 sz n (sz + 1 + i)) := S8.elim
          have lk : (elimM c N8 sz n (sz + 1 + i)).length = h := S9.1
          have rk : (elimM c N8 sz n (sz + 1 + i)).getD (sz + 1 + i) [] = N8.getD (sz + 1 + i) [] := by rw [elimM_row (by rw [S8.1]; exact hi9), if_neg (by omega)]
          have rz : (elimM c N8 sz n (sz + 1 + i)).getD sz [] = N8.getD sz [] := by rw [elimM_row (by rw [S8.1]; omega), if_neg (by omega)]
          obtain ⟨r1, er1, mr1, xr1, fr1⟩ := R9.refs (getD_get (d := []) (by rw [lk]; exact hi9))
          obtain ⟨r2, er2, mr2, xr2, fr2⟩ := R9.refs (getD_get (d := []) (show sz < (elimM c N8 sz n (sz + 1 + i)).length by rw [lk]; omega))
          rw [rk] at fr1
          rw [rz] at fr2
          have BB := B8.resolve_left (by omega)
          refine s_setRow (i := sz + 1 + i) (row := lessRow c (N8.getD (sz + 1 + i) []) (N8.getD sz []) n) R9 e9 (el_call (vs := [.ref r1, .ref r2, .int (n : Int), .int c]) (ea_cons (ev_op (ev_var rfl) (ev_var rfl) (rv_ixL (sq_of R9.at_) (atI_nat xr1))) (ea_cons (ev_op (ev_var rfl) (ev_var rfl) (rv_ixL (sq_of R9.at_) (atI_nat xr2))) (ea_cons (ev_var rfl) (ea_cons (ev_var rfl) ea_nil)))) fun H10 e10 Q' q' E' => ?_) (fun _ _ => ev_var rfl) (fun _ => ev_var rfl) (by rw [lk]; exact hi9) fun H10 q10 f10 b10 R10 => ?_
          · refine ⟨.ref r1, .ref r2, _, _, n, c, rfl, ⟨r1, rfl, sq_of (e10 _ _ fr1)⟩, ⟨r2, rfl, sq_of (e10 _ _ fr2)⟩, by rw [S8.2 _ hi9, S8.2 _ (by omega)], by rw [S8.2 _ hi9]; exact hn, by rw [S8.2 _ hi9]; omega, fun x hx y hy => ?_, fun p H11 e11 hp h11 => q' p H11 hp e11 h11⟩
            have m1 := mem_ent BB hx
            have m2 := mem_ent BB hy
            exact ⟨cmulx_bits (by omega) m1 m2, cmulx_bits (by omega) m2 m1⟩
          · rw [elimM_step (by omega) (by rw [S8.1]; exact hi9)] at R10
            exact ⟨_, _, rfl, ExBut.ex ((Ex.but l e9).trans b10) fl, R10⟩
        · rintro σ' H9 ⟨y6, rs9, rfl, e9, R9⟩
          have lst : (elimM c N8 sz n (sz + 1 + ((h : Int) - ((sz : Int) + 1)).toNat)) = elimM c N8 sz n h := by
            rw [show sz + 1 + ((h : Int) - ((sz : Int) + 1)).toNat = h by omega]
          rw [lst] at R9
          refine s_asg (v := .int ((sz + 1 : Nat) : Int)) (ev_is (ev_op (ev_var rfl) ev_c rv_I0) (by simp)) fun H10 e10 => ⟨_, _, _, rs9, _, sz + 1, rfl, e9.trans e10, R9.ex e10, stp, S8.elim, by omega, B8.imp id fun z => ?_⟩
          have := z.elim (s := sz) (at_ := n) (n := h) S8 (by omega) (by have : 1 ≤ 3 ^ n := Nat.pow_pos (by decide); omega) c1
          rw [show 10000 * 3 ^ (n + 1) = 10000 * 3 ^ n * 3 by rw [Nat.pow_succ, Nat.mul_assoc]]
          exact this
      · have he : placesL N n sz = [] := by
          have : natsI (placesL N n sz) = [] := by
            by_cases z : natsI (placesL N n sz) = []
            · exact z
            · rw [decide_eq_false z] at hb
              cases hb
          exact List.map_eq_nil_iff.mp this
        have stp : rankN c M0 (n + 1) = (N, sz) := by
          show rankStep c n (rankN c M0 n) = _
          rw [hrk]
          unfold rankStep
          rw [show firstK (N, sz).1 n (N, sz).2 = none by unfold firstK; rw [he]; rfl]
        exact ⟨_, _, _, rs, N, sz, rfl, (e5.trans e6).trans e7, hR6.ex e7, stp, S, by omega, B3⟩
    · rintro σ' H5 ⟨y3, y6, y7, rs, N, sz, rfl, e5, hR, hrk, S, hsz, hB⟩
      rw [show ((Cs.length : Nat) : Int).toNat = Cs.length by omega] at hrk
      rw [hrk] at q
      exact s_ret (ev_var rfl) fun H6 e6 => q H6 (e5.trans e6)
end
end Ef
end
section
/-! W22: the law's lists and bases -/
namespace Ef
open PySem PySem.Spec PyProof.Rows L2 Evl
def sortL (M : IM) : IM := M.mergeSort fun p q => decide (p ≤ q)
/-- sorted(a list of lists of ints) -/
def rSortLL (K : PySem.W.Frag) : List V → Hp → VK → Prop := fun vs H Q => ∃ a M, vs = [a] ∧ LL K M a H ∧ M.length ≤ 1000 ∧ ∀ p ys, H p = none → Paired (fun u r => IsL K (Ints r) u H) ys (sortL M) → Q (.ref p) (upd H p (.lst ys))
theorem each_of_paired {α β : Type} {R : α → β → Prop} : ∀ {l : List α} {m : List β}, Paired R l m → PySem.W.EachIs R l m
  | _, _, .nil => .nil
  | _, _, .cons r t => .cons r (each_of_paired t)
theorem paired_of_each {α β : Type} {R : α → β → Prop} : ∀ {l : List α} {m : List β}, PySem.W.EachIs R l m → Paired R l m
  | _, _, .nil => .nil
  | _, _, .cons r t => .cons r (paired_of_each t)
theorem pr_thru {α β γ : Type} {F : α → β → Prop} {G : α → γ → Prop} {R : γ → β → Prop} (k : ∀ a b c, F a b → G a c → R c b) : ∀ {l : List α} {m : List β} {n : List γ}, Paired F l m → Paired G l n → Paired R n m
  | _, _, _, .nil, .nil => .nil
  | _, _, _, .cons r t, .cons s u => .cons (k _ _ _ r s) (pr_thru k t u)
theorem back_rows {K : PySem.W.Frag} {H : Hp} : ∀ {out : List Value} {M : IM}, Paired (fun u r => ∃ v, RelV v u ∧ IsL K (Ints r) v H) out M → ∃ ys, Vals ys out ∧ Paired (fun u r => IsL K (Ints r) u H) ys M
  | _, _, .nil => ⟨[], .nil, .nil⟩
  | _, _, .cons ⟨v, r, h⟩ t => by
    obtain ⟨ys, a, b⟩ := back_rows t
    exact ⟨v :: ys, .cons r a, .cons h b⟩
theorem cr_sortLL {X : Cx} {K : PySem.W.Frag} (hu : X.A.units + 64 < cLine) (hK : X.K = K := by rfl) : CallR X (.builtin "sorted") (rSortLL K) := by
  intro pins s σ H vs us Q I r h
  obtain ⟨a, M, rfl, ⟨la, ws, rfl, hs, hp⟩, hl, q⟩ := h
  subst hK
  obtain rfl := Vals.ref1 r
  obtain ⟨its, rv, pl, hz⟩ := I.list hs
  have lw : ws.length = M.length := Paired.len hp
  have li : its.length = M.length := by rw [← rv.length, lw]
  have e : PySem.W.EachIs (fun u r => ∃ v, RelV v u ∧ IsL X.K (Ints r) v H) its M := each_of_paired (pr_thru (fun v r u h1 h2 => ⟨v, h2, h1⟩) hp rv)
  have er : PySem.W.EachIs (fun u r => ∃ as, Reads s.heap u (dI r) as) its M := each_of_paired (pr_thru (R := fun u r => ∃ as, Reads s.heap u (dI r) as) (fun v r u h1 h2 => Dp.reads I (dI r) v u (dp_ints h1) h2) hp rv)
  refine PySem.W.sorted_data (enc := dI) (bs := M) (vs := its) (pl.isList) e er (PySem.W.AllAlike.of fun b b' => ?_) (PySem.W.Sortable.others fun b => ⟨(fun z => by cases z), (fun xs z => by cases z)⟩) (by rw [sizeLine_eq]; omega) (fun b _ => ?_) fun out ho eo => ?_
  · show PySem.W.alike (.list (b.map .int)) (.list (b'.map .int)) = true
    rw [PySem.W.alike]
    exact PySem.W.alike_ints b b'
  · have : (dI b).depth = 1 := by
      show PyData.depth (.list (b.map .int)) = 1
      simp [PyData.depth, PySem.W.depth_ints]
    omega
  · have es : M.mergeSort (PySem.W.dataLe false dI) = sortL M := by
      show M.mergeSort (PySem.W.dataLe false fun b => .list ((id b).map .int)) = _
      rw [PySem.W.dataLe_rows (fun b : List Int => id b)]
      rfl
    rw [es] at eo
    obtain ⟨ys, hv, hy⟩ := back_rows (paired_of_each eo)
    obtain ⟨c, hc⟩ := sortedAll_at s.heap its (List.toArray out)
    have hd : s.heap.objs.size ≤ s.heap.objs.size + 1 := Nat.le_succ _
    refine ⟨.ref (s.heap.objs.size + 1), upd H (s.heap.objs.size + 1) (.lst ys), I.laid (t' := s.toks) (fun b o e => sortedAll_old e) hd ⟨?_, out, c, hv, hc⟩, rfl, q _ ys (I.hok.fresh hd) hy⟩
    rw [hv.length, ho, sizeLine_eq]
    omega
/-! ### the lists, sorted -/
def lawLists : Nat → List (List Nat)
  | 0 => [[]]
  | 1 => [[], [0]]
  | 2 => [[], [0], [0, 1], [1]]
  | 3 => [[], [0], [0, 1], [0, 1, 2], [0, 2], [1], [1, 2], [2]]
  | _ => [[], [0], [0, 1], [0, 1, 2], [0, 1, 2, 3], [0, 1, 3], [0, 2], [0, 2, 3], [0, 3], [1], [1, 2], [1, 2, 3], [1, 3], [2], [2, 3], [3]]
def rawLists : Nat → List (List Nat)
  | 0 => [[]]
  | n + 1 => rawLists n ++ (rawLists n).map fun r => r ++ [n]
theorem le_total' (a b : List Int) : (decide (a ≤ b) || decide (b ≤ a)) = true := by
  by_cases h : a ≤ b
  · simp [h]
  · have : b ≤ a := List.le_of_lt (List.not_le.mp h)
    simp [this]
theorem le_trans' (a b c : List Int) (h1 : decide (a ≤ b) = true) (h2 : decide (b ≤ c) = true) : decide (a ≤ c) = true := decide_eq_true (List.le_trans (of_decide_eq_true h1) (of_decide_eq_true h2))
theorem perm_sorted : ∀ {l m : IM}, l.Perm m → l.Pairwise (· ≤ ·) → m.Pairwise (· ≤ ·) → l = m
  | [], m, h, _, _ => h.nil_eq
  | a :: l, [], h, _, _ => absurd h.symm.nil_eq (by simp)
  | a :: l, b :: m, h, h1, h2 => by
    have hab : a ≤ b := by
      rcases List.mem_cons.mp (h.symm.mem_iff.mp (List.mem_cons_self (a := b))) with z | z
      · rw [z]; exact List.le_refl _
      · exact (List.pairwise_cons.mp h1).1 b z
    have hba : b ≤ a := by
      rcases List.mem_cons.mp (h.mem_iff.mp (List.mem_cons_self (a := a))) with z | z
      · rw [z]; exact List.le_refl _
      · exact (List.pairwise_cons.mp h2).1 a z
    obtain rfl : a = b := List.le_antisymm hab hba
    rw [perm_sorted (List.Perm.cons_inv h) (List.pairwise_cons.mp h1).2 (List.pairwise_cons.mp h2).2]
theorem sortL_eq {M N : IM} (h : M.Perm N) (hN : N.Pairwise (· ≤ ·)) : sortL M = N :=
  perm_sorted ((List.mergeSort_perm M _).trans h) ((List.pairwise_mergeSort le_trans' le_total' M).imp fun z => of_decide_eq_true z) hN
theorem lists_sort (n : Nat) (h : n ≤ 4) : sortL ((rawLists n).map natsI) = (lawLists n).map natsI := by
  have key : ∀ n : Nat, n < 5 → ((rawLists n).map natsI).Perm ((lawLists n).map natsI) ∧ ((lawLists n).map natsI).Pairwise (· ≤ ·) := by decide +kernel
  exact sortL_eq (key n (by omega)).1 (key n (by omega)).2
def OwnL (M : IM) : VP := fun v H => ∃ a rs, v = .ref a ∧ H a = some (.lst (rs.map V.ref)) ∧ Paired (fun r x => H r = some (.lst (Ints x))) rs M
theorem OwnL.m {M : IM} : Mono (OwnL M) := fun _ _ _ e ⟨a, rs, h, q, p⟩ => ⟨a, rs, h, e _ _ q, pr_imp (fun r x z => e _ _ z) p⟩
theorem own_ll {K : PySem.W.Frag} {H : Hp} : ∀ {rs : List Addr} {M : IM}, Paired (fun r x => H r = some (.lst (Ints x))) rs M → Paired (fun u x => IsL K (Ints x) u H) (rs.map V.ref) M
  | _, _, .nil => .nil
  | _, _, .cons r t => .cons ⟨_, rfl, sq_of r⟩ (own_ll t)
def spLists (K : PySem.W.Frag) : Sp := fun vs H Q _ => ∃ n : Nat, vs = [.int (n : Int)] ∧ n ≤ 4 ∧ ∀ v H', Ex H H' → LL K ((lawLists n).map natsI) v H' → Q v H'
def basesF (c : Int) (M : IM) (w : Nat) : List (List Nat) := ((lawLists w).filter fun r => decide (r.length = rankF c M (List.range w))).filter fun r => decide (rankF c M r = rankF c M (List.range w))
def spBases (K : PySem.W.Frag) : Sp := fun vs H Q _ => ∃ (a : V) (M : IM) (w : Nat) (c : Int), vs = [a, .int c] ∧ LL K M a H ∧ Wid w M ∧ 0 < M.length ∧ M.length ≤ 100 ∧ w ≤ 4 ∧ 0 ≤ c ∧ c < 1000000 ∧ RankOk c M ∧
  ∀ v H', Ex H H' → LL K ((basesF c M w).map natsI) v H' → Q v H'
theorem lawLists_lt (n : Nat) (h : n ≤ 4) : ∀ r ∈ lawLists n, (∀ j ∈ r, j < n) ∧ r.length ≤ n := by
  have key : ∀ n : Nat, n < 5 → ∀ r ∈ lawLists n, (∀ j ∈ r, j < n) ∧ r.length ≤ n := by decide +kernel
  exact key n (by omega)
theorem lawLists_len (n : Nat) : (lawLists n).length ≤ 16 := by
  match n with
  | 0 => decide
  | 1 => decide
  | 2 => decide
  | 3 => decide
  | n + 4 => exact Nat.le_refl 16
theorem pr_filter {α β : Type} {F : α → β → Prop} (p : β → Bool) (d : α) (d' : β) : ∀ {vs : List α} {M : List β}, Paired F vs M → Paired F (((List.range vs.length).filter fun i => p (M.getD i d')).map fun i => vs.getD i d) (M.filter p)
  | _, _, .nil => .nil
  | a :: l, b :: m, .cons r t => by
    have ih := pr_filter p d d' t
    have e : (((List.range (a :: l).length).filter fun i => p ((b :: m).getD i d')).map fun i => (a :: l).getD i d) = (if p b = true then [a] else []) ++ (((List.range l.length).filter fun i => p (m.getD i d')).map fun i => l.getD i d) := by
      rw [List.length_cons, List.range_succ_eq_map, List.filter_cons, List.filter_map]
      by_cases h : p b = true
      · rw [if_pos (by simpa using h), if_pos h, List.map_cons, List.map_map]
        rfl
      · rw [if_neg (by simpa using h), if_neg h, List.map_map]
        rfl
    rw [e, List.filter_cons]
    by_cases h : p b = true
    · rw [if_pos h, if_pos h]
      exact .cons r ih
    · rw [if_neg h, if_neg h]
      exact ih
abbrev s_l_lists : Stmt := topS 54
theorem sc_l_lists : FnScope ["_law_many", "_law_rows_here", "_law_at", "_law_row"] ["_law_many"] (defScope s_l_lists) := ⟨rfl, rfl, rfl, by decide +kernel, rfl, by decide +kernel, by decide +kernel⟩
abbrev s_l_bases : Stmt := topS 55
theorem sc_l_bases : FnScope ["_law_rows_here", "_law_char", "_law_many", "_law_size", "_law_some", "_law_row"] ["_law_rows_here", "_law_char"] (defScope s_l_bases) := ⟨rfl, rfl, rfl, by decide +kernel, rfl, by decide +kernel, by decide +kernel⟩
section
variable {P : Program} {w : World} {K : PySem.W.Frag} {mg : Str → Option Value} {base : Heap}
/-- [row for row in rows if ..]: the rows themselves -/
theorem el_pick {σ : L2.St} {H : Hp} {tl : TE} {t : TT} {te : TE} {a : Addr} {us : List V} {M : IM} {j : Nat} {vs : List Nat} (p : List Int → Bool) (h : Ev tl σ H (.ref a)) (hx : SqL K H a us) (hp : Paired (fun u x => IsL K (Ints x) u H) us M) (hz : us.length ≤ 40000) (hw : ∀ x, wipe ((wipe σ vs).set j (some x)) vs = wipe σ vs)
    (ht : ∀ (u : V) (row : List Int) H1, Ex H H1 → row ∈ M → IsL K (Ints row) u H1 → EvT t ((wipe σ vs).set j (some u)) H1 (p row)) (he : ∀ (u : V) H1, Ev te ((wipe σ vs).set j (some u)) H1 u) :
    EvP (tLc (iList K tl) (gName j) t te vs) σ H (LL K (M.filter p)) := fun H1 e1 Q q =>
  el_lcL (xs := us) (fun i => p (M.getD i [])) (fun i => us.getD i V.non) h hx hz hw (fun i x H2 e2 hi => by
    obtain ⟨row, hr, hl⟩ := pr_getL hp hi
    rw [getD_of hr]
    exact ht x row H2 e2 (List.mem_of_getElem? hr) (IsL.m _ _ _ e2 hl)) (fun i x H2 e2 hi _ => by rw [getD_of hi]; exact he x H2) H1 e1 Q fun l H2 hl e2 h2 => q _ H2 e2 ⟨l, _, rfl, sq_of h2, pr_imp (fun u x z => IsL.m _ _ _ (e1.trans e2) z) (pr_filter p V.non [] hp)⟩
theorem lst1 {σ : L2.St} {H : Hp} {te : TE} {Q : VK} (h : te σ H fun x H1 => [x].length ≤ sizeLine ∧ ∀ p, H1 p = none → Q (.ref p) (upd H1 p (.lst [x]))) : tLst (tCons te tNil) σ H Q := h
theorem ep_pick {σ : L2.St} {H : Hp} {tl : TE} {t : TT} {te : TE} {M : IM} {j : Nat} {vs : List Nat} (p : List Int → Bool) (h : EvP tl σ H (LL K M)) (hz : M.length ≤ 40000) (hw : ∀ x, wipe ((wipe σ vs).set j (some x)) vs = wipe σ vs)
    (ht : ∀ (u : V) (row : List Int) H1, Ex H H1 → row ∈ M → IsL K (Ints row) u H1 → EvT t ((wipe σ vs).set j (some u)) H1 (p row)) (he : ∀ (u : V) H1, Ev te ((wipe σ vs).set j (some u)) H1 u) :
    EvP (tLc (iList K tl) (gName j) t te vs) σ H (LL K (M.filter p)) := fun H1 e1 Q q => h H1 e1 _ fun v H2 e2 hv => by
  obtain ⟨a, us, rfl, hs, hp⟩ := hv
  exact (el_pick (tl := tC (.ref a)) p ev_c hs hp (by rw [Paired.len hp]; exact hz) hw (fun u row H3 e3 hr hu => ht u row H3 ((e1.trans e2).trans e3) hr hu) he) H2 (Ex.refl _) Q fun u H3 e3 hu => q u H3 (e2.trans e3) hu
theorem c_l_lists (T : DefOk K mg "_law_lists" s_l_lists ["_law_many"]) (tR : mg "range" = none) (tS : mg "sorted" = none) : Clb P w K mg base CX0 "_law_lists" 1 ["_law_many"] (spLists K) := by
  obtain ⟨f, fd, F, gm, b⟩ := T.ex
  refine ⟨f, fd, F.ok sc_l_lists (fun vs H Q E h => ?_) (fun cdv A outer s H vs Q E hr h => ?_), gm, F.kp, b⟩
  · obtain ⟨_, rfl, _⟩ := h
    rfl
  · obtain ⟨n, rfl, hn, q⟩ := h
    have nd := sc_l_lists.nd
    refine ⟨_, (pss_cons (ps_set (i := 1) nd rfl (Or.inl rfl) (pe_lst (pa_cons (pe_lst pa_nil) pa_nil)))
      (pss_cons (ps_for PassesOwn.never rfl (pi_range1 (by rfl) tR (pa_cons (pv 0) pa_nil)) (pg_name (i := 2) nd rfl (Or.inr rfl))
        (pss_one (ps_set (i := 1) nd rfl (Or.inl rfl) (pe_op op_cat (pv 1) (pe_lc (own := [("_law_row", 3)]) (by rfl) nd (pi_listK (K := K) (pv 1)) (blkOk_by (own := [("_law_row", 3)]) (by kernel_rfl)) (fun _ _ _ _ _ => (pg_name (i := 3) nd rfl (Or.inl rfl))) (fun _ _ _ _ _ => pts_nil) (fun _ _ _ _ _ => (pe_op op_cat (pv 3) (pe_lst (pa_cons (pv 2) pa_nil)))))))))
      (pss_one (ps_ret (pe_callB (cr_sortLL (K := K) hr.units) (by rfl) tS (by decide +kernel) (pa_cons (pv 1) pa_nil)))))), ?_⟩
    refine q_asgP (P := OwnL [[]]) (fun H1 e1 Q' q' => lst1 <| el_lst ea_nil (Nat.zero_le _) H1 (Ex.refl _) _ fun r H2 hr e2 h2 => ⟨sz_of (Nat.le_of_ble_eq_true rfl), fun t nt => q' _ _ (e2.trans (Ex.new nt)) ⟨t, [r], rfl, upd_same, .cons (by rw [upd_ne (ne_of_none h2 nt)]; exact h2) .nil⟩⟩) fun v H1 e1 hv => ?_
    refine q_forR1 (n := (n : Int)) (ea_cons (ev_var rfl) ea_nil) (by omega) (fun i σ' H' => ∃ v y2, σ' = [some (.int (n : Int)), some v, y2, none] ∧ Ex H H' ∧ OwnL ((rawLists i).map natsI) v H') (fun H2 e2 => ⟨v, _, rfl, e1.trans e2, OwnL.m _ _ _ e2 hv⟩) ?_ ?_
    · rintro i σ' H2 hi ⟨v, y2, rfl, e2, a, rs, rfl, ha, hp⟩
      have hi : i < 4 := by omega
      have l16 : ((rawLists i).map natsI).length ≤ 16 := by
        have key : ∀ i : Nat, i < 4 → ((rawLists i).map natsI).length ≤ 16 := by decide +kernel
        exact key i hi
      have lrs : rs.length ≤ 16 := by rw [Paired.len hp]; exact l16
      have l4 : ∀ r ∈ (rawLists i).map natsI, r.length ≤ 4 := by
        have key : ∀ i : Nat, i < 4 → ∀ r ∈ (rawLists i).map natsI, r.length ≤ 4 := by decide +kernel
        exact key i hi
      have lc : EvR HO.lst (tLc (iList K (tVar 1)) (gName 3) tYes (tOp rCat (tVar 3) (tLst (tCons (tVar 2) tNil))) [3]) [some (.int (n : Int)), some (.ref a), some (.int (i : Int)), none] H2 (((rawLists i).map natsI).map fun r => r ++ [(i : Int)]) := by
        refine EvR.cast (er_lcL (xs := rs.map V.ref) (fun _ => true) (fun k => ((rawLists i).map natsI).getD k [] ++ [(i : Int)]) (ev_var rfl) (sq_of ha) (by rw [List.length_map]; omega) (fun x => rfl) (fun k x H3 e3 hx => et_yes) (fun k x H3 e3 hx _ => ?_)) ?_
        · rw [List.getElem?_map] at hx
          obtain ⟨r, hr, rfl⟩ := Option.map_eq_some_iff.mp hx
          obtain ⟨row, h1, h2⟩ := pr_getL hp hr
          rw [getD_of h1]
          have l := l4 row (List.mem_of_getElem? h1)
          exact EvL.n (EvL.cast (el_cat (ev_var rfl) (e3 _ _ h2) (el_lst (ea_cons (ev_var rfl) ea_nil) (Nat.le_of_ble_eq_true rfl)) (by rw [List.length_map]; simp; omega)) (by show _ = List.map _ _; rw [List.map_append]; rfl))
        · rw [List.length_map, Paired.len hp, givenR_all ((rawLists i).map natsI) (fun r => r ++ [(i : Int)]) _ (fun i x hx => by rw [getD_of hx])]
      refine s_asgP (P := OwnL ((rawLists (i + 1)).map natsI)) (fun H3 e3 Q' q' => (ev_var (v := .ref a) rfl) H3 (Ex.refl _) _ fun H4 e4 => lc H4 (e3.trans e4) _ fun b rs2 H5 e5 hB => ?_) fun v' H3 e3 hv' => ⟨v', _, rfl, e2.trans e3, hv'⟩
      have e25 := (e3.trans e4).trans e5
      refine ⟨a, b, _, _, rfl, rfl, e25 _ _ ha, hB.at_, sz_of ?_, fun t nt => q' _ _ ((e4.trans e5).trans (Ex.new nt)) ⟨t, rs ++ rs2, rfl, by rw [upd_same, List.map_append], ?_⟩⟩
      · rw [List.length_map, List.length_map, hB.len, List.length_map]
        omega
      · have em : (rawLists (i + 1)).map natsI = (rawLists i).map natsI ++ ((rawLists i).map natsI).map fun r => r ++ [(i : Int)] := by
          show ((rawLists i) ++ (rawLists i).map fun r => r ++ [i]).map natsI = _
          rw [List.map_append, List.map_map, List.map_map]
          congr 1
          exact List.map_congr_left fun r _ => natsI_app r [i]
        rw [em]
        exact pr_app (pr_imp (fun r x z => by rw [upd_ne (ne_of_none (e25 _ _ z) nt)]; exact e25 _ _ z) hp) (pr_imp (fun r x z => by rw [upd_ne (ne_of_none z nt)]; exact z) hB.rows)
    · rintro σ' H2 ⟨v, y2, rfl, e2, a, rs, rfl, ha, hp⟩
      rw [show ((n : Nat) : Int).toNat = n by omega] at hp
      have l16 : ((rawLists n).map natsI).length ≤ 16 := by
        have key : ∀ i : Nat, i < 5 → ((rawLists i).map natsI).length ≤ 16 := by decide +kernel
        exact key n (by omega)
      refine s_retP (P := LL K ((lawLists n).map natsI)) (fun H3 e3 Q' q' => (ea_cons (ev_var rfl) ea_nil : EvA _ [some (.int (n : Int)), some (.ref a), y2, none] H3 [.ref a]) H3 (Ex.refl _) _ fun H4 e4 => ?_) fun v' H3 e3 hv' => q v' H3 (e2.trans e3) hv'
      have hp4 := pr_imp (fun r x (z : H2 r = some (.lst (Ints x))) => (e3.trans e4) _ _ z) hp
      refine ⟨.ref a, (rawLists n).map natsI, rfl, ⟨a, _, rfl, sq_of ((e3.trans e4) _ _ ha), own_ll hp4⟩, by omega, fun p ys hpn hy => ?_⟩
      rw [lists_sort n hn] at hy
      exact q' _ _ (e4.trans (Ex.new hpn)) ⟨p, ys, rfl, sq_of upd_same, pr_imp (fun u x z => IsL.m _ _ _ (Ex.new hpn) z) hy⟩
theorem c_l_bases (T : DefOk K mg "_law_bases" s_l_bases ["_law_rows_here", "_law_char"]) (tL : mg "len" = none) (tl : mg "list" = none) (tR : mg "range" = none) (C_R : Clb P w K mg base CX0 "_law_rank" 2 ["_law_rows_here", "_law_columns", "_law_char"] (spRank K)) (C_L : Clb P w K mg base CX0 "_law_lists" 1 ["_law_many"] (spLists K)) :
    Clb P w K mg base CX0 "_law_bases" 3 ["_law_rows_here", "_law_char"] (spBases K) := by
  obtain ⟨f, fd, F, gm, b⟩ := T.ex
  refine ⟨f, fd, F.ok sc_l_bases (fun vs H Q E h => ?_) (fun cdv A outer s H vs Q E hr h => ?_), gm, F.kp, b⟩
  · obtain ⟨_, _, _, _, rfl, _⟩ := h
    rfl
  · obtain ⟨a, M, wd, c, rfl, ha, hwid, h0, h100, hw, c0, c1, hok, q⟩ := h
    have nd := sc_l_bases.nd
    refine ⟨_, (pss_cons (ps_set (i := 2) nd rfl (Or.inl rfl) (pe_callB (call_lenK (K := K)) (by rfl) tL PySem.boot_len (pa_cons (pe_ix (ix_listK (K := K)) (pv 0) pe_int (fun _ _ => rfl)) pa_nil)))
      (pss_cons (ps_set (i := 3) nd rfl (Or.inr rfl) (pe_cal C_R hr (by rfl) pass0 (pa_cons (pv 0) (pa_cons (pe_listRg rfl (by rfl) tl (prg_1 (by rfl) tR (pv 2))) (pa_cons (pv 1) pa_nil)))))
      (pss_cons (ps_setLc (i := 4) (own := [("_law_row", 5)]) (by rfl) nd rfl rfl (sw_true rfl rfl rfl (by decide +kernel)) (pi_listK (K := K) (pe_cal C_L (hr.mono (by decide)) (by rfl) pass0 (pa_cons (pv 2) pa_nil))) (blkOk_by (own := [("_law_row", 5)]) (by kernel_rfl)) (fun _ _ _ _ _ => (pg_name (i := 5) nd rfl (Or.inl rfl))) (fun _ _ _ _ _ => pts_one (pt_cmpR op_eq (pe_callB (call_lenK (K := K)) (by rfl) tL PySem.boot_len (pa_cons (pv 5) pa_nil)) (pv 3) (nomark _))) (fun _ _ _ _ _ => (pv 5)))
      (pss_one (ps_ret (pe_lc (own := [("_law_row", 5)]) (by rfl) nd (pi_listK (K := K) (pv 4)) (blkOk_by (own := [("_law_row", 5)]) (by kernel_rfl)) (fun _ _ _ _ _ => (pg_name (i := 5) nd rfl (Or.inl rfl))) (fun _ _ _ _ _ => pts_one (pt_cmpR op_eq (pe_cal C_R hr (by rfl) pass0 (pa_cons (pv 0) (pa_cons (pv 5) (pa_cons (pv 1) pa_nil)))) (pv 3) (nomark _))) (fun _ _ _ _ _ => (pv 5)))))))), ?_⟩
    obtain ⟨aa, vs, rfl, hs, lvs, hrow⟩ := id ha.rows
    have rk : ∀ {σ : L2.St} {H1 : Hp} {tc : TE} {Cs : List Nat}, Ex H H1 → σ[0]? = some (some (.ref aa)) → σ[1]? = some (some (.int c)) → (∀ H2, Ex H1 H2 → EvP tc σ H2 (IsL K (Ints (natsI Cs)))) → (∀ j ∈ Cs, j < wd) → Cs.length ≤ 4 → Ev (tCall (spRank K) [] E0 (tCons (tVar 0) (tCons tc (tCons (tVar 1) tNil)))) σ H1 (.int (rankF c M Cs : Int)) := fun {σ H1 tc Cs} e0 h1 h2 hc hj hl => EvP.toEv (ep_call (PA := fun vs H => ∃ b, vs = [.ref aa, b, .int c] ∧ LL K M (.ref aa) H ∧ IsL K (Ints (natsI Cs)) b H) (eap_cons (P1 := fun v H => v = .ref aa ∧ LL K M (.ref aa) H) (fun _ _ _ e ⟨h1, h2⟩ => ⟨h1, LL.m _ _ _ e h2⟩) (Ev.toP (ev_var h1) fun H2 e2 => ⟨rfl, LL.m _ _ _ (e0.trans e2) ha⟩) fun v H2 e2 ⟨ev, hv⟩ => eap_cons (P1 := IsL K (Ints (natsI Cs))) IsL.m (hc H2 e2) fun b H3 e3 hb => eap_one (Ev.toP (ev_var h2) fun H4 e4 => ⟨b, by rw [ev], LL.m _ _ _ (e3.trans e4) hv, IsL.m _ _ _ e4 hb⟩)) fun vs H2 e2 ⟨b, ev, hv, hb⟩ Q' q' E' => ⟨.ref aa, b, M, wd, Cs, c, ev, hv, hb, hwid, hj, h100, hl, c0, c1, hok, fun H3 e3 => q' _ H3 e3 rfl⟩)
    obtain ⟨r0, row0, er0, hM0, hr0⟩ := hrow 0 (vs[0]'(by omega)) (List.getElem?_eq_getElem (by omega))
    have l0 : row0.length = wd := hwid row0 (List.mem_of_getElem? hM0)
    refine q_asg (v := .int (wd : Int)) (ev_is (ev_len (K := K) (ev_op (ev_var rfl) ev_c (rv_ixL hs (atI_nat (j := 0) (v := V.ref r0) (by rw [← er0]; exact List.getElem?_eq_getElem (by omega))))) hr0) (by rw [List.length_map, l0])) fun H1 e1 => ?_
    refine q_asg (rk (Cs := List.range wd) e1 rfl rfl (fun H2 e2 H3 e3 Q' q' => el_listRg1 (ev_var rfl) (by omega) H3 (Ex.refl _) Q' fun p H4 hp e4 h4 => q' _ H4 e4 ⟨p, rfl, sq_of h4⟩) (fun j hj => List.mem_range.mp hj) (by rw [List.length_range]; exact hw)) fun H2 e2 => ?_
    have e12 := e1.trans e2
    generalize hsz : rankF c M (List.range wd) = sz at *
    -- the lists of that many
    have fm : ∀ (l : List (List Nat)) (p : List Int → Bool), (l.map natsI).filter p = (l.filter fun r => p (natsI r)).map natsI := fun l p => by rw [List.filter_map]; rfl
    refine q_asgP (P := LL K (((lawLists wd).map natsI).filter fun r => decide (r.length = sz))) (ep_pick (fun r => decide (r.length = sz)) (ep_call (PA := fun vs _ => vs = [.int (wd : Int)]) (EvA.toP (ea_cons (ev_var rfl) ea_nil) fun _ _ => rfl) fun vs H3 e3 ev Q' q' E' => ⟨wd, ev, hw, fun u H4 e4 hu => q' u H4 e4 hu⟩) (by rw [List.length_map]; have := lawLists_len wd; omega) (fun x => rfl) (fun u row H3 e3 hrow hu => ?_) (fun u H3 => ev_var rfl)) fun v H3 e3 hv => ?_
    · exact et_is (et_test (ev_op (ev_lenL (xs := Ints row) (ev_var rfl) hu) (ev_var rfl) (rv_eq rfl))) (decide_eq_decide.mpr (by rw [List.length_map]; exact ⟨fun z => by injection z with z; omega, fun z => by rw [z]⟩))
    · have e13 := e12.trans e3
      rw [fm] at hv
      have hl1 : ((lawLists wd).filter fun r => decide ((natsI r).length = sz)).length ≤ 16 := Nat.le_trans (List.length_filter_le ..) (lawLists_len wd)
      refine s_retP (ep_pick (fun r => decide (rankF c M (r.map Int.toNat) = sz)) (Ev.toP (ev_var rfl) fun H4 e4 => LL.m _ _ _ e4 hv) (by rw [List.length_map]; omega) (fun x => rfl) (fun u row H4 e4 hrow hu => ?_) (fun u H4 => ev_var rfl)) fun v' H4 e4 hv' => q v' H4 (e13.trans e4) ?_
      · obtain ⟨r, hr, rfl⟩ := List.mem_map.mp hrow
        obtain ⟨hlt, hlen⟩ := lawLists_lt wd hw r (List.mem_filter.mp hr).1
        have back : (natsI r).map Int.toNat = r := by
          unfold natsI
          rw [List.map_map]
          conv => rhs; rw [← List.map_id r]
          rfl
        rw [back]
        refine et_is (et_test (ev_op (rk (Cs := r) (e13.trans e4) rfl rfl (fun H5 e5 => Ev.toP (ev_var rfl) fun H6 e6 => IsL.m _ _ _ (e5.trans e6) hu) hlt (by omega)) (ev_var rfl) (rv_eq rfl))) (decide_eq_decide.mpr ⟨fun z => by injection z with z; omega, fun z => by rw [z]⟩)
      · rw [fm] at hv'
        unfold basesF
        have : (((lawLists wd).filter fun r => decide ((natsI r).length = sz)).filter fun r => decide (rankF c M ((natsI r).map Int.toNat) = sz)) = (((lawLists wd).filter fun r => decide (r.length = rankF c M (List.range wd))).filter fun r => decide (rankF c M r = rankF c M (List.range wd))) := by
          rw [hsz]
          congr 1
          · funext r
            congr 2
            unfold natsI
            rw [List.map_map]
            conv => rhs; rw [← List.map_id r]
            rfl
          · congr 1
            funext r
            unfold natsI
            rw [List.length_map]
        rw [← this]
        exact hv'
end
end Ef
end
section
/-! W23: the drawn matrix -/
namespace Ef
open PySem PySem.Spec PyProof.Rows L2 Evl
def spRowsL (K : PySem.W.Frag) : Sp := fun vs H Q _ => ∃ (c : Int) (h w r : Nat), vs = [.int c, .int (h : Int), .int (w : Int), .int (r : Int)] ∧ h ≤ 3 ∧ w ≤ 4 ∧ r ≤ 2 ∧
  ∀ a rs M H', Ex H H' → RowsAt H H' a rs M → Shp h w M → (∀ i j, (ent M i j).natAbs ≤ r) → Q (.ref a) H'
/-- each column: one 1, beside it perhaps one -1 -/
def Net (h w : Nat) (M : IM) : Prop := ∀ j, j < w → ∃ o o', o < h ∧ o' < h ∧ ∀ i, i < h → ent M i j = if i = o' ∧ o' ≠ o then -1 else if i = o then 1 else 0
def spDrawn (K : PySem.W.Frag) : Sp := fun vs H Q _ => ∃ (a b : V) (xs : List Int) (n0 n1 n2 n3 : Nat), vs = [a, b] ∧ IsL K (Ints xs) a H ∧ IsL K [.int (n0 : Int), .int (n1 : Int), .int (n2 : Int), .int (n3 : Int)] b H ∧ n0 < 3 ∧ n1 < 4 ∧ n2 < 5 ∧
  ∀ a rs M H', Ex H H' → RowsAt H H' a rs M → Shp (1 + n0) (1 + n1) M → (∀ i j, (ent M i j).natAbs ≤ 2) → (n2 < 2 → Net (1 + n0) (1 + n1) M) → Q (.ref a) H'
theorem ent_zeros (h w i j : Nat) : ent (zeros h w) i j = 0 := by
  unfold ent zeros
  by_cases hi : i < h
  · rw [List.getD_eq_getElem?_getD (i := i), List.getElem?_replicate, if_pos hi]
    show (List.replicate w (0 : Int)).getD j 0 = 0
    by_cases hj : j < w
    · rw [List.getD_eq_getElem?_getD, List.getElem?_replicate, if_pos hj]
      rfl
    · rw [List.getD_eq_getElem?_getD, List.getElem?_replicate, if_neg hj]
      rfl
  · rw [List.getD_eq_getElem?_getD (i := i), List.getElem?_replicate, if_neg hi]
    rfl
theorem Shp.of' {h w : Nat} {M : IM} (hl : M.length = h) (hw : Wid w M) : Shp h w M := by
  have := Shp.of hw
  rw [hl] at this
  exact this
abbrev s_l_rows : Stmt := topS 56
theorem sc_l_rows : FnScope ["_law_cell_here", "_law_height", "_law_width", "_law_reach", "_law_drawn_here", "_law_k", "_law_i"] ["_law_cell_here", "_law_height", "_law_width", "_law_reach"] (defScope s_l_rows) := ⟨rfl, rfl, rfl, by decide +kernel, rfl, by decide +kernel, by decide +kernel⟩
abbrev s_l_drawn : Stmt := topS 60
theorem sc_l_drawn : FnScope ["_law_script", "_law_head", "_law_rows_here", "_law_drawn_here", "_law_j", "_law_one", "_law_other", "_law_i"] ["_law_script", "_law_head"] (defScope s_l_drawn) := ⟨rfl, rfl, rfl, by decide +kernel, rfl, by decide +kernel, by decide +kernel⟩
section
variable {P : Program} {w : World} {K : PySem.W.Frag} {mg : Str → Option Value} {base : Heap}
theorem q_setEnt {σ : L2.St} {H0 H : Hp} {tl ti tj te : TE} {D : Ends} {tz : TS} {a : Addr} {rs : List Addr} {M : IM} {i j : Nat} {z : Int} (R : RowsAt H0 H a rs M) (he : Ev te σ H (.int z)) (hl : ∀ H, Ev tl σ H (.ref a)) (hi : ∀ H, Ev ti σ H (.int (i : Int))) (hj : ∀ H, Ev tj σ H (.int (j : Int))) (li : i < M.length) (lj : j < (M.getD i []).length)
    (k : ∀ H1 r, rs[i]? = some r → ExBut r H H1 → RowsAt H0 H1 a rs (upd2 M i j z) → tz D σ H1) : tSeq (tAsg te (gSub (tOp (rIxL K) tl ti) tj rSetL)) tz D σ H := s_setEnt (D := { D with nx := tz D }) R he hl hi hj li lj k
theorem cut_nat (xs : List V) (i j : Nat) (h : j ≤ xs.length) (hij : i ≤ j) : cutV xs (some (i : Int)) (some (j : Int)) = (xs.drop i).take (j - i) := by
  unfold cutV
  rw [HT.sIx_nat, HT.sIx_nat, Nat.min_eq_left h, Nat.min_eq_left (show i ≤ xs.length by omega)]
theorem c_l_rows (T : DefOk K mg "_law_rows" s_l_rows ["_law_cell_here", "_law_height", "_law_width", "_law_reach"]) (tR : mg "range" = none) (C_D : Clb P w K mg base CX0 "_law_draws" 1 ["_law_cell_here", "_law_sizes"] (spDraws K)) : Clb P w K mg base CX0 "_law_rows" 2 ["_law_cell_here", "_law_height", "_law_width", "_law_reach"] (spRowsL K) := by
  obtain ⟨f, fd, F, gm, b⟩ := T.ex
  refine ⟨f, fd, F.ok sc_l_rows (fun vs H Q E h => ?_) (fun cdv A outer s H vs Q E hr h => ?_), gm, F.kp, b⟩
  · obtain ⟨_, _, _, _, rfl, _⟩ := h
    rfl
  · obtain ⟨c, h, wd, r, rfl, h3, w4, r2, q⟩ := h
    have nd := sc_l_rows.nd
    refine ⟨_, (pss_cons (ps_set (i := 4) nd rfl (Or.inr rfl) (pe_cal C_D hr (by rfl) pass0 (pa_cons (pv 0) (pa_cons (pe_op op_rep (pe_lst (pa_cons (pe_op op_add (pe_op op_mul pe_int (pv 3)) pe_int) pa_nil)) (pe_op op_mul (pv 1) (pv 2))) pa_nil))))
      (pss_cons (ps_set (i := 4) nd rfl (Or.inr rfl) (pe_lc (own := [("_law_k", 5)]) (by rfl) nd (pi_listK (K := K) (pv 4)) (blkOk_by (own := [("_law_k", 5)]) (by kernel_rfl)) (fun _ _ _ _ _ => (pg_name (i := 5) nd rfl (Or.inl rfl))) (fun _ _ _ _ _ => pts_nil) (fun _ _ _ _ _ => (pe_op op_sub (pv 5) (pv 3)))))
      (pss_one (ps_ret (pe_lc (own := [("_law_i", 6)]) (by rfl) nd (pi_range1 (by rfl) tR (pa_cons (pv 1) pa_nil)) (blkOk_by (own := [("_law_i", 6)]) (by kernel_rfl)) (fun _ _ _ _ _ => (pg_name (i := 6) nd rfl (Or.inl rfl))) (fun _ _ _ _ _ => pts_nil) (fun _ _ _ _ _ => (pe_slice (sl_listK (K := K)) (pv 4) (po_some (pe_op op_mul (pv 6) (pv 2))) (po_some (pe_op op_mul (pe_op op_add (pv 6) pe_int) (pv 2)))))))))), ?_⟩
    have hw12 : h * wd ≤ 12 := Nat.le_trans (Nat.mul_le_mul h3 w4) (by decide)
    refine q_asgP (P := fun v H1 => ∃ l ds, v = .ref l ∧ H l = none ∧ H1 l = some (.lst (Ints ds)) ∧ Drawn (List.replicate (h * wd) (2 * (r : Int) + 1)) ds) (ep_call (PA := fun vs H => ∃ b, vs = [.int c, b] ∧ IsL K (Ints (List.replicate (h * wd) (2 * (r : Int) + 1))) b H) (eap_cons (P1 := fun v _ => v = .int c) (fun _ _ _ _ z => z) (Ev.toP (ev_var rfl) fun _ _ => rfl) fun v H1 e1 ev => eap_one fun H2 e2 Q' q' => ?_) fun vs H1 e1 ⟨b, ev, hb⟩ Q' q' E' => ⟨c, b, _, ev, hb, by rw [List.length_replicate]; omega, fun s hs => by rw [List.eq_of_mem_replicate hs]; omega, fun p ds H2 e2 hp hl hd => q' _ H2 e2 ⟨p, ds, rfl, fresh_back e1 hp, hl, hd⟩⟩) fun v H1 e1 ⟨l, ds, ev, hl, h1, hd⟩ => ?_
    · refine (el_rep (k := ((h * wd : Nat) : Int)) (el_lst (ea_cons (ev_op (ev_op ev_c (ev_var rfl) (rv_I (.inl ⟨by decide, by decide⟩))) ev_c rv_I0) ea_nil) (Nat.le_of_ble_eq_true rfl)) (fun H3 e3 => ev_is (ev_op (ev_var rfl) (ev_var rfl) (rv_I (.inl ⟨by omega, by omega⟩))) (by push_cast; rfl)) (by omega) (by simp; omega) (by omega)) H2 (Ex.refl _) _ fun l H3 hl e3 h3 => q' _ H3 e3 ⟨.ref l, by rw [ev], ⟨l, rfl, sq_of (by rw [h3, show ((h * wd : Nat) : Int).toNat = h * wd by omega, ints_rep])⟩⟩
    subst ev
    have ld : ds.length = h * wd := by rw [hd.1, List.length_replicate]
    have bd : ∀ z ∈ ds, 0 ≤ z ∧ z ≤ 2 * (r : Int) := fun z hz => by
      obtain ⟨i, hi, rfl⟩ := List.mem_iff_getElem.mp hz
      have := hd.2 i ds[i] (2 * (r : Int) + 1) (List.getElem?_eq_getElem hi) (by rw [List.getElem?_eq_getElem (by rw [List.length_replicate]; omega), List.getElem_replicate])
      omega
    refine q_asgL (xs := Ints (ds.map fun z => z - (r : Int))) (EvL.cast (el_lcL (xs := Ints ds) (fun _ => true) (fun i => .int (ds.getD i 0 - (r : Int))) (ev_var rfl) (sq_of h1) (by rw [List.length_map]; omega) (fun x => rfl) (fun i x H2 e2 hx => et_yes) (fun i x H2 e2 hx _ => ?_)) ?_) fun l2 H2 hl2 e2 h2 => ?_
    · rw [List.getElem?_map] at hx
      obtain ⟨z, hz, rfl⟩ := Option.map_eq_some_iff.mp hx
      rw [getD_of hz]
      exact ev_op (ev_var rfl) (ev_var rfl) rv_I0
    · rw [List.length_map, given_all ds (fun z => V.int (z - (r : Int))) _ (fun i z hz => by rw [getD_of hz])]
      exact ints_map _ _
    generalize hd2 : ds.map (fun z => z - (r : Int)) = ds2 at *
    have ld2 : ds2.length = h * wd := by rw [← hd2, List.length_map, ld]
    have bd2 : ∀ z ∈ ds2, z.natAbs ≤ r := fun z hz => by
      rw [← hd2] at hz
      obtain ⟨z', hz', rfl⟩ := List.mem_map.mp hz
      have := bd z' hz'
      omega
    refine s_retR (cc := HO.lst) (EvR.cast (er_lcR1 (fun _ => true) (fun i => (ds2.drop (i * wd)).take wd) (ea_cons (ev_var rfl) ea_nil) (by omega) (fun x => rfl) (fun i H3 e3 hi => et_yes) (fun i H3 e3 hi _ => ?_)) rfl) fun a rs H3 e3 hR => ?_
    · have hi : i < h := by omega
      have m1 : (i + 1) * wd ≤ h * wd := Nat.mul_le_mul_right _ (by omega)
      have e1' : (i + 1) * wd = i * wd + wd := Nat.succ_mul i wd
      refine EvL.n (EvL.cast (el_sl (lo := some ((i * wd : Nat) : Int)) (hi := some (((i + 1) * wd : Nat) : Int)) (ev_var rfl) (eo_some (ev_is (ev_op (ev_var rfl) (ev_var rfl) (rv_I (.inl ⟨by omega, by omega⟩))) (by push_cast; rfl))) (eo_some (ev_is (ev_op (ev_op (ev_var rfl) ev_c rv_I0) (ev_var rfl) (rv_I (.inl ⟨by omega, by omega⟩))) (by push_cast; rfl))) (sq_of (e3 _ _ h2))) ?_)
      rw [cut_nat _ _ _ (by rw [List.length_map]; omega) (by omega), show (i + 1) * wd - i * wd = wd by omega]
      show _ = List.map _ _
      rw [List.map_take, List.map_drop]
    · have e03 := (e1.trans e2).trans e3
      rw [show ((h : Nat) : Int).toNat = h by omega, givenR_true] at hR
      refine q a rs _ H3 e03 (hR.back (e1.trans e2)) ⟨by rw [List.length_map, List.length_range], fun k hk => ?_⟩ (fun i j => ?_)
      · rw [List.getD_eq_getElem?_getD, List.getElem?_map, List.getElem?_range hk]
        show ((ds2.drop (k * wd)).take wd).length = wd
        have m1 : (k + 1) * wd ≤ h * wd := Nat.mul_le_mul_right _ (by omega)
        have e1' : (k + 1) * wd = k * wd + wd := Nat.succ_mul k wd
        rw [List.length_take, List.length_drop]
        omega
      · by_cases hi : i < h
        · unfold ent
          rw [List.getD_eq_getElem?_getD (i := i), List.getElem?_map, List.getElem?_range hi]
          show (((ds2.drop (i * wd)).take wd).getD j 0).natAbs ≤ r
          by_cases hj : j < ((ds2.drop (i * wd)).take wd).length
          · rw [List.getD_eq_getElem?_getD, List.getElem?_eq_getElem hj]
            exact bd2 _ (List.mem_of_mem_drop (List.mem_of_mem_take (List.getElem_mem hj)))
          · rw [List.getD_eq_getElem?_getD, List.getElem?_eq_none (by omega)]
            exact Nat.zero_le _
        · rw [ent_out' (by simp; omega)]
          exact Nat.zero_le _
theorem c_l_drawn (T : DefOk K mg "_law_drawn" s_l_drawn ["_law_script", "_law_head"]) (tR : mg "range" = none) (tL : mg "len" = none) (C_D : Clb P w K mg base CX0 "_law_draws" 1 ["_law_cell_here", "_law_sizes"] (spDraws K)) (C_C : Clb P w K mg base CX0 "_law_cell" 1 ["_law_script", "_law_k"] (spCell K))
    (C_R : Clb P w K mg base CX0 "_law_rows" 2 ["_law_cell_here", "_law_height", "_law_width", "_law_reach"] (spRowsL K)) : Clb P w K mg base CX0 "_law_drawn" 3 ["_law_script", "_law_head"] (spDrawn K) := by
  obtain ⟨f, fd, F, gm, b⟩ := T.ex
  refine ⟨f, fd, F.ok sc_l_drawn (fun vs H Q E h => ?_) (fun cdv A outer s H vs Q E hr h => ?_), gm, F.kp, b⟩
  · obtain ⟨_, _, _, _, _, _, _, rfl, _⟩ := h
    rfl
  · obtain ⟨a, b, xs, n0, n1, n2, n3, rfl, ha, hb, l0, l1, l2, q⟩ := h
    have nd := sc_l_drawn.nd
    refine ⟨_, (pss_cons (ps_set (i := 2) nd rfl (Or.inl rfl) (pe_cal C_R hr (by rfl) pass0 (pa_cons (pe_cal C_C (hr.mono (by decide)) (by rfl) pass0 (pa_cons (pv 0) (pa_cons pe_int pa_nil))) (pa_cons (pe_op op_add pe_int (pe_ix (ix_listK (K := K)) (pv 1) pe_int (fun _ _ => rfl))) (pa_cons (pe_op op_add pe_int (pe_ix (ix_listK (K := K)) (pv 1) pe_int (fun _ _ => rfl))) (pa_cons (pe_op op_add pe_int (pe_op op_modN (pe_ix (ix_listK (K := K)) (pv 1) pe_int (fun _ _ => rfl)) pe_int)) pa_nil))))))
      (pss_cons (ps_if (pt_cmpR op_lt (pe_ix (ix_listK (K := K)) (pv 1) pe_int (fun _ _ => rfl)) pe_int (nomark _))
        (pss_cons (ps_setLc (i := 2) (own := [("_law_i", 7)]) (by rfl) nd rfl rfl (sw_true rfl rfl rfl (by decide +kernel)) (pi_range1 (by rfl) tR (pa_cons (pe_op op_add pe_int (pe_ix (ix_listK (K := K)) (pv 1) pe_int (fun _ _ => rfl))) pa_nil)) (blkOk_by (own := [("_law_i", 7)]) (by kernel_rfl)) (fun _ _ _ _ _ => (pg_name (i := 7) nd rfl (Or.inl rfl))) (fun _ _ _ _ _ => pts_nil) (fun _ _ _ _ _ => (pe_op op_rep (pe_lst (pa_cons pe_int pa_nil)) (pe_op op_add pe_int (pe_ix (ix_listK (K := K)) (pv 1) pe_int (fun _ _ => rfl))))))
        (pss_cons (ps_set (i := 3) nd rfl (Or.inl rfl) (pe_cal C_D (hr.mono (by decide)) (by rfl) pass0 (pa_cons (pe_cal C_C (hr.mono (by decide)) (by rfl) pass0 (pa_cons (pv 0) (pa_cons pe_int pa_nil))) (pa_cons (pe_op op_rep (pe_lst (pa_cons pe_int pa_nil)) (pe_op op_mul pe_int (pe_op op_add pe_int (pe_ix (ix_listK (K := K)) (pv 1) pe_int (fun _ _ => rfl))))) pa_nil))))
        (pss_one (ps_for PassesOwn.never rfl (pi_range1 (by rfl) tR (pa_cons (pe_op op_add pe_int (pe_ix (ix_listK (K := K)) (pv 1) pe_int (fun _ _ => rfl))) pa_nil)) (pg_name (i := 4) nd rfl (Or.inl rfl))
          (pss_cons (ps_set (i := 5) nd rfl (Or.inl rfl) (pe_op op_modN (pe_ix (ix_listK (K := K)) (pv 3) (pe_op op_mul pe_int (pv 4)) (fun _ _ => rfl)) (pe_callB (call_lenK (K := K)) (by rfl) tL PySem.boot_len (pa_cons (pv 2) pa_nil))))
          (pss_cons (ps_set (i := 6) nd rfl (Or.inl rfl) (pe_op op_modN (pe_ix (ix_listK (K := K)) (pv 3) (pe_op op_add (pe_op op_mul pe_int (pv 4)) pe_int) (fun _ _ => rfl)) (pe_callB (call_lenK (K := K)) (by rfl) tL PySem.boot_len (pa_cons (pv 2) pa_nil))))
          (pss_cons (ps_asg pe_int (pg_sub (pe_ix (ix_listK (K := K)) (pv 2) (pv 5) (fun _ _ => rfl)) (pv 4) set_list))
          (pss_one (ps_if (pt_cmpR op_ne (pv 6) (pv 5) (nomark _))
            (pss_one (ps_asg (pe_un un_neg pe_int) (pg_sub (pe_ix (ix_listK (K := K)) (pv 2) (pv 6) (fun _ _ => rfl)) (pv 4) set_list)))
            pss_nil)))))))))
        pss_nil)
      (pss_one (ps_ret (pv 2))))), ?_⟩
    have hE : ∀ {σ : L2.St} {H1 : Hp} {k : Nat} {z : Int}, Ex H H1 → σ[1]? = some (some b) → ([.int (n0 : Int), .int (n1 : Int), .int (n2 : Int), .int (n3 : Int)] : List V)[k]? = some (.int z) → Ev (tOp (rIxL K) (tVar 1) (tC (.int (k : Int)))) σ H1 (.int z) := fun e h1 hk => ev_ixL (ev_var h1) (IsL.m _ _ _ e hb) ev_c hk
    have cE : ∀ {σ : L2.St} {H1 : Hp} (k : Nat), Ex H H1 → σ[0]? = some (some a) → EvP (tCall (spCell K) [] E0 (tCons (tVar 0) (tCons (tC (.int (k : Int))) tNil))) σ H1 (fun v _ => ∃ z : Int, v = .int z) := fun {σ H1} k e h0 => ep_call (PA := fun vs H => vs = [a, .int (k : Int)] ∧ IsL K (Ints xs) a H) (EvA.toP (ea_cons (ev_var h0) (ea_cons ev_c ea_nil)) fun H2 e2 => ⟨rfl, IsL.m _ _ _ (e.trans e2) ha⟩) fun vs H2 e2 ⟨ev, hx⟩ Q' q' E' => ⟨a, xs, k, ev, hx, fun z H3 e3 => q' _ H3 e3 ⟨z, rfl⟩⟩
    refine q_asgP (P := fun v H1 => ∃ (l : Addr) (rs : List Addr) (M : IM), v = .ref l ∧ RowsAt H H1 l rs M ∧ Shp (1 + n0) (1 + n1) M ∧ ∀ i j, (ent M i j).natAbs ≤ 2) (ep_call (PA := fun vs _ => ∃ z : Int, vs = [.int z, .int ((1 + n0 : Nat) : Int), .int ((1 + n1 : Nat) : Int), .int ((1 + n2 % 2 : Nat) : Int)])
      (eap_cons (P1 := fun v _ => ∃ z : Int, v = .int z) (fun _ _ _ _ z => z) (cE 1 (Ex.refl _) rfl) fun v H1 e1 ⟨z, ev⟩ => EvA.toP (ea_cons (ev_op ev_c (hE (k := 0) e1 rfl rfl) rv_I0) (ea_cons (ev_op ev_c (hE (k := 1) e1 rfl rfl) rv_I0) (ea_cons (ev_op ev_c (ev_op (hE (k := 2) e1 rfl rfl) ev_c (rv_I (by decide))) rv_I0) ea_nil))) fun H2 e2 => ⟨z, by rw [ev, Int.fmod_eq_emod_of_nonneg _ (by decide)]; push_cast; rfl⟩)
      fun vs H1 e1 ⟨z, ev⟩ Q' q' E' => ⟨z, 1 + n0, 1 + n1, 1 + n2 % 2, ev, by omega, by omega, by omega, fun a rs M H2 e2 hR hS hB => q' _ H2 e2 ⟨a, rs, M, rfl, hR.back e1, hS, fun i j => Nat.le_trans (hB i j) (by omega)⟩⟩) fun v H1 e1 ⟨l, rs, M, ev, hR, hS, hB⟩ => ?_
    subst ev
    refine q_whenJ (fun σ' H' => ∃ (l : Addr) (rs : List Addr) (M : IM) (y3 y4 y5 y6 : Option V), σ' = [some a, some b, some (.ref l), y3, y4, y5, y6, none] ∧ Ex H H' ∧ RowsAt H H' l rs M ∧ Shp (1 + n0) (1 + n1) M ∧ (∀ i j, (ent M i j).natAbs ≤ 2) ∧ (n2 < 2 → Net (1 + n0) (1 + n1) M)) (et_test (ev_op (hE (k := 2) e1 rfl rfl) ev_c rv_I0)) (fun hb2 H2 e2 go => ?_) (fun hb2 H2 e2 => ⟨l, rs, M, _, _, _, _, rfl, e1.trans e2, hR.ex e2, hS, hB, fun z => absurd (of_decide_eq_false hb2) (by omega)⟩) ?_
    · have e12 := e1.trans e2
      clear hR hS hB
      generalize hh : 1 + n0 = h at *
      generalize hw : 1 + n1 = wd at *
      have nh : (1 : Int) + (n0 : Int) = (h : Int) := by omega
      have nw : (1 : Int) + (n1 : Int) = (wd : Int) := by omega
      -- zeros
      refine q_asgR (cc := HO.lst) (M := zeros h wd) (EvR.cast (er_lcR1 (n := (h : Int)) (fun _ => true) (fun _ => List.replicate wd 0) (ea_cons (ev_is (ev_op ev_c (hE (k := 0) e12 rfl rfl) rv_I0) (by rw [nh])) ea_nil) (by omega) (fun x => rfl) (fun i H3 e3 hi => et_yes) (fun i H3 e3 hi _ => EvL.n (EvL.cast (el_rep (k := (wd : Int)) (el_lst (ea_cons ev_c ea_nil) (Nat.le_of_ble_eq_true rfl)) (fun H4 e4 => ev_is (ev_op ev_c (hE (k := 1) ((e12.trans e3).trans e4) rfl rfl) rv_I0) (by rw [nw])) (by omega) (by simp <;> omega) (by omega)) (by rw [show ((wd : Int)).toNat = wd by omega]; exact ints_rep 0 wd)))) (by
          rw [givenR_true, show ((h : Int)).toNat = h by omega]
          unfold zeros
          rw [List.map_const', List.length_range])) fun l2 rs2 H3 e3 hZ => ?_
      have e13 := e12.trans e3
      -- the draws
      refine q_asgP (P := fun v H1 => ∃ (p : Addr) (ds : List Int), v = .ref p ∧ H3 p = none ∧ H1 p = some (.lst (Ints ds)) ∧ Drawn (List.replicate (2 * wd) 3) ds) (ep_call (PA := fun vs H => ∃ (z : Int) (c : V), vs = [.int z, c] ∧ IsL K (Ints (List.replicate (2 * wd) 3)) c H) (eap_cons (P1 := fun v _ => ∃ z : Int, v = .int z) (fun _ _ _ _ z => z) (cE 2 e13 rfl) fun v H4 e4 ⟨z, ev⟩ => eap_one fun H5 e5 Q' q' => ?_)
        fun vs H4 e4 ⟨z, c, ev, hc⟩ Q' q' E' => ⟨z, c, _, ev, hc, by rw [List.length_replicate]; omega, fun s hs => by rw [List.eq_of_mem_replicate hs]; decide, fun p ds H5 e5 hp hl hd => q' _ H5 e5 ⟨p, ds, rfl, fresh_back e4 hp, hl, hd⟩⟩) fun v H4 e4 ⟨dp, ds, ev, hdp, hds, hD⟩ => ?_
      · refine (el_rep (k := ((2 * wd : Nat) : Int)) (el_lst (ea_cons ev_c ea_nil) (Nat.le_of_ble_eq_true rfl)) (fun H6 e6 => ev_is (ev_op ev_c (ev_op ev_c (hE (k := 1) (((e13.trans e4).trans e5).trans e6) rfl rfl) rv_I0) (rv_I (.inl ⟨by decide, by decide⟩))) (by rw [nw]; push_cast; rfl)) (by omega) (by simp; omega) (by omega)) H5 (Ex.refl _) _ fun p H6 hp e6 h6 => q' _ H6 e6 ⟨z, .ref p, by rw [ev], ⟨p, rfl, sq_of (by rw [h6, show ((2 * wd : Nat) : Int).toNat = 2 * wd by omega, ints_rep])⟩⟩
      subst ev
      have lds : ds.length = 2 * wd := by rw [hD.1, List.length_replicate]
      have e14 := e13.trans e4
      have hZ4 := (hZ.ex e4).back e12
      have ndl : dp ≠ l2 := (ne_of_none hZ.at_ hdp).symm
      have ndr : dp ∉ rs2 := fun z => by
        obtain ⟨o, ho⟩ := hZ.tr z
        rw [hdp] at ho
        cases ho
      have hp0 : 0 < h := by omega
      refine s_forR1 (n := (wd : Int)) (ea_cons (ev_is (ev_op ev_c (hE (k := 1) e14 rfl rfl) rv_I0) (by rw [nw])) ea_nil) (by omega)
        (fun j σ' H' => ∃ (M : IM) (y4 y5 y6 : Option V), σ' = [some a, some b, some (.ref l2), some (.ref dp), y4, y5, y6, none] ∧ Ex H H' ∧ RowsAt H H' l2 rs2 M ∧ Shp h wd M ∧ (∀ i j, (ent M i j).natAbs ≤ 2) ∧ H' dp = some (.lst (Ints ds)) ∧ (∀ j', j' < j → ∃ o o', o < h ∧ o' < h ∧ ∀ i, i < h → ent M i j' = if i = o' ∧ o' ≠ o then -1 else if i = o then 1 else 0) ∧ ∀ i j', j ≤ j' → ent M i j' = 0)
        (fun H5 e5 => ⟨zeros h wd, _, _, _, rfl, e14.trans e5, hZ4.ex e5, Shp.of' (by unfold zeros; rw [List.length_replicate]) (zeros_wid h wd), fun i j => by rw [ent_zeros]; decide, e5 _ _ hds, fun j' hj' => by omega, fun i j' _ => ent_zeros ..⟩) ?_ ?_
      · rintro j σ' H5 hj ⟨M, y4, y5, y6, rfl, e5, hR, S, hB, hd5, hN, hz⟩
        have hj : j < wd := by omega
        have lM : M.length = h := S.1
        have dE : ∀ {σ : L2.St} {H6 : Hp} {te : TE} (k : Nat), H6 dp = some (.lst (Ints ds)) → σ[3]? = some (some (.ref dp)) → Ev te σ H6 (.int (k : Int)) → k < 2 * wd → Ev (tOp (rIxL K) (tVar 3) te) σ H6 (.int (ds.getD k 0)) := fun k h6 h3 hk hk2 => ev_op (ev_var h3) hk (rv_ixL (sq_of h6) (atI_nat (by rw [List.getElem?_map, getD_get (d := 0) (by omega)]; rfl)))
        have lE : ∀ {σ : L2.St} {H6 : Hp}, RowsAt H H6 l2 rs2 M → σ[2]? = some (some (.ref l2)) → Ev (tCB (rLenOf K) (tCons (tVar 2) tNil)) σ H6 (.int (h : Int)) := fun h6 h2 => ev_is (ev_lenRows h6 (ev_var h2)) (by rw [lM])
        have md : ∀ z : Int, ∃ k : Nat, z.fmod (h : Int) = (k : Int) ∧ k < h := fun z => by
          rw [Int.fmod_eq_emod_of_nonneg _ (by omega)]
          have h1 := Int.emod_nonneg z (show (h : Int) ≠ 0 by omega)
          have h2 := Int.emod_lt_of_pos z (show (0 : Int) < (h : Int) by omega)
          exact ⟨(z % (h : Int)).toNat, by omega, by omega⟩
        obtain ⟨o, ho, lo⟩ := md (ds.getD (2 * j) 0)
        obtain ⟨o', ho', lo'⟩ := md (ds.getD (2 * j + 1) 0)
        refine q_asg (v := .int (o : Int)) (ev_is (ev_op (dE (2 * j) hd5 rfl (ev_is (ev_op ev_c (ev_var rfl) (rv_I (.inl ⟨by decide, by decide⟩))) (by push_cast; rfl)) (by omega)) (lE hR rfl) (rv_I (by omega))) (by rw [ho])) fun H6 e6 => ?_
        refine q_asg (v := .int (o' : Int)) (ev_is (ev_op (dE (2 * j + 1) (e6 _ _ hd5) rfl (ev_is (ev_op (ev_op ev_c (ev_var rfl) (rv_I (.inl ⟨by decide, by decide⟩))) ev_c rv_I0) (by push_cast; rfl)) (by omega)) (lE (hR.ex e6) rfl) (rv_I (by omega))) (by rw [ho'])) fun H7 e7 => ?_
        have hR7 := (hR.ex e6).ex e7
        have hd7 := e7 _ _ (e6 _ _ hd5)
        refine q_setEnt (z := 1) (i := o) (j := j) hR7 ev_c (fun _ => ev_var rfl) (fun _ => ev_var rfl) (fun _ => ev_var rfl) (by omega) (by rw [S.2 _ lo]; exact hj) fun H8 r8 hr8 b8 R8 => ?_
        have m8 : r8 ∈ rs2 := List.mem_of_getElem? hr8
        have e8 : Ex H H8 := ExBut.ex ((Ex.but r8 ((e5.trans e6).trans e7)).trans b8) (hR7.fr r8 m8)
        have hd8 := b8 dp _ (fun z => ndr (z ▸ m8)) hd7
        have S8 : Shp h wd (upd2 M o j 1) := ⟨by rw [upd2_len]; exact lM, fun k hk => by rw [upd2_row]; exact S.2 k hk⟩
        have E8 : ∀ k l', ent (upd2 M o j 1) k l' = if k = o ∧ l' = j then 1 else ent M k l' := fun k l' => ent_upd2 M 1 k l' (by omega) (by rw [S.2 _ lo]; exact hj)
        refine s_when (b := !decide (o' = o)) (et_is (et_test (ev_op (ev_var rfl) (ev_var rfl) (rv_ne rfl))) (by congr 1; exact decide_eq_decide.mpr ⟨fun z => by injection z with z; omega, fun z => by rw [z]⟩)) (fun hb3 H9 e9 => ?_) (fun hb3 H9 e9 => ?_)
        · have hne : o' ≠ o := fun z => by rw [z, decide_eq_true rfl] at hb3; cases hb3
          refine s_setEnt (z := -1) (i := o') (j := j) (R8.ex e9) (ev_un ev_c ru_neg) (fun _ => ev_var rfl) (fun _ => ev_var rfl) (fun _ => ev_var rfl) (by rw [upd2_len]; omega) (by rw [upd2_row, S.2 _ lo']; exact hj) fun H10 r10 hr10 b10 R10 => ?_
          have m10 : r10 ∈ rs2 := List.mem_of_getElem? hr10
          have E10 : ∀ k l', ent (upd2 (upd2 M o j 1) o' j (-1)) k l' = if k = o' ∧ l' = j then -1 else if k = o ∧ l' = j then 1 else ent M k l' := fun k l' => by
            rw [ent_upd2 _ (-1) k l' (by rw [upd2_len]; omega) (by rw [upd2_row, S.2 _ lo']; exact hj), E8]
          refine ⟨_, _, _, _, rfl, ExBut.ex ((Ex.but r10 (e8.trans e9)).trans b10) (R8.fr r10 m10), R10, ⟨by rw [upd2_len, upd2_len]; exact lM, fun k hk => by rw [upd2_row, upd2_row]; exact S.2 k hk⟩, fun k l' => ?_, b10 dp _ (fun z => ndr (z ▸ m10)) (e9 _ _ hd8), fun j' hj' => ?_, fun k l' hl' => ?_⟩
          · rw [E10]
            split
            · decide
            · split
              · decide
              · exact hB _ _
          · by_cases ej : j' = j
            · subst ej
              refine ⟨o, o', lo, lo', fun i hi => ?_⟩
              have hz' := hz i j' (Nat.le_refl _)
              rw [E10, hz']
              by_cases c1 : i = o' <;> by_cases c2 : i = o <;> simp [c1, c2, hne]
            · obtain ⟨p, p', h1, h2, h3⟩ := hN j' (by omega)
              refine ⟨p, p', h1, h2, fun i hi => ?_⟩
              rw [E10, if_neg (fun z => ej z.2), if_neg (fun z => ej z.2)]
              exact h3 i hi
          · rw [E10, if_neg (by omega), if_neg (by omega)]
            exact hz k l' (by omega)
        · have heq : o' = o := by
            by_cases z : o' = o
            · exact z
            · rw [decide_eq_false z] at hb3; cases hb3
          refine ⟨_, _, _, _, rfl, e8.trans e9, R8.ex e9, S8, fun k l' => ?_, e9 _ _ hd8, fun j' hj' => ?_, fun k l' hl' => ?_⟩
          · rw [E8]
            split
            · decide
            · exact hB _ _
          · by_cases ej : j' = j
            · subst ej
              refine ⟨o, o, lo, lo, fun i hi => ?_⟩
              have hz' := hz i j' (Nat.le_refl _)
              rw [E8, hz']
              by_cases c2 : i = o <;> simp [c2]
            · obtain ⟨p, p', h1, h2, h3⟩ := hN j' (by omega)
              refine ⟨p, p', h1, h2, fun i hi => ?_⟩
              rw [E8, if_neg (fun z => ej z.2)]
              exact h3 i hi
          · rw [E8, if_neg (by omega)]
            exact hz k l' (by omega)
      · rintro σ' H5 ⟨M, y4, y5, y6, rfl, e5, hR, S, hB, hd5, hN, hz⟩
        rw [show ((wd : Nat) : Int).toNat = wd by omega] at hN
        exact go _ _ ⟨l2, rs2, M, _, _, _, _, rfl, e5, hR, S, hB, fun _ => hN⟩
    · rintro σ' H2 ⟨l, rs, M, y3, y4, y5, y6, rfl, e2, hR, S, hB, hN⟩
      exact s_ret (ev_var rfl) fun H3 e3 => q l rs M H3 (e2.trans e3) (hR.ex e3) S hB hN
end
end Ef
end
section
/-! W24: the law's determinant and bad square -/
namespace Ef
open PySem PySem.Spec PyProof.Rows L2 Evl
def minorM (M : IM) (at_ : Nat) : IM := (M.drop 1).map fun row => row.take at_ ++ row.drop (at_ + 1)
def lapS (f : IM → Int) (M : IM) : Nat → Int
  | 0 => 0
  | n + 1 => lapS f M n + (1 - 2 * ((n : Int) % 2)) * ent M 0 n * f (minorM M n)
def lapF : Nat → IM → Int
  | 0, _ => 0
  | n + 1, M => if M.length = 1 then ent M 0 0 else lapS (lapF n) M M.length
def spLDet (K : PySem.W.Frag) (n : Nat) : Sp := fun vs H Q _ => ∃ (a : V) (M : IM), vs = [a] ∧ LL K M a H ∧ Sq M.length M ∧ 0 < M.length ∧ M.length ≤ n ∧ M.length ≤ 10 ∧ (∀ k l, (ent M k l).natAbs ≤ 2) ∧ ∀ H', Ex H H' → Q (.int (lapF n M)) H'
def lb3 (M : IM) (s : Nat) (R Cs : List Nat) : Option (List Nat × List Nat) := if (R.length = s ∧ Cs.length = s) ∧ 1 < (lapF 3 (partM M R Cs)).natAbs then some (R, Cs) else none
def lb2 (w : Nat) (M : IM) (s : Nat) (R : List Nat) : Option (List Nat × List Nat) := (lawLists w).findSome? (lb3 M s R)
def lb1 (h w : Nat) (M : IM) (s : Nat) : Option (List Nat × List Nat) := (lawLists h).findSome? (lb2 w M s)
def lawBad (h w : Nat) (M : IM) : Option (List Nat × List Nat) := ((List.range (min h w)).map (· + 1)).findSome? (lb1 h w M)
def spLBad (K : PySem.W.Frag) : Sp := fun vs H Q _ => ∃ (a : V) (h w : Nat) (M : IM), vs = [a] ∧ LL K M a H ∧ Shp h w M ∧ 0 < h ∧ h ≤ 3 ∧ 0 < w ∧ w ≤ 4 ∧ (∀ k l, (ent M k l).natAbs ≤ 2) ∧ ∀ v H', Ex H H' → FV2 K (lawBad h w M) v H' → Q v H'
abbrev s_l_determinant : Stmt := topS 57
theorem sc_l_determinant : FnScope ["_law_rows_here", "_law_total", "_law_at", "_law_part", "_law_row"] ["_law_rows_here"] (defScope s_l_determinant) := ⟨rfl, rfl, rfl, by decide +kernel, rfl, by decide +kernel, by decide +kernel⟩
abbrev s_l_bad : Stmt := topS 58
theorem sc_l_bad : FnScope ["_law_rows_here", "_law_size", "_law_some", "_law_columns", "_law_part", "_law_i", "_law_j"] ["_law_rows_here"] (defScope s_l_bad) := ⟨rfl, rfl, rfl, by decide +kernel, rfl, by decide +kernel, by decide +kernel⟩
theorem minor_row {M : IM} {k at_ : Nat} (hk : k + 1 < M.length) : (minorM M at_).getD k [] = ((M.getD (k + 1) []).take at_ ++ (M.getD (k + 1) []).drop (at_ + 1)) := by
  unfold minorM
  rw [List.getD_eq_getElem?_getD, List.getElem?_map, List.getElem?_drop, show 1 + k = k + 1 by omega, List.getElem?_eq_getElem hk, List.getD_eq_getElem?_getD, List.getElem?_eq_getElem hk]
  rfl
theorem minor_len (M : IM) (at_ : Nat) : (minorM M at_).length = M.length - 1 := by simp [minorM]
theorem minor_sq {M : IM} {at_ : Nat} (S : Sq M.length M) (ha : at_ < M.length) : Sq (minorM M at_).length (minorM M at_) := by
  refine ⟨rfl, fun k hk => ?_⟩
  rw [minor_len] at hk ⊢
  rw [minor_row (by omega), List.length_append, List.length_take, List.length_drop, S.2 _ (by omega)]
  omega
theorem ent_minor {M : IM} {k l at_ : Nat} (S : Sq M.length M) (hk : k + 1 < M.length) (ha : at_ < M.length) : ent (minorM M at_) k l = ent M (k + 1) (if l < at_ then l else l + 1) := by
  unfold ent
  rw [minor_row hk]
  have lr := S.2 (k + 1) hk
  by_cases c : l < at_
  · rw [if_pos c, List.getD_eq_getElem?_getD, List.getElem?_append_left (by rw [List.length_take, lr]; omega), List.getElem?_take, if_pos c, ← List.getD_eq_getElem?_getD]
  · rw [if_neg c, List.getD_eq_getElem?_getD, List.getElem?_append_right (by rw [List.length_take, lr]; omega), List.getElem?_drop, List.length_take, lr, Nat.min_eq_left (by omega), show at_ + 1 + (l - at_) = l + 1 by omega, ← List.getD_eq_getElem?_getD]
theorem minor_bd {M : IM} {at_ : Nat} (S : Sq M.length M) (ha : at_ < M.length) (b : ∀ k l, (ent M k l).natAbs ≤ 2) : ∀ k l, (ent (minorM M at_) k l).natAbs ≤ 2 := fun k l => by
  by_cases hk : k + 1 < M.length
  · rw [ent_minor S hk ha]
    exact b _ _
  · rw [ent_out' (by rw [minor_len]; omega)]
    decide
section
variable {P : Program} {w : World} {K : PySem.W.Frag} {mg : Str → Option Value} {base : Heap}
/-- rows over a new list -/
theorem er_lcNL {c : List V → HO} {σ : L2.St} {H : Hp} {tl : TE} {t : TT} {te : TE} {xs : List V} {j : Nat} {vs : List Nat} (f : Nat → Bool) (ys : Nat → List Int) (h : EvL tl σ H xs) (hz : xs.length ≤ 40000) (hw : ∀ x, wipe ((wipe σ vs).set j (some x)) vs = wipe σ vs)
    (ht : ∀ (i : Nat) (x : V) H1, Ex H H1 → xs[i]? = some x → EvT t ((wipe σ vs).set j (some x)) H1 (f i)) (he : ∀ (i : Nat) (x : V) H1, Ex H H1 → xs[i]? = some x → f i = true → EvN c te ((wipe σ vs).set j (some x)) H1 (Ints (ys i))) :
    EvR c (tLc (iList K tl) (gName j) t te vs) σ H (givenR xs.length f ys) := fun H1 e1 Q q => h H1 e1 _ fun p H2 hp e2 hx =>
  (er_lcL (tl := tC (.ref p)) f ys ev_c (sq_of hx) hz hw (fun i x H3 e3 hi => ht i x H3 ((e1.trans e2).trans e3) hi) (fun i x H3 e3 hi hf => he i x H3 ((e1.trans e2).trans e3) hi hf)) H2 (Ex.refl _) Q fun a rs H3 e3 hR => q a rs H3 (e2.trans e3) (hR.back e2)
/-- + of two new lists -/
theorem el_catLL {σ : L2.St} {H : Hp} {ta tb : TE} {xs ys : List V} (ha : EvL ta σ H xs) (hb : EvL tb σ H ys) (hl : xs.length + ys.length ≤ 100000) : EvL (tOp rCat ta tb) σ H (xs ++ ys) := fun H1 e Q q =>
  ha H1 e _ fun a H2 ha2 e2 h2 => hb H2 (e.trans e2) _ fun b H3 hb3 e3 h3 => ⟨a, b, xs, ys, rfl, rfl, e3 _ _ h2, h3, sz_of hl, fun p hp => q p _ (fresh_back (e2.trans e3) hp) ((e2.trans e3).trans (Ex.new hp)) upd_same⟩
theorem c_l_det_s (T : DefOk K mg "_law_determinant" s_l_determinant ["_law_rows_here"]) (tL : mg "len" = none) (tR : mg "range" = none) (n : Nat) (C_D : Clb P w K mg base CX0 "_law_determinant" (n + 1) ["_law_rows_here"] (spLDet K n)) : Clb P w K mg base CX0 "_law_determinant" (n + 2) ["_law_rows_here"] (spLDet K (n + 1)) := by
  obtain ⟨f, fd, F, gm, b⟩ := T.ex
  refine ⟨f, fd, F.ok sc_l_determinant (fun vs H Q E h => ?_) (fun cdv A outer s H vs Q E hr h => ?_), gm, F.kp, b⟩
  · obtain ⟨_, _, rfl, _⟩ := h
    rfl
  · obtain ⟨a, M, rfl, ha, S, h0, hn, h10, bd, q⟩ := h
    have nd := sc_l_determinant.nd
    refine ⟨_, (pss_cons (ps_if (pt_cmpR op_eq (pe_callB (call_lenK (K := K)) (by rfl) tL PySem.boot_len (pa_cons (pv 0) pa_nil)) pe_int (nomark _))
        (pss_one (ps_ret (pe_ix (ix_listK (K := K)) (pe_ix (ix_listK (K := K)) (pv 0) pe_int (fun _ _ => rfl)) pe_int (fun _ _ => rfl))))
        pss_nil)
      (pss_cons (ps_set (i := 1) nd rfl (Or.inl rfl) pe_int)
      (pss_cons (ps_for PassesOwn.never rfl (pi_range1 (by rfl) tR (pa_cons (pe_callB (call_lenK (K := K)) (by rfl) tL PySem.boot_len (pa_cons (pv 0) pa_nil)) pa_nil)) (pg_name (i := 2) nd rfl (Or.inr rfl))
        (pss_cons (ps_setLc (i := 3) (own := [("_law_row", 4)]) (by rfl) nd rfl rfl (sw_true rfl rfl rfl (by decide +kernel)) (pi_listK (K := K) (pe_slice (sl_listK (K := K)) (pv 0) (po_some pe_int) po_none)) (blkOk_by (own := [("_law_row", 4)]) (by kernel_rfl)) (fun _ _ _ _ _ => (pg_name (i := 4) nd rfl (Or.inl rfl))) (fun _ _ _ _ _ => pts_nil) (fun _ _ _ _ _ => (pe_op op_cat (pe_slice (sl_listK (K := K)) (pv 4) po_none (po_some (pv 2))) (pe_slice (sl_listK (K := K)) (pv 4) (po_some (pe_op op_add (pv 2) pe_int)) po_none))))
        (pss_one (ps_set (i := 1) nd rfl (Or.inl rfl) (pe_op op_add (pv 1) (pe_op op_mul (pe_op op_mul (pe_op op_sub pe_int (pe_op op_mul pe_int (pe_op op_modN (pv 2) pe_int))) (pe_ix (ix_listK (K := K)) (pe_ix (ix_listK (K := K)) (pv 0) pe_int (fun _ _ => rfl)) (pv 2) (fun _ _ => rfl))) (pe_cal C_D hr (by rfl) pass0 (pa_cons (pv 3) pa_nil))))))))
      (pss_one (ps_ret (pv 1)))))), ?_⟩
    obtain ⟨aa, vs, rfl, hs, lvs, hrow⟩ := id ha.rows
    have eE : ∀ {σ : L2.St} {H1 : Hp} {ti tj : TE} {i j : Nat}, Ex H H1 → σ[0]? = some (some (.ref aa)) → Ev ti σ H1 (.int (i : Int)) → Ev tj σ H1 (.int (j : Int)) → i < M.length → j < M.length → Ev (tOp (rIxL K) (tOp (rIxL K) (tVar 0) ti) tj) σ H1 (.int (ent M i j)) := fun e h1 hi hj li lj =>
      ev_ent (K := K) (ev_var h1) (LL.m _ _ _ e ha) hi hj (getD_get (d := []) li) (getD_get (d := 0) (by rw [S.2 _ li]; exact lj))
    refine q_when (b := decide (M.length = 1)) (et_is (et_test (ev_op (ev_len (ev_var rfl) hs) ev_c (rv_eq rfl))) (decide_eq_decide.mpr ⟨fun z => by injection z; omega, fun z => by rw [lvs, z]; rfl⟩)) (fun hb H1 e1 => ?_) (fun hb H1 e1 => ?_)
    · have h1 := of_decide_eq_true hb
      refine s_ret (v := .int (lapF (n + 1) M)) (ev_is (eE (i := 0) (j := 0) e1 rfl ev_c ev_c (by omega) (by omega)) ?_) fun H2 e2 => q H2 (e1.trans e2)
      rw [lapF, if_pos h1]
    · have h1 : ¬ M.length = 1 := of_decide_eq_false hb
      have el : lapF (n + 1) M = lapS (lapF n) M M.length := by rw [lapF, if_neg h1]
      rw [el] at q
      refine q_asg ev_c fun H2 e2 => ?_
      have e12 := e1.trans e2
      refine q_forR1 (n := (M.length : Int)) (ea_cons (ev_is (ev_len (ev_var rfl) (ex_l e12 hs)) (by rw [lvs])) ea_nil) (by omega) (fun i σ' H' => ∃ y2 y3, σ' = [some (.ref aa), some (.int (lapS (lapF n) M i)), y2, y3, none] ∧ Ex H H') (fun H3 e3 => ⟨_, _, rfl, e12.trans e3⟩) ?_ ?_
      · rintro i σ' H3 hi ⟨y2, y3, rfl, e3⟩
        have hi : i < M.length := by omega
        have dV : ∀ k : Nat, (vs.drop 1)[k]? = vs[k + 1]? := fun k => by rw [List.getElem?_drop, Nat.add_comm]
        refine q_asgR (cc := HO.lst) (M := minorM M i) (EvR.cast (er_lcNL (xs := vs.drop 1) (fun _ => true) (fun k => (minorM M i).getD k []) (EvL.cast (el_sl (lo := some ((1 : Nat) : Int)) (hi := none) (ev_var rfl) (eo_some ev_c) eo_none (ex_l e3 hs)) (cutV_drop vs 1)) (by rw [List.length_drop]; omega) (fun x => rfl) (fun k x H4 e4 hx => et_yes) (fun k x H4 e4 hx _ => ?_)) ?_) fun pa rs H4 e4 hR => ?_
        · rw [dV] at hx
          obtain ⟨r, row, rfl, hM, hr1⟩ := hrow _ x hx
          have hk : k + 1 < M.length := (List.getElem?_eq_some_iff.mp hM).1
          have lr : row.length = M.length := by have := S.2 (k + 1) hk; rw [getD_of hM] at this; exact this
          rw [minor_row hk, getD_of hM]
          refine EvL.n (EvL.cast (el_catLL (EvL.cast (el_sl (lo := none) (hi := some ((i : Nat) : Int)) (ev_var rfl) eo_none (eo_some (ev_var rfl)) (ex_l (e3.trans e4) hr1)) (cutV_take _ _)) (EvL.cast (el_sl (lo := some ((i + 1 : Nat) : Int)) (hi := none) (ev_var rfl) (eo_some (ev_is (ev_op (ev_var rfl) ev_c rv_I0) (by push_cast; rfl))) eo_none (ex_l (e3.trans e4) hr1)) (cutV_drop _ _)) ?_) ?_)
          · have := List.length_take_le i (Ints row)
            have : ((Ints row).drop (i + 1)).length ≤ (Ints row).length := by rw [List.length_drop]; omega
            have : (Ints row).length = M.length := by rw [List.length_map, lr]
            have : ((Ints row).take i).length ≤ (Ints row).length := by rw [List.length_take]; omega
            omega
          · show _ = List.map _ _
            rw [List.map_append, List.map_take, List.map_drop]
        · have e0 : (vs.drop 1).length = (minorM M i).length := by rw [List.length_drop, minor_len, lvs]
          rw [e0, givenR_all (minorM M i) (fun r => r) _ (fun k x hx => getD_of hx), List.map_id']
        · have e04 := e3.trans e4
          refine s_asg (v := .int (lapS (lapF n) M (i + 1))) (ev_is (ev_op (ev_var rfl) (ev_op (ev_op (ev_op ev_c (ev_op ev_c (ev_op (ev_var rfl) ev_c (rv_I (by decide))) (rv_I (.inl ⟨by decide, by decide⟩))) rv_I0) (eE (i := 0) (j := i) e04 rfl ev_c (ev_var rfl) h0 hi) (rv_I (.inr ?_))) (ev_call (z := .int (lapF n (minorM M i))) (ea_cons (ev_var rfl) ea_nil) fun H5 e5 Q' q' E' => ⟨.ref pa, minorM M i, rfl, (hR.ex e5).ll, minor_sq S hi, by rw [minor_len]; omega, by rw [minor_len]; omega, by rw [minor_len]; omega, minor_bd S hi bd, fun H6 e6 => q' H6 e6⟩) (rv_I (.inl ?_))) rv_I0) ?_) fun H5 e5 => ⟨_, _, rfl, e04.trans e5⟩
          · have := bd 0 i
            omega
          · have b1 := bd 0 i
            rw [Int.fmod_eq_emod_of_nonneg _ (by decide)]
            rcases (show (i : Int) % 2 = 0 ∨ (i : Int) % 2 = 1 by omega) with z | z <;> rw [z] <;> omega
          · rw [Int.fmod_eq_emod_of_nonneg _ (by decide)]
            rfl
      · rintro σ' H3 ⟨y2, y3, rfl, e3⟩
        rw [show ((M.length : Nat) : Int).toNat = M.length by omega]
        exact s_ret (ev_var rfl) fun H4 e4 => q H4 (e3.trans e4)
theorem c_l_det (T : DefOk K mg "_law_determinant" s_l_determinant ["_law_rows_here"]) (tL : mg "len" = none) (tR : mg "range" = none) : ∀ n, Clb P w K mg base CX0 "_law_determinant" (n + 1) ["_law_rows_here"] (spLDet K n)
  | 0 => by
    obtain ⟨f, fd, F, gm, b⟩ := T.ex
    refine ⟨f, fd, F.ok sc_l_determinant (fun vs H Q E h => ?_) (fun cdv A outer s H vs Q E hr h => ?_), gm, F.kp, b⟩
    · obtain ⟨_, _, rfl, _⟩ := h
      rfl
    · obtain ⟨_, _, _, _, _, h1, h2, _⟩ := h
      exact absurd h1 (by omega)
  | n + 1 => c_l_det_s T tL tR n (c_l_det T tL tR n)
theorem c_l_bad (T : DefOk K mg "_law_bad" s_l_bad ["_law_rows_here"]) (tL : mg "len" = none) (tR : mg "range" = none) (tM : mg "min" = none) (tA : mg "abs" = none) (C_L : Clb P w K mg base CX0 "_law_lists" 1 ["_law_many"] (spLists K)) (C_D : Clb P w K mg base CX0 "_law_determinant" 4 ["_law_rows_here"] (spLDet K 3)) :
    Clb P w K mg base CX0 "_law_bad" 5 ["_law_rows_here"] (spLBad K) := by
  obtain ⟨f, fd, F, gm, b⟩ := T.ex
  refine ⟨f, fd, F.ok sc_l_bad (fun vs H Q E h => ?_) (fun cdv A outer s H vs Q E hr h => ?_), gm, F.kp, b⟩
  · obtain ⟨_, _, _, _, rfl, _⟩ := h
    rfl
  · obtain ⟨a, h, wd, M, rfl, ha, S, h0, h3, w0, w4, bd, q⟩ := h
    have nd := sc_l_bad.nd
    refine ⟨_, (pss_cons (ps_for PassesOwn.never rfl (pi_range2 (by rfl) tR (pa_cons pe_int (pa_cons (pe_op op_add (pe_callB (call_min2 rfl) (by rfl) tM (by decide +kernel) (pa_cons (pe_callB (call_lenK (K := K)) (by rfl) tL PySem.boot_len (pa_cons (pv 0) pa_nil)) (pa_cons (pe_callB (call_lenK (K := K)) (by rfl) tL PySem.boot_len (pa_cons (pe_ix (ix_listK (K := K)) (pv 0) pe_int (fun _ _ => rfl)) pa_nil)) pa_nil))) pe_int) pa_nil))) (pg_name (i := 1) nd rfl (Or.inl rfl))
        (pss_one (ps_for PassesOwn.never rfl (pi_listK (K := K) (pe_cal C_L (hr.mono (by decide)) (by rfl) pass0 (pa_cons (pe_callB (call_lenK (K := K)) (by rfl) tL PySem.boot_len (pa_cons (pv 0) pa_nil)) pa_nil))) (pg_name (i := 2) nd rfl (Or.inl rfl))
          (pss_one (ps_for PassesOwn.never rfl (pi_listK (K := K) (pe_cal C_L (hr.mono (by decide)) (by rfl) pass0 (pa_cons (pe_callB (call_lenK (K := K)) (by rfl) tL PySem.boot_len (pa_cons (pe_ix (ix_listK (K := K)) (pv 0) pe_int (fun _ _ => rfl)) pa_nil)) pa_nil))) (pg_name (i := 3) nd rfl (Or.inr rfl))
            (pss_one (ps_if (PW.pt (pw_and (pt_cmpR op_eq (pe_callB (call_lenK (K := K)) (by rfl) tL PySem.boot_len (pa_cons (pv 2) pa_nil)) (pv 1) (nomark _)) (pw_and1 (pt_cmpR op_eq (pe_callB (call_lenK (K := K)) (by rfl) tL PySem.boot_len (pa_cons (pv 3) pa_nil)) (pv 1) (nomark _)))))
              (pss_cons (ps_setLc (i := 4) (own := [("_law_i", 5)]) (by rfl) nd rfl rfl (sw_true rfl rfl rfl (by decide +kernel)) (pi_listK (K := K) (pv 2)) (blkOk_by (own := [("_law_i", 5)]) (by kernel_rfl)) (fun _ _ _ _ _ => (pg_name (i := 5) nd rfl (Or.inr rfl))) (fun _ _ _ _ _ => pts_nil) (fun _ _ _ _ _ => (pe_lc (own := [("_law_j", 6)]) (by rfl) nd (pi_listK (K := K) (pv 3)) (blkOk_by (own := [("_law_j", 6)]) (by kernel_rfl)) (fun _ _ _ _ _ => (pg_name (i := 6) nd rfl (Or.inl rfl))) (fun _ _ _ _ _ => pts_nil) (fun _ _ _ _ _ => (pe_ix (ix_listK (K := K)) (pe_ix (ix_listK (K := K)) (pv 0) (pv 5) (fun _ _ => rfl)) (pv 6) (fun _ _ => rfl))))))
              (pss_one (ps_if (pt_cmpR op_gt (pe_callB call_abs (by rfl) tA (by decide +kernel) (pa_cons (pe_cal C_D hr (by rfl) pass0 (pa_cons (pv 4) pa_nil)) pa_nil)) pe_int (nomark _))
                (pss_one (ps_ret (pe_tup (pa_cons (pv 2) (pa_cons (pv 3) pa_nil)))))
                pss_nil)))
              pss_nil)))))))
      (pss_one (ps_ret pe_non))), ?_⟩
    obtain ⟨aa, vs, rfl, hs, lvs, hrow⟩ := id ha.rows
    have lM : M.length = h := S.1
    have lV : vs.length = h := by rw [lvs, lM]
    have eE : ∀ {σ : L2.St} {H1 : Hp} {ti tj : TE} {i j : Nat}, Ex H H1 → σ[0]? = some (some (.ref aa)) → Ev ti σ H1 (.int (i : Int)) → Ev tj σ H1 (.int (j : Int)) → i < h → j < wd → Ev (tOp (rIxL K) (tOp (rIxL K) (tVar 0) ti) tj) σ H1 (.int (ent M i j)) := fun e h1 hi hj li lj =>
      ev_ent (K := K) (ev_var h1) (LL.m _ _ _ e ha) hi hj (getD_get (d := []) (by omega)) (getD_get (d := 0) (by rw [S.2 _ li]; exact lj))
    have lenH : ∀ {σ : L2.St} {H1 : Hp}, Ex H H1 → σ[0]? = some (some (.ref aa)) → Ev (tCB (rLenOf K) (tCons (tVar 0) tNil)) σ H1 (.int (h : Int)) := fun e h1 => ev_is (ev_len (ev_var h1) (ex_l e hs)) (by rw [lV])
    obtain ⟨r0, row0, er0, hM0, hr0⟩ := hrow 0 (vs[0]'(by omega)) (List.getElem?_eq_getElem (by omega))
    have l0 : row0.length = wd := S.wid row0 (List.mem_of_getElem? hM0)
    have lenW : ∀ {σ : L2.St} {H1 : Hp}, Ex H H1 → σ[0]? = some (some (.ref aa)) → Ev (tCB (rLenOf K) (tCons (tOp (rIxL K) (tVar 0) (tC (.int 0))) tNil)) σ H1 (.int (wd : Int)) := fun e h1 => ev_is (ev_len (K := K) (ev_op (ev_var h1) ev_c (rv_ixL (ex_l e hs) (atI_nat (j := 0) (v := V.ref r0) (by rw [← er0]; exact List.getElem?_eq_getElem (by omega))))) (ex_l e hr0)) (by rw [List.length_map, l0])
    have lsts : ∀ {σ : L2.St} {H1 : Hp} {te : TE} (k : Nat) {R : It → Hp → Prop}, k ≤ 4 → Ev te σ H1 (.int (k : Int)) → (∀ (la : Addr) (us : List V) H2, Ex H1 H2 → SqL K H2 la us → Paired (fun u x => IsL K (Ints x) u H2) us ((lawLists k).map natsI) → R (Itl K la) H2) → iList K (tCall (spLists K) [] E0 (tCons te tNil)) σ H1 R := fun {σ H1 te} k {R} hk hv kk => by
      refine call_at (ea_cons hv ea_nil) fun H2 e2 => ⟨k, rfl, hk, fun v H3 e3 hv3 => ?_⟩
      obtain ⟨la, us, rfl, hus, hp⟩ := hv3
      exact ⟨la, rfl, ⟨us, hus⟩, kk la us H3 (e2.trans e3) hus hp⟩
    refine q_forR2 (lo := 1) (n := ((min h wd : Nat) : Int) + 1) (ea_cons ev_c (ea_cons (ev_op (ev_min2 (i := h) (j := wd) (lenH (Ex.refl _) rfl) (lenW (Ex.refl _) rfl)) ev_c rv_I0) ea_nil)) (by omega)
      (fun n σ' H' => ∃ y1 y2 y3 y4, σ' = [some (.ref aa), y1, y2, y3, y4, none, none] ∧ Ex H H' ∧ ∀ s, s < n → lb1 h wd M (s + 1) = none) (fun H1 e1 => ⟨_, _, _, _, rfl, e1, fun s hs => by omega⟩) ?_ ?_
    · rintro n σ' H1 hn ⟨y1, y2, y3, y4, rfl, e1, hs1⟩
      rw [show (1 : Int) + (n : Int) = ((n + 1 : Nat) : Int) by omega]
      refine lsts h (by omega) (lenH e1 rfl) fun la us H2 e2 hus hpu => ?_
      have lus : us.length = (lawLists h).length := by rw [Paired.len hpu, List.length_map]
      refine for_list (D := _) (xs := us) (fun i σ' H' => ∃ y2 y3 y4, σ' = [some (.ref aa), some (.int ((n + 1 : Nat) : Int)), y2, y3, y4, none, none] ∧ Ex H2 H' ∧ ∀ j R, j < i → (lawLists h)[j]? = some R → lb2 wd M (n + 1) R = none) ⟨_, _, _, rfl, Ex.refl _, fun j R hj => by omega⟩ (fun i σ' H' _ ⟨_, _, _, _, e, _⟩ => ex_l e hus) ?_ ?_
      · rintro i x σ' H3 hx ⟨y2, y3, y4, rfl, e3, hs2⟩
        have hi : i < (lawLists h).length := by rw [← lus]; exact (List.getElem?_eq_some_iff.mp hx).1
        have gR : (lawLists h)[i]? = some (lawLists h)[i] := List.getElem?_eq_getElem hi
        obtain ⟨row, hrw, hR⟩ := pr_getL hpu hx
        rw [List.getElem?_map, gR] at hrw
        cases hrw
        obtain ⟨mR, lR4⟩ := lawLists_lt h (by omega) _ (List.getElem_mem hi)
        generalize (lawLists h)[i] = R at *
        have e13 := (e1.trans e2).trans e3
        show tFor _ _ _ _ [some (.ref aa), some (.int ((n + 1 : Nat) : Int)), some x, y3, y4, none, none] H3
        refine lsts (σ := [some (.ref aa), some (.int ((n + 1 : Nat) : Int)), some x, y3, y4, none, none]) wd w4 (lenW e13 rfl) fun la2 us2 H4 e4 hus2 hpu2 => ?_
        have lus2 : us2.length = (lawLists wd).length := by rw [Paired.len hpu2, List.length_map]
        refine for_list (D := _) (xs := us2) (fun i σ' H' => ∃ y3 y4, σ' = [some (.ref aa), some (.int ((n + 1 : Nat) : Int)), some x, y3, y4, none, none] ∧ Ex H4 H' ∧ ∀ j Cs, j < i → (lawLists wd)[j]? = some Cs → lb3 M (n + 1) R Cs = none) ⟨_, _, rfl, Ex.refl _, fun j R hj => by omega⟩ (fun i σ' H' _ ⟨_, _, _, e, _⟩ => ex_l e hus2) ?_ ?_
        · rintro i2 x2 σ' H5 hx2 ⟨y3, y4, rfl, e5, hs3⟩
          have hi2 : i2 < (lawLists wd).length := by rw [← lus2]; exact (List.getElem?_eq_some_iff.mp hx2).1
          have gC : (lawLists wd)[i2]? = some (lawLists wd)[i2] := List.getElem?_eq_getElem hi2
          obtain ⟨row2, hrw2, hC⟩ := pr_getL hpu2 hx2
          rw [List.getElem?_map, gC] at hrw2
          cases hrw2
          obtain ⟨mC, lC4⟩ := lawLists_lt wd w4 _ (List.getElem_mem hi2)
          generalize (lawLists wd)[i2] = Cs at *
          have e15 := (e13.trans e4).trans e5
          have hR5 : IsL K (Ints (natsI R)) x H5 := IsL.m _ _ _ ((e3.trans e4).trans e5) hR
          have hC5 : IsL K (Ints (natsI Cs)) x2 H5 := IsL.m _ _ _ e5 hC
          have lnI : ∀ l : List Nat, (Ints (natsI l)).length = l.length := fun l => by rw [List.length_map, natsI, List.length_map]
          have nohit : ¬ ((R.length = n + 1 ∧ Cs.length = n + 1) ∧ 1 < (lapF 3 (partM M R Cs)).natAbs) → ∀ j Cs', j < i2 + 1 → (lawLists wd)[j]? = some Cs' → lb3 M (n + 1) R Cs' = none := fun hno j Cs' hj hCs => by
            by_cases hji : j < i2
            · exact hs3 j Cs' hji hCs
            · obtain rfl : j = i2 := by omega
              rw [gC] at hCs
              cases hCs
              unfold lb3
              rw [if_neg hno]
          refine s_when (b := decide (R.length = n + 1) && decide (Cs.length = n + 1)) (et_and (et_is (et_test (ev_op (ev_lenL (ev_var rfl) hR5) (ev_var rfl) (rv_eq rfl))) (by rw [lnI]; exact decide_eq_decide.mpr ⟨fun z => by injection z with z; omega, fun z => by rw [z]⟩)) fun _ => et_is (et_test (ev_op (ev_lenL (ev_var rfl) hC5) (ev_var rfl) (rv_eq rfl))) (by rw [lnI]; exact decide_eq_decide.mpr ⟨fun z => by injection z with z; omega, fun z => by rw [z]⟩)) (fun hb H6 e6 => ?_) (fun hb H6 e6 => ?_)
          · obtain ⟨hb1, hb2⟩ := Bool.and_eq_true_iff.mp hb
            have lR := of_decide_eq_true hb1
            have lC := of_decide_eq_true hb2
            obtain ⟨ra, rfl, hra⟩ := id hR5
            obtain ⟨ca, rfl, hca⟩ := id hC5
            refine q_asgR (cc := HO.lst) (M := partM M R Cs) (EvR.cast (er_lcL (xs := Ints (natsI R)) (fun _ => true) (fun k => Cs.map fun j => ent M (R.getD k 0) j) (ev_var rfl) (ex_l e6 hra) (by rw [lnI]; omega) (fun x => rfl) (fun k y H7 e7 hy => et_yes) (fun k y H7 e7 hy _ => ?_)) ?_) fun pa rs H7 e7 hP => ?_
            · obtain ⟨i', hi', rfl⟩ := natsI_get hy
              rw [getD_of hi']
              have li' := mR i' (List.mem_of_getElem? hi')
              refine EvL.n (EvL.cast (el_lcL (xs := Ints (natsI Cs)) (fun _ => true) (fun k => .int (ent M i' (Cs.getD k 0))) (ev_var rfl) (ex_l (e6.trans e7) hca) (by rw [lnI]; omega) (fun x => rfl) (fun k y H8 e8 hy => et_yes) (fun k y H8 e8 hy _ => ?_)) ?_)
              · obtain ⟨j', hj', rfl⟩ := natsI_get hy
                rw [getD_of hj']
                exact eE (((e15.trans e6).trans e7).trans e8) rfl (ev_var rfl) (ev_var rfl) li' (mC j' (List.mem_of_getElem? hj'))
              · rw [lnI, given_all Cs (fun j => V.int (ent M i' j)) _ (fun k y hy => by rw [getD_of hy])]
                exact ints_map _ _
            · rw [lnI, givenR_all R (fun i => Cs.map fun j => ent M i j) _ (fun k y hy => by rw [getD_of hy])]
              rfl
            · have hPL : (partM M R Cs).length = n + 1 := by unfold partM; rw [List.length_map, lR]
              have hPW : ∀ k, k < n + 1 → ((partM M R Cs).getD k []).length = n + 1 := fun k hk => by
                unfold partM
                rw [List.getD_eq_getElem?_getD, List.getElem?_map, List.getElem?_eq_getElem (by omega)]
                show (List.map _ Cs).length = _
                rw [List.length_map, lC]
              have bP : ∀ k l, (ent (partM M R Cs) k l).natAbs ≤ 2 := fun k l => by
                by_cases hk : k < R.length
                · by_cases hl : l < Cs.length
                  · rw [ent_part hk hl]
                    exact bd _ _
                  · rw [ent_out (.inr (by rw [hPW k (by omega)]; omega))]
                    decide
                · rw [ent_out (.inl (by rw [hPL]; omega))]
                  decide
              have e17 := (e15.trans e6).trans e7
              refine s_when (b := decide (1 < (lapF 3 (partM M R Cs)).natAbs)) (et_is (et_test (ev_op (ev_abs (ev_call (z := .int (lapF 3 (partM M R Cs))) (ea_cons (ev_var rfl) ea_nil) fun H8 e8 Q' q' E' => ⟨.ref pa, partM M R Cs, rfl, (hP.ex e8).ll, ⟨rfl, fun k hk => by rw [hPL] at hk ⊢; exact hPW k hk⟩, by omega, by omega, by omega, bP, fun H9 e9 => q' H9 e9⟩)) ev_c rv_I0)) (decide_eq_decide.mpr (by omega))) (fun hb3 H8 e8 => ?_) (fun hb3 H8 e8 => ?_)
              · have hb3 := of_decide_eq_true hb3
                refine s_retU (eu_tup (ea_cons (ev_var rfl) (ea_cons (ev_var rfl) ea_nil)) (Nat.le_of_ble_eq_true rfl)) fun p H9 hp e9 h9 => ?_
                have f3 : lb3 M (n + 1) R Cs = some (R, Cs) := by unfold lb3; rw [if_pos ⟨⟨lR, lC⟩, hb3⟩]
                have f2 : lb2 wd M (n + 1) R = some (R, Cs) := fs_hit hs3 gC f3
                have f1 : lb1 h wd M (n + 1) = some (R, Cs) := fs_hit hs2 gR f2
                have f0 : lawBad h wd M = some (R, Cs) := by
                  refine fs_hit (i := n) (y := n + 1) (fun j x hj hx => ?_) ?_ f1
                  · rw [List.getElem?_map, List.getElem?_range (by omega)] at hx
                    cases hx
                    exact hs1 j hj
                  · rw [List.getElem?_map, List.getElem?_range (by omega)]
                    rfl
                refine q _ H9 ((e17.trans e8).trans e9) ?_
                rw [f0]
                exact ⟨p, ra, ca, rfl, st_of h9, ex_l (((e6.trans e7).trans e8).trans e9) hra, ex_l (((e6.trans e7).trans e8).trans e9) hca⟩
              · have hb3 := of_decide_eq_false hb3
                exact ⟨_, _, rfl, ((e5.trans e6).trans e7).trans e8, nohit fun z => hb3 z.2⟩
          · refine ⟨_, _, rfl, e5.trans e6, nohit fun z => ?_⟩
            rw [decide_eq_true z.1.1, decide_eq_true z.1.2] at hb
            cases hb
        · rintro σ' H5 ⟨y3, y4, rfl, e5, hs3⟩
          refine ⟨_, _, _, rfl, (e3.trans e4).trans e5, fun j R' hj hR' => ?_⟩
          by_cases hji : j < i
          · exact hs2 j R' hji hR'
          · obtain rfl : j = i := by omega
            rw [gR] at hR'
            cases hR'
            refine fs_none fun k Cs hk => hs3 k Cs ?_ hk
            rw [lus2]
            exact (List.getElem?_eq_some_iff.mp hk).1
      · rintro σ' H3 ⟨y2, y3, y4, rfl, e3, hs2⟩
        refine ⟨_, _, _, _, rfl, (e1.trans e2).trans e3, fun s hs => ?_⟩
        by_cases hsn : s < n
        · exact hs1 s hsn
        · obtain rfl : s = n := by omega
          refine fs_none fun k R hk => hs2 k R ?_ hk
          rw [lus]
          exact (List.getElem?_eq_some_iff.mp hk).1
    · rintro σ' H1 ⟨y1, y2, y3, y4, rfl, e1, hs1⟩
      refine s_ret ev_c fun H2 e2 => q _ H2 (e1.trans e2) ?_
      have f0 : lawBad h wd M = none := fs_none fun i x hx => by
        rw [List.getElem?_map] at hx
        obtain ⟨s, hs, rfl⟩ := Option.map_eq_some_iff.mp hx
        have hi := (List.getElem?_eq_some_iff.mp hs).1
        rw [List.length_range] at hi
        rw [List.getElem?_range hi] at hs
        cases hs
        exact hs1 i (by omega)
      rw [f0]
      rfl
end
end Ef
end
section
/-! W25: the law's refusal -/
namespace Ef
open PySem PySem.Spec PyProof.Rows L2 Evl
def tCallNS (n m : Nat) (sp : Sp) (gV : List V → List V → List V) (EE : L2.St → XK) (t tk : TA) : TE := fun σ H Q => t σ H fun vs H1 => tk σ H1 fun zs H2 => vs.length = n ∧ zs.length = m ∧ sp (gV vs zs) H2 Q (EE σ)
theorem pe_kwS {X : Cx} {CX : CXT} {k : Nat} {ps : List Str} {sp : Sp} {EE : L2.St → XK} {x : Str} {p pos : Pos} {e : Expr} {es : List Expr} {kws : List Keyword} {t tk : TA} (C : KwClb X.prog X.w X.K X.mg X.base CX x k ps sp) (hr : Room k X.A) (hg : Gl X x) (hx : ∀ σ, PassesAt CX X σ (EE σ))
    (ha : PA X (e :: es) t) (hkw : PK X kws tk) (hall : (backToKw pos (keywordEach kws X.env)).all (·.1.isSome) = true := by rfl) (hks : (backToKw pos (keywordEach kws X.env)).filterMap (·.1) = [("p" : Str)] := by rfl)
    (hdb : (x == ("__debug__" : Str)) = false := by decide) (he : starEach (e :: es) X.env = (false, eval e X.env) :: starEach es X.env := by rfl)
    (hpl : ((backTo pos (starEach (e :: es) X.env)).any (·.1) || (backToKw pos (keywordEach kws X.env)).any (·.1.isNone)) = false := by rfl) :
    PE X (.Call (.Name x p) (e :: es) kws pos) (tCallNS 1 1 sp (fun us ws => us ++ ws) EE t tk) := by
  obtain ⟨f, fd, F, gm, kp, hb⟩ := C.ex
  refine ⟨fun pins s σ H Q I h => ?_⟩
  refine wpAny_Call_Name_kw (ld_glob I hg gm ?_ hdb)
  refine PySem.W.callWith_KW (h₀ := X.base) I.ok.mod.kin kp hall (thn (ha.run pos pins s σ H _ I h) fun us s1 ⟨vs, H1, I1, r, q⟩ => ?_) hpl he
  refine thn (hkw.run pos pins s1 σ H1 _ I1 q) fun ws s2 ⟨zs, H2, I2, rz, l1, l2, q2⟩ => ⟨I2.kIn, ?_⟩
  rw [hks]
  have r2 := hb.rel r rz
  refine wpAny_call (codeAny_mono (F.run X.A X.stack s2 H2 ⟨us, [("p" : Str)].zip ws⟩ (us ++ ws) (vs ++ zs) Q (EE σ) hr I2.env0 (hb.to s2 us ws I2.kIn (r.length.symm.trans l1) (rz.length.symm.trans l2)) r2 q2) fun r s' hq => ?_)
  cases r with
  | error e => exact hx σ pins H2 s2 e s' I2 hq
  | ok fl =>
    cases fl with
    | ret u => exact I2.after hq
    | next => exact False.elim hq
    | brk => exact False.elim hq
    | cont => exact False.elim hq
theorem s_dropNS {n m : Nat} {sp : Sp} {gV : List V → List V → List V} {EE : L2.St → XK} {t tk : TA} {D : Ends} {σ : L2.St} {H : Hp} {vs zs : List V} (h1 : EvA t σ H vs) (h2 : ∀ H1, Ex H H1 → EvA tk σ H1 zs) (l1 : vs.length = n) (l2 : zs.length = m) (k : ∀ H2, Ex H H2 → sp (gV vs zs) H2 (fun _ H1 => D.nx σ H1) (EE σ)) : tDrop (tCallNS n m sp gV EE t tk) D σ H :=
  h1 H (Ex.refl H) _ fun H1 e1 => h2 H1 e1 H1 (Ex.refl _) _ fun H2 e2 => ⟨l1, l2, k H2 (e1.trans e2)⟩
def spRefused (K : PySem.W.Frag) (CM : Addr) : Sp := fun vs H Q _ => ∃ (m : V) (w : Nat) (M : IM) (p : Int), vs = [m, .int p] ∧ IsMat K CM w M m H ∧ Wid w M ∧ 0 < M.length ∧ M.length ≤ 1000 ∧ 0 < w ∧ w ≤ 1000 ∧ p < 1000000 ∧ ¬ IsP p ∧ ShortI p ∧ ∀ H', Ex H H' → Q (.bl true) H'
abbrev s_l_refused : Stmt := topS 59
theorem sc_l_refused : FnScope ["_law_matrix", "_law_char", "e"] ["_law_matrix", "_law_char"] (defScope s_l_refused) := ⟨rfl, rfl, rfl, by decide +kernel, rfl, by decide +kernel, by decide +kernel⟩
section
variable {P : Program} {w : World} {K : PySem.W.Frag} {mg : Str → Option Value} {base : Heap} {C CM fI : Addr}
theorem c_l_refused (T : DefOk K mg "_law_refused" s_l_refused ["_law_matrix", "_law_char"]) (B : PySem.BadX.BadTxt P K mg C fI) (C_D : KwClb P w K mg base (L2.CX P w) "dual" 11 ["matrix", "p"] (spDual K C CM)) : Clb P w K mg base CX0 "_law_refused" 12 ["_law_matrix", "_law_char"] (spRefused K CM) := by
  obtain ⟨f, fd, F, gm, b⟩ := T.ex
  refine ⟨f, fd, F.ok sc_l_refused (fun vs H Q E h => ?_) (fun cdv A outer s H vs Q E hr h => ?_), gm, F.kp, b⟩
  · obtain ⟨_, _, _, _, rfl, _⟩ := h
    rfl
  · obtain ⟨m, wd, M, p, rfl, hm, hwid, h0, hl, w0, hw, hp, hnp, hsh, q⟩ := h
    have nd := sc_l_refused.nd
    refine ⟨_, (pss_cons (ps_try_as (i := 2) (tb := fun W => tDrop (tCallNS 1 1 (spDual K C CM) (fun us ws => us ++ ws) (WE W) (tCons (tVar 0) tNil) (tCons (tVar 1) tNil))) (ts := fun a cls d => tRet (tOp rEq (tByBad C a cls d (tVar 2)) (tVar 1))) (Wout := fun _ _ _ _ => False) rfl rfl nd rfl rfl ⟨rfl, by decide, Or.inl B.gC⟩ takes0
        (fun W pn xe tk _ => pss_one (ps_expr (by exact (pe_kwS C_D hr (by rfl) (fun σ => passAt tk σ) (pa_cons (pv 0) pa_nil) (pk_cons (pv 1) pk_nil)))))
        (fun a oe cls d pn hz hf => pss_one (ps_ret (by exact (pe_cmpR op_eq (pe_byBad B hz hf (pv 2)) (pv 1) (nomark _))))))
      (pss_one (ps_ret pe_bl))), ?_⟩
    refine s_dropNS (σ := [some m, some (.int p), none]) (vs := [m]) (zs := [.int p]) (ea_cons (ev_var rfl) ea_nil) (fun H1 e1 => ea_cons (ev_var rfl) ea_nil) rfl rfl fun H2 e2 => ?_
    refine ⟨m, wd, M, p, rfl, IsMat.m _ _ _ e2 hm, hwid, h0, hl, w0, hw, hp, fun _ => ⟨hsh, fun d H3 e3 hd h3 => ?_⟩, fun z => absurd z hnp⟩
    refine ⟨true, B.te, fun _ a ha => ?_, fun z => by cases z⟩
    refine ⟨_, rfl, rfl, rfl, d, _, rfl, h3, _, rfl, rfl, ?_⟩
    rw [decide_eq_true rfl]
    exact q H3 (e2.trans e3)
end
end Ef
end
section
/-! W26: the law -/
namespace Ef
open PySem PySem.Spec PyProof.Rows L2 Evl
def wideM (h : Nat) (M : IM) : IM := (List.range h).map fun i => M.getD i [] ++ (List.range h).map fun j => if i = j then 1 else 0
def compl (w : Nat) (Cs : List Nat) : List Nat := (List.range w).filter fun j => !decide (j ∈ Cs)
/-- what the law asks of the mathematics -/
structure LawFacts : Prop where
  bad : ∀ h w M, Shp h w M → 0 < h → h ≤ 3 → 0 < w → w ≤ 4 → badSq h w M = lawBad h w M
  net : ∀ h w M, Shp h w M → 0 < h → h ≤ 3 → 0 < w → w ≤ 4 → Net h w M → lawBad h w M = none
  chg : ∀ h w M, Shp h w M → 0 < h → h ≤ 3 → 0 < w → w ≤ 4 → (∀ i j, (ent M i j).natAbs ≤ 2) → lawBad h w M = none → (∀ Cs ∈ allCh w (w + 1), Cs ≠ [] → IndOk M Cs) ∧ ∀ Cs ∈ allCh (w + h) (w + h + 1), Cs ≠ [] → IndOk (wideM h M) Cs
  dual : ∀ h w M p, Shp h w M → 0 < h → h ≤ 3 → 0 < w → w ≤ 4 → (∀ i j, (ent M i j).natAbs ≤ 2) → IsP p → 0 ≤ p → p < 1000000 → ∃ (Jv : Nat → IM → IM → Prop) (Iv : Nat → Nat → IM → IM → Prop), DiagInv h w Jv Iv ∧ Jv 0 M (unitM w) ∧
    ∀ N L, Jv (min h w) N L → Shp w w L → RankOk p (dualM w (kerRows p h w N L)) ∧ (basesF p (dualM w (kerRows p h w N L)) w).map natsI = sortL ((basesF p M w).map fun Cs => natsI (compl w Cs))
def dF : Option (List Nat × List Nat) → PyData
  | none => .none
  | some (R, Cs) => .tuple [dI (natsI R), dI (natsI Cs)]
theorem dF_dp {K : PySem.W.Frag} {f : Option (List Nat × List Nat)} {v : V} {H : Hp} (h : FV2 K f v H) : Dp K H v (dF f) := by
  cases f with
  | none =>
    rw [show v = .non from h]
    exact .non
  | some rc =>
    obtain ⟨R, Cs⟩ := rc
    obtain ⟨t, a, b, rfl, ht, ha, hb⟩ := h
    exact .tup ht (.cons (dp_ints ⟨a, rfl, ha⟩) (.cons (dp_ints ⟨b, rfl, hb⟩) .nil))
theorem dF_sh (f : Option (List Nat × List Nat)) : SeqAt.shaped (dF f) = true := by
  cases f with
  | none => rfl
  | some rc =>
    obtain ⟨R, Cs⟩ := rc
    unfold SeqAt.shaped
    rw [Bool.and_eq_true]
    refine ⟨?_, decide_eq_true ?_⟩
    · show (PyData.canLayAll0 ((natsI R).map .int) && (PyData.canLayAll0 ((natsI Cs).map .int) && true)) = true
      rw [cl_ints, cl_ints]
      rfl
    · have h1 := de_ints (natsI R)
      have h2 := de_ints (natsI Cs)
      show PyData.depth (.tuple [.list ((natsI R).map .int), .list ((natsI Cs).map .int)]) ≤ 64
      simp only [PyData.depth, PyData.depthAll]
      omega
theorem dF_eq (f : Option (List Nat × List Nat)) : PyData.eqv (dF f) (dF f) = true := by
  cases f with
  | none => rfl
  | some rc =>
    obtain ⟨R, Cs⟩ := rc
    show (PyData.eqv (dI (natsI R)) (dI (natsI R)) && (PyData.eqv (dI (natsI Cs)) (dI (natsI Cs)) && true)) = true
    rw [eqv_ints, eqv_ints, decide_eq_true rfl, decide_eq_true rfl]
    rfl
theorem allCh_ok (w : Nat) (h : w ≤ 7) : (∀ Cs ∈ allCh w (w + 1), (∀ j ∈ Cs, j < w) ∧ Cs.length ≤ 1000) ∧ (allCh w (w + 1)).length ≤ 40000 := by
  refine ⟨fun Cs hC => ?_, ?_⟩
  · unfold allCh at hC
    obtain ⟨s, hs, hC⟩ := List.mem_flatMap.mp hC
    have hs := List.mem_range.mp hs
    obtain ⟨h1, h2⟩ := chs_ok w s (by omega) Cs hC
    exact ⟨h2, by omega⟩
  · have key : ∀ w : Nat, w < 8 → (allCh w (w + 1)).length ≤ 40000 := by decide +kernel
    exact key w (by omega)
theorem inV_nats (i : Nat) (l : List Nat) : inV (.int (i : Int)) (Ints (natsI l)) = decide (i ∈ l) := by
  induction l with
  | nil => rfl
  | cons a l ih =>
    show (eqV (.int (a : Int)) (.int (i : Int)) || inV (.int (i : Int)) (Ints (natsI l))) = _
    rw [ih]
    show (((a : Int) == (i : Int)) || decide (i ∈ l)) = _
    by_cases h : a = i
    · subst h; simp
    · have h2 : ¬ (a : Int) = (i : Int) := fun z => h (by omega)
      have h3 : ¬ i = a := fun z => h z.symm
      simp [h2, h3]
theorem flat_nats (l : List Nat) : (Ints (natsI l)).all flatV = true := by
  rw [List.all_eq_true]
  intro x hx
  obtain ⟨z, _, rfl⟩ := List.mem_map.mp hx
  rfl
def spLaw (K : PySem.W.Frag) : Sp := fun vs H Q _ => ∃ (a : V) (xs : List Int), vs = [a] ∧ IsL K (Ints xs) a H ∧ ∀ H', Q (.bl true) H'
abbrev s_law : Stmt := topS 61
theorem sc_law : FnScope ["_law_script", "_law_head", "_law_rows_here", "_law_matrix", "_law_due", "_law_units", "_law_wide", "_law_many", "_law_char", "_law_other", "_law_left", "_law_basis", "_law_i", "_law_j", "_law_at", "_law_row"] ["_law_script"] (defScope s_law) := ⟨rfl, rfl, rfl, by decide +kernel, rfl, by decide +kernel, by decide +kernel⟩
theorem it_P {K : PySem.W.Frag} {te : TE} {σ : L2.St} {H : Hp} {P : VP} {R : It → Hp → Prop} (h : EvP te σ H P) (k : ∀ v H1, Ex H H1 → P v H1 → ∃ a, v = .ref a ∧ (∃ xs, SqL K H1 a xs) ∧ R (Itl K a) H1) : iList K te σ H R := h H (Ex.refl H) _ fun v H1 e1 p => k v H1 e1 p
/-- a loop over a list that a promise gives -/
theorem s_forP {K : PySem.W.Frag} {te : TE} {σ : L2.St} {H : Hp} {P : VP} {g : TG} {tb u : TS} {D : Ends} (h : EvP te σ H P) (k : ∀ v H1, Ex H H1 → P v H1 → ∃ a, v = .ref a ∧ (∃ xs, SqL K H1 a xs) ∧ tFor (fun _ H' R => R (Itl K a) H') g tb { D with nx := u D } σ H1) : tSeq (tFor (iList K te) g tb) u D σ H :=
  h H (Ex.refl H) _ fun v H1 e1 p => k v H1 e1 p
theorem el_catR {σ : L2.St} {H : Hp} {ta tb : TE} {xs ys : List V} {b : Addr} (ha : EvL ta σ H xs) (hb : ∀ H1, Ex H H1 → Ev tb σ H1 (.ref b)) (hy : H b = some (.lst ys)) (hl : xs.length + ys.length ≤ 100000) : EvL (tOp rCat ta tb) σ H (xs ++ ys) := fun H1 e Q q =>
  ha H1 e _ fun a H2 ha2 e2 h2 => hb H2 (e.trans e2) H2 (Ex.refl _) _ fun H3 e3 => ⟨a, b, xs, ys, rfl, rfl, e3 _ _ h2, (e.trans (e2.trans e3)) _ _ hy, sz_of hl, fun p hp => q p _ (fresh_back (e2.trans e3) hp) ((e2.trans e3).trans (Ex.new hp)) upd_same⟩
theorem eap_c {σ : L2.St} {H : Hp} {v : V} {tr : TA} {P : List V → Hp → Prop} (hr : ∀ H1, Ex H H1 → EvAP tr σ H1 fun vs H2 => P (v :: vs) H2) : EvAP (tCons (tC v) tr) σ H P :=
  eap_cons (P1 := fun u _ => u = v) (fun _ _ _ _ z => z) (Ev.toP ev_c fun _ _ => rfl) fun u H1 e1 ev => by subst ev; exact hr H1 e1
theorem ep_lstP {σ : L2.St} {H : Hp} {ta : TA} {PA : List V → Hp → Prop} {P : VP} (h : EvAP ta σ H PA) (hl : ∀ vs H1, PA vs H1 → vs.length ≤ 100000) (k : ∀ p vs H1 H2, PA vs H1 → H2 p = some (.lst vs) → P (.ref p) H2) : EvP (tLst ta) σ H P := fun H1 e1 Q q =>
  h H1 e1 _ fun vs H2 e2 hp => ⟨sz_of (hl vs H2 hp), fun p hn => q _ _ (e2.trans (Ex.new hn)) (k p vs H2 _ hp upd_same)⟩
theorem ep_callN {n m : Nat} {sp : Sp} {gV : List V → List V → List V} {E : XK} {t tk : TA} {σ : L2.St} {H : Hp} {vs zs : List V} {P : VP} (h1 : EvA t σ H vs) (h2 : ∀ H1, Ex H H1 → EvA tk σ H1 zs) (l1 : vs.length = n) (l2 : zs.length = m) (hs : ∀ H1, Ex H H1 → SpP sp (gV vs zs) H1 P) : EvP (tCallN n m sp gV E t tk) σ H P := fun H1 e1 Q q =>
  h1 H1 e1 _ fun H2 e2 => h2 H2 (e1.trans e2) H2 (Ex.refl _) _ fun H3 e3 => ⟨l1, l2, hs H3 ((e1.trans e2).trans e3) Q (fun v H4 e4 hv => q v H4 ((e2.trans e3).trans e4) hv) E⟩
theorem filter_first {l : List (List Nat)} {p : List Nat → Bool} {i : Nat} (h : [] ∉ l) (hi : (([] :: l).filter p)[i]? = some []) : i = 0 := by
  rw [List.filter_cons] at hi
  split at hi
  · cases i with
    | zero => rfl
    | succ i => exact absurd (List.mem_filter.mp (List.mem_of_getElem? (show (l.filter p)[i]? = some [] from hi))).1 h
  · exact absurd (List.mem_filter.mp (List.mem_of_getElem? hi)).1 h
theorem bases_first {c : Int} {M : IM} {w i : Nat} (hw : w ≤ 4) (h : (basesF c M w)[i]? = some []) : i = 0 := by
  unfold basesF at h
  rw [List.filter_filter] at h
  have key : ∀ w : Nat, w < 5 → lawLists w = [] :: (lawLists w).drop 1 ∧ [] ∉ (lawLists w).drop 1 := by decide +kernel
  rw [(key w (by omega)).1] at h
  exact filter_first (key w (by omega)).2 h
section
variable {P : Program} {w : World} {K : PySem.W.Frag} {mg : Str → Option Value} {base : Heap} {C CM fI : Addr}
theorem prime_2 : PrimeTD 2 := ⟨by decide, fun d h1 h2 => by have : (2 : Int) * 2 ≤ d * d := Int.mul_le_mul h1 h1 (by omega) (by omega); omega⟩
theorem prime_3 : PrimeTD 3 := ⟨by decide, fun d h1 h2 => by have : (2 : Int) * 2 ≤ d * d := Int.mul_le_mul h1 h1 (by omega) (by omega); omega⟩
theorem not_p4 : ¬ IsP 4 := fun h => by
  rcases h with h | h
  · exact absurd h (by decide)
  · exact h.2 2 (by decide) (by decide) (by decide)
theorem not_p1 : ¬ IsP 1 := fun h => by
  rcases h with h | h
  · exact absurd h (by decide)
  · exact absurd h.1 (by decide)
theorem short4 : ShortI 4 := ⟨by decide +kernel, by decide +kernel, by decide +kernel⟩
theorem short1 : ShortI 1 := ⟨by decide +kernel, by decide +kernel, by decide +kernel⟩
theorem c_law (LF : LawFacts) (T : DefOk K mg "law" s_law ["_law_script"]) (MC : MatC K CM) (gM : mg "Matrix" = some (.ref CM)) (IC : C8.InsC K CM) (tL : mg "len" = none) (tl : mg "list" = none) (tR : mg "range" = none) (tI : mg "int" = none) (tS : mg "sorted" = none) (tII : mg "isinstance" = none)
    (C_cell : Clb P w K mg base CX0 "_law_cell" 1 ["_law_script", "_law_k"] (spCell K)) (C_draws : Clb P w K mg base CX0 "_law_draws" 1 ["_law_cell_here", "_law_sizes"] (spDraws K)) (C_drawn : Clb P w K mg base CX0 "_law_drawn" 3 ["_law_script", "_law_head"] (spDrawn K))
    (C_M : KClb P w K mg base CX0 CM "Matrix" 1 ["self", "rows"] (spMatInit K CM)) (C_lbad : Clb P w K mg base CX0 "_law_bad" 5 ["_law_rows_here"] (spLBad K)) (C_bad : Clb P w K mg base CX0 "bad_square" 9 ["matrix"] (spBad K CM)) (C_chg : Clb P w K mg base CX0 "changes" 10 ["matrix"] (spChanges K CM))
    (C_pf : Clb P w K mg base CX0 "_law_prime_from" 2 ["_law_n"] spPrimeFrom) (C_dual : KwClb P w K mg base (L2.CX P w) "dual" 11 ["matrix", "p"] (spDual K C CM)) (C_bases : Clb P w K mg base CX0 "_law_bases" 3 ["_law_rows_here", "_law_char"] (spBases K)) (C_ref : Clb P w K mg base CX0 "_law_refused" 12 ["_law_matrix", "_law_char"] (spRefused K CM)) :
    ∃ f fd, FnOk P w K mg base CX0 13 f fd ["_law_script"] (spLaw K) ∧ mg "law" = some (.ref f) ∧ Fun K "law" "law" s_law f fd := by
  obtain ⟨f, fd, F, gm, b⟩ := T.ex
  refine ⟨f, fd, F.ok sc_law (fun vs H Q E h => ?_) (fun cdv A outer s H vs Q E hr h => ?_), gm, F⟩
  · obtain ⟨_, _, rfl, _⟩ := h
    rfl
  · obtain ⟨a, xs, rfl, ha, q⟩ := h
    have nd := sc_law.nd
    refine ⟨_, (pss_cons (ps_set (i := 1) nd rfl (Or.inl rfl) (pe_cal C_draws (hr.mono (by decide)) (by rfl) pass0 (pa_cons (pe_cal C_cell (hr.mono (by decide)) (by rfl) pass0 (pa_cons (pv 0) (pa_cons pe_int pa_nil))) (pa_cons (pe_lst (pa_cons pe_int (pa_cons pe_int (pa_cons pe_int (pa_cons pe_int pa_nil))))) pa_nil))))
      (pss_cons (ps_set (i := 2) nd rfl (Or.inr rfl) (pe_cal C_drawn (hr.mono (by decide)) (by rfl) pass0 (pa_cons (pv 0) (pa_cons (pv 1) pa_nil))))
      (pss_cons (ps_set (i := 3) nd rfl (Or.inl rfl) (pe_mak C_M (hr.mono (by decide)) (by rfl) pass0 (pa_cons (pv 2) pa_nil)))
      (pss_cons (ps_set (i := 4) nd rfl (Or.inl rfl) (pe_cal C_lbad (hr.mono (by decide)) (by rfl) pass0 (pa_cons (pv 2) pa_nil)))
      (pss_cons (ps_if (PW.pt (pw_or (pt_cmpR (op_neDK (K := K) hr.units) (pe_cal C_bad (hr.mono (by decide)) (by rfl) pass0 (pa_cons (pv 3) pa_nil)) (pv 4) (nomark _)) (pw_or1 (pt_cmpR (op_neDK (K := K) hr.units) (pe_cal C_bad (hr.mono (by decide)) (by rfl) pass0 (pa_cons (pv 3) pa_nil)) (pv 4) (nomark _)))))
        (pss_one (ps_ret pe_bl))
        pss_nil)
      (pss_cons (ps_if (PW.pt (pw_and (pt_cmpR op_lt (pe_ix (ix_listK (K := K)) (pv 1) pe_int (fun _ _ => rfl)) pe_int (nomark _)) (pw_and1 (pt_cmpR op_notN (pv 4) pe_non (nomark _)))))
        (pss_one (ps_ret pe_bl))
        pss_nil)
      (pss_cons (ps_if (pt_cmpR op_isN (pv 4) pe_non (nomark _))
        (pss_cons (ps_set (i := 5) nd rfl (Or.inr rfl) (pe_lc (own := [("_law_i", 12)]) (by rfl) nd (pi_range1 (by rfl) tR (pa_cons (pe_callB (call_lenK (K := K)) (by rfl) tL PySem.boot_len (pa_cons (pv 2) pa_nil)) pa_nil)) (blkOk_by (own := [("_law_i", 12)]) (by kernel_rfl)) (fun _ _ _ _ _ => (pg_name (i := 12) nd rfl (Or.inr rfl))) (fun _ _ _ _ _ => pts_nil) (fun _ _ _ _ _ => (pe_lc (own := [("_law_j", 13)]) (by rfl) nd (pi_range1 (by rfl) tR (pa_cons (pe_callB (call_lenK (K := K)) (by rfl) tL PySem.boot_len (pa_cons (pv 2) pa_nil)) pa_nil)) (blkOk_by (own := [("_law_j", 13)]) (by kernel_rfl)) (fun _ _ _ _ _ => (pg_name (i := 13) nd rfl (Or.inl rfl))) (fun _ _ _ _ _ => pts_nil) (fun _ _ _ _ _ => (pe_callTy call_int1 (by rfl) tI (by decide +kernel) (pa_cons (pe_cmpR op_eq (pv 12) (pv 13) (nomark _)) pa_nil)))))))
        (pss_cons (ps_set (i := 6) nd rfl (Or.inl rfl) (pe_mak C_M (hr.mono (by decide)) (by rfl) pass0 (pa_cons (pe_lc (own := [("_law_i", 12)]) (by rfl) nd (pi_range1 (by rfl) tR (pa_cons (pe_callB (call_lenK (K := K)) (by rfl) tL PySem.boot_len (pa_cons (pv 2) pa_nil)) pa_nil)) (blkOk_by (own := [("_law_i", 12)]) (by kernel_rfl)) (fun _ _ _ _ _ => (pg_name (i := 12) nd rfl (Or.inl rfl))) (fun _ _ _ _ _ => pts_nil) (fun _ _ _ _ _ => (pe_op op_cat (pe_callTy (call_listK (K := K)) (by rfl) tl (by decide +kernel) (pa_cons (pe_ix (ix_listK (K := K)) (pv 2) (pv 12) (fun _ _ => rfl)) pa_nil)) (pe_ix (ix_listK (K := K)) (pv 5) (pv 12) (fun _ _ => rfl))))) pa_nil)))
        (pss_one (ps_if (PW.pt (pw_or (pt_cmpR (op_neDK (K := K) hr.units) (pe_cal C_chg (hr.mono (by decide)) (by rfl) pass0 (pa_cons (pv 3) pa_nil)) (pe_lst pa_nil) (nomark _)) (pw_or1 (pt_cmpR (op_neDK (K := K) hr.units) (pe_cal C_chg (hr.mono (by decide)) (by rfl) pass0 (pa_cons (pv 6) pa_nil)) (pe_lst pa_nil) (nomark _)))))
          (pss_one (ps_ret pe_bl))
          pss_nil))))
        pss_nil)
      (pss_cons (ps_set (i := 7) nd rfl (Or.inl rfl) (pe_callB (call_lenK (K := K)) (by rfl) tL PySem.boot_len (pa_cons (pe_ix (ix_listK (K := K)) (pv 2) pe_int (fun _ _ => rfl)) pa_nil)))
      (pss_cons (ps_for PassesOwn.never rfl (pi_listK (K := K) (pe_lst (pa_cons pe_int (pa_cons pe_int (pa_cons pe_int (pa_cons (pe_cal C_pf (hr.mono (by decide)) (by rfl) pass0 (pa_cons (pe_ix (ix_listK (K := K)) (pv 1) pe_int (fun _ _ => rfl)) pa_nil)) (pa_cons pe_int pa_nil))))))) (pg_name (i := 8) nd rfl (Or.inl rfl))
        (pss_cons (ps_set (i := 9) nd rfl (Or.inl rfl) (pe_kw C_dual (hr.mono (by decide)) (by rfl) passL (pa_cons (pv 3) pa_nil) (pk_cons (pv 8) pk_nil)))
        (pss_cons (ps_if (PW.pt (pw_or (pt_not (pt_val (pe_callB (C8.call_isC IC) (by rfl) tII (by decide +kernel) (pa_cons (pv 9) (pa_cons (pe_cls gM) pa_nil))))) (pw_or1 (pt_cmpR op_ne (pe_fldK (K := K) (pv 9)) (pv 7) (nomark _)))))
          (pss_one (ps_ret pe_bl))
          pss_nil)
        (pss_cons (ps_set (i := 10) nd rfl (Or.inl rfl) (pe_lst pa_nil))
        (pss_cons (ps_for PassesOwn.never rfl (pi_listK (K := K) (pe_cal C_bases (hr.mono (by decide)) (by rfl) pass0 (pa_cons (pv 2) (pa_cons (pv 8) pa_nil)))) (pg_name (i := 11) nd rfl (Or.inr rfl))
          (pss_one (ps_expr (pe_bm PySem.F.plainAttrs_list PySem.F.slot_list_append PySem.F.type_list_append mt_append (pv 10) (pa_cons (pe_lc (own := [("_law_at", 14)]) (by rfl) nd (pi_range1 (by rfl) tR (pa_cons (pv 7) pa_nil)) (blkOk_by (own := [("_law_at", 14)]) (by kernel_rfl)) (fun _ _ _ _ _ => (pg_name (i := 14) nd rfl (Or.inl rfl))) (fun _ _ _ _ _ => pts_one (pt_cmpR (op_notInK (K := K)) (pv 14) (pv 11) (by rfl))) (fun _ _ _ _ _ => (pv 14))) pa_nil)))))
        (pss_one (ps_if (pt_cmpR (op_neDK (K := K) hr.units) (pe_cal C_bases (hr.mono (by decide)) (by rfl) pass0 (pa_cons (pe_lc (own := [("_law_row", 15)]) (by rfl) nd (pi_tupK (K := K) (pe_fldK (K := K) (pv 9))) (blkOk_by (own := [("_law_row", 15)]) (by kernel_rfl)) (fun _ _ _ _ _ => (pg_name (i := 15) nd rfl (Or.inl rfl))) (fun _ _ _ _ _ => pts_nil) (fun _ _ _ _ _ => (pe_callTy (call_listK (K := K)) (by rfl) tl (by decide +kernel) (pa_cons (pv 15) pa_nil)))) (pa_cons (pv 8) pa_nil))) (pe_callB (cr_sortLL (K := K) hr.units) (by rfl) tS (by decide +kernel) (pa_cons (pv 10) pa_nil)) (nomark _))
          (pss_one (ps_ret pe_bl))
          pss_nil)))))))
      (pss_one (ps_ret (pe_and (pe_cal C_ref hr (by rfl) pass0 (pa_cons (pv 3) (pa_cons pe_int pa_nil))) (pe_one (pe_cal C_ref hr (by rfl) pass0 (pa_cons (pv 3) (pa_cons pe_int pa_nil)))))))))))))))), ?_⟩
    have scr : ∀ {σ : L2.St} {H1 : Hp} (k : Nat), Ex H H1 → σ[0]? = some (some a) → EvP (tCall (spCell K) [] E0 (tCons (tVar 0) (tCons (tC (.int (k : Int))) tNil))) σ H1 (fun v _ => ∃ z : Int, v = .int z) := fun {σ H1} k e h0 => ep_call (PA := fun vs H => vs = [a, .int (k : Int)] ∧ IsL K (Ints xs) a H) (EvA.toP (ea_cons (ev_var h0) (ea_cons ev_c ea_nil)) fun H2 e2 => ⟨rfl, IsL.m _ _ _ (e.trans e2) ha⟩) fun vs H2 e2 ⟨ev, hx⟩ Q' q' E' => ⟨a, xs, k, ev, hx, fun z H3 e3 => q' _ H3 e3 ⟨z, rfl⟩⟩
    -- the head
    refine q_asgP (P := fun v H1 => ∃ n0 n1 n2 n3 : Nat, IsL K [.int (n0 : Int), .int (n1 : Int), .int (n2 : Int), .int (n3 : Int)] v H1 ∧ n0 < 3 ∧ n1 < 4 ∧ n2 < 5 ∧ n3 < 2000) (ep_call (PA := fun vs H => ∃ (z : Int) (c : V), vs = [.int z, c] ∧ IsL K (Ints [3, 4, 5, 2000]) c H) (eap_cons (P1 := fun v _ => ∃ z : Int, v = .int z) (fun _ _ _ _ z => z) (scr 0 (Ex.refl _) rfl) fun v H1 e1 ⟨z, ev⟩ => eap_one fun H2 e2 Q' q' => el_lst (ea_cons ev_c (ea_cons ev_c (ea_cons ev_c (ea_cons ev_c ea_nil)))) (Nat.le_of_ble_eq_true rfl) H2 (Ex.refl _) _ fun p H3 hp e3 h3 => q' _ H3 e3 ⟨z, .ref p, by rw [ev], ⟨p, rfl, sq_of h3⟩⟩)
      fun vs H1 e1 ⟨z, c, ev, hc⟩ Q' q' E' => ⟨z, c, _, ev, hc, by decide, by decide, fun p ds H2 e2 hp hl hd => q' _ H2 e2 ?_⟩) fun hd H1 e1 ⟨n0, n1, n2, n3, hhd, l0, l1, l2, l3⟩ => ?_
    · obtain ⟨hl4, hb⟩ := hd
      match ds, hl4 with
      | [a0, a1, a2, a3], _ =>
        have b0 := hb 0 a0 3 rfl rfl
        have b1 := hb 1 a1 4 rfl rfl
        have b2 := hb 2 a2 5 rfl rfl
        have b3 := hb 3 a3 2000 rfl rfl
        refine ⟨a0.toNat, a1.toNat, a2.toNat, a3.toNat, ⟨p, rfl, sq_of ?_⟩, by omega, by omega, by omega, by omega⟩
        rw [hl, show ((a0.toNat : Nat) : Int) = a0 by omega, show ((a1.toNat : Nat) : Int) = a1 by omega, show ((a2.toNat : Nat) : Int) = a2 by omega, show ((a3.toNat : Nat) : Int) = a3 by omega]
        rfl
    have hE : ∀ {σ : L2.St} {H2 : Hp} {k : Nat} {z : Int}, Ex H1 H2 → σ[1]? = some (some hd) → ([.int (n0 : Int), .int (n1 : Int), .int (n2 : Int), .int (n3 : Int)] : List V)[k]? = some (.int z) → Ev (tOp (rIxL K) (tVar 1) (tC (.int (k : Int)))) σ H2 (.int z) := fun e h1 hk => ev_ixL (ev_var h1) (IsL.m _ _ _ e hhd) ev_c hk
    -- the rows
    refine q_asgP (P := fun v H2 => ∃ (l : Addr) (rs : List Addr) (M : IM), v = .ref l ∧ RowsAt H1 H2 l rs M ∧ Shp (1 + n0) (1 + n1) M ∧ (∀ i j, (ent M i j).natAbs ≤ 2) ∧ (n2 < 2 → Net (1 + n0) (1 + n1) M)) (ep_call (PA := fun vs H2 => vs = [a, hd] ∧ Ex H1 H2) (EvA.toP (ea_cons (ev_var rfl) (ea_cons (ev_var rfl) ea_nil)) fun H2 e2 => ⟨rfl, e2⟩) fun vs H2 e2 ⟨ev, e12⟩ Q' q' E' => ⟨a, hd, xs, n0, n1, n2, n3, ev, IsL.m _ _ _ (e1.trans e12) ha, IsL.m _ _ _ e12 hhd, l0, l1, l2, fun l rs M H3 e3 hR hS hB hN => q' _ H3 e3 ⟨l, rs, M, rfl, hR.back e12, hS, hB, hN⟩⟩) fun v H2 e2 ⟨l, rs, M, ev, hR, hS, hB, hN⟩ => ?_
    subst ev
    generalize hh : 1 + n0 = h at *
    generalize hw : 1 + n1 = wd at *
    have h0 : 0 < h := by omega
    have h3 : h ≤ 3 := by omega
    have w0 : 0 < wd := by omega
    have w4 : wd ≤ 4 := by omega
    have lM : M.length = h := hS.1
    have neM : M ≠ [] := fun z => by rw [z] at lM; simp at lM; omega
    -- the matrix
    refine q_asgP (ep_mat (Ev.toP (ev_var rfl) fun H3 e3 => (hR.ex e3).ll) hS.wid neM (by omega) (by omega)) fun m H3 e3 hm => ?_
    -- due
    have fB := LF.bad h wd M hS h0 h3 w0 w4
    generalize hdue : lawBad h wd M = due at *
    refine q_asgP (P := FV2 K due) (ep_call (PA := fun vs H4 => vs = [.ref l] ∧ Ex H3 H4) (EvA.toP (ea_cons (ev_var rfl) ea_nil) fun H4 e4 => ⟨rfl, e4⟩) fun vs H4 e4 ⟨ev, e34⟩ Q' q' E' => ⟨.ref l, h, wd, M, ev, (hR.ex (e3.trans e34)).ll, hS, h0, h3, w0, w4, hB, fun v H5 e5 hv => q' v H5 e5 (by rw [hdue] at hv; exact hv)⟩) fun dv H4 e4 hdv => ?_
    have R4 := (hR.ex e3).ex e4
    have m4 := IsMat.m _ _ _ e4 hm
    have hE4 : Ex H1 H4 := (e2.trans e3).trans e4
    -- bad_square twice
    have cmpT : ∀ {σ : L2.St} {H5 : Hp}, Ex H4 H5 → σ[3]? = some (some m) → σ[4]? = some (some dv) → EvT (tTest (tOp (rNeD K) (tCall (spBad K CM) [] E0 (tCons (tVar 3) tNil)) (tVar 4))) σ H5 false := fun {σ H5} e5 h3' h4' => et_test fun H6 e6 Q' q' => by
      refine ep_call (P := FV2 K due) (PA := fun vs H7 => vs = [m] ∧ Ex H6 H7) (EvA.toP (ea_cons (ev_var h3') ea_nil) fun H7 e7 => ⟨rfl, e7⟩) (fun vs H7 e7 ⟨ev, e67⟩ Q2 q2 E2 => ⟨m, h, wd, M, ev, IsMat.m _ _ _ ((e5.trans e6).trans e67) m4, hS, h0, h3, w4, hB, fun v H8 e8 hv => q2 v H8 e8 (by rw [fB] at hv; exact hv)⟩) H6 (Ex.refl _) _ fun v H7 e7 hv => ?_
      refine (ev_var (v := dv) h4') H7 (Ex.refl _) _ fun H8 e8 => ⟨dF due, dF due, dF_dp (FV2.m _ _ _ e8 hv), dF_dp (FV2.m _ _ _ (((e5.trans e6).trans e7).trans e8) hdv), dF_sh due, dF_sh due, ?_⟩
      rw [dF_eq]
      exact q' H8 (e7.trans e8)
    refine q_when (b := false) (et_or (a := false) (b := false) (cmpT (Ex.refl _) rfl rfl) fun _ => cmpT (Ex.refl _) rfl rfl) (fun hb => by cases hb) (fun _ H5 e5 => ?_)
    -- a network has none
    refine q_when (b := false) ?_ (fun hb => by cases hb) (fun _ H6 e6 => ?_)
    · by_cases hn : n2 < 2
      · have hdn : due = none := by rw [← hdue]; exact LF.net h wd M hS h0 h3 w0 w4 (hN hn)
        rw [hdn] at hdv
        refine et_is (et_and (a := true) (b := false) (et_is (et_test (ev_op (hE (k := 2) (hE4.trans e5) rfl rfl) ev_c rv_I0)) (decide_eq_true (by omega))) fun _ => et_test (ev_is (ev_op (ev_var rfl) ev_c (fun H1 _ _ q => ⟨rfl, q H1 (Ex.refl H1)⟩)) (by rw [show dv = .non from hdv]; rfl))) rfl
      · exact et_is (et_and (a := false) (b := false) (et_is (et_test (ev_op (hE (k := 2) (hE4.trans e5) rfl rfl) ev_c rv_I0)) (decide_eq_false (by omega))) fun z => by cases z) rfl
    have e46 := e5.trans e6
    have lE : ∀ {σ : L2.St} {H7 : Hp}, Ex H4 H7 → σ[2]? = some (some (.ref l)) → Ev (tCB (rLenOf K) (tCons (tVar 2) tNil)) σ H7 (.int (h : Int)) := fun e h2 => ev_is (ev_lenRows (R4.ex e) (ev_var h2)) (by rw [lM])
    -- nothing changes
    refine q_whenJ (fun σ' H' => ∃ y5 y6, σ' = [some a, some hd, some (.ref l), some m, some dv, y5, y6, none, none, none, none, none, none, none, none, none] ∧ Ex H4 H') (b := due.isNone) (et_is (et_test (ev_op (ev_var rfl) ev_c rv_isN)) ?_) (fun hb H7 e7 go => ?_) (fun hb H7 e7 => ⟨_, _, rfl, e46.trans e7⟩) ?_
    · cases due with
      | none => rw [show dv = .non from hdv]; rfl
      | some rc =>
        obtain ⟨R, Cs⟩ := rc
        obtain ⟨t, _, _, rfl, _⟩ := hdv
        rfl
    · have hdn : due = none := Option.isNone_iff_eq_none.mp hb
      obtain ⟨ch1, ch2⟩ := LF.chg h wd M hS h0 h3 w0 w4 hB (by rw [hdue]; exact hdn)
      have e47 := e46.trans e7
      -- units
      refine q_asgR (cc := HO.lst) (M := (List.range h).map fun i => (List.range h).map fun j => if i = j then (1 : Int) else 0) (EvR.cast (er_lcR1 (fun _ => true) (fun i => (List.range h).map fun j => if i = j then (1 : Int) else 0) (ea_cons (lE e47 rfl) ea_nil) (by omega) (fun x => rfl) (fun i H8 e8 hi => et_yes) (fun i H8 e8 hi _ => EvL.n (EvL.cast (el_lcR1 (fun _ => true) (fun j => .int (if i = j then (1 : Int) else 0)) (ea_cons (lE (e47.trans e8) rfl) ea_nil) (by omega) (fun x => rfl) (fun j H9 e9 hj => et_yes) (fun j H9 e9 hj _ => ev_cb (vs := [.bl (decide (V.int (i : Int) = V.int (j : Int)))]) (ea_cons (ev_op (ev_var rfl) (ev_var rfl) (rv_eq rfl)) ea_nil) fun H10 e10 Q' q' => .inr ⟨_, rfl, ?_⟩)) ?_))) ?_) fun ul urs H8 e8 hU => ?_
      · have e1 : (if decide (V.int (i : Int) = V.int (j : Int)) = true then (1 : Int) else 0) = if i = j then 1 else 0 := by
          by_cases z : i = j
          · rw [z, decide_eq_true rfl, if_pos rfl, if_pos rfl]
          · rw [if_neg z, decide_eq_false (fun k => z (by injection k with k; omega))]
            rfl
        rw [e1]
        exact q' H10 (Ex.refl _)
      · rw [show ((h : Nat) : Int).toNat = h by omega]
        unfold given
        rw [List.filter_eq_self.mpr (fun _ _ => rfl)]
        exact ints_map _ _
      · rw [show ((h : Nat) : Int).toNat = h by omega, givenR_true]
      have e48 := e47.trans e8
      have lU : ((List.range h).map fun i => (List.range h).map fun j => if i = j then (1 : Int) else 0).length = h := by rw [List.length_map, List.length_range]
      -- wide
      have wideL : (wideM h M).length = h := by unfold wideM; rw [List.length_map, List.length_range]
      have wideW : Wid (wd + h) (wideM h M) := fun r hr => by
        unfold wideM at hr
        obtain ⟨i, hi, rfl⟩ := List.mem_map.mp hr
        rw [List.length_append, hS.2 _ (List.mem_range.mp hi), List.length_map, List.length_range]
      refine q_asgP (P := IsMat K CM (wd + h) (wideM h M)) (ep_mat (M := wideM h M) (EvR.toP (EvR.cast (er_lcR1 (fun _ => true) (fun i => M.getD i [] ++ (List.range h).map fun j => if i = j then (1 : Int) else 0) (ea_cons (lE e48 rfl) ea_nil) (by omega) (fun x => rfl) (fun i H9 e9 hi => et_yes) (fun i H9 e9 hi _ => ?_)) ?_)) wideW (fun z => by rw [z] at wideL; simp at wideL; omega) (by omega) (by omega)) fun wv H9 e9 hwv => ?_
      · have hi : i < h := by omega
        obtain ⟨r1, z1, y1, x1, f1⟩ := (R4.ex (e48.trans e9)).refs (getD_get (d := []) (by omega : i < M.length))
        obtain ⟨r2, z2, y2, x2, f2⟩ := (hU.ex e9).refs (getD_get (d := []) (by rw [lU]; exact hi))
        have g2 : ((List.range h).map fun i => (List.range h).map fun j => if i = j then (1 : Int) else 0).getD i [] = (List.range h).map fun j => if i = j then (1 : Int) else 0 := by
          rw [List.getD_eq_getElem?_getD, List.getElem?_map, List.getElem?_range hi]
          rfl
        rw [g2] at f2
        refine EvL.n (EvL.cast (el_catR (el_listS (ev_op (ev_var rfl) (ev_var rfl) (rv_ixL (sq_of (R4.ex (e48.trans e9)).at_) (atI_nat x1))) ⟨r1, rfl, .inl (sq_of f1)⟩) (fun H10 e10 => ev_op (ev_var rfl) (ev_var rfl) (rv_ixL (sq_of (e10 _ _ (hU.ex e9).at_)) (atI_nat x2))) f2 (by rw [List.length_map, List.length_map, hS.2 _ hi, List.length_map, List.length_range]; omega)) ?_)
        show _ = List.map _ _
        rw [List.map_append]
      · rw [show ((h : Nat) : Int).toNat = h by omega, givenR_true]
        rfl
      have e49 := e48.trans e9
      have chgT : ∀ {σ : L2.St} {H10 : Hp} {k : Nat} {v : V} {w' : Nat} {N : IM}, Ex H9 H10 → σ[k]? = some (some v) → IsMat K CM w' N v H9 → Wid w' N → N.length = h → w' ≤ 7 → (∀ Cs ∈ allCh w' (w' + 1), Cs ≠ [] → IndOk N Cs) → EvT (tTest (tOp (rNeD K) (tCall (spChanges K CM) [] E0 (tCons (tVar k) tNil)) (tLst tNil))) σ H10 false := fun {σ H10 k v w' N} e10 hk hv hN1 hN2 h7 hc => et_test fun H11 e11 Q' q' => by
        obtain ⟨k1, k2⟩ := allCh_ok w' h7
        refine ep_call (P := IsL K []) (PA := fun vs H12 => vs = [v] ∧ Ex H11 H12) (EvA.toP (ea_cons (ev_var hk) ea_nil) fun H12 e12 => ⟨rfl, e12⟩) (fun vs H12 e12 ⟨ev, e112⟩ Q2 q2 E2 => ⟨v, w', N, ev, IsMat.m _ _ _ ((e10.trans e11).trans e112) hv, hN1, by omega, by omega, h7, fun Cs hC => ⟨(k1 Cs hC).1, (k1 Cs hC).2, hc Cs hC⟩, k2, fun v H13 e13 hv => q2 v H13 e13 hv⟩) H11 (Ex.refl _) _ fun u H12 e12 hu => ?_
        refine el_lst ea_nil (Nat.zero_le _) H12 (Ex.refl _) _ fun p H13 hp e13 h13 => ⟨dI [], dI [], dp_ints (IsL.m _ _ _ e13 hu), dp_ints ⟨p, rfl, sq_of h13⟩, sh_ints _, sh_ints _, ?_⟩
        rw [eqv_ints, decide_eq_true rfl]
        exact q' H13 (e12.trans e13)
      refine s_when (b := false) (et_or (a := false) (b := false) (chgT (k := 3) (Ex.refl _) rfl (IsMat.m _ _ _ e49 m4) hS.wid lM (by omega) ch1) fun _ => chgT (k := 6) (Ex.refl _) rfl hwv wideW wideL (by omega) ch2) (fun hb => by cases hb) (fun _ H10 e10 => go _ _ ⟨_, _, rfl, e49.trans e10⟩)
    rintro σ' H7 ⟨y5, y6, rfl, e47⟩
    -- many
    refine q_asg (v := .int (wd : Int)) (ev_is (ev_lenRow (i := 0) (R4.ex e47) (ev_var rfl) ev_c (by omega)) (by rw [hS.2 _ h0])) fun H8 e8 => ?_
    have e48 := e47.trans e8
    -- the characteristics
    have m8 := IsMat.m _ _ _ e48 m4
    have R8 := R4.ex e48
    refine s_forP (P := fun v H9 => ∃ (r : Int) (p : Addr), v = .ref p ∧ PrimeTD r ∧ r ≤ 2003 ∧ H9 p = some (.lst (Ints [0, 2, 3, r, 2]))) ?_ fun v H9 e9 ⟨r, cp, ev, pr1, pr2, hcp⟩ => ?_
    · exact ep_lstP (σ := [some a, some hd, some (.ref l), some m, some dv, y5, y6, some (.int (wd : Int)), none, none, none, none, none, none, none, none]) (PA := fun vs _ => ∃ r : Int, PrimeTD r ∧ r ≤ 2003 ∧ vs = Ints [0, 2, 3, r, 2]) (eap_c fun H9 e9 => eap_c fun H10 e10 => eap_c fun H11 e11 => eap_cons (P1 := fun v _ => ∃ r : Int, v = .int r ∧ PrimeTD r ∧ r ≤ 2003) (fun _ _ _ _ z => z) (ep_call (PA := fun vs _ => vs = [.int (n3 : Int)]) (EvA.toP (ea_cons (hE (σ := [some a, some hd, some (.ref l), some m, some dv, y5, y6, some (.int (wd : Int)), none, none, none, none, none, none, none, none]) (k := 3) ((((hE4.trans e48).trans e9).trans e10).trans e11) rfl rfl) ea_nil) fun _ _ => rfl) fun vs H12 e12 ev Q' q' E' => ⟨(n3 : Int), ev, by omega, by omega, fun r H13 e13 h1 h2 h3 => q' _ H13 e13 ⟨r, rfl, h1, h3⟩⟩) fun v H12 e12 ⟨r, ev, p1, p2⟩ => eap_c fun H13 e13 => eap_nil fun H14 e14 => ⟨r, p1, p2, by rw [ev]; rfl⟩) (fun vs H9 ⟨r, _, _, ev⟩ => by rw [ev]; exact Nat.le_of_ble_eq_true rfl) fun p vs H8 H9 ⟨r, p1, p2, ev⟩ h9 => ⟨r, p, rfl, p1, p2, by rw [h9, ev]⟩
    subst ev
    refine ⟨cp, rfl, ⟨_, sq_of hcp⟩, for_list (D := _) (xs := Ints [0, 2, 3, r, 2]) (fun i σ' H' => ∃ y8 y9 y10 y11, σ' = [some a, some hd, some (.ref l), some m, some dv, y5, y6, some (.int (wd : Int)), y8, y9, y10, y11, none, none, none, none] ∧ Ex H9 H') ⟨_, _, _, _, rfl, Ex.refl _⟩ (fun i σ' H' _ ⟨_, _, _, _, _, e⟩ => sq_of (e _ _ hcp)) ?_ ?_⟩
    · rintro i x σ' H10 hx ⟨y8, y9, y10, y11, rfl, e10⟩
      obtain ⟨c, rfl, hcP, hc0, hc1⟩ : ∃ c : Int, x = .int c ∧ IsP c ∧ 0 ≤ c ∧ c < 1000000 := by
        have hm := List.mem_of_getElem? hx
        obtain ⟨c, hc, rfl⟩ := List.mem_map.mp hm
        refine ⟨c, rfl, ?_⟩
        simp only [List.mem_cons, List.not_mem_nil, or_false] at hc
        have h2 := pr1.1
        rcases hc with rfl | rfl | rfl | rfl | rfl
        · exact ⟨.inl rfl, by decide, by decide⟩
        · exact ⟨.inr prime_2, by decide, by decide⟩
        · exact ⟨.inr prime_3, by decide, by decide⟩
        · exact ⟨.inr pr1, by omega, by omega⟩
        · exact ⟨.inr prime_2, by decide, by decide⟩
      have e810 := e9.trans e10
      have m10 := IsMat.m _ _ _ e810 m8
      have R10 := R8.ex e810
      show tSeq _ _ _ [some a, some hd, some (.ref l), some m, some dv, y5, y6, some (.int (wd : Int)), some (.int c), y9, y10, y11, none, none, none, none] H10
      obtain ⟨Jv, Iv, DI, J0, dres⟩ := LF.dual M.length wd M c (by rw [lM]; exact hS) (by omega) (by omega) w0 w4 hB hcP hc0 hc1
      -- the dual
      refine q_asgP (P := fun v H => ∃ R : IM, IsMat K CM wd R v H ∧ Wid wd R ∧ 0 < R.length ∧ R.length ≤ 100 ∧ RankOk c R ∧ (basesF c R wd).map natsI = sortL ((basesF c M wd).map fun Cs => natsI (compl wd Cs))) (ep_callN (vs := [m]) (zs := [.int c]) (ea_cons (ev_var rfl) ea_nil) (fun H11 e11 => ea_cons (ev_var rfl) ea_nil) rfl rfl fun H11 e11 Q' q' E' => ⟨m, wd, M, c, rfl, IsMat.m _ _ _ e11 m10, hS.wid, by omega, by omega, w0, by omega, hc1, fun z => absurd hcP z, fun _ => ⟨Jv, Iv, DI, J0, fun v H12 N L e12 hJ sL hv => q' v H12 e12 ?_⟩⟩) fun ov H11 e11 ⟨R, hov, wR, R0, R100, okR, eqR⟩ => ?_
      · obtain ⟨d1, d2⟩ := dres N L hJ sL
        have wk := kerRows_wid c M.length wd N L sL.1
        have lk : (kerRows c M.length wd N L).length ≤ wd := by
          unfold kerRows
          rw [List.length_map]
          exact Nat.le_trans (List.length_filter_le ..) (by rw [List.length_range]; exact Nat.le_refl _)
        refine ⟨_, hv, ?_, ?_, ?_, d1, d2⟩
        · unfold dualM
          split
          · intro r hr
            rw [List.mem_singleton.mp hr, List.length_replicate]
          · exact wk
        · unfold dualM
          split
          · exact Nat.zero_lt_one
          · rename_i hne
            exact List.length_pos_iff.mpr hne
        · unfold dualM
          split
          · exact (by decide : 1 ≤ 100)
          · omega
      -- its form
      obtain ⟨oa, od, op, rfl, hoa, hoT⟩ := id hov
      refine q_when (b := false) (et_or (a := false) (b := false) (et_not (a := true) (et_test (ev_cb (vs := [.ref oa, .ref CM]) (ea_cons (ev_var rfl) (ea_cons ev_c ea_nil)) fun H12 e12 Q' q' => ⟨oa, od, _, rfl, e12 _ _ hoa, q' H12 (Ex.refl _)⟩))) fun _ => et_is (et_test (ev_op (ev_matW MC hov (ev_var rfl)) (ev_var rfl) (rv_ne rfl))) (by rw [decide_eq_true rfl]; rfl)) (fun hb => by cases hb) (fun _ H12 e12 => ?_)
      -- the complements
      refine q_asgL (el_lst ea_nil (Nat.zero_le _)) fun lf H13 hlf e13 h13 => ?_
      have e1113 := e12.trans e13
      have R13 := (R10.ex e11).ex e1113
      have okM : RankOk c M := .inr (.inr fun i j => Nat.lt_of_le_of_lt (hB i j) (Nat.lt_of_lt_of_le (by decide : 2 < 2 ^ 2) (Nat.pow_le_pow_right (by decide) (by decide))))
      refine s_forP (P := LL K ((basesF c M wd).map natsI)) (ep_call (PA := fun vs H => vs = [.ref l, .int c] ∧ LL K M (.ref l) H) (EvA.toP (ea_cons (ev_var rfl) (ea_cons (ev_var rfl) ea_nil)) fun H14 e14 => ⟨rfl, (R13.ex e14).ll⟩) fun vs H14 e14 ⟨ev, hv⟩ Q' q' E' => ⟨.ref l, M, wd, c, ev, hv, hS.wid, by omega, by omega, w4, hc0, hc1, okM, fun v H15 e15 hv => q' v H15 e15 hv⟩) fun bv H14 e14 ⟨la, us, ebv, hus, hpu⟩ => ?_
      have hl14 : H14 lf = some (.lst []) := e14 _ _ h13
      have lus : us.length = (basesF c M wd).length := by rw [Paired.len hpu, List.length_map]
      have l16 : (basesF c M wd).length ≤ 16 := Nat.le_trans (List.length_filter_le ..) (Nat.le_trans (List.length_filter_le ..) (lawLists_len wd))
      refine ⟨la, ebv, ⟨us, hus⟩, for_list (D := _) (xs := us) (fun i σ' H' => ∃ (y11 : Option V) (vs' : List V), σ' = [some a, some hd, some (.ref l), some m, some dv, y5, y6, some (.int (wd : Int)), some (.int c), some (.ref oa), some (.ref lf), y11, none, none, none, none] ∧ ExBut lf H14 H' ∧ H' lf = some (.lst vs') ∧ Paired (fun u x => ∃ r, u = V.ref r ∧ r ≠ lf ∧ H' r = some (.lst (Ints x))) vs' (((basesF c M wd).take i).map fun Cs => natsI (compl wd Cs))) ⟨_, [], rfl, (fun _ _ _ h => h), hl14, .nil⟩ ?_ ?_ ?_⟩
      · rintro i σ' H' hi ⟨y11, vs', rfl, eB, hvl, hp'⟩
        rcases hus with (z | ⟨o, z⟩) | z
        · by_cases e : la = lf
          · subst e
            rw [hl14] at z
            cases z
            have : vs' = [] := by
              have := Paired.len hp'
              rw [List.length_map, List.length_take] at this
              exact List.length_eq_zero_iff.mp (by simp at hi; omega)
            rw [this] at hvl
            exact sq_of hvl
          · exact sq_of (eB _ _ e z)
        · exact .inl (.inr ⟨o, eB _ _ (ne_of z hl14 (by intro k; cases k)) z⟩)
        · exact .inr z
      · rintro i x σ' H15 hx ⟨y11, vs', rfl, eB, hvl, hp'⟩
        have hi : i < (basesF c M wd).length := by rw [← lus]; exact (List.getElem?_eq_some_iff.mp hx).1
        have gB : (basesF c M wd)[i]? = some (basesF c M wd)[i] := List.getElem?_eq_getElem hi
        obtain ⟨row, hrw, hB2⟩ := pr_getL hpu hx
        rw [List.getElem?_map, gB] at hrw
        cases hrw
        have lv' : vs'.length = i := by rw [Paired.len hp', List.length_map, List.length_take]; omega
        have first : natsI (basesF c M wd)[i] = [] → i = 0 := fun z => bases_first w4 (by rw [gB, List.map_eq_nil_iff.mp z])
        generalize (basesF c M wd)[i] = Cs at *
        have hB15 : IsL K (Ints (natsI Cs)) x H15 := by
          obtain ⟨rb, rfl, hs⟩ := hB2
          refine ⟨rb, rfl, ?_⟩
          rcases hs with (z | ⟨o, z⟩) | z
          · by_cases e : rb = lf
            · subst e
              rw [hl14] at z
              have z' : Ints (natsI Cs) = [] := by cases z' : Ints (natsI Cs) with
                | nil => rfl
                | cons a b => rw [z'] at z; cases z
              have i0 := first (List.map_eq_nil_iff.mp z')
              rw [z']
              have : vs' = [] := List.length_eq_zero_iff.mp (by omega)
              rw [this] at hvl
              exact sq_of hvl
            · exact sq_of (eB _ _ e z)
          · exact .inl (.inr ⟨o, eB _ _ (ne_of z hl14 (by intro k; cases k)) z⟩)
          · exact .inr z
        refine s_appL (l := lf) (xs := vs') (ys := Ints (natsI (compl wd Cs))) hvl (ev_var rfl) (EvL.cast (el_lcR1 (fun j => !decide (j ∈ Cs)) (fun j => .int (j : Int)) (ea_cons (ev_var rfl) ea_nil) (by omega) (fun x => rfl) (fun j H16 e16 hj => ?_) (fun j H16 e16 hj _ => ev_var rfl)) ?_) (by omega) fun p H16 hp16 e16 h16 => ?_
        · refine et_is (et_test ?_) (show (!inV (.int (j : Int)) (Ints (natsI Cs))) = (!decide (j ∈ Cs)) by rw [inV_nats])
          obtain ⟨rb, rfl, hs⟩ := IsL.m _ _ _ e16 hB15
          rcases hs with hs | hs
          · exact ev_op (ev_var rfl) (ev_var rfl) (rv_niL (.inl hs) rfl (flat_nats Cs))
          · exact ev_op (ev_var rfl) (ev_var rfl) (rv_niL (.inr hs) rfl (flat_nats Cs))
        · rw [show ((wd : Nat) : Int).toNat = wd by omega]
          unfold given compl natsI
          show _ = List.map _ (List.map _ _)
          rw [List.map_map]
          rfl
        · have np : p ≠ lf := fun z => by rw [z, hvl] at hp16; cases hp16
          refine ⟨_, vs' ++ [.ref p], rfl, eB.trans ((Ex.but lf e16).trans ExBut.upd), upd_same, ?_⟩
          rw [List.take_add_one, gB]
          show Paired _ _ (List.map _ (_ ++ [Cs]))
          rw [List.map_append]
          exact pr_app (pr_imp (fun u x ⟨r, h1, h2, h3⟩ => ⟨r, h1, h2, by rw [upd_ne h2]; exact e16 _ _ h3⟩) hp') (.cons ⟨p, rfl, np, by rw [upd_ne np]; exact h16⟩ .nil)
      · rintro σ' H15 ⟨y11, vs', rfl, eB, hvl, hp'⟩
        rw [lus, List.take_length] at hp'
        have e1115 : Ex H12 H15 := ExBut.ex (((Ex.but lf e13).trans (Ex.but lf e14)).trans eB) hlf
        have lfLL : LL K ((basesF c M wd).map fun Cs => natsI (compl wd Cs)) (.ref lf) H15 := ⟨lf, vs', rfl, sq_of hvl, pr_imp (fun u x ⟨r, h1, h2, h3⟩ => ⟨r, h1, sq_of h3⟩) hp'⟩
        have hov15 := IsMat.m _ _ _ (e12.trans e1115) hov
        dsimp only
        refine s_when (b := false) (et_test fun H16 e16 Q' q' => ?_) (fun hb => by cases hb) (fun _ H16 e16 => ?_)
        · refine ep_call (P := LL K ((basesF c R wd).map natsI)) (PA := fun vs H => ∃ b, vs = [b, .int c] ∧ LL K R b H) (eap_cons (P1 := LL K R) LL.m (EvR.toP (er_copy MC (Ev.toP (ev_var rfl) fun H17 e17 => IsMat.m _ _ _ (e16.trans e17) hov15) (by omega) (fun x => rfl) (fun x => rfl))) fun b H17 e17 hb => eap_one (Ev.toP (ev_var rfl) fun H18 e18 => ⟨b, rfl, LL.m _ _ _ e18 hb⟩)) (fun vs H17 e17 ⟨b, ev, hb⟩ Q2 q2 E2 => ⟨b, R, wd, c, ev, hb, wR, R0, R100, w4, hc0, hc1, okR, fun v H18 e18 hv => q2 v H18 e18 hv⟩) H16 (Ex.refl _) _ fun u H17 e17 hu => ?_
          refine (ea_cons (ev_var rfl) ea_nil : EvA _ [some a, some hd, some (.ref l), some m, some dv, y5, y6, some (.int (wd : Int)), some (.int c), some (.ref oa), some (.ref lf), y11, none, none, none, none] H17 [.ref lf]) H17 (Ex.refl _) _ fun H18 e18 => ⟨.ref lf, _, rfl, LL.m _ _ _ ((e16.trans e17).trans e18) lfLL, by rw [List.length_map]; omega, fun p ys hp hy => ?_⟩
          have e19 := Ex.new (o := .lst ys) hp
          refine ⟨dL _, dL _, dp_ll (LL.m _ _ _ (e18.trans e19) hu), dp_ll ⟨p, ys, rfl, sq_of upd_same, pr_imp (fun u x z => IsL.m _ _ _ e19 z) hy⟩, sh_ll _, sh_ll _, ?_⟩
          rw [eqv_ll, decide_eq_true eqR]
          exact q' _ ((e17.trans e18).trans e19)
        · exact ⟨_, _, _, _, rfl, (((e10.trans e11).trans e12).trans e1115).trans e16⟩
    · rintro σ' H10 ⟨y8, y9, y10, y11, rfl, e10⟩
      have m10 := IsMat.m _ _ _ (e9.trans e10) m8
      have rf : ∀ {σ : L2.St} {H11 : Hp} (c : Int), Ex H10 H11 → σ[3]? = some (some m) → c < 1000000 → ¬ IsP c → ShortI c → Ev (tCall (spRefused K CM) [] E0 (tCons (tVar 3) (tCons (tC (.int c)) tNil))) σ H11 (.bl true) := fun c e11 h3' hc hn hs => EvP.toEv (ep_call (PA := fun vs H => vs = [m, .int c] ∧ IsMat K CM wd M m H) (EvA.toP (ea_cons (ev_var h3') (ea_cons ev_c ea_nil)) fun H12 e12 => ⟨rfl, IsMat.m _ _ _ (e11.trans e12) m10⟩) fun vs H12 e12 ⟨ev, hm12⟩ Q' q' E' => ⟨m, wd, M, c, ev, hm12, hS.wid, by omega, by omega, w0, by omega, hc, hn, hs, fun H13 e13 => q' _ H13 e13 rfl⟩)
      exact s_ret (v := .bl true) (ev_andV (a := true) (b := true) (rf 4 (Ex.refl _) rfl (by decide) not_p4 short4) fun _ => rf 1 (Ex.refl _) rfl (by decide) not_p1 short1) fun H11 e11 => q H11
end
end Ef
end
section
/-! M1: mathematics: the two lists of bad squares are the same -/
namespace Ef
open PySem PySem.Spec PyProof.Rows L2 Evl
theorem chs_filter (h s : Nat) (hh : h ≤ 4) (hs : s ≤ 3) : chs h s = (lawLists h).filter fun r => decide (r.length = s) := by
  have key : ∀ h : Nat, h < 5 → ∀ s : Nat, s < 4 → chs h s = (lawLists h).filter fun r => decide (r.length = s) := by decide +kernel
  exact key h (by omega) s (by omega)
theorem findSome_filter {α β : Type} {p : α → Bool} {f : α → Option β} : ∀ {l : List α}, (∀ x ∈ l, p x = false → f x = none) → (l.filter p).findSome? f = l.findSome? f
  | [], _ => rfl
  | a :: l, h => by
    have ih := findSome_filter (f := f) (p := p) (l := l) fun x hx => h x (List.mem_cons_of_mem _ hx)
    rw [List.filter_cons]
    cases e : p a with
    | true =>
      rw [if_pos rfl, List.findSome?_cons, List.findSome?_cons, ih]
    | false =>
      rw [if_neg (by decide), List.findSome?_cons, h a List.mem_cons_self e, ih]
theorem findSome_congr {α β : Type} {f g : α → Option β} : ∀ {l : List α}, (∀ x ∈ l, f x = g x) → l.findSome? f = l.findSome? g
  | [], _ => rfl
  | a :: l, h => by
    rw [List.findSome?_cons, List.findSome?_cons, h a List.mem_cons_self, findSome_congr fun x hx => h x (List.mem_cons_of_mem _ hx)]
theorem lap_1 {n : Nat} {M : IM} (l : M.length = 1) : lapF (n + 1) M = ent M 0 0 := by
  show (if M.length = 1 then _ else _) = _
  rw [if_pos l]
theorem lap_2 {n : Nat} {M : IM} (S : Sq M.length M) (l : M.length = 2) : lapF (n + 2) M = Dn 2 M := by
  show (if M.length = 1 then _ else lapS (lapF (n + 1)) M M.length) = _
  rw [if_neg (by omega), l]
  show (0 + (1 - 2 * (((0 : Nat) : Int) % 2)) * ent M 0 0 * lapF (n + 1) (minorM M 0)) + (1 - 2 * (((1 : Nat) : Int) % 2)) * ent M 0 1 * lapF (n + 1) (minorM M 1) = _
  rw [lap_1 (by rw [minor_len]; omega), lap_1 (by rw [minor_len]; omega), ent_minor S (by omega) (by omega), ent_minor S (by omega) (by omega)]
  show _ = ent M 0 0 * ent M 1 1 - ent M 0 1 * ent M 1 0
  simp
  grind
theorem lap_3 {n : Nat} {M : IM} (S : Sq M.length M) (l : M.length = 3) : lapF (n + 3) M = Dn 3 M := by
  show (if M.length = 1 then _ else lapS (lapF (n + 2)) M M.length) = _
  rw [if_neg (by omega), l]
  show ((0 + (1 - 2 * (((0 : Nat) : Int) % 2)) * ent M 0 0 * lapF (n + 2) (minorM M 0)) + (1 - 2 * (((1 : Nat) : Int) % 2)) * ent M 0 1 * lapF (n + 2) (minorM M 1)) + (1 - 2 * (((2 : Nat) : Int) % 2)) * ent M 0 2 * lapF (n + 2) (minorM M 2) = _
  have Sm : ∀ k, k < 3 → Sq (minorM M k).length (minorM M k) := fun k hk => minor_sq S (by omega)
  rw [lap_2 (Sm 0 (by omega)) (by rw [minor_len]; omega), lap_2 (Sm 1 (by omega)) (by rw [minor_len]; omega), lap_2 (Sm 2 (by omega)) (by rw [minor_len]; omega)]
  have e : ∀ k, k < 3 → Dn 2 (minorM M k) = ent M 1 (if 0 < k then 0 else 1) * ent M 2 (if 1 < k then 1 else 2) - ent M 1 (if 1 < k then 1 else 2) * ent M 2 (if 0 < k then 0 else 1) := fun k hk => by
    show ent _ 0 0 * ent _ 1 1 - ent _ 0 1 * ent _ 1 0 = _
    rw [ent_minor S (by omega) (by omega), ent_minor S (by omega) (by omega), ent_minor S (by omega) (by omega), ent_minor S (by omega) (by omega)]
  rw [e 0 (by omega), e 1 (by omega), e 2 (by omega)]
  show _ = ent M 0 0 * (ent M 1 1 * ent M 2 2 - ent M 1 2 * ent M 2 1) - ent M 0 1 * (ent M 1 0 * ent M 2 2 - ent M 1 2 * ent M 2 0) + ent M 0 2 * (ent M 1 0 * ent M 2 1 - ent M 1 1 * ent M 2 0)
  simp
  grind
theorem part_sq {M : IM} {R Cs : List Nat} {n : Nat} (hR : R.length = n) (hC : Cs.length = n) : Sq (partM M R Cs).length (partM M R Cs) := by
  have l : (partM M R Cs).length = n := by unfold partM; rw [List.length_map, hR]
  refine ⟨rfl, fun k hk => ?_⟩
  rw [l] at hk ⊢
  unfold partM
  rw [List.getD_eq_getElem?_getD, List.getElem?_map, List.getElem?_eq_getElem (by omega)]
  show (Cs.map _).length = n
  rw [List.length_map, hC]
theorem lap_Dn {M : IM} {R Cs : List Nat} {n : Nat} (h1 : 1 ≤ n) (h3 : n ≤ 3) (hR : R.length = n) (hC : Cs.length = n) : lapF 3 (partM M R Cs) = Dn n (partM M R Cs) := by
  have S := part_sq (M := M) hR hC
  have l : (partM M R Cs).length = n := by unfold partM; rw [List.length_map, hR]
  have c : n = 1 ∨ n = 2 ∨ n = 3 := by omega
  rcases c with rfl | rfl | rfl
  · exact lap_1 l
  · exact lap_2 S l
  · exact lap_3 S l
theorem fact_bad (h w : Nat) (M : IM) (h3 : h ≤ 3) (w4 : w ≤ 4) : badSq h w M = lawBad h w M := by
  unfold badSq lawBad
  refine findSome_congr fun s hs => ?_
  obtain ⟨n, hn, rfl⟩ := List.mem_map.mp hs
  have hn' := List.mem_range.mp hn
  have n3 : n + 1 ≤ 3 := by omega
  unfold bs1 lb1
  rw [chs_filter h (n + 1) (by omega) n3, ← findSome_filter (l := lawLists h) (p := fun r => decide (r.length = n + 1)) (f := lb2 w M (n + 1))]
  · refine findSome_congr fun R hR => ?_
    have lR : R.length = n + 1 := of_decide_eq_true (List.mem_filter.mp hR).2
    unfold bs2 lb2
    rw [chs_filter w (n + 1) (by omega) n3, ← findSome_filter (l := lawLists w) (p := fun r => decide (r.length = n + 1)) (f := lb3 M (n + 1) R)]
    · refine findSome_congr fun Cs hC => ?_
      have lC : Cs.length = n + 1 := of_decide_eq_true (List.mem_filter.mp hC).2
      unfold bs3 lb3
      rw [lR, lap_Dn (by omega) n3 lR lC]
      simp [lC]
    · intro Cs _ hp
      unfold lb3
      rw [if_neg fun z => by rw [decide_eq_true z.1.2] at hp; cases hp]
  · intro R _ hp
    unfold lb2
    refine List.findSome?_eq_none_iff.mpr fun Cs _ => ?_
    unfold lb3
    rw [if_neg fun z => by rw [decide_eq_true z.1.1] at hp; cases hp]
/-- what lawBad = none says -/
theorem law_none {h w : Nat} {M : IM} (e : lawBad h w M = none) {R Cs : List Nat} (hR : R ∈ lawLists h) (hC : Cs ∈ lawLists w) (l : R.length = Cs.length) (l1 : 1 ≤ R.length) (lh : R.length ≤ min h w) (l3 : R.length ≤ 3) : (Dn R.length (partM M R Cs)).natAbs ≤ 1 := by
  unfold lawBad at e
  have e1 := List.findSome?_eq_none_iff.mp e R.length (List.mem_map.mpr ⟨R.length - 1, List.mem_range.mpr (by omega), by omega⟩)
  have e2 := List.findSome?_eq_none_iff.mp e1 R hR
  have e3 := List.findSome?_eq_none_iff.mp e2 Cs hC
  unfold lb3 at e3
  rw [lap_Dn l1 l3 rfl l.symm] at e3
  split at e3
  · cases e3
  · rename_i z
    have : ¬ 1 < (Dn R.length (partM M R Cs)).natAbs := fun y => z ⟨⟨rfl, l.symm⟩, y⟩
    omega
theorem none_law {h w : Nat} {M : IM} (h3 : h ≤ 3) (H : ∀ R ∈ lawLists h, ∀ Cs ∈ lawLists w, R.length = Cs.length → 1 ≤ R.length → R.length ≤ 3 → (Dn R.length (partM M R Cs)).natAbs ≤ 1) : lawBad h w M = none := by
  unfold lawBad
  refine List.findSome?_eq_none_iff.mpr fun s hs => ?_
  obtain ⟨n, hn, rfl⟩ := List.mem_map.mp hs
  have hn' := List.mem_range.mp hn
  refine List.findSome?_eq_none_iff.mpr fun R hR => ?_
  refine List.findSome?_eq_none_iff.mpr fun Cs hC => ?_
  unfold lb3
  refine if_neg fun z => ?_
  obtain ⟨⟨z1, z2⟩, z3⟩ := z
  rw [lap_Dn (n := n + 1) (by omega) (by omega) z1 z2, ← z1] at z3
  have := H R hR Cs hC (by omega) (by omega) (by omega)
  omega
end Ef
end
section
/-! M2: mathematics: small minors -/
namespace Ef
open PySem PySem.Spec PyProof.Rows L2 Evl
abbrev NF := Nat → Nat → Int
def D2 (f : NF) (i1 i2 j1 j2 : Nat) : Int := f i1 j1 * f i2 j2 - f i1 j2 * f i2 j1
def D3 (f : NF) (i1 i2 i3 j1 j2 j3 : Nat) : Int := f i1 j1 * (f i2 j2 * f i3 j3 - f i2 j3 * f i3 j2) - f i1 j2 * (f i2 j1 * f i3 j3 - f i2 j3 * f i3 j1) + f i1 j3 * (f i2 j1 * f i3 j2 - f i2 j2 * f i3 j1)
/-- all minors of the rows of I, the columns of J are 0, 1 or -1 -/
structure TU (I J : Nat → Prop) (f : NF) : Prop where
  d1 : ∀ i j, I i → J j → (f i j).natAbs ≤ 1
  d2 : ∀ i1 i2 j1 j2, I i1 → I i2 → J j1 → J j2 → (D2 f i1 i2 j1 j2).natAbs ≤ 1
  d3 : ∀ i1 i2 i3 j1 j2 j3, I i1 → I i2 → I i3 → J j1 → J j2 → J j3 → (D3 f i1 i2 i3 j1 j2 j3).natAbs ≤ 1
theorem D2_row {f : NF} (i j k : Nat) : D2 f i i j k = 0 := by unfold D2; grind
theorem D2_col {f : NF} (i j k : Nat) : D2 f i j k k = 0 := by unfold D2; grind
theorem D2_swR {f : NF} (i j k l : Nat) : D2 f j i k l = - D2 f i j k l := by unfold D2; grind
theorem D2_swC {f : NF} (i j k l : Nat) : D2 f i j l k = - D2 f i j k l := by unfold D2; grind
theorem abs_neg_le {a b : Int} (h : a = -b) (hb : b.natAbs ≤ 1) : a.natAbs ≤ 1 := by omega
/-- sorted is enough -/
theorem TU.of_sorted {n m : Nat} {f : NF} (h1 : ∀ i j, i < n → j < m → (f i j).natAbs ≤ 1) (h2 : ∀ i1 i2 j1 j2, i1 < i2 → i2 < n → j1 < j2 → j2 < m → (D2 f i1 i2 j1 j2).natAbs ≤ 1)
    (h3 : ∀ i1 i2 i3 j1 j2 j3, i1 < i2 → i2 < i3 → i3 < n → j1 < j2 → j2 < j3 → j3 < m → (D3 f i1 i2 i3 j1 j2 j3).natAbs ≤ 1) : TU (· < n) (· < m) f := by
  have g2 : ∀ i1 i2 j1 j2, i1 < n → i2 < n → j1 < m → j2 < m → (D2 f i1 i2 j1 j2).natAbs ≤ 1 := by
    intro i1 i2 j1 j2 a b c d
    rcases Nat.lt_trichotomy i1 i2 with z | z | z
    · rcases Nat.lt_trichotomy j1 j2 with y | y | y
      · exact h2 _ _ _ _ z b y d
      · subst y; rw [D2_col]; decide
      · exact abs_neg_le (D2_swC i1 i2 j2 j1) (h2 _ _ _ _ z b y c)
    · subst z; rw [D2_row]; decide
    · rcases Nat.lt_trichotomy j1 j2 with y | y | y
      · exact abs_neg_le (D2_swR i2 i1 j1 j2) (h2 _ _ _ _ z a y d)
      · subst y; rw [D2_col]; decide
      · exact abs_neg_le (D2_swR i2 i1 j1 j2) (abs_neg_le (D2_swC i2 i1 j2 j1) (h2 _ _ _ _ z a y c))
  refine ⟨h1, g2, ?_⟩
  have gc : ∀ i1 i2 i3 j1 j2 j3, i1 < i2 → i2 < i3 → i3 < n → j1 < m → j2 < m → j3 < m → (D3 f i1 i2 i3 j1 j2 j3).natAbs ≤ 1 := by
    intro i1 i2 i3 j1 j2 j3 a b c d e g
    have s12 : D3 f i1 i2 i3 j1 j2 j3 = - D3 f i1 i2 i3 j2 j1 j3 := by unfold D3; grind
    have s23 : D3 f i1 i2 i3 j1 j2 j3 = - D3 f i1 i2 i3 j1 j3 j2 := by unfold D3; grind
    have s13 : D3 f i1 i2 i3 j1 j2 j3 = - D3 f i1 i2 i3 j3 j2 j1 := by unfold D3; grind
    have c1 : D3 f i1 i2 i3 j1 j2 j3 = D3 f i1 i2 i3 j2 j3 j1 := by unfold D3; grind
    have c2 : D3 f i1 i2 i3 j1 j2 j3 = D3 f i1 i2 i3 j3 j1 j2 := by unfold D3; grind
    have z12 : j1 = j2 → D3 f i1 i2 i3 j1 j2 j3 = 0 := fun z => by subst z; unfold D3; grind
    have z23 : j2 = j3 → D3 f i1 i2 i3 j1 j2 j3 = 0 := fun z => by subst z; unfold D3; grind
    have z13 : j1 = j3 → D3 f i1 i2 i3 j1 j2 j3 = 0 := fun z => by subst z; unfold D3; grind
    by_cases k12 : j1 = j2
    · rw [z12 k12]; decide
    by_cases k23 : j2 = j3
    · rw [z23 k23]; decide
    by_cases k13 : j1 = j3
    · rw [z13 k13]; decide
    have cs : (j1 < j2 ∧ j2 < j3) ∨ (j1 < j3 ∧ j3 < j2) ∨ (j2 < j1 ∧ j1 < j3) ∨ (j2 < j3 ∧ j3 < j1) ∨ (j3 < j1 ∧ j1 < j2) ∨ (j3 < j2 ∧ j2 < j1) := by omega
    rcases cs with ⟨u, v⟩ | ⟨u, v⟩ | ⟨u, v⟩ | ⟨u, v⟩ | ⟨u, v⟩ | ⟨u, v⟩
    · exact h3 _ _ _ _ _ _ a b c u v g
    · exact abs_neg_le s23 (h3 _ _ _ _ _ _ a b c u v e)
    · exact abs_neg_le s12 (h3 _ _ _ _ _ _ a b c u v g)
    · rw [c1]; exact h3 _ _ _ _ _ _ a b c u v d
    · rw [c2]; exact h3 _ _ _ _ _ _ a b c u v e
    · exact abs_neg_le s13 (h3 _ _ _ _ _ _ a b c u v d)
  intro i1 i2 i3 j1 j2 j3 a b c d e g
  have s12 : D3 f i1 i2 i3 j1 j2 j3 = - D3 f i2 i1 i3 j1 j2 j3 := by unfold D3; grind
  have s23 : D3 f i1 i2 i3 j1 j2 j3 = - D3 f i1 i3 i2 j1 j2 j3 := by unfold D3; grind
  have s13 : D3 f i1 i2 i3 j1 j2 j3 = - D3 f i3 i2 i1 j1 j2 j3 := by unfold D3; grind
  have c1 : D3 f i1 i2 i3 j1 j2 j3 = D3 f i2 i3 i1 j1 j2 j3 := by unfold D3; grind
  have c2 : D3 f i1 i2 i3 j1 j2 j3 = D3 f i3 i1 i2 j1 j2 j3 := by unfold D3; grind
  by_cases k12 : i1 = i2
  · subst k12
    rw [show D3 f i1 i1 i3 j1 j2 j3 = 0 by unfold D3; grind]; decide
  by_cases k23 : i2 = i3
  · subst k23
    rw [show D3 f i1 i2 i2 j1 j2 j3 = 0 by unfold D3; grind]; decide
  by_cases k13 : i1 = i3
  · subst k13
    rw [show D3 f i1 i2 i1 j1 j2 j3 = 0 by unfold D3; grind]; decide
  have cs : (i1 < i2 ∧ i2 < i3) ∨ (i1 < i3 ∧ i3 < i2) ∨ (i2 < i1 ∧ i1 < i3) ∨ (i2 < i3 ∧ i3 < i1) ∨ (i3 < i1 ∧ i1 < i2) ∨ (i3 < i2 ∧ i2 < i1) := by omega
  rcases cs with ⟨u, v⟩ | ⟨u, v⟩ | ⟨u, v⟩ | ⟨u, v⟩ | ⟨u, v⟩ | ⟨u, v⟩
  · exact gc _ _ _ _ _ _ u v c d e g
  · exact abs_neg_le s23 (gc _ _ _ _ _ _ u v b d e g)
  · exact abs_neg_le s12 (gc _ _ _ _ _ _ u v c d e g)
  · rw [c1]; exact gc _ _ _ _ _ _ u v a d e g
  · rw [c2]; exact gc _ _ _ _ _ _ u v b d e g
  · exact abs_neg_le s13 (gc _ _ _ _ _ _ u v a d e g)
theorem lists_mem1 {n i : Nat} (hn : n ≤ 4) (hi : i < n) : [i] ∈ lawLists n := by
  have key : ∀ n : Nat, n < 5 → ∀ i : Nat, i < n → [i] ∈ lawLists n := by decide +kernel
  exact key n (by omega) i hi
theorem lists_mem2 {n i j : Nat} (hn : n ≤ 4) (hi : i < j) (hj : j < n) : [i, j] ∈ lawLists n := by
  have key : ∀ n : Nat, n < 5 → ∀ j : Nat, j < n → ∀ i : Nat, i < j → [i, j] ∈ lawLists n := by decide +kernel
  exact key n (by omega) j hj i hi
theorem lists_mem3 {n i j k : Nat} (hn : n ≤ 4) (hi : i < j) (hj : j < k) (hk : k < n) : [i, j, k] ∈ lawLists n := by
  have c : (n = 3 ∧ i = 0 ∧ j = 1 ∧ k = 2) ∨ (n = 4 ∧ i = 0 ∧ j = 1 ∧ k = 2) ∨ (n = 4 ∧ i = 0 ∧ j = 1 ∧ k = 3) ∨ (n = 4 ∧ i = 0 ∧ j = 2 ∧ k = 3) ∨ (n = 4 ∧ i = 1 ∧ j = 2 ∧ k = 3) := by omega
  rcases c with ⟨rfl, rfl, rfl, rfl⟩ | ⟨rfl, rfl, rfl, rfl⟩ | ⟨rfl, rfl, rfl, rfl⟩ | ⟨rfl, rfl, rfl, rfl⟩ | ⟨rfl, rfl, rfl, rfl⟩ <;> decide +kernel
theorem TU.of_law {h w : Nat} {M : IM} (h3 : h ≤ 3) (w4 : w ≤ 4) (e : lawBad h w M = none) : TU (· < h) (· < w) (ent M) := by
  refine TU.of_sorted (fun i j hi hj => ?_) (fun i1 i2 j1 j2 a b c d => ?_) (fun i1 i2 i3 j1 j2 j3 a b c d e' g => ?_)
  · exact law_none e (lists_mem1 (by omega) hi) (lists_mem1 w4 hj) rfl (Nat.le_of_ble_eq_true rfl) (by show 1 ≤ _; omega) (Nat.le_of_ble_eq_true rfl)
  · exact law_none e (lists_mem2 (by omega) a b) (lists_mem2 w4 c d) rfl (Nat.le_of_ble_eq_true rfl) (by show 2 ≤ _; omega) (Nat.le_of_ble_eq_true rfl)
  · exact law_none e (lists_mem3 (by omega) a b c) (lists_mem3 w4 d e' g) rfl (Nat.le_of_ble_eq_true rfl) (by show 3 ≤ _; omega) (Nat.le_of_ble_eq_true rfl)
end Ef
end
section
/-! M3: mathematics: a network has no bad square -/
namespace Ef
open PySem PySem.Spec PyProof.Rows L2 Evl
theorem none_of_TU {h w : Nat} {M : IM} (h3 : h ≤ 3) (w4 : w ≤ 4) (T : TU (· < h) (· < w) (ent M)) : lawBad h w M = none := by
  refine none_law h3 fun R hR Cs hC l l1 l3 => ?_
  have bR := (lawLists_lt h (by omega) R hR).1
  have bC := (lawLists_lt w w4 Cs hC).1
  match R, Cs, l, l1, l3, bR, bC with
  | [i], [j], _, _, _, bR, bC => exact T.d1 i j (bR i (by simp)) (bC j (by simp))
  | [i1, i2], [j1, j2], _, _, _, bR, bC => exact T.d2 i1 i2 j1 j2 (bR _ (by simp)) (bR _ (by simp)) (bC _ (by simp)) (bC _ (by simp))
  | [i1, i2, i3], [j1, j2, j3], _, _, _, bR, bC => exact T.d3 i1 i2 i3 j1 j2 j3 (bR _ (by simp)) (bR _ (by simp)) (bR _ (by simp)) (bC _ (by simp)) (bC _ (by simp)) (bC _ (by simp))
/-- a column of a network, by its kind -/
def cv (t i : Nat) : Int := if i = t % 3 ∧ t % 3 ≠ t / 3 then -1 else if i = t / 3 then 1 else 0
theorem cv_1 : ∀ t : Nat, t < 9 → ∀ i : Nat, i < 3 → (cv t i).natAbs ≤ 1 := by decide +kernel
theorem cv_2a : ∀ t : Nat, t < 9 → ∀ u : Nat, u < 9 → (cv t 0 * cv u 1 - cv u 0 * cv t 1).natAbs ≤ 1 := by decide +kernel
theorem cv_2b : ∀ t : Nat, t < 9 → ∀ u : Nat, u < 9 → (cv t 0 * cv u 2 - cv u 0 * cv t 2).natAbs ≤ 1 := by decide +kernel
theorem cv_2c : ∀ t : Nat, t < 9 → ∀ u : Nat, u < 9 → (cv t 1 * cv u 2 - cv u 1 * cv t 2).natAbs ≤ 1 := by decide +kernel
theorem cv_3 : ∀ t : Nat, t < 9 → ∀ u : Nat, u < 9 → ∀ v : Nat, v < 9 → (cv t 0 * (cv u 1 * cv v 2 - cv v 1 * cv u 2) - cv u 0 * (cv t 1 * cv v 2 - cv v 1 * cv t 2) + cv v 0 * (cv t 1 * cv u 2 - cv u 1 * cv t 2)).natAbs ≤ 1 := by decide +kernel
theorem fact_net (h w : Nat) (M : IM) (h3 : h ≤ 3) (w4 : w ≤ 4) (N : Net h w M) : lawBad h w M = none := by
  have key : ∀ j, j < w → ∃ t, t < 9 ∧ ∀ i, i < h → ent M i j = cv t i := fun j hj => by
    obtain ⟨o, o', ho, ho', e⟩ := N j hj
    refine ⟨3 * o + o', by omega, fun i hi => ?_⟩
    rw [e i hi]
    unfold cv
    rw [show (3 * o + o') % 3 = o' by omega, show (3 * o + o') / 3 = o by omega]
  refine none_of_TU h3 w4 (TU.of_sorted (fun i j hi hj => ?_) (fun i1 i2 j1 j2 a b c d => ?_) (fun i1 i2 i3 j1 j2 j3 a b c d e g => ?_))
  · obtain ⟨t, ht, e⟩ := key j hj
    rw [e i hi]
    exact cv_1 t ht i (by omega)
  · obtain ⟨t, ht, e1⟩ := key j1 (by omega)
    obtain ⟨u, hu, e2⟩ := key j2 d
    unfold D2
    rw [e1 i1 (by omega), e1 i2 b, e2 i1 (by omega), e2 i2 b]
    have cs : (i1 = 0 ∧ i2 = 1) ∨ (i1 = 0 ∧ i2 = 2) ∨ (i1 = 1 ∧ i2 = 2) := by omega
    rcases cs with ⟨rfl, rfl⟩ | ⟨rfl, rfl⟩ | ⟨rfl, rfl⟩
    · exact cv_2a t ht u hu
    · exact cv_2b t ht u hu
    · exact cv_2c t ht u hu
  · obtain ⟨t, ht, e1⟩ := key j1 (by omega)
    obtain ⟨u, hu, e2⟩ := key j2 (by omega)
    obtain ⟨v, hv, e3⟩ := key j3 g
    have r1 : i1 = 0 := by omega
    have r2 : i2 = 1 := by omega
    have r3 : i3 = 2 := by omega
    subst r1 r2 r3
    unfold D3
    rw [e1 0 (by omega), e1 1 (by omega), e1 2 (by omega), e2 0 (by omega), e2 1 (by omega), e2 2 (by omega), e3 0 (by omega), e3 1 (by omega), e3 2 (by omega)]
    exact cv_3 t ht u hu v hv
/-- unit columns further -/
theorem TU.units {h : Nat} {J : Nat → Prop} {f g : NF} (T : TU (· < h) J f) (kind : ∀ j, (∃ j', J j' ∧ ∀ i, i < h → g i j = f i j') ∨ ∃ k, ∀ i, i < h → g i j = if i = k then 1 else 0) : TU (· < h) (fun _ => True) g := by
  have d1 : ∀ i j, i < h → (g i j).natAbs ≤ 1 := fun i j hi => by
    rcases kind j with ⟨j', hj, e⟩ | ⟨k, e⟩
    · rw [e i hi]; exact T.d1 _ _ hi hj
    · rw [e i hi]; split <;> decide
  have d2u : ∀ i1 i2 j1 j2, i1 < h → i2 < h → (∃ k, ∀ i, i < h → g i j1 = if i = k then 1 else 0) → (D2 g i1 i2 j1 j2).natAbs ≤ 1 := fun i1 i2 j1 j2 a b ⟨k, e⟩ => by
    unfold D2
    rw [e i1 a, e i2 b]
    have x1 := d1 i1 j2 a
    have x2 := d1 i2 j2 b
    by_cases c1 : i1 = k
    · by_cases c2 : i2 = k
      · rw [if_pos c1, if_pos c2, c1, c2]; simp
      · rw [if_pos c1, if_neg c2]; omega
    · by_cases c2 : i2 = k
      · rw [if_neg c1, if_pos c2]; omega
      · rw [if_neg c1, if_neg c2]; omega
  have d2 : ∀ i1 i2 j1 j2, i1 < h → i2 < h → (D2 g i1 i2 j1 j2).natAbs ≤ 1 := fun i1 i2 j1 j2 a b => by
    rcases kind j1 with ⟨k1, hk1, e1⟩ | u1
    · rcases kind j2 with ⟨k2, hk2, e2⟩ | u2
      · unfold D2
        rw [e1 i1 a, e1 i2 b, e2 i1 a, e2 i2 b]
        exact T.d2 i1 i2 k1 k2 a b hk1 hk2
      · exact abs_neg_le (D2_swC i1 i2 j2 j1) (d2u i1 i2 j2 j1 a b u2)
    · exact d2u i1 i2 j1 j2 a b u1
  have d3u : ∀ i1 i2 i3 j1 j2 j3, i1 < h → i2 < h → i3 < h → (∃ k, ∀ i, i < h → g i j1 = if i = k then 1 else 0) → (D3 g i1 i2 i3 j1 j2 j3).natAbs ≤ 1 := fun i1 i2 i3 j1 j2 j3 a b c ⟨k, e⟩ => by
    have y1 := d2 i2 i3 j2 j3 b c
    have y2 := d2 i1 i3 j2 j3 a c
    have y3 := d2 i1 i2 j2 j3 a b
    have ex : D3 g i1 i2 i3 j1 j2 j3 = g i1 j1 * D2 g i2 i3 j2 j3 - g i2 j1 * D2 g i1 i3 j2 j3 + g i3 j1 * D2 g i1 i2 j2 j3 := by unfold D3 D2; grind
    by_cases k12 : i1 = i2
    · subst k12; rw [show D3 g i1 i1 i3 j1 j2 j3 = 0 by unfold D3; grind]; decide
    by_cases k23 : i2 = i3
    · subst k23; rw [show D3 g i1 i2 i2 j1 j2 j3 = 0 by unfold D3; grind]; decide
    by_cases k13 : i1 = i3
    · subst k13; rw [show D3 g i1 i2 i1 j1 j2 j3 = 0 by unfold D3; grind]; decide
    rw [ex, e i1 a, e i2 b, e i3 c]
    by_cases c1 : i1 = k
    · rw [if_pos c1, if_neg (by omega), if_neg (by omega)]; omega
    · rw [if_neg c1]
      by_cases c2 : i2 = k
      · rw [if_pos c2, if_neg (by omega)]; omega
      · rw [if_neg c2]
        by_cases c3 : i3 = k
        · rw [if_pos c3]; omega
        · rw [if_neg c3]; omega
  refine ⟨fun i j hi _ => d1 i j hi, fun i1 i2 j1 j2 a b _ _ => d2 i1 i2 j1 j2 a b, fun i1 i2 i3 j1 j2 j3 a b c _ _ _ => ?_⟩
  rcases kind j1 with ⟨k1, hk1, e1⟩ | u1
  · rcases kind j2 with ⟨k2, hk2, e2⟩ | u2
    · rcases kind j3 with ⟨k3, hk3, e3⟩ | u3
      · unfold D3
        rw [e1 i1 a, e1 i2 b, e1 i3 c, e2 i1 a, e2 i2 b, e2 i3 c, e3 i1 a, e3 i2 b, e3 i3 c]
        exact T.d3 i1 i2 i3 k1 k2 k3 a b c hk1 hk2 hk3
      · rw [show D3 g i1 i2 i3 j1 j2 j3 = D3 g i1 i2 i3 j3 j1 j2 by unfold D3; grind]
        exact d3u i1 i2 i3 j3 j1 j2 a b c u3
    · rw [show D3 g i1 i2 i3 j1 j2 j3 = D3 g i1 i2 i3 j2 j3 j1 by unfold D3; grind]
      exact d3u i1 i2 i3 j2 j3 j1 a b c u2
  · exact d3u i1 i2 i3 j1 j2 j3 a b c u1
theorem TU.map {I J I' J' : Nat → Prop} {f g : NF} (T : TU I J f) (r c : Nat → Nat) (hr : ∀ i, I' i → I (r i)) (hc : ∀ j, J' j → J (c j)) (e : ∀ i j, I' i → J' j → g i j = f (r i) (c j)) : TU I' J' g := by
  refine ⟨fun i j a b => ?_, fun i1 i2 j1 j2 a b c' d => ?_, fun i1 i2 i3 j1 j2 j3 a b c' d e' g' => ?_⟩
  · rw [e i j a b]; exact T.d1 _ _ (hr _ a) (hc _ b)
  · unfold D2
    rw [e i1 j1 a c', e i2 j2 b d, e i1 j2 a d, e i2 j1 b c']
    exact T.d2 _ _ _ _ (hr _ a) (hr _ b) (hc _ c') (hc _ d)
  · unfold D3
    rw [e i1 j1 a d, e i1 j2 a e', e i1 j3 a g', e i2 j1 b d, e i2 j2 b e', e i2 j3 b g', e i3 j1 c' d, e i3 j2 c' e', e i3 j3 c' g']
    exact T.d3 _ _ _ _ _ _ (hr _ a) (hr _ b) (hr _ c') (hc _ d) (hc _ e') (hc _ g')
end Ef
end
section
/-! M4: mathematics: turns on small minors -/
namespace Ef
open PySem PySem.Spec PyProof.Rows L2 Evl
def sw (x y i : Nat) : Nat := if i = x then y else if i = y then x else i
theorem sw_lt {x y i n : Nat} (hx : x < n) (hy : y < n) (hi : i < n) : sw x y i < n := by
  unfold sw
  split
  · exact hy
  · split <;> assumption
theorem sw_ge {x y i : Nat} (hy : x ≤ y) (hi : x ≤ i) : x ≤ sw x y i := by
  unfold sw
  split
  · exact hy
  · split <;> omega
theorem sw_lo {x y i : Nat} (hy : x ≤ y) (hi : i < x) : sw x y i = i := by unfold sw; rw [if_neg (by omega), if_neg (by omega)]
theorem sw_self {x y : Nat} : sw x y x = y := by unfold sw; rw [if_pos rfl]
theorem sw_sw (x y i : Nat) : sw x y (sw x y i) = i := by
  unfold sw
  by_cases h1 : i = x
  · subst h1
    rw [if_pos rfl]
    by_cases h2 : y = i
    · rw [if_pos h2, h2]
    · rw [if_neg h2, if_pos rfl]
  · rw [if_neg h1]
    by_cases h2 : i = y
    · rw [if_pos h2, if_pos rfl, h2]
    · rw [if_neg h2, if_neg h1, if_neg h2]
theorem ent_swapM {M : IM} {x y : Nat} (hx : x < M.length) (hy : y < M.length) (i j : Nat) : ent (swapM M x y) i j = ent M (sw x y i) j := by
  unfold ent
  rw [swapM_get M i hx hy]
  unfold sw
  grind
theorem swapColR_get {r : List Int} {x y : Nat} (hx : x < r.length) (hy : y < r.length) (j : Nat) : (swapColR x y r).getD j 0 = r.getD (sw x y j) 0 := by
  unfold swapColR sw
  simp only [List.getD_eq_getElem?_getD, List.getElem?_set, List.length_set]
  by_cases h1 : j = x
  · subst h1
    by_cases h2 : y = j
    · subst h2
      simp [hx]
    · simp [h2, hx]
  · by_cases h2 : j = y
    · subst h2
      simp [hy, h1]
    · rw [if_neg (fun z => h2 z.symm), if_neg (fun z => h1 z.symm), if_neg h1, if_neg h2]
theorem ent_swapCol {h w : Nat} {M : IM} (S : Shp h w M) {x y : Nat} (hx : x < w) (hy : y < w) (i j : Nat) (hi : i < h) : ent (swapCol M x y) i j = ent M i (sw x y j) := by
  unfold swapCol
  rw [ent_map S _ i j hi, swapColR_get (by rw [S.2 i hi]; exact hx) (by rw [S.2 i hi]; exact hy)]
  rfl
theorem Shp.swapC {h w : Nat} {M : IM} (S : Shp h w M) (x y : Nat) : Shp h w (swapCol M x y) := S.map fun r => swapColR_len x y r
theorem ent_outS {h w : Nat} {M : IM} (S : Shp h w M) {i j : Nat} (h1 : ¬ (i < h ∧ j < w)) : ent M i j = 0 := by
  by_cases hi : i < h
  · exact ent_out (.inr (by rw [S.2 i hi]; omega))
  · exact ent_out (.inl (by rw [S.1]; omega))
theorem ent_sw2 {h w : Nat} {M : IM} (S : Shp h w M) {s a b : Nat} (hs : s < h) (hs' : s < w) (ha : a < h) (hb : b < w) (i j : Nat) (hi : i < h) : ent (swapCol (swapM M s a) s b) i j = ent M (sw s a i) (sw s b j) := by
  rw [ent_swapCol (S.swap hs ha) hs' hb i j hi, ent_swapM (by rw [S.1]; exact hs) (by rw [S.1]; exact ha)]
theorem ent_neg {h w : Nat} {M : IM} (S : Shp h w M) {s : Nat} (hs : s < h) (i j : Nat) : ent (negRow M s) i j = if i = s then - ent M s j else ent M i j := by
  unfold ent negRow
  by_cases e : s = i
  · subst e
    rw [getD_set_self (by rw [S.1]; exact hs), if_pos rfl]
    simp only [List.getD_eq_getElem?_getD, List.getElem?_map]
    cases ((M[s]?.getD [])[j]?) <;> simp
  · rw [getD_set_ne e, if_neg (fun z => e z.symm)]
theorem fdiv_unit {p : Int} (h0 : p ≠ 0) (h1 : p.natAbs ≤ 1) (x : Int) : x.fdiv p = x * p := by
  have c : p = 1 ∨ p = -1 := by omega
  rcases c with rfl | rfl
  · rw [Int.fdiv_one, Int.mul_one]
  · rw [show x.fdiv (-1) = -x by
      have h := Int.fdiv_eq_of_eq_mul_left (a := x) (b := -1) (c := -x) (by decide) (by omega)
      exact h]
    omega
structure Blk (h w s : Nat) (M : IM) : Prop where
  tu : TU (fun i => s ≤ i ∧ i < h) (fun j => s ≤ j ∧ j < w) (ent M)
  dz : ∀ i j, i < h → j < w → (i < s ∨ j < s) → i ≠ j → ent M i j = 0
  dd : ∀ i, i < s → i < h → i < w → (ent M i i).natAbs ≤ 1
theorem Blk.le {h w s : Nat} {M : IM} (B : Blk h w s M) (S : Shp h w M) (i j : Nat) : (ent M i j).natAbs ≤ 1 := by
  by_cases c : i < h ∧ j < w
  · obtain ⟨hi, hj⟩ := c
    by_cases c2 : s ≤ i ∧ s ≤ j
    · exact B.tu.d1 i j ⟨c2.1, hi⟩ ⟨c2.2, hj⟩
    · by_cases e : i = j
      · subst e; exact B.dd i (by omega) hi hj
      · rw [B.dz i j hi hj (by omega) e]; decide
  · rw [ent_outS S c]; decide
theorem Blk.swap {h w s a b : Nat} {M : IM} (B : Blk h w s M) (S : Shp h w M) (hs : s < h) (hs' : s < w) (ha : a < h) (hb : b < w) (sa : s ≤ a) (sb : s ≤ b) : Blk h w s (swapCol (swapM M s a) s b) := by
  refine ⟨B.tu.map (sw s a) (sw s b) (fun i hi => ⟨sw_ge sa hi.1, sw_lt hs ha hi.2⟩) (fun j hj => ⟨sw_ge sb hj.1, sw_lt hs' hb hj.2⟩) fun i j hi hj => ent_sw2 S hs hs' ha hb i j hi.2, fun i j hi hj hij ne => ?_, fun i his hi hj => ?_⟩
  · rw [ent_sw2 S hs hs' ha hb i j hi]
    refine B.dz _ _ (sw_lt hs ha hi) (sw_lt hs' hb hj) ?_ ?_
    · rcases hij with z | z
      · rw [sw_lo sa z]; exact .inl z
      · rw [sw_lo sb z]; exact .inr z
    · rcases hij with z | z
      · rw [sw_lo sa z]
        intro e
        by_cases c : j < s
        · rw [sw_lo sb c] at e; exact ne e
        · have := sw_ge (x := s) (y := b) (i := j) sb (by omega)
          omega
      · rw [sw_lo sb z]
        intro e
        by_cases c : i < s
        · rw [sw_lo sa c] at e; exact ne e
        · have := sw_ge (x := s) (y := a) (i := i) sa (by omega)
          omega
  · rw [ent_sw2 S hs hs' ha hb i i hi, sw_lo sa his, sw_lo sb his]
    exact B.dd i his hi hj
end Ef
end
section
/-! M5: mathematics: one turn a stage, on small minors -/
namespace Ef
open PySem PySem.Spec PyProof.Rows L2 Evl
theorem abs_mul_unit {p x : Int} (hp : p.natAbs ≤ 1) (hx : x.natAbs ≤ 1) : (p * x).natAbs ≤ 1 := by
  rw [Int.natAbs_mul]
  exact Nat.le_trans (Nat.mul_le_mul hp hx) (by decide)
theorem pp_one {p : Int} (h0 : p ≠ 0) (h1 : p.natAbs ≤ 1) : p * p = 1 := by
  have c : p = 1 ∨ p = -1 := by omega
  rcases c with rfl | rfl <;> rfl
/-- what a turn leaves, where the pivot is a unit -/
structure Turned (h w s : Nat) (X M1 M2 : IM) : Prop where
  clean : Clean h w s M1 M2
  piv : ent M2 s s = ent X s s
  up : ∀ i j, i < s → i < h → j < w → ent M2 i j = ent X i j
  row : ∀ j, j < w → j ≠ s → ent M2 s j = 0
  low : ∀ i j, s < i → i < h → j < w → ent M2 i j = ent X i j - ent X i s * ent X s s * ent X s j
theorem turned_unit {h w s : Nat} {X M1 M2 L L2 : IM} (B : Blk h w s X) (hs : s < h) (hs' : s < w) (p0 : ent X s s ≠ 0) (p1 : (ent X s s).natAbs ≤ 1) (R : RowCl h w s X M1) (C : ColCl h w s (ent X s s) M1 M2 L L2) : Turned h w s X M1 M2 := by
  have pp := pp_one p0 p1
  have r1 : ∀ i j, s < i → i < h → ent M1 i j = ent X i j - ent X i s * ent X s s * ent X s j := fun i j a b => by
    rw [R i j, if_pos ⟨a, b⟩, fdiv_unit p0 p1]
  have r2 : ∀ i j, i ≤ s → ent M1 i j = ent X i j := fun i j a => by rw [R i j, if_neg (by omega)]
  have z1 : ∀ i, s < i → i < h → ent M1 i s = 0 := fun i a b => by
    rw [r1 i s a b]
    grind
  have c2 : ∀ j, s < j → j < w → ent M2 s j = 0 := fun j a b => by
    rw [C.1 s j hs, if_pos ⟨a, b⟩, fdiv_unit p0 p1, r2 s j (Nat.le_refl _), r2 s s (Nat.le_refl _)]
    grind
  refine ⟨⟨z1, c2⟩, ?_, fun i j a b c => ?_, fun j a b => ?_, fun i j a b c => ?_⟩
  · rw [C.1 s s hs, if_neg (by omega), r2 s s (Nat.le_refl _)]
  · rw [C.1 i j b, r2 i j (by omega), r2 i s (by omega), B.dz i s b hs' (.inl a) (by omega)]
    simp
  · by_cases c : s < j
    · exact c2 j c a
    · rw [C.1 s j hs, if_neg (by omega), r2 s j (Nat.le_refl _)]
      exact B.dz s j hs a (.inr (by omega)) (fun z => b z.symm)
  · rw [C.1 i j b, z1 i a b, Int.mul_zero, Int.sub_zero, r1 i j a b]
    split <;> rfl
theorem Blk.next {h w s : Nat} {X M1 M2 : IM} (h3 : h ≤ 3) (B : Blk h w s X) (S2 : Shp h w M2) (hs : s < h) (hs' : s < w) (p0 : ent X s s ≠ 0) (T : Turned h w s X M1 M2) : Blk h w (s + 1) (if ent M2 s s < 0 then negRow M2 s else M2) := by
  have p1 : (ent X s s).natAbs ≤ 1 := B.tu.d1 s s ⟨Nat.le_refl _, hs⟩ ⟨Nat.le_refl _, hs'⟩
  have pp := pp_one p0 p1
  have e : ∀ i j, i ≠ s → ent (if ent M2 s s < 0 then negRow M2 s else M2) i j = ent M2 i j := fun i j a => by
    split
    · rw [ent_neg S2 hs, if_neg a]
    · rfl
  have e2 : ∀ j, ent (if ent M2 s s < 0 then negRow M2 s else M2) s j = ent M2 s j ∨ ent (if ent M2 s s < 0 then negRow M2 s else M2) s j = - ent M2 s j := fun j => by
    split
    · rw [ent_neg S2 hs, if_pos rfl]; exact .inr rfl
    · exact .inl rfl
  generalize (if ent M2 s s < 0 then negRow M2 s else M2) = Y at e e2
  have lowD : ∀ i j, s < i → i < h → s < j → j < w → ent Y i j = ent X s s * D2 (ent X) s i s j := fun i j a b c d => by
    rw [e i j (by omega), T.low i j a b d]
    unfold D2
    grind
  refine ⟨⟨fun i j hi hj => ?_, fun i1 i2 j1 j2 a b c d => ?_, fun i1 i2 i3 j1 j2 j3 a b c d _ _ => ?_⟩, fun i j hi hj hij ne => ?_, fun i a hi hj => ?_⟩
  · rw [lowD i j (by omega) hi.2 (by omega) hj.2]
    exact abs_mul_unit p1 (B.tu.d2 s i s j ⟨Nat.le_refl _, hs⟩ ⟨by omega, hi.2⟩ ⟨Nat.le_refl _, hs'⟩ ⟨by omega, hj.2⟩)
  · have : D2 (ent Y) i1 i2 j1 j2 = ent X s s * D3 (ent X) s i1 i2 s j1 j2 := by
      unfold D2
      rw [lowD i1 j1 (by omega) a.2 (by omega) c.2, lowD i2 j2 (by omega) b.2 (by omega) d.2, lowD i1 j2 (by omega) a.2 (by omega) d.2, lowD i2 j1 (by omega) b.2 (by omega) c.2]
      unfold D2 D3
      generalize ent X s s = p at *
      grind
    rw [this]
    exact abs_mul_unit p1 (B.tu.d3 s i1 i2 s j1 j2 ⟨Nat.le_refl _, hs⟩ ⟨by omega, a.2⟩ ⟨by omega, b.2⟩ ⟨Nat.le_refl _, hs'⟩ ⟨by omega, c.2⟩ ⟨by omega, d.2⟩)
  · have cs : i1 = i2 ∨ i2 = i3 ∨ i1 = i3 := by omega
    rw [show D3 (ent Y) i1 i2 i3 j1 j2 j3 = 0 by
      unfold D3
      rcases cs with rfl | rfl | rfl <;> grind]
    decide
  · by_cases c : i = s
    · subst c
      have z := T.row j hj (fun z => ne z.symm)
      rcases e2 j with y | y <;> rw [y, z]
      rfl
    · rw [e i j c]
      by_cases c2 : i < s
      · rw [T.up i j c2 hi hj]
        exact B.dz i j hi hj (.inl c2) ne
      · rw [T.low i j (by omega) hi hj]
        by_cases c3 : j = s
        · subst c3
          grind
        · rw [B.dz i j hi hj (.inr (by omega)) ne, B.dz s j hs hj (.inr (by omega)) (fun z => c3 z.symm)]
          simp
  · by_cases c : i = s
    · subst c
      rcases e2 i with y | y
      · rw [y, T.piv]; exact p1
      · rw [y, T.piv]; omega
    · rw [e i i c, T.up i i (by omega) hi hj]
      exact B.dd i (by omega) hi hj
theorem Blk.skip {h w s : Nat} {M : IM} (B : Blk h w s M) (hs : s < h) (hs' : s < w) (z : ∀ i j, s ≤ i → i < h → s ≤ j → j < w → ent M i j = 0) : Blk h w (s + 1) M := by
  refine ⟨B.tu.map id id (fun i hi => ⟨by have := hi.1; show s ≤ i; omega, hi.2⟩) (fun j hj => ⟨by have := hj.1; show s ≤ j; omega, hj.2⟩) fun _ _ _ _ => rfl, fun i j hi hj hij ne => ?_, fun i a hi hj => ?_⟩
  · by_cases c : i < s ∨ j < s
    · exact B.dz i j hi hj c ne
    · exact z i j (by omega) hi (by omega) hj
  · by_cases c : i < s
    · exact B.dd i c hi hj
    · rw [z i i (by omega) hi (by omega) hj]; decide
theorem diag_TU (h w : Nat) (h3 : h ≤ 3) : DiagInv h w (fun s M _ => Blk h w s M) (fun s _ M _ => Blk h w s M) where
  enter s M L hs S SL B := ⟨0, B⟩
  bound s m M L a b hs S SL B l i j := by
    obtain ⟨l1, l2, l3, l4, l5, l6, l7⟩ := l
    have B2 := B.swap S (by omega) (by omega) l2 l4 l1 l3
    exact Nat.lt_of_le_of_lt (B2.le ((S.swap (by omega) l2).swapC s b) i j) (by decide)
  none s m M L hs S SL B l := B.skip (by omega) (by omega) l
  turn s m M L a b M1 M2 L2 hs S SL B l S2 SL2 R C := by
    obtain ⟨l1, l2, l3, l4, l5, l6, l7⟩ := l
    have hs1 : s < h := by omega
    have hs2 : s < w := by omega
    have B2 := B.swap S hs1 hs2 l2 l4 l1 l3
    have p0 : ent (swapCol (swapM M s a) s b) s s ≠ 0 := by
      rw [ent_sw2 S hs1 hs2 l2 l4 s s hs1, sw_self, sw_self]
      exact l5
    have p1 : (ent (swapCol (swapM M s a) s b) s s).natAbs ≤ 1 := B2.tu.d1 s s ⟨Nat.le_refl _, hs1⟩ ⟨Nat.le_refl _, hs2⟩
    have T := turned_unit B2 hs1 hs2 p0 p1 R C
    refine ⟨fun _ _ => B2.next h3 S2 hs1 hs2 p0 T, fun z => absurd T.clean z, fun _ i _ _ ⟨j, _, z⟩ => absurd ?_ z⟩
    rw [T.piv]
    generalize ent (swapCol (swapM M s a) s b) s s = p at p0 p1
    have pp := pp_one p0 p1
    exact ⟨p * ent M2 i j, by grind⟩
end Ef
end
section
/-! M6: mathematics: changes is empty where no square is bad -/
namespace Ef
open PySem PySem.Spec PyProof.Rows L2 Evl
theorem indOk_of {h w : Nat} {M : IM} {Cs : List Nat} (S : Shp h w M) (h3 : h ≤ 3) (T : TU (· < h) (· < w) (ent M)) (hC : ∀ j ∈ Cs, j < w) (ne : Cs ≠ []) : IndOk M Cs := by
  unfold IndOk
  rw [S.1]
  have lR : (List.range h).length = h := List.length_range
  refine ⟨_, _, diag_TU h Cs.length h3, ⟨T.map id (fun j => Cs.getD j 0) (fun i hi => hi.2) (fun j hj => ?_) (fun i j hi hj => ?_), fun i j _ _ hij _ => by omega, fun i hi => by omega⟩, fun N L B SN => ?_⟩
  · rw [List.getD_eq_getElem?_getD, List.getElem?_eq_getElem hj.2]
    exact hC _ (List.getElem_mem hj.2)
  · rw [ent_part (by rw [lR]; exact hi.2) hj.2, List.getElem_range, List.getD_eq_getElem?_getD, List.getElem?_eq_getElem hj.2]
    rfl
  · by_cases c : ((diagL (min h Cs.length) N).filter fun z => decide (z ≠ 0)).length < Cs.length
    · exact .inl c
    · by_cases e : (diagL (min h Cs.length) N).filter (fun z => decide (z ≠ 0)) = []
      · rw [e] at c
        exact absurd (show ([] : List Int).length < Cs.length from List.length_pos_iff.mpr ne) c
      · refine .inr ⟨_, List.getLast?_eq_some_getLast e, ?_⟩
        have hm := List.getLast_mem e
        generalize List.getLast _ e = d at hm ⊢
        obtain ⟨h1, h2⟩ := List.mem_filter.mp hm
        unfold diagL at h1
        obtain ⟨i, hi, ev⟩ := List.mem_map.mp h1
        have b : d.natAbs ≤ 1 := by rw [← ev]; exact B.le SN i i
        have nz : d ≠ 0 := of_decide_eq_true h2
        omega
theorem ent_wide {h w : Nat} {M : IM} (S : Shp h w M) (i j : Nat) (hi : i < h) : ent (wideM h M) i j = if j < w then ent M i j else if j - w < h ∧ i = j - w then 1 else 0 := by
  unfold ent wideM
  rw [List.getD_eq_getElem?_getD (i := i), List.getElem?_map, List.getElem?_range hi]
  show (M.getD i [] ++ (List.range h).map fun j => if i = j then (1 : Int) else 0).getD j 0 = _
  have l := S.2 i hi
  rw [List.getD_eq_getElem?_getD]
  by_cases c : j < w
  · rw [if_pos c, List.getElem?_append_left (by omega), ← List.getD_eq_getElem?_getD]
  · rw [if_neg c, List.getElem?_append_right (by omega), l, List.getElem?_map]
    by_cases c2 : j - w < h
    · rw [List.getElem?_range c2]
      show (if i = j - w then (1 : Int) else 0) = _
      by_cases c3 : i = j - w
      · rw [if_pos c3, if_pos ⟨c2, c3⟩]
      · rw [if_neg c3, if_neg (fun z => c3 z.2)]
    · rw [List.getElem?_eq_none (by rw [List.length_range]; omega), if_neg (fun z => c2 z.1)]
      rfl
theorem shp_wide {h w : Nat} {M : IM} (S : Shp h w M) : Shp h (w + h) (wideM h M) := by
  unfold wideM
  refine ⟨by rw [List.length_map, List.length_range], fun k hk => ?_⟩
  rw [List.getD_eq_getElem?_getD, List.getElem?_map, List.getElem?_range hk]
  show (M.getD k [] ++ _).length = _
  rw [List.length_append, S.2 k hk, List.length_map, List.length_range]
theorem fact_chg (h w : Nat) (M : IM) (S : Shp h w M) (h3 : h ≤ 3) (w4 : w ≤ 4) (e : lawBad h w M = none) :
    (∀ Cs ∈ allCh w (w + 1), Cs ≠ [] → IndOk M Cs) ∧ ∀ Cs ∈ allCh (w + h) (w + h + 1), Cs ≠ [] → IndOk (wideM h M) Cs := by
  have T := TU.of_law h3 w4 e
  refine ⟨fun Cs hC ne => indOk_of S h3 T ((allCh_ok w (by omega)).1 Cs hC).1 ne, fun Cs hC ne => ?_⟩
  have T2 : TU (· < h) (fun _ => True) (ent (wideM h M)) := T.units fun j => by
    by_cases c : j < w
    · exact .inl ⟨j, c, fun i hi => by rw [ent_wide S i j hi, if_pos c]⟩
    · refine .inr ⟨j - w, fun i hi => ?_⟩
      rw [ent_wide S i j hi, if_neg c]
      by_cases c3 : i = j - w
      · rw [if_pos ⟨by omega, c3⟩, if_pos c3]
      · rw [if_neg (fun z => c3 z.2), if_neg c3]
  exact indOk_of (shp_wide S) h3 (T2.map id id (fun i hi => hi) (fun _ _ => trivial) fun _ _ _ _ => rfl) ((allCh_ok (w + h) (by omega)).1 Cs hC).1 ne
end Ef
end
section
/-! M7: mathematics: zero modulo p; fewer forms than unknowns -/
namespace Ef
open PySem PySem.Spec PyProof.Rows L2 Evl
theorem isP_euclid {p : Int} (h : IsP p) {a b : Int} (d : p ∣ a * b) : p ∣ a ∨ p ∣ b := by
  rcases h with rfl | ⟨h2, hp⟩
  · rw [Int.zero_dvd] at d
    rcases Int.mul_eq_zero.mp d with z | z
    · exact .inl (by rw [z]; exact Int.dvd_refl 0)
    · exact .inr (by rw [z]; exact Int.dvd_refl 0)
  · by_cases c : p ∣ a
    · exact .inl c
    · refine .inr ?_
      have hn : p = ((p.natAbs : Nat) : Int) := by omega
      have n2 : 2 ≤ p.natAbs := by omega
      have g1 : Nat.gcd p.natAbs a.natAbs = 1 := by
        by_cases z : Nat.gcd p.natAbs a.natAbs = 1
        · exact z
        · exfalso
          have gd := Nat.gcd_dvd_left p.natAbs a.natAbs
          have ga := Nat.gcd_dvd_right p.natAbs a.natAbs
          generalize Nat.gcd p.natAbs a.natAbs = g at z gd ga
          obtain ⟨k, hk⟩ := gd
          have g0 : g ≠ 0 := fun y => by rw [y, Nat.zero_mul] at hk; omega
          have k0 : k ≠ 0 := fun y => by rw [y, Nat.mul_zero] at hk; omega
          have gne : k ≠ 1 := fun y => by
            rw [y, Nat.mul_one] at hk
            rw [← hk] at ga
            exact c (Int.natAbs_dvd_natAbs.mp ga)
          by_cases le : g ≤ k
          · refine hp (g : Int) (by omega) ?_ ?_
            · rw [hn, hk]
              exact_mod_cast Nat.mul_le_mul_left g le
            · rw [hn, hk]
              exact ⟨(k : Int), by push_cast; rfl⟩
          · refine hp (k : Int) (by omega) ?_ ?_
            · rw [hn, hk]
              exact_mod_cast Nat.mul_le_mul_right k (by omega : k ≤ g)
            · rw [hn, hk]
              exact ⟨(g : Int), by push_cast; rw [Int.mul_comm]⟩
      have d' : p.natAbs ∣ a.natAbs * b.natAbs := by
        rw [← Int.natAbs_mul]
        exact Int.natAbs_dvd_natAbs.mpr d
      exact Int.natAbs_dvd_natAbs.mp (Nat.Coprime.dvd_of_dvd_mul_left g1 d')
/-- sums over a list of places -/
def sm (U : List Nat) (f : Nat → Int) : Int := match U with
  | [] => 0
  | j :: r => f j + sm r f
theorem sm_congr {f g : Nat → Int} : ∀ {U : List Nat}, (∀ j ∈ U, f j = g j) → sm U f = sm U g
  | [], _ => rfl
  | j :: r, h => by
    show f j + sm r f = g j + sm r g
    rw [h j List.mem_cons_self, sm_congr fun j hj => h j (List.mem_cons_of_mem _ hj)]
theorem sm_add (f g : Nat → Int) : ∀ U : List Nat, sm U (fun j => f j + g j) = sm U f + sm U g
  | [] => rfl
  | j :: r => by
    show f j + g j + sm r (fun j => f j + g j) = f j + sm r f + (g j + sm r g)
    rw [sm_add f g r]
    omega
theorem sm_mul (a : Int) (f : Nat → Int) : ∀ U : List Nat, sm U (fun j => a * f j) = a * sm U f
  | [] => by show (0 : Int) = a * 0; rw [Int.mul_zero]
  | j :: r => by
    show a * f j + sm r (fun j => a * f j) = a * (f j + sm r f)
    rw [sm_mul a f r, Int.mul_add]
theorem sm_zero (U : List Nat) : sm U (fun _ => 0) = 0 := by
  induction U with
  | nil => rfl
  | cons j r ih => show 0 + sm r _ = 0; rw [ih]; rfl
theorem sm_swap (f : Nat → Nat → Int) (V : List Nat) : ∀ U : List Nat, sm U (fun i => sm V fun j => f i j) = sm V fun j => sm U fun i => f i j
  | [] => by show (0 : Int) = sm V fun j => 0; rw [sm_zero]
  | i :: r => by
    show sm V (fun j => f i j) + sm r (fun i => sm V fun j => f i j) = sm V fun j => f i j + sm r fun i => f i j
    rw [sm_swap f V r, ← sm_add]
theorem sm_dvd {p : Int} {f : Nat → Int} : ∀ {U : List Nat}, (∀ j ∈ U, p ∣ f j) → p ∣ sm U f
  | [], _ => Int.dvd_zero p
  | j :: r, h => Int.dvd_add (h j List.mem_cons_self) (sm_dvd fun j hj => h j (List.mem_cons_of_mem _ hj))
/-- one place out -/
theorem sm_erase {f : Nat → Int} {j0 : Nat} : ∀ {U : List Nat}, j0 ∈ U → sm U f = f j0 + sm (U.erase j0) f
  | j :: r, h => by
    by_cases e : j = j0
    · subst e
      rw [List.erase_cons_head]
      rfl
    · rw [List.erase_cons_tail (by simpa using e)]
      show f j + sm r f = f j0 + (f j + sm (r.erase j0) f)
      rw [sm_erase (by rcases List.mem_cons.mp h with z | z; exact absurd z.symm e; exact z)]
      omega
/-- fewer forms than unknowns: a common zero that is not zero modulo p -/
theorem ns {p : Int} (hp : IsP p) : ∀ (fs : List (Nat → Int)) (U : List Nat), U.Nodup → fs.length < U.length → ∃ c : Nat → Int, (∃ j ∈ U, ¬ p ∣ c j) ∧ (∀ j, j ∉ U → c j = 0) ∧ ∀ f ∈ fs, p ∣ sm U fun j => f j * c j
  | [], U, nd, hl => by
    match U, hl with
    | u :: r, _ =>
      refine ⟨fun j => if j = u then 1 else 0, ⟨u, List.mem_cons_self, ?_⟩, fun j hj => if_neg (fun z : j = u => hj (by rw [z]; exact List.mem_cons_self)), fun f hf => by cases hf⟩
      show ¬ p ∣ if u = u then 1 else 0
      rw [if_pos rfl]
      intro d
      rcases hp with rfl | ⟨h2, _⟩
      · rw [Int.zero_dvd] at d; omega
      · have := Int.le_of_dvd (by decide) d
        omega
  | f :: fs, U, nd, hl => by
    have hl' : fs.length + 1 < U.length := hl
    by_cases al : ∀ j ∈ U, p ∣ f j
    · obtain ⟨c, c1, c2, c3⟩ := ns hp fs U nd (by omega)
      refine ⟨c, c1, c2, fun g hg => ?_⟩
      rcases List.mem_cons.mp hg with rfl | hg
      · exact sm_dvd fun j hj => Int.dvd_trans (al j hj) (Int.dvd_mul_right _ _)
      · exact c3 g hg
    · obtain ⟨j0, hj0, nd0⟩ : ∃ j0, j0 ∈ U ∧ ¬ p ∣ f j0 := by
        refine Classical.byContradiction fun z => al fun j hj => Classical.byContradiction fun y => z ⟨j, hj, y⟩
      have ndE := nd.erase j0
      have lE : (U.erase j0).length = U.length - 1 := List.length_erase_of_mem hj0
      obtain ⟨c, ⟨j1, hj1, c1⟩, c2, c3⟩ := ns hp (fs.map fun g j => f j0 * g j - f j * g j0) (U.erase j0) ndE (by rw [List.length_map]; omega)
      have out : j0 ∉ U.erase j0 := fun z => absurd rfl ((List.Nodup.mem_erase_iff nd).mp z).1
      refine ⟨fun j => if j = j0 then - sm (U.erase j0) (fun j => f j * c j) else f j0 * c j, ⟨j1, List.mem_of_mem_erase hj1, ?_⟩, fun j hj => ?_, fun g hg => ?_⟩
      · have ne : j1 ≠ j0 := fun z => out (by subst z; exact hj1)
        show ¬ p ∣ if j1 = j0 then _ else _
        rw [if_neg ne]
        intro d
        rcases isP_euclid hp d with z | z
        · exact nd0 z
        · exact c1 z
      · have ne : j ≠ j0 := fun z => hj (by rw [z]; exact hj0)
        show (if j = j0 then _ else _) = 0
        rw [if_neg ne, c2 j (fun z => hj (List.mem_of_mem_erase z)), Int.mul_zero]
      · rw [sm_erase hj0]
        show p ∣ g j0 * (if j0 = j0 then _ else _) + _
        rw [if_pos rfl]
        have e : sm (U.erase j0) (fun j => g j * (if j = j0 then - sm (U.erase j0) (fun j => f j * c j) else f j0 * c j)) = f j0 * sm (U.erase j0) (fun j => g j * c j) := by
          rw [← sm_mul]
          refine sm_congr fun j hj => ?_
          rw [if_neg (fun z : j = j0 => out (by subst z; exact hj))]
          grind
        rw [e]
        rcases List.mem_cons.mp hg with rfl | hg
        · rw [show g j0 * -sm (U.erase j0) (fun j => g j * c j) + g j0 * sm (U.erase j0) (fun j => g j * c j) = 0 by grind]
          exact Int.dvd_zero p
        · have h3 := c3 _ (List.mem_map.mpr ⟨g, hg, rfl⟩)
          have e2 : sm (U.erase j0) (fun j => (f j0 * g j - f j * g j0) * c j) = g j0 * -sm (U.erase j0) (fun j => f j * c j) + f j0 * sm (U.erase j0) (fun j => g j * c j) := by
            rw [Int.mul_neg, ← Int.neg_mul, ← sm_mul, ← sm_mul, ← sm_add]
            refine sm_congr fun j hj => ?_
            grind
          rw [← e2]
          exact h3
  termination_by fs => fs.length
end Ef
end
section
/-! M8: mathematics: independent columns, rows -/
namespace Ef
open PySem PySem.Spec PyProof.Rows L2 Evl
/-- the columns U are independent modulo p, looked at in the rows R -/
def Ind (p : Int) (R : List Nat) (X : NF) (U : List Nat) : Prop := ∀ c : Nat → Int, (∀ i ∈ R, p ∣ sm U fun j => X i j * c j) → ∀ j ∈ U, p ∣ c j
def tr (X : NF) : NF := fun i j => X j i
theorem ind_of_tr {p : Int} (hp : IsP p) {R U : List Nat} {X : NF} (nR : R.Nodup) (nU : U.Nodup) (l : R.length = U.length) (h : Ind p U (tr X) R) : Ind p R X U := by
  intro c hc j0 hj0
  refine Classical.byContradiction fun nd => ?_
  have lE : (U.erase j0).length = U.length - 1 := List.length_erase_of_mem hj0
  have lU : 0 < U.length := List.length_pos_of_mem hj0
  obtain ⟨t, ⟨i1, hi1, t1⟩, _, t3⟩ := ns hp ((U.erase j0).map fun j i => X i j) R nR (by rw [List.length_map]; omega)
  refine t1 (h t (fun j hj => ?_) i1 hi1)
  have t3' : ∀ j ∈ U.erase j0, p ∣ sm R fun i => X i j * t i := fun j hj => t3 _ (List.mem_map.mpr ⟨j, hj, rfl⟩)
  show p ∣ sm R fun i => X i j * t i
  by_cases e : j = j0
  · subst e
    have s1 : p ∣ sm U fun j => c j * sm R fun i => X i j * t i := by
      have e1 : (sm U fun j => c j * sm R fun i => X i j * t i) = sm R fun i => t i * sm U fun j => X i j * c j := by
        have a1 : (sm U fun j => c j * sm R fun i => X i j * t i) = sm U fun j => sm R fun i => c j * (X i j * t i) := sm_congr fun j _ => (sm_mul _ _ _).symm
        have a2 : (sm R fun i => t i * sm U fun j => X i j * c j) = sm R fun i => sm U fun j => t i * (X i j * c j) := sm_congr fun i _ => (sm_mul _ _ _).symm
        rw [a1, a2, sm_swap]
        refine sm_congr fun i _ => sm_congr fun j _ => ?_
        grind
      rw [e1]
      exact sm_dvd fun i hi => Int.dvd_trans (hc i hi) (Int.dvd_mul_left _ _)
    rw [sm_erase hj0] at s1
    have s2 : p ∣ sm (U.erase j) fun j => c j * sm R fun i => X i j * t i := sm_dvd fun k hk => Int.dvd_trans (t3' k hk) (Int.dvd_mul_left _ _)
    have s3 : p ∣ c j * sm R fun i => X i j * t i := by
      have := Int.dvd_sub s1 s2
      rwa [Int.add_sub_cancel] at this
    rcases isP_euclid hp s3 with z | z
    · exact absurd z nd
    · exact z
  · exact t3' j ((List.Nodup.mem_erase_iff nU).mpr ⟨e, hj⟩)
theorem ind_tr {p : Int} (hp : IsP p) {R U : List Nat} {X : NF} (nR : R.Nodup) (nU : U.Nodup) (l : R.length = U.length) : Ind p R X U ↔ Ind p U (tr X) R :=
  ⟨fun h => ind_of_tr (X := tr X) hp nU nR l.symm h, fun h => ind_of_tr hp nR nU l h⟩
/-- what a rank is: some columns P are independent, and so many forms have the same zeros -/
structure RkIs (p : Int) (R : List Nat) (X : NF) (U : List Nat) (s : Nat) : Prop where
  piv : ∃ P : List Nat, P.Nodup ∧ (∀ j ∈ P, j ∈ U) ∧ P.length = s ∧ Ind p R X P
  forms : ∃ fs : List (Nat → Int), fs.length = s ∧ ∀ c : Nat → Int, (∀ f ∈ fs, p ∣ sm U fun j => f j * c j) → ∀ i ∈ R, p ∣ sm U fun j => X i j * c j
/-- a longer list sums the same where the rest is zero -/
theorem sm_sub {P : List Nat} {f : Nat → Int} : ∀ {U : List Nat}, U.Nodup → P.Nodup → (∀ j ∈ P, j ∈ U) → (∀ j ∈ U, j ∉ P → f j = 0) → sm U f = sm P f := by
  induction P with
  | nil =>
    intro U _ _ _ z
    rw [show sm U f = sm U (fun _ => 0) from sm_congr fun j hj => z j hj (by simp), sm_zero]
    rfl
  | cons a P ih =>
    intro U nU nP hs z
    have ha := hs a List.mem_cons_self
    have nP' := List.nodup_cons.mp nP
    rw [sm_erase ha]
    show _ = f a + sm P f
    rw [ih (U := U.erase a) (nU.erase a) nP'.2 (fun j hj => (List.Nodup.mem_erase_iff nU).mpr ⟨fun e => nP'.1 (e ▸ hj), hs j (List.mem_cons_of_mem _ hj)⟩) fun j hj hn => z j (List.mem_of_mem_erase hj) fun y => by
      rcases List.mem_cons.mp y with y | y
      · exact absurd y ((List.Nodup.mem_erase_iff nU).mp hj).1
      · exact hn y]
theorem Ind.sub {p : Int} {R : List Nat} {X : NF} {U P : List Nat} (h : Ind p R X U) (nU : U.Nodup) (nP : P.Nodup) (hs : ∀ j ∈ P, j ∈ U) : Ind p R X P := by
  intro c hc j hj
  have key := h (fun j => if j ∈ P then c j else 0) (fun i hi => by
    rw [sm_sub nU nP hs (fun j _ hn => by rw [if_neg hn, Int.mul_zero])]
    rw [show sm P (fun j => X i j * if j ∈ P then c j else 0) = sm P fun j => X i j * c j from sm_congr fun j hj => by rw [if_pos hj]]
    exact hc i hi) j (hs j hj)
  rwa [if_pos hj] at key
/-- independent columns are no more than the forms -/
theorem RkIs.le {p : Int} (hp : IsP p) {R : List Nat} {X : NF} {U P : List Nat} {s : Nat} (h : RkIs p R X U s) (nU : U.Nodup) (nP : P.Nodup) (hs : ∀ j ∈ P, j ∈ U) (hi : Ind p R X P) : P.length ≤ s := by
  obtain ⟨fs, fl, fz⟩ := h.forms
  refine Classical.byContradiction fun z => ?_
  obtain ⟨c, ⟨j, hj, c1⟩, c2, c3⟩ := ns hp fs P nP (by omega)
  refine c1 (hi c (fun i hi' => ?_) j hj)
  have a := fz c (fun f hf => by
    rw [sm_sub nU nP hs (fun j _ hn => by rw [c2 j hn, Int.mul_zero])]
    exact c3 f hf) i hi'
  rwa [sm_sub nU nP hs (fun j _ hn => by rw [c2 j hn, Int.mul_zero])] at a
theorem RkIs.uniq {p : Int} (hp : IsP p) {R : List Nat} {X : NF} {U : List Nat} {s s' : Nat} (nU : U.Nodup) (h : RkIs p R X U s) (h' : RkIs p R X U s') : s = s' := by
  obtain ⟨P, n, a, l, i⟩ := h.piv
  obtain ⟨P', n', a', l', i'⟩ := h'.piv
  have h1 := h.le hp nU n' a' i'
  have h2 := h'.le hp nU n a i
  omega
/-- full rank iff independent -/
theorem RkIs.full {p : Int} (hp : IsP p) {R : List Nat} {X : NF} {U : List Nat} {s : Nat} (nU : U.Nodup) (h : RkIs p R X U s) : s = U.length ↔ Ind p R X U := by
  refine ⟨fun e => ?_, fun hi => ?_⟩
  · obtain ⟨P, n, a, l, i⟩ := h.piv
    intro c hc j hj
    have sub : ∀ k ∈ U, k ∈ P := fun k hk => Classical.byContradiction fun z => by
      have := List.Nodup.length_le_of_subset (l₁ := k :: P) (l₂ := U) (List.nodup_cons.mpr ⟨z, n⟩) (fun x hx => by
        rcases List.mem_cons.mp hx with y | y
        · rw [y]; exact hk
        · exact a x y)
      simp at this
      omega
    refine i c (fun r hr => ?_) j (sub j hj)
    rw [← sm_sub nU n a (fun j hj hn => absurd (sub j hj) hn)]
    exact hc r hr
  · have h1 := h.le hp nU nU (fun _ hj => hj) hi
    obtain ⟨P, n, a, l, i⟩ := h.piv
    have := List.Nodup.length_le_of_subset (l₁ := P) (l₂ := U) n (fun x hx => a x hx)
    omega
end Ef
end
section
/-! M9: mathematics: kernels and duals -/
namespace Ef
open PySem PySem.Spec PyProof.Rows L2 Evl
theorem sm_part {W J Q : List Nat} {f : Nat → Int} (nW : W.Nodup) (nJ : J.Nodup) (nQ : Q.Nodup) (hJ : ∀ j ∈ J, j ∈ W) (hQ : ∀ j ∈ Q, j ∈ W) (hd : ∀ j ∈ W, j ∈ J ↔ j ∉ Q) : sm W f = sm J f + sm Q f := by
  have e : sm W f = sm W fun j => (if j ∈ J then f j else 0) + if j ∈ Q then f j else 0 := sm_congr fun j hj => by
    by_cases c : j ∈ J
    · rw [if_pos c, if_neg ((hd j hj).mp c), Int.add_zero]
    · rw [if_neg c, if_pos (Classical.byContradiction fun z => c ((hd j hj).mpr z)), Int.zero_add]
  rw [e, sm_add, sm_sub nW nJ hJ (fun j _ hn => if_neg hn), sm_sub nW nQ hQ (fun j _ hn => if_neg hn)]
  rw [show sm J (fun j => if j ∈ J then f j else 0) = sm J f from sm_congr fun j hj => if_pos hj, show sm Q (fun j => if j ∈ Q then f j else 0) = sm Q f from sm_congr fun j hj => if_pos hj]
theorem sm_delta {J : List Nat} (nJ : J.Nodup) (t : Nat → Int) (k : Nat) : (sm J fun a => t a * if k = a then 1 else 0) = if k ∈ J then t k else 0 := by
  by_cases c : k ∈ J
  · rw [sm_erase c, if_pos rfl, if_pos c, Int.mul_one]
    rw [show (sm (J.erase k) fun a => t a * if k = a then 1 else 0) = sm (J.erase k) fun _ => 0 from sm_congr fun a ha => by
      rw [if_neg (fun z : k = a => ((List.Nodup.mem_erase_iff nJ).mp ha).1 z.symm), Int.mul_zero], sm_zero, Int.add_zero]
  · rw [if_neg c, show (sm J fun a => t a * if k = a then 1 else 0) = sm J fun _ => 0 from sm_congr fun a ha => by
      rw [if_neg (fun z : k = a => c (by rw [z]; exact ha)), Int.mul_zero], sm_zero]
/-- sum of products, the other way round -/
theorem sm_mulsw (a : Nat → Int) (f : Nat → Nat → Int) (t : Nat → Int) (U V : List Nat) : (sm U fun i => a i * sm V fun j => f i j * t j) = sm V fun j => (sm U fun i => a i * f i j) * t j := by
  have a1 : (sm U fun i => a i * sm V fun j => f i j * t j) = sm U fun i => sm V fun j => a i * (f i j * t j) := sm_congr fun i _ => (sm_mul _ _ _).symm
  have a2 : (sm V fun j => (sm U fun i => a i * f i j) * t j) = sm V fun j => sm U fun i => t j * (a i * f i j) := sm_congr fun j _ => by rw [Int.mul_comm, ← sm_mul]
  rw [a1, a2, sm_swap]
  exact sm_congr fun j _ => sm_congr fun i _ => by grind
/-- L and its inverse, free and other places, the rows' kernel -/
structure DualD (p : Int) (w : Nat) (R : List Nat) (A L G : NF) (J Q : List Nat) : Prop where
  LG : ∀ i j, i < w → j < w → (sm (List.range w) fun k => L i k * G k j) = if i = j then 1 else 0
  GL : ∀ i j, i < w → j < w → (sm (List.range w) fun k => G i k * L k j) = if i = j then 1 else 0
  nJ : J.Nodup
  nQ : Q.Nodup
  hJ : ∀ j ∈ J, j < w
  hQ : ∀ j ∈ Q, j < w
  hd : ∀ j, j < w → (j ∈ J ↔ j ∉ Q)
  ker : ∀ x : Nat → Int, (∀ i ∈ R, p ∣ sm (List.range w) fun j => A i j * x j) ↔ ∀ k ∈ Q, p ∣ sm (List.range w) fun j => G k j * x j
section
variable {p : Int} {w : Nat} {R J Q : List Nat} {A L G : NF}
theorem DualD.Gof (D : DualD p w R A L G J Q) {V : List Nat} (nV : V.Nodup) (hV : ∀ j ∈ V, j < w) (t : Nat → Int) (k : Nat) (hk : k < w) : (sm (List.range w) fun i => G k i * sm V fun a => L i a * t a) = if k ∈ V then t k else 0 := by
  rw [sm_mulsw]
  rw [show (sm V fun a => (sm (List.range w) fun i => G k i * L i a) * t a) = sm V fun a => t a * if k = a then 1 else 0 from sm_congr fun a ha => by rw [D.GL k a hk (hV a ha), Int.mul_comm]]
  exact sm_delta nV t k
theorem DualD.Lof (D : DualD p w R A L G J Q) {V : List Nat} (nV : V.Nodup) (hV : ∀ j ∈ V, j < w) (t : Nat → Int) (k : Nat) (hk : k < w) : (sm (List.range w) fun i => L k i * sm V fun a => G i a * t a) = if k ∈ V then t k else 0 := by
  rw [sm_mulsw]
  rw [show (sm V fun a => (sm (List.range w) fun i => L k i * G i a) * t a) = sm V fun a => t a * if k = a then 1 else 0 from sm_congr fun a ha => by rw [D.LG k a hk (hV a ha), Int.mul_comm]]
  exact sm_delta nV t k
theorem DualD.part (D : DualD p w R A L G J Q) (f : Nat → Int) : sm (List.range w) f = sm J f + sm Q f :=
  sm_part List.nodup_range D.nJ D.nQ (fun j hj => List.mem_range.mpr (D.hJ j hj)) (fun j hj => List.mem_range.mpr (D.hQ j hj)) fun j hj => D.hd j (List.mem_range.mp hj)
/-- B is independent iff the other columns are, among the kernel's rows -/
theorem DualD.ind (hp : IsP p) (D : DualD p w R A L G J Q) {B C : List Nat} (nB : B.Nodup) (nC : C.Nodup) (hB : ∀ j ∈ B, j < w) (hC : ∀ j ∈ C, j < w) (hc : ∀ j, j < w → (j ∈ B ↔ j ∉ C)) (l : C.length = J.length) :
    Ind p R A B ↔ Ind p J (tr L) C := by
  rw [ind_tr hp D.nJ nC l.symm]
  have nW : (List.range w).Nodup := List.nodup_range
  constructor
  · intro hA t ht a ha
    have hz : ∀ i, i < w → p ∣ sm J fun a => L i a * t a := by
      have hx : ∀ k ∈ Q, p ∣ sm (List.range w) fun j => G k j * if j ∈ B then (sm J fun a => L j a * t a) else 0 := fun k hk => by
        have e := D.Gof D.nJ D.hJ t k (D.hQ k hk)
        rw [if_neg (fun z => (D.hd k (D.hQ k hk)).mp z hk)] at e
        have d : p ∣ sm (List.range w) fun j => G k j * ((sm J fun a => L j a * t a) - if j ∈ B then (sm J fun a => L j a * t a) else 0) := sm_dvd fun j hj => by
          by_cases c : j ∈ B
          · rw [if_pos c, Int.sub_self, Int.mul_zero]; exact Int.dvd_zero p
          · rw [if_neg c, Int.sub_zero]
            exact Int.dvd_trans (ht j (Classical.byContradiction fun z => c ((hc j (List.mem_range.mp hj)).mpr z))) (Int.dvd_mul_left _ _)
        have e2 : (sm (List.range w) fun j => G k j * ((sm J fun a => L j a * t a) - if j ∈ B then (sm J fun a => L j a * t a) else 0)) = (sm (List.range w) fun j => G k j * sm J fun a => L j a * t a) + (-1) * sm (List.range w) fun j => G k j * if j ∈ B then (sm J fun a => L j a * t a) else 0 := by
          rw [← sm_mul, ← sm_add]
          exact sm_congr fun j _ => by grind
        rw [e2, e, Int.zero_add] at d
        have := (Int.dvd_neg).mpr d
        rwa [Int.neg_mul, Int.one_mul, Int.neg_neg] at this
      have hx2 := (D.ker _).mpr hx
      intro i hi
      by_cases c : i ∈ B
      · refine hA (fun i => sm J fun a => L i a * t a) (fun r hr => ?_) i c
        have h2 := hx2 r hr
        rw [sm_sub nW nB (fun j hj => List.mem_range.mpr (hB j hj)) (fun j _ hn => by rw [if_neg hn, Int.mul_zero])] at h2
        rwa [show (sm B fun j => A r j * if j ∈ B then (sm J fun a => L j a * t a) else 0) = sm B fun j => A r j * sm J fun a => L j a * t a from sm_congr fun j hj => by rw [if_pos hj]] at h2
      · exact ht i (Classical.byContradiction fun z => c ((hc i hi).mpr z))
    have e := D.Gof D.nJ D.hJ t a (D.hJ a ha)
    rw [if_pos ha] at e
    rw [← e]
    exact sm_dvd fun i hi => Int.dvd_trans (hz i (List.mem_range.mp hi)) (Int.dvd_mul_left _ _)
  · intro hL c hcB
    have hx : ∀ r ∈ R, p ∣ sm (List.range w) fun j => A r j * if j ∈ B then c j else 0 := fun r hr => by
      rw [sm_sub nW nB (fun j hj => List.mem_range.mpr (hB j hj)) (fun j _ hn => by rw [if_neg hn, Int.mul_zero]),
        show (sm B fun j => A r j * if j ∈ B then c j else 0) = sm B fun j => A r j * c j from sm_congr fun j hj => by rw [if_pos hj]]
      exact hcB r hr
    have hq := (D.ker _).mp hx
    have hy : ∀ i, i < w → (sm (List.range w) fun k => L i k * sm (List.range w) fun a => G k a * if a ∈ B then c a else 0) = if i ∈ B then c i else 0 := fun i hi => by
      rw [D.Lof nW (fun j hj => List.mem_range.mp hj) _ i hi, if_pos (List.mem_range.mpr hi)]
    have hJz := hL (fun k => sm (List.range w) fun a => G k a * if a ∈ B then c a else 0) (fun i hi => by
      have e := hy i (hC i hi)
      rw [if_neg (fun z => (hc i (hC i hi)).mp z hi), D.part] at e
      have d : p ∣ sm Q fun k => L i k * sm (List.range w) fun a => G k a * if a ∈ B then c a else 0 := sm_dvd fun k hk => Int.dvd_trans (hq k hk) (Int.dvd_mul_left _ _)
      have := Int.dvd_neg.mpr d
      show p ∣ sm J fun k => L i k * sm (List.range w) fun a => G k a * if a ∈ B then c a else 0
      rwa [show (sm J fun k => L i k * sm (List.range w) fun a => G k a * if a ∈ B then c a else 0) = -(sm Q fun k => L i k * sm (List.range w) fun a => G k a * if a ∈ B then c a else 0) by omega])
    intro j hj
    have e := hy j (hB j hj)
    rw [if_pos hj] at e
    rw [← e, D.part]
    exact Int.dvd_add (sm_dvd fun k hk => Int.dvd_trans (hJz k hk) (Int.dvd_mul_left _ _)) (sm_dvd fun k hk => Int.dvd_trans (hq k hk) (Int.dvd_mul_left _ _))
end
end Ef
end
section
/-! M10: mathematics: the two ranks -/
namespace Ef
open PySem PySem.Spec PyProof.Rows L2 Evl
section
variable {p : Int} {w : Nat} {R J Q : List Nat} {A L G : NF} {s : Nat}
theorem DualD.rankA (hp : IsP p) (D : DualD p w R A L G J Q) (h : RkIs p R A (List.range w) s) : s = Q.length := by
  have nW : (List.range w).Nodup := List.nodup_range
  have a : s ≤ Q.length := by
    obtain ⟨P, nP, hP, lP, iP⟩ := h.piv
    refine Classical.byContradiction fun z => ?_
    obtain ⟨c, ⟨j, hj, c1⟩, c2, c3⟩ := ns hp (Q.map fun k j => G k j) P nP (by rw [List.length_map]; omega)
    refine c1 (iP c (fun i hi => ?_) j hj)
    have hx := (D.ker c).mpr (fun k hk => by
      rw [sm_sub nW nP hP (fun j _ hn => by rw [c2 j hn, Int.mul_zero])]
      exact c3 _ (List.mem_map.mpr ⟨k, hk, rfl⟩)) i hi
    rwa [sm_sub nW nP hP (fun j _ hn => by rw [c2 j hn, Int.mul_zero])] at hx
  have b : Q.length ≤ s := by
    obtain ⟨fs, lf, hf⟩ := h.forms
    refine Classical.byContradiction fun z => ?_
    obtain ⟨t, ⟨k, hk, t1⟩, t2, t3⟩ := ns hp (fs.map fun f k => sm (List.range w) fun j => f j * L j k) Q D.nQ (by rw [List.length_map]; omega)
    have hx := hf (fun j => sm Q fun k => L j k * t k) (fun f hf => by
      rw [sm_mulsw]
      exact t3 _ (List.mem_map.mpr ⟨f, hf, rfl⟩))
    have h2 := (D.ker _).mp hx k hk
    rw [D.Gof D.nQ D.hQ t k (D.hQ k hk), if_pos hk] at h2
    exact t1 h2
  omega
theorem DualD.rankN (hp : IsP p) (D : DualD p w R A L G J Q) (h : RkIs p J (tr L) (List.range w) s) : s = J.length := by
  have nW : (List.range w).Nodup := List.nodup_range
  have a : s ≤ J.length := by
    obtain ⟨P, nP, hP, lP, iP⟩ := h.piv
    refine Classical.byContradiction fun z => ?_
    obtain ⟨c, ⟨j, hj, c1⟩, c2, c3⟩ := ns hp (J.map fun k j => L j k) P nP (by rw [List.length_map]; omega)
    exact c1 (iP c (fun i hi => c3 _ (List.mem_map.mpr ⟨i, hi, rfl⟩)) j hj)
  have b : J.length ≤ s := by
    obtain ⟨fs, lf, hf⟩ := h.forms
    refine Classical.byContradiction fun z => ?_
    obtain ⟨t, ⟨k, hk, t1⟩, t2, t3⟩ := ns hp (fs.map fun f k => sm (List.range w) fun j => f j * G k j) J D.nJ (by rw [List.length_map]; omega)
    have hx := hf (fun j => sm J fun k => G k j * t k) (fun f hf => by
      rw [sm_mulsw]
      exact t3 _ (List.mem_map.mpr ⟨f, hf, rfl⟩)) k hk
    rw [show (sm (List.range w) fun j => tr L k j * sm J fun k => G k j * t k) = if k ∈ J then t k else 0 by
      rw [sm_mulsw]
      rw [show (sm J fun a => (sm (List.range w) fun i => tr L k i * G a i) * t a) = sm J fun a => t a * if k = a then 1 else 0 from sm_congr fun a ha => by
        rw [show (sm (List.range w) fun i => tr L k i * G a i) = if a = k then 1 else 0 by
          rw [← D.GL a k (D.hJ a ha) (D.hJ k hk)]
          exact sm_congr fun i _ => Int.mul_comm _ _]
        rw [Int.mul_comm]
        by_cases c : a = k
        · rw [if_pos c, if_pos c.symm]
        · rw [if_neg c, if_neg (fun z => c z.symm)]]
      exact sm_delta D.nJ t k, if_pos hk] at hx
    exact t1 hx
  omega
theorem DualD.count (D : DualD p w R A L G J Q) : J.length + Q.length = w := by
  have h := D.part fun _ => 1
  have e : ∀ U : List Nat, sm U (fun _ => 1) = (U.length : Int) := by
    intro U
    induction U with
    | nil => rfl
    | cons a r ih =>
      show 1 + sm r (fun _ => 1) = ((r.length + 1 : Nat) : Int)
      rw [ih]
      omega
  rw [e, e, e, List.length_range] at h
  omega
end
end Ef
end
section
/-! M11: mathematics: what rankF answers -/
namespace Ef
open PySem PySem.Spec PyProof.Rows L2 Evl
theorem modc_dvd (p x : Int) : p ∣ modc p x - x := by
  unfold modc
  split
  · exact ⟨-(x / p), by have := Int.mul_ediv_add_emod x p; grind⟩
  · rw [Int.sub_self]; exact Int.dvd_zero p
theorem modc_iff {p x : Int} : p ∣ modc p x ↔ p ∣ x := by
  have h := modc_dvd p x
  constructor
  · intro d
    have := Int.dvd_sub d h
    rwa [show modc p x - (modc p x - x) = x by omega] at this
  · intro d
    have := Int.dvd_add h d
    rwa [Int.sub_add_cancel] at this
def Red (p : Int) (x : Int) : Prop := 0 < p → 0 ≤ x ∧ x < p
theorem modc_red (p x : Int) : Red p (modc p x) := fun h => by
  unfold modc
  rw [if_pos h]
  exact ⟨Int.emod_nonneg x (by omega), Int.emod_lt_of_pos x h⟩
theorem Red.nz {p x : Int} (h : Red p x) (h0 : 0 ≤ p) : x ≠ 0 ↔ ¬ p ∣ x := by
  constructor
  · intro n d
    by_cases c : p = 0
    · rw [c, Int.zero_dvd] at d; exact n d
    · obtain ⟨h1, h2⟩ := h (by omega)
      have := Int.le_of_dvd (by omega) d
      omega
  · intro n z
    rw [z] at n
    exact n (Int.dvd_zero p)
/-- the matrix half reduced: t columns seen, s pivots -/
structure Ech (p : Int) (m n t : Nat) (X Y : IM) (s : Nat) : Prop where
  S : Shp m n Y
  red : ∀ i j, Red p (ent Y i j)
  le : s ≤ m
  ker : ∀ c : Nat → Int, (∀ i, i < m → p ∣ sm (List.range n) fun j => ent Y i j * c j) ↔ ∀ i, i < m → p ∣ sm (List.range n) fun j => ent X i j * c j
  zero : ∀ i, s ≤ i → i < m → ∀ j, j < t → p ∣ ent Y i j
  piv : ∃ P : List Nat, P.Nodup ∧ (∀ j ∈ P, j < t) ∧ P.length = s ∧ ∀ c : Nat → Int, (∀ i, i < s → p ∣ sm P fun j => ent Y i j * c j) → ∀ j ∈ P, p ∣ c j
theorem ent_elim {p : Int} {m n s at_ : Nat} {Z : IM} (S : Shp m n Z) (hs : s < m) (ha : at_ < n) (i j : Nat) (hi : i < m) (hj : j < n) : ent (elimM p Z s at_ m) i j = if s < i then modc p (ent Z i j * ent Z s at_ - ent Z s j * ent Z i at_) else ent Z i j := by
  show ((elimM p Z s at_ m).getD i []).getD j 0 = _
  rw [elimM_row (by rw [S.1]; exact hi)]
  by_cases c : s < i
  · rw [if_pos ⟨c, hi⟩, if_pos c, lessRow_get _ _ _ _ _ (by rw [S.2 i hi, S.2 s hs]; exact Nat.le_refl _) (by rw [S.2 i hi, S.2 s hs]; exact Nat.le_refl _)]
    rfl
  · rw [if_neg (fun z => c z.1), if_neg c]
    rfl
theorem Ech.start {p : Int} {m n : Nat} {X : IM} (S : Shp m n X) (red : ∀ i j, Red p (ent X i j)) : Ech p m n 0 X X 0 :=
  ⟨S, red, Nat.zero_le _, fun _ => Iff.rfl, fun _ _ _ _ h => absurd h (Nat.not_lt_zero _), ⟨[], List.nodup_nil, fun j h => absurd h (by simp), rfl, fun _ _ j h => absurd h (by simp)⟩⟩
theorem red_zero (p : Int) : Red p 0 := fun h => ⟨Int.le_refl 0, h⟩
theorem Ech.step {p : Int} (hp : IsP p) (h0 : 0 ≤ p) {m n t : Nat} {X Y : IM} {s : Nat} (E : Ech p m n t X Y s) (ht : t < n) : Ech p m n (t + 1) X (rankStep p t (Y, s)).1 (rankStep p t (Y, s)).2 := by
  unfold rankStep
  have lY := E.S.1
  cases hk : firstK Y t s with
  | none =>
    show Ech p m n (t + 1) X Y s
    have z : ∀ i, s ≤ i → i < m → ent Y i t = 0 := fun i h1 h2 => by
      have e := List.head?_eq_none_iff.mp hk
      unfold placesL at e
      have e2 := List.map_eq_nil_iff.mp e
      have e3 := List.filter_eq_nil_iff.mp e2 (i - s) (List.mem_range.mpr (by omega))
      rw [show s + (i - s) = i by omega] at e3
      exact Classical.byContradiction fun y => e3 (decide_eq_true y)
    obtain ⟨P, a, b, c, d⟩ := E.piv
    refine ⟨E.S, E.red, E.le, E.ker, fun i h1 h2 j hj => ?_, P, a, fun j hj => Nat.lt_succ_of_lt (b j hj), c, d⟩
    by_cases e : j = t
    · rw [e, z i h1 h2]; exact Int.dvd_zero p
    · exact E.zero i h1 h2 j (by omega)
  | some k =>
    show Ech p m n (t + 1) X (elimM p (swapM Y s k) s t Y.length) (s + 1)
    have hk2 : s ≤ k ∧ k < m ∧ ent Y k t ≠ 0 := by
      have e := List.mem_of_head? hk
      unfold placesL at e
      obtain ⟨i, hi, e⟩ := List.mem_map.mp e
      obtain ⟨h1, h2⟩ := List.mem_filter.mp hi
      have h1 := List.mem_range.mp h1
      have h2 := of_decide_eq_true h2
      rw [e] at h2
      exact ⟨by omega, by omega, h2⟩
    obtain ⟨k1, k2, k3⟩ := hk2
    rw [lY]
    have hs : s < m := by omega
    have SZ := E.S.swap hs k2
    have eZ : ∀ i j, ent (swapM Y s k) i j = ent Y (sw s k i) j := fun i j => ent_swapM (by omega) (by omega) i j
    have eE : ∀ i j, i < m → j < n → ent (elimM p (swapM Y s k) s t m) i j = if s < i then modc p (ent Y (sw s k i) j * ent Y k t - ent Y k j * ent Y (sw s k i) t) else ent Y (sw s k i) j := fun i j hi hj => by
      rw [ent_elim SZ hs ht i j hi hj, eZ, eZ, eZ, eZ, sw_self]
    have nk : ¬ p ∣ ent Y k t := ((E.red k t).nz h0).mp k3
    have SE : Shp m n (elimM p (swapM Y s k) s t m) := SZ.elim
    refine ⟨SE, fun i j => ?_, by omega, fun c => ?_, fun i h1 h2 j hj => ?_, ?_⟩
    · by_cases c : i < m ∧ j < n
      · rw [eE i j c.1 c.2]
        split
        · exact modc_red _ _
        · exact E.red _ _
      · rw [ent_outS SE c]; exact red_zero p
    · rw [← E.ker c]
      -- a row of the new matrix, summed
      have rowE : ∀ i, i < m → s < i → ((p ∣ sm (List.range n) fun j => ent (elimM p (swapM Y s k) s t m) i j * c j) ↔ p ∣ ent Y k t * (sm (List.range n) fun j => ent Y (sw s k i) j * c j) - ent Y (sw s k i) t * sm (List.range n) fun j => ent Y k j * c j) := fun i hi hsi => by
        have d : p ∣ (sm (List.range n) fun j => ent (elimM p (swapM Y s k) s t m) i j * c j) - (ent Y k t * (sm (List.range n) fun j => ent Y (sw s k i) j * c j) - ent Y (sw s k i) t * sm (List.range n) fun j => ent Y k j * c j) := by
          have e : (sm (List.range n) fun j => ent (elimM p (swapM Y s k) s t m) i j * c j) - (ent Y k t * (sm (List.range n) fun j => ent Y (sw s k i) j * c j) - ent Y (sw s k i) t * sm (List.range n) fun j => ent Y k j * c j) = sm (List.range n) fun j => (ent (elimM p (swapM Y s k) s t m) i j - (ent Y (sw s k i) j * ent Y k t - ent Y k j * ent Y (sw s k i) t)) * c j := by
            rw [← sm_mul, ← sm_mul]
            have e3 : ∀ f g h : Nat → Int, sm (List.range n) f - (sm (List.range n) g - sm (List.range n) h) = sm (List.range n) fun j => f j + ((-1) * g j + h j) := fun f g h => by
              rw [sm_add, sm_add, sm_mul]; omega
            rw [e3]
            exact sm_congr fun j _ => by grind
          rw [e]
          refine sm_dvd fun j hj => ?_
          rw [eE i j hi (List.mem_range.mp hj), if_pos hsi]
          exact Int.dvd_trans (modc_dvd _ _) (Int.dvd_mul_right _ _)
        constructor
        · intro z
          have := Int.dvd_sub z d
          rwa [show ∀ a b : Int, a - (a - b) = b from fun a b => by omega] at this
        · intro z
          have := Int.dvd_add d z
          rwa [Int.sub_add_cancel] at this
      have rowU : ∀ i, i < m → ¬ s < i → (sm (List.range n) fun j => ent (elimM p (swapM Y s k) s t m) i j * c j) = sm (List.range n) fun j => ent Y (sw s k i) j * c j := fun i hi hsi => sm_congr fun j hj => by rw [eE i j hi (List.mem_range.mp hj), if_neg hsi]
      constructor
      · intro z
        have zk : p ∣ sm (List.range n) fun j => ent Y k j * c j := by
          have := z s hs
          rwa [rowU s hs (by omega), sw_self] at this
        have zs : ∀ i, i < m → p ∣ sm (List.range n) fun j => ent Y (sw s k i) j * c j := fun i hi => by
          by_cases hsi : s < i
          · have h1 := (rowE i hi hsi).mp (z i hi)
            have h2 := Int.dvd_add h1 (Int.dvd_trans zk (Int.dvd_mul_left (ent Y (sw s k i) t) _))
            rw [Int.sub_add_cancel] at h2
            exact (isP_euclid hp h2).resolve_left nk
          · have := z i hi
            rwa [rowU i hi hsi] at this
        intro i hi
        have := zs (sw s k i) (sw_lt hs k2 hi)
        rwa [sw_sw] at this
      · intro z i hi
        by_cases hsi : s < i
        · exact (rowE i hi hsi).mpr (Int.dvd_sub (Int.dvd_trans (z _ (sw_lt hs k2 hi)) (Int.dvd_mul_left _ _)) (Int.dvd_trans (z k k2) (Int.dvd_mul_left _ _)))
        · rw [rowU i hi hsi]
          exact z _ (sw_lt hs k2 hi)
    · rw [eE i j h2 (by omega), if_pos (by omega), modc_iff]
      by_cases e : j = t
      · rw [e, show ∀ a b : Int, a * b - b * a = 0 from fun a b => by grind]
        exact Int.dvd_zero p
      · exact Int.dvd_sub (Int.dvd_trans (E.zero _ (sw_ge k1 (by omega)) (sw_lt hs k2 h2) j (by omega)) (Int.dvd_mul_right _ _)) (Int.dvd_trans (E.zero k k1 k2 j (by omega)) (Int.dvd_mul_right _ _))
    · obtain ⟨P, a, b, l, d⟩ := E.piv
      have tP : t ∉ P := fun z => absurd (b t z) (by omega)
      refine ⟨t :: P, List.nodup_cons.mpr ⟨tP, a⟩, fun j hj => ?_, by rw [List.length_cons, l], fun c hc => ?_⟩
      · rcases List.mem_cons.mp hj with z | z
        · omega
        · have := b j z; omega
      · have bn : ∀ j ∈ P, j < n := fun j hj => by have := b j hj; omega
        have ct : p ∣ c t := by
          have h1 : p ∣ ent (elimM p (swapM Y s k) s t m) s t * c t + sm P fun j => ent (elimM p (swapM Y s k) s t m) s j * c j := hc s (by omega)
          have h2 : p ∣ sm P fun j => ent (elimM p (swapM Y s k) s t m) s j * c j := sm_dvd fun j hj => by
            rw [eE s j hs (bn j hj), if_neg (by omega), sw_self]
            exact Int.dvd_trans (E.zero k k1 k2 j (b j hj)) (Int.dvd_mul_right _ _)
          have h3 := Int.dvd_sub h1 h2
          rw [Int.add_sub_cancel, eE s t hs ht, if_neg (by omega), sw_self] at h3
          exact (isP_euclid hp h3).resolve_left nk
        intro j hj
        rcases List.mem_cons.mp hj with z | z
        · rw [z]; exact ct
        · refine d c (fun i hi => ?_) j z
          have h1 : p ∣ ent (elimM p (swapM Y s k) s t m) i t * c t + sm P fun j => ent (elimM p (swapM Y s k) s t m) i j * c j := hc i (by omega)
          have h2 := Int.dvd_sub h1 (Int.dvd_trans ct (Int.dvd_mul_left (ent (elimM p (swapM Y s k) s t m) i t) _))
          rw [Int.add_comm, Int.add_sub_cancel] at h2
          rwa [show (sm P fun j => ent (elimM p (swapM Y s k) s t m) i j * c j) = sm P fun j => ent Y i j * c j from sm_congr fun j hj => by
            rw [eE i j (by omega) (bn j hj), if_neg (by omega), sw_lo k1 hi]] at h2
theorem Ech.all {p : Int} (hp : IsP p) (h0 : 0 ≤ p) {m n : Nat} {X : IM} (S : Shp m n X) (red : ∀ i j, Red p (ent X i j)) : ∀ t, t ≤ n → Ech p m n t X (rankN p X t).1 (rankN p X t).2
  | 0, _ => Ech.start S red
  | t + 1, h => (Ech.all hp h0 S red t (by omega)).step hp h0 (by omega)
theorem Ech.rk {p : Int} {m n s : Nat} {X Y : IM} (E : Ech p m n n X Y s) : RkIs p (List.range m) (ent X) (List.range n) s := by
  have nW : (List.range n).Nodup := List.nodup_range
  obtain ⟨P, a, b, l, d⟩ := E.piv
  have hP : ∀ j ∈ P, j ∈ List.range n := fun j hj => List.mem_range.mpr (b j hj)
  refine ⟨⟨P, a, hP, l, fun c hc => ?_⟩, (List.range s).map fun i j => ent Y i j, by rw [List.length_map, List.length_range], fun c hc i hi => ?_⟩
  · have key : ∀ Z : IM, ∀ i, (sm (List.range n) fun j => ent Z i j * if j ∈ P then c j else 0) = sm P fun j => ent Z i j * c j := fun Z i => by
      rw [sm_sub nW a hP (fun j _ hn => by rw [if_neg hn, Int.mul_zero])]
      exact sm_congr fun j hj => by rw [if_pos hj]
    have h1 := (E.ker fun j => if j ∈ P then c j else 0).mpr fun i hi => by
      rw [key]
      exact hc i (List.mem_range.mpr hi)
    exact d c fun i hi => by
      have := h1 i (Nat.lt_of_lt_of_le hi E.le)
      rwa [key] at this
  · refine (E.ker c).mp (fun i hi => ?_) i (List.mem_range.mp hi)
    by_cases z : i < s
    · exact hc _ (List.mem_map.mpr ⟨i, List.mem_range.mpr z, rfl⟩)
    · exact sm_dvd fun j hj => Int.dvd_trans (E.zero i (by omega) hi j (List.mem_range.mp hj)) (Int.dvd_mul_right _ _)
end Ef
end
section
/-! M12: mathematics: rankF and the columns -/
namespace Ef
open PySem PySem.Spec PyProof.Rows L2 Evl
theorem sm_map (g : Nat → Nat) (f : Nat → Int) : ∀ U : List Nat, sm (U.map g) f = sm U fun k => f (g k)
  | [] => rfl
  | k :: r => by
    show f (g k) + sm (r.map g) f = f (g k) + sm r fun k => f (g k)
    rw [sm_map g f r]
theorem list_range (Cs : List Nat) : (List.range Cs.length).map (fun k => Cs.getD k 0) = Cs := by
  refine List.ext_getElem (by rw [List.length_map, List.length_range]) fun i h1 h2 => ?_
  rw [List.getElem_map, List.getElem_range, List.getD_eq_getElem?_getD, List.getElem?_eq_getElem h2]
  rfl
theorem shp_pick (p : Int) (M : IM) (Cs : List Nat) : Shp M.length Cs.length (pickM p M Cs) := by
  unfold pickM
  refine ⟨by rw [List.length_map], fun k hk => ?_⟩
  rw [List.getD_eq_getElem?_getD, List.getElem?_map, List.getElem?_eq_getElem hk]
  show (Cs.map _).length = _
  rw [List.length_map]
theorem ent_pick {p : Int} {M : IM} {Cs : List Nat} (i k : Nat) (hi : i < M.length) (hk : k < Cs.length) : ent (pickM p M Cs) i k = modc p (ent M i (Cs.getD k 0)) := by
  unfold ent pickM
  rw [List.getD_eq_getElem?_getD (i := i), List.getElem?_map, List.getElem?_eq_getElem hi]
  show (Cs.map fun j => modc p (M[i].getD j 0)).getD k 0 = _
  rw [List.getD_eq_getElem?_getD (i := k), List.getElem?_map, List.getElem?_eq_getElem hk]
  show modc p (M[i].getD Cs[k] 0) = _
  rw [List.getD_eq_getElem?_getD (l := M) (i := i), List.getElem?_eq_getElem hi, List.getD_eq_getElem?_getD (l := Cs) (i := k), List.getElem?_eq_getElem hk]
  rfl
theorem red_pick (p : Int) (M : IM) (Cs : List Nat) (i j : Nat) : Red p (ent (pickM p M Cs) i j) := by
  by_cases c : i < M.length ∧ j < Cs.length
  · rw [ent_pick i j c.1 c.2]; exact modc_red _ _
  · rw [ent_outS (shp_pick p M Cs) c]; exact red_zero p
theorem rankF_rk {p : Int} (hp : IsP p) (h0 : 0 ≤ p) (M : IM) (Cs : List Nat) : RkIs p (List.range M.length) (ent (pickM p M Cs)) (List.range Cs.length) (rankF p M Cs) :=
  (Ech.all hp h0 (shp_pick p M Cs) (red_pick p M Cs) Cs.length (Nat.le_refl _)).rk
/-- sums over the picked columns -/
theorem pick_sum {p : Int} {M : IM} {Cs : List Nat} {i : Nat} (hi : i < M.length) (c : Nat → Int) : (p ∣ sm (List.range Cs.length) fun k => ent (pickM p M Cs) i k * c (Cs.getD k 0)) ↔ p ∣ sm Cs fun j => ent M i j * c j := by
  have e : sm Cs (fun j => ent M i j * c j) = sm (List.range Cs.length) fun k => ent M i (Cs.getD k 0) * c (Cs.getD k 0) := by
    conv => lhs; rw [← list_range Cs]
    rw [sm_map]
  have d : p ∣ (sm (List.range Cs.length) fun k => ent (pickM p M Cs) i k * c (Cs.getD k 0)) - sm Cs fun j => ent M i j * c j := by
    rw [e, show ∀ a b : Int, a - b = a + (-1) * b from fun a b => by omega, ← sm_mul, ← sm_add]
    refine sm_dvd fun k hk => ?_
    rw [ent_pick i k hi (List.mem_range.mp hk)]
    have := Int.dvd_trans (modc_dvd p (ent M i (Cs.getD k 0))) (Int.dvd_mul_right _ (c (Cs.getD k 0)))
    rwa [show (modc p (ent M i (Cs.getD k 0)) - ent M i (Cs.getD k 0)) * c (Cs.getD k 0) = modc p (ent M i (Cs.getD k 0)) * c (Cs.getD k 0) + -1 * (ent M i (Cs.getD k 0) * c (Cs.getD k 0)) by grind] at this
  constructor
  · intro z
    have := Int.dvd_sub z d
    rwa [show ∀ a b : Int, a - (a - b) = b from fun a b => by omega] at this
  · intro z
    have := Int.dvd_add d z
    rwa [Int.sub_add_cancel] at this
theorem pick_ind {p : Int} {M : IM} {Cs : List Nat} (nd : Cs.Nodup) : Ind p (List.range M.length) (ent (pickM p M Cs)) (List.range Cs.length) ↔ Ind p (List.range M.length) (ent M) Cs := by
  constructor
  · intro h c hc j hj
    obtain ⟨k, hk, e⟩ := List.mem_iff_getElem.mp hj
    have h1 := h (fun k => c (Cs.getD k 0)) (fun i hi => (pick_sum (List.mem_range.mp hi) c).mpr (hc i hi)) k (List.mem_range.mpr hk)
    have e2 : Cs.getD k 0 = j := by
      rw [List.getD_eq_getElem?_getD, List.getElem?_eq_getElem hk, e]
      rfl
    have h2 : p ∣ c (Cs.getD k 0) := h1
    rwa [e2] at h2
  · intro h c hc k hk
    have hk' := List.mem_range.mp hk
    have e1 : ∀ k, k < Cs.length → Cs.idxOf (Cs.getD k 0) = k := fun k hk => by
      rw [List.getD_eq_getElem?_getD, List.getElem?_eq_getElem hk]
      exact List.Nodup.idxOf_getElem nd k hk
    have h1 := h (fun j => c (Cs.idxOf j)) (fun i hi => (pick_sum (List.mem_range.mp hi) _).mp (by
      rw [show (sm (List.range Cs.length) fun k => ent (pickM p M Cs) i k * c (Cs.idxOf (Cs.getD k 0))) = sm (List.range Cs.length) fun k => ent (pickM p M Cs) i k * c k from sm_congr fun k hk => by rw [e1 k (List.mem_range.mp hk)]]
      exact hc i hi)) (Cs.getD k 0) (by
        rw [List.getD_eq_getElem?_getD, List.getElem?_eq_getElem hk']
        exact List.getElem_mem hk')
    have h2 : p ∣ c (Cs.idxOf (Cs.getD k 0)) := h1
    rwa [e1 k hk'] at h2
theorem rankF_full {p : Int} (hp : IsP p) (h0 : 0 ≤ p) {M : IM} {Cs : List Nat} (nd : Cs.Nodup) : rankF p M Cs = Cs.length ↔ Ind p (List.range M.length) (ent M) Cs := by
  have h := (rankF_rk hp h0 M Cs).full hp List.nodup_range
  rw [List.length_range] at h
  rw [h, pick_ind nd]
theorem range_getD {n k : Nat} (hk : k < n) : (List.range n).getD k 0 = k := by
  rw [List.getD_eq_getElem?_getD, List.getElem?_range hk]
  rfl
/-- all columns -/
theorem rankF_all {p : Int} (hp : IsP p) (h0 : 0 ≤ p) (M : IM) (w : Nat) : RkIs p (List.range M.length) (ent M) (List.range w) (rankF p M (List.range w)) := by
  have h := rankF_rk hp h0 M (List.range w)
  rw [List.length_range] at h
  have key : ∀ (P : List Nat), (∀ j ∈ P, j < w) → ∀ (c : Nat → Int) (i : Nat), i < M.length → ((p ∣ sm P fun j => ent (pickM p M (List.range w)) i j * c j) ↔ p ∣ sm P fun j => ent M i j * c j) := fun P hP c i hi => by
    have d : p ∣ (sm P fun j => ent (pickM p M (List.range w)) i j * c j) - sm P fun j => ent M i j * c j := by
      rw [show ∀ a b : Int, a - b = a + (-1) * b from fun a b => by omega, ← sm_mul, ← sm_add]
      refine sm_dvd fun k hk => ?_
      rw [ent_pick i k hi (by rw [List.length_range]; exact hP k hk), range_getD (hP k hk)]
      have := Int.dvd_trans (modc_dvd p (ent M i k)) (Int.dvd_mul_right _ (c k))
      rwa [show (modc p (ent M i k) - ent M i k) * c k = modc p (ent M i k) * c k + -1 * (ent M i k * c k) by grind] at this
    constructor
    · intro z
      have := Int.dvd_sub z d
      rwa [show ∀ a b : Int, a - (a - b) = b from fun a b => by omega] at this
    · intro z
      have := Int.dvd_add d z
      rwa [Int.sub_add_cancel] at this
  obtain ⟨⟨P, a, b, l, i⟩, fs, lf, hf⟩ := h
  have hP : ∀ j ∈ P, j < w := fun j hj => List.mem_range.mp (b j hj)
  refine ⟨⟨P, a, b, l, fun c hc => i c fun r hr => (key P hP c r (List.mem_range.mp hr)).mpr (hc r hr)⟩, fs, lf, fun c hc r hr => ?_⟩
  exact (key (List.range w) (fun j hj => List.mem_range.mp hj) c r (List.mem_range.mp hr)).mp (hf c hc r hr)
end Ef
end
section
/-! M13: mathematics: what a turn keeps of the kernel -/
namespace Ef
open PySem PySem.Spec PyProof.Rows L2 Evl
/-- A(Lc) is zero modulo n iff Mc is; G is the inverse of L -/
structure Sem (h w : Nat) (A M L : IM) (G : NF) : Prop where
  LG : ∀ i j, i < w → j < w → (sm (List.range w) fun k => ent L i k * G k j) = if i = j then 1 else 0
  GL : ∀ i j, i < w → j < w → (sm (List.range w) fun k => G i k * ent L k j) = if i = j then 1 else 0
  ker : ∀ (n : Int) (c : Nat → Int), (∀ i, i < h → n ∣ sm (List.range w) fun j => ent A i j * sm (List.range w) fun k => ent L j k * c k) ↔ ∀ i, i < h → n ∣ sm (List.range w) fun j => ent M i j * c j
/-- only rows are worked on -/
theorem Sem.rows {h w : Nat} {A M M' L : IM} {G : NF} (S : Sem h w A M L G) (e : ∀ (n : Int) (c : Nat → Int), (∀ i, i < h → n ∣ sm (List.range w) fun j => ent M i j * c j) ↔ ∀ i, i < h → n ∣ sm (List.range w) fun j => ent M' i j * c j) : Sem h w A M' L G :=
  ⟨S.LG, S.GL, fun n c => (S.ker n c).trans (e n c)⟩
theorem sm_at {w s : Nat} (hs : s < w) (f : Nat → Int) (T : Int) : (sm (List.range w) fun k => f k * if k = s then T else 0) = f s * T := by
  rw [sm_erase (List.mem_range.mpr hs), if_pos rfl]
  rw [show (sm ((List.range w).erase s) fun k => f k * if k = s then T else 0) = sm ((List.range w).erase s) fun _ => 0 from sm_congr fun k hk => by
    rw [if_neg ((List.Nodup.mem_erase_iff List.nodup_range).mp hk).1, Int.mul_zero], sm_zero, Int.add_zero]
/-- a column with the others' multiples off, met with a vector -/
theorem col_vec {w s : Nat} (hs : s < w) {f f2 q : Nat → Int} (e : ∀ j, j < w → f2 j = f j - q j * f s) (c : Nat → Int) : (sm (List.range w) fun k => f2 k * c k) = sm (List.range w) fun k => f k * (c k - if k = s then (sm (List.range w) fun k => q k * c k) else 0) := by
  have a1 : (sm (List.range w) fun k => f2 k * c k) = (sm (List.range w) fun k => f k * c k) + (-(f s)) * sm (List.range w) fun k => q k * c k := by
    rw [← sm_mul, ← sm_add]
    exact sm_congr fun k hk => by rw [e k (List.mem_range.mp hk)]; grind
  have a2 : (sm (List.range w) fun k => f k * (c k - if k = s then (sm (List.range w) fun k => q k * c k) else 0)) = (sm (List.range w) fun k => f k * c k) + (-1) * sm (List.range w) fun k => f k * if k = s then (sm (List.range w) fun k => q k * c k) else 0 := by
    rw [← sm_mul, ← sm_add]
    exact sm_congr fun k _ => by grind
  rw [a1, a2, sm_at hs]
  grind
theorem Sem.colop {h w s : Nat} {A M M2 L L2 : IM} {G : NF} {q : Nat → Int} (S : Sem h w A M L G) (hs : s < w) (q0 : q s = 0) (eL : ∀ i j, i < w → j < w → ent L2 i j = ent L i j - q j * ent L i s) (eM : ∀ i j, i < h → j < w → ent M2 i j = ent M i j - q j * ent M i s) :
    ∃ G2, Sem h w A M2 L2 G2 := by
  refine ⟨fun k j => G k j + if k = s then (sm (List.range w) fun a => q a * G a j) else 0, ?_, ?_, fun n c => ?_⟩
  · intro i j hi hj
    rw [col_vec hs (eL i · hi)]
    rw [← S.LG i j hi hj]
    have e1 : (sm (List.range w) fun a => q a * (G a j + if a = s then (sm (List.range w) fun a => q a * G a j) else 0)) = sm (List.range w) fun a => q a * G a j := sm_congr fun a _ => by
      by_cases z : a = s
      · rw [z, q0, Int.zero_mul, Int.zero_mul]
      · rw [if_neg z, Int.add_zero]
    rw [e1]
    exact sm_congr fun k _ => by rw [Int.add_sub_cancel]
  · intro i j hi hj
    have e1 : (sm (List.range w) fun k => (G i k + if i = s then (sm (List.range w) fun a => q a * G a k) else 0) * ent L2 k j) = (sm (List.range w) fun k => G i k * ent L k j) + ((-(q j)) * (sm (List.range w) fun k => G i k * ent L k s) + if i = s then (sm (List.range w) fun a => q a * sm (List.range w) fun k => G a k * ent L k j) + (-(q j)) * (sm (List.range w) fun a => q a * sm (List.range w) fun k => G a k * ent L k s) else 0) := by
      by_cases z : i = s
      · rw [if_pos z, sm_mulsw, sm_mulsw, ← sm_mul, ← sm_mul, ← sm_add, ← sm_add, ← sm_add]
        exact sm_congr fun k hk => by rw [if_pos z, eL k j (List.mem_range.mp hk) hj]; grind
      · rw [if_neg z, Int.add_zero, ← sm_mul, ← sm_add]
        exact sm_congr fun k hk => by rw [if_neg z, eL k j (List.mem_range.mp hk) hj]; grind
    have dl : ∀ b, b < w → (sm (List.range w) fun a => q a * sm (List.range w) fun k => G a k * ent L k b) = q b := fun b hb => by
      rw [show (sm (List.range w) fun a => q a * sm (List.range w) fun k => G a k * ent L k b) = sm (List.range w) fun a => q a * if b = a then 1 else 0 from sm_congr fun a ha => by
        rw [S.GL a b (List.mem_range.mp ha) hb]
        by_cases z : a = b
        · rw [if_pos z, if_pos z.symm]
        · rw [if_neg z, if_neg (fun y => z y.symm)], sm_delta List.nodup_range, if_pos (List.mem_range.mpr hb)]
    rw [e1, S.GL i j hi hj, S.GL i s hi hs, dl j hj, dl s hs, q0]
    by_cases z : i = s
    · rw [if_pos z, if_pos z]; omega
    · rw [if_neg z, if_neg z]; omega
  · have h1 := S.ker n fun k => c k - if k = s then (sm (List.range w) fun k => q k * c k) else 0
    constructor
    · intro z i hi
      rw [col_vec hs (eM i · hi)]
      refine h1.mp (fun i hi => ?_) i hi
      have := z i hi
      rwa [show (sm (List.range w) fun j => ent A i j * sm (List.range w) fun k => ent L2 j k * c k) = sm (List.range w) fun j => ent A i j * sm (List.range w) fun k => ent L j k * (c k - if k = s then (sm (List.range w) fun k => q k * c k) else 0) from sm_congr fun j hj => by rw [col_vec hs (eL j · (List.mem_range.mp hj))]] at this
    · intro z i hi
      rw [show (sm (List.range w) fun j => ent A i j * sm (List.range w) fun k => ent L2 j k * c k) = sm (List.range w) fun j => ent A i j * sm (List.range w) fun k => ent L j k * (c k - if k = s then (sm (List.range w) fun k => q k * c k) else 0) from sm_congr fun j hj => by rw [col_vec hs (eL j · (List.mem_range.mp hj))]]
      refine h1.mpr (fun i hi => ?_) i hi
      have := z i hi
      rwa [col_vec hs (eM i · hi)] at this
theorem nodup_sw (w s b : Nat) : ((List.range w).map (sw s b)).Nodup :=
  List.Pairwise.map _ (fun x y ne e => ne (by rw [← sw_sw s b x, e, sw_sw])) List.nodup_range
/-- two places change about: the sum stays -/
theorem sm_sw {w s b : Nat} (hs : s < w) (hb : b < w) (f : Nat → Int) : (sm (List.range w) fun k => f (sw s b k)) = sm (List.range w) f := by
  rw [← sm_map]
  refine sm_sub (nodup_sw w s b) List.nodup_range (fun j hj => List.mem_map.mpr ⟨sw s b j, List.mem_range.mpr (sw_lt hs hb (List.mem_range.mp hj)), sw_sw s b j⟩) fun j hj hn => absurd ?_ hn
  obtain ⟨k, hk, rfl⟩ := List.mem_map.mp hj
  exact List.mem_range.mpr (sw_lt hs hb (List.mem_range.mp hk))
theorem Sem.swapC {h w s b : Nat} {A M M2 L L2 : IM} {G : NF} (S : Sem h w A M L G) (hs : s < w) (hb : b < w) (eL : ∀ i j, i < w → j < w → ent L2 i j = ent L i (sw s b j)) (eM : ∀ i j, i < h → j < w → ent M2 i j = ent M i (sw s b j)) :
    Sem h w A M2 L2 fun k j => G (sw s b k) j := by
  have re : ∀ (X Y : IM) (i : Nat) (c : Nat → Int), (∀ j, j < w → ent Y i j = ent X i (sw s b j)) → (sm (List.range w) fun k => ent Y i k * c k) = sm (List.range w) fun k => ent X i k * c (sw s b k) := fun X Y i c e => by
    rw [← sm_sw hs hb fun k => ent X i k * c (sw s b k)]
    exact sm_congr fun k hk => by rw [e k (List.mem_range.mp hk), sw_sw]
  refine ⟨fun i j hi hj => ?_, fun i j hi hj => ?_, fun n c => ?_⟩
  · rw [re L L2 i (fun k => G (sw s b k) j) (eL i · hi)]
    rw [← S.LG i j hi hj]
    exact sm_congr fun k _ => by rw [sw_sw]
  · rw [show (sm (List.range w) fun k => G (sw s b i) k * ent L2 k j) = sm (List.range w) fun k => G (sw s b i) k * ent L k (sw s b j) from sm_congr fun k hk => by rw [eL k j (List.mem_range.mp hk) hj], S.GL _ _ (sw_lt hs hb hi) (sw_lt hs hb hj)]
    by_cases z : i = j
    · rw [if_pos z, if_pos (by rw [z])]
    · rw [if_neg z, if_neg (fun y => z (by rw [← sw_sw s b i, y, sw_sw]))]
  · have h1 := S.ker n fun k => c (sw s b k)
    constructor
    · intro z i hi
      rw [re M M2 i c (eM i · hi)]
      refine h1.mp (fun i hi => ?_) i hi
      have := z i hi
      rwa [show (sm (List.range w) fun j => ent A i j * sm (List.range w) fun k => ent L2 j k * c k) = sm (List.range w) fun j => ent A i j * sm (List.range w) fun k => ent L j k * c (sw s b k) from sm_congr fun j hj => by rw [re L L2 j c (eL j · (List.mem_range.mp hj))]] at this
    · intro z i hi
      rw [show (sm (List.range w) fun j => ent A i j * sm (List.range w) fun k => ent L2 j k * c k) = sm (List.range w) fun j => ent A i j * sm (List.range w) fun k => ent L j k * c (sw s b k) from sm_congr fun j hj => by rw [re L L2 j c (eL j · (List.mem_range.mp hj))]]
      refine h1.mpr (fun i hi => ?_) i hi
      have := z i hi
      rwa [re M M2 i c (eM i · hi)] at this
theorem Sem.swapR {h w s a : Nat} {A M M2 L : IM} {G : NF} (S : Sem h w A M L G) (hs : s < h) (ha : a < h) (eM : ∀ i j, i < h → j < w → ent M2 i j = ent M (sw s a i) j) : Sem h w A M2 L G :=
  S.rows fun n c => by
    have e : ∀ i, i < h → (sm (List.range w) fun j => ent M2 i j * c j) = sm (List.range w) fun j => ent M (sw s a i) j * c j := fun i hi => sm_congr fun j hj => by rw [eM i j hi (List.mem_range.mp hj)]
    constructor
    · intro z i hi
      rw [e i hi]
      exact z _ (sw_lt hs ha hi)
    · intro z i hi
      have := z _ (sw_lt hs ha hi)
      rwa [e _ (sw_lt hs ha hi), sw_sw] at this
theorem Sem.rowop {h w s : Nat} {A M M2 L : IM} {G : NF} {q : Nat → Int} (S : Sem h w A M L G) (hs : s < h) (q0 : q s = 0) (eM : ∀ i j, i < h → j < w → ent M2 i j = ent M i j - q i * ent M s j) : Sem h w A M2 L G :=
  S.rows fun n c => by
    have e : ∀ i, i < h → (sm (List.range w) fun j => ent M2 i j * c j) = (sm (List.range w) fun j => ent M i j * c j) - q i * sm (List.range w) fun j => ent M s j * c j := fun i hi => by
      rw [show ∀ a b d : Int, a - b * d = a + (-b) * d from fun a b d => by grind, ← sm_mul, ← sm_add]
      exact sm_congr fun j hj => by rw [eM i j hi (List.mem_range.mp hj)]; grind
    constructor
    · intro z i hi
      rw [e i hi]
      exact Int.dvd_sub (z i hi) (Int.dvd_trans (z s hs) (Int.dvd_mul_left _ _))
    · intro z i hi
      have zs := z s hs
      rw [e s hs, q0, Int.zero_mul, Int.sub_zero] at zs
      have := z i hi
      rw [e i hi] at this
      have h2 := Int.dvd_add this (Int.dvd_trans zs (Int.dvd_mul_left (q i) _))
      rwa [Int.sub_add_cancel] at h2
theorem Sem.negR {h w s : Nat} {A M M2 L : IM} {G : NF} (S : Sem h w A M L G) (eM : ∀ i j, i < h → j < w → ent M2 i j = if i = s then - ent M i j else ent M i j) : Sem h w A M2 L G :=
  S.rows fun n c => by
    have e : ∀ i, i < h → ((n ∣ sm (List.range w) fun j => ent M2 i j * c j) ↔ n ∣ sm (List.range w) fun j => ent M i j * c j) := fun i hi => by
      by_cases z : i = s
      · rw [show (sm (List.range w) fun j => ent M2 i j * c j) = (-1) * sm (List.range w) fun j => ent M i j * c j by
          rw [← sm_mul]
          exact sm_congr fun j hj => by rw [eM i j hi (List.mem_range.mp hj), if_pos z]; grind]
        rw [Int.neg_mul, Int.one_mul, Int.dvd_neg]
      · rw [show (sm (List.range w) fun j => ent M2 i j * c j) = sm (List.range w) fun j => ent M i j * c j from sm_congr fun j hj => by rw [eM i j hi (List.mem_range.mp hj), if_neg z]]
    exact ⟨fun z i hi => (e i hi).mpr (z i hi), fun z i hi => (e i hi).mp (z i hi)⟩
/-- a whole turn -/
theorem Sem.turn {h w s a b : Nat} {A M M1 M2 L L2 : IM} {G : NF} (S : Sem h w A M L G) (SM : Shp h w M) (SL : Shp w w L) (hs : s < h) (hs' : s < w) (ha : a < h) (hb : b < w)
    (R : RowCl h w s (swapCol (swapM M s a) s b) M1) (C : ColCl h w s (ent (swapCol (swapM M s a) s b) s s) M1 M2 (swapCol L s b) L2) : ∃ G2, Sem h w A M2 L2 G2 := by
  have S1 : Sem h w A (swapM M s a) L G := S.swapR hs ha fun i j _ _ => ent_swapM (by rw [SM.1]; exact hs) (by rw [SM.1]; exact ha) i j
  have S2 := S1.swapC hs' hb (fun i j hi _ => ent_swapCol SL hs' hb i j hi) (fun i j hi _ => ent_swapCol (SM.swap hs ha) hs' hb i j hi)
  generalize swapCol (swapM M s a) s b = X at *
  have S3 : Sem h w A M1 (swapCol L s b) _ := S2.rowop (M2 := M1) (q := fun i => if s < i ∧ i < h then (ent X i s).fdiv (ent X s s) else 0) hs (if_neg (by omega)) fun i j _ _ => by
    rw [R i j]
    split <;> simp
  exact S3.colop (q := fun j => if s < j then (ent M1 s j).fdiv (ent X s s) else 0) hs' (if_neg (by omega)) (fun i j hi hj => by
    rw [C.2 i j hi]
    by_cases z : s < j
    · rw [if_pos ⟨z, hj⟩, if_pos z]
    · rw [if_neg (fun y => z y.1), if_neg z, Int.zero_mul, Int.sub_zero]) fun i j hi hj => by
    rw [C.1 i j hi]
    by_cases z : s < j
    · rw [if_pos ⟨z, hj⟩, if_pos z]
    · rw [if_neg (fun y => z y.1), if_neg z, Int.zero_mul, Int.sub_zero]
end Ef
end
section
/-! M14: mathematics: one turn, its bounds -/
namespace Ef
open PySem PySem.Spec PyProof.Rows L2 Evl
/-- all entries are at most B -/
def Lt (B : Nat) (M : IM) : Prop := ∀ i j, (ent M i j).natAbs ≤ B
theorem Lt.mono {B C : Nat} {M : IM} (h : Lt B M) (le : B ≤ C) : Lt C M := fun i j => Nat.le_trans (h i j) le
theorem rem_lt {x p : Int} (hp : p ≠ 0) : (x - x.fdiv p * p).natAbs < p.natAbs := by
  have key : ∀ x p : Int, 0 < p → (x - x.fdiv p * p).natAbs < p.natAbs := fun x p h => by
    rw [Int.fdiv_eq_ediv_of_nonneg _ (by omega)]
    have h1 := Int.emod_nonneg x (by omega : p ≠ 0)
    have h2 := Int.emod_lt_of_pos x h
    have h3 := Int.mul_ediv_add_emod x p
    rw [Int.mul_comm] at h3
    omega
  by_cases c : 0 < p
  · exact key x p c
  · have := key (-x) (-p) (by omega)
    rw [Int.neg_fdiv_neg] at this
    rwa [show -x - x.fdiv p * -p = -(x - x.fdiv p * p) by grind, Int.natAbs_neg, Int.natAbs_neg] at this
theorem quot_le {x p : Int} {B : Nat} (hp : p ≠ 0) (hx : x.natAbs ≤ B) : (x.fdiv p).natAbs ≤ (B + p.natAbs - 1) / p.natAbs := by
  have h := rem_lt (x := x) hp
  rw [Nat.le_div_iff_mul_le (by omega), ← Int.natAbs_mul]
  generalize x.fdiv p * p = y at *
  omega
theorem rem_dvd {x p : Int} (hp : p ≠ 0) (d : p ∣ x) : x - x.fdiv p * p = 0 := by
  have h := rem_lt (x := x) hp
  have d2 : p ∣ x - x.fdiv p * p := Int.dvd_sub d (Int.dvd_mul_left _ _)
  have d3 := Int.natAbs_dvd_natAbs.mpr d2
  have := Nat.eq_zero_of_dvd_of_lt d3 h
  omega
theorem rem_ne {x p : Int} (d : ¬ p ∣ x) : x - x.fdiv p * p ≠ 0 := fun z => d ⟨x.fdiv p, by rw [Int.mul_comm]; omega⟩
/-- diagonal ahead of s -/
def Dg (h w s : Nat) (M : IM) : Prop := ∀ i j, i < h → j < w → (i < s ∨ j < s) → i ≠ j → ent M i j = 0
/-- no zero on the diagonal ahead of s, or nothing behind -/
def Nz (h w s : Nat) (M : IM) : Prop := (∀ i, i < s → ent M i i ≠ 0) ∨ ∀ i j, s ≤ i → i < h → s ≤ j → j < w → ent M i j = 0
theorem Dg.swap {h w s a b : Nat} {M : IM} (D : Dg h w s M) (S : Shp h w M) (hs : s < h) (hs' : s < w) (ha : a < h) (hb : b < w) (sa : s ≤ a) (sb : s ≤ b) : Dg h w s (swapCol (swapM M s a) s b) := by
  intro i j hi hj hij ne
  rw [ent_sw2 S hs hs' ha hb i j hi]
  refine D _ _ (sw_lt hs ha hi) (sw_lt hs' hb hj) ?_ ?_
  · rcases hij with z | z
    · rw [sw_lo sa z]; exact .inl z
    · rw [sw_lo sb z]; exact .inr z
  · rcases hij with z | z
    · rw [sw_lo sa z]
      intro e
      by_cases c : j < s
      · rw [sw_lo sb c] at e; exact ne e
      · have := sw_ge (x := s) (y := b) (i := j) sb (by omega)
        omega
    · rw [sw_lo sb z]
      intro e
      by_cases c : i < s
      · rw [sw_lo sa c] at e; exact ne e
      · have := sw_ge (x := s) (y := a) (i := i) sa (by omega)
        omega
theorem Lt.swap {h w s a b B : Nat} {M : IM} (D : Lt B M) (S : Shp h w M) (hs : s < h) (hs' : s < w) (ha : a < h) (hb : b < w) : Lt B (swapCol (swapM M s a) s b) := fun i j => by
  by_cases c : i < h
  · rw [ent_sw2 S hs hs' ha hb i j c]; exact D _ _
  · rw [ent_outS ((S.swap hs ha).swapC s b) (fun z => c z.1)]; exact Nat.zero_le _
theorem Lt.swapC {h w s b B : Nat} {L : IM} (D : Lt B L) (S : Shp h w L) (hs : s < w) (hb : b < w) : Lt B (swapCol L s b) := fun i j => by
  by_cases c : i < h
  · rw [ent_swapCol S hs hb i j c]; exact D _ _
  · rw [ent_outS (S.swapC s b) (fun z => c z.1)]; exact Nat.zero_le _
/-- what a turn leaves -/
structure Trn (h w s : Nat) (X M1 M2 : IM) : Prop where
  hs : s < h
  hs' : s < w
  nz : ent X s s ≠ 0
  up : ∀ i j, i < s → i < h → j < w → ent M2 i j = ent X i j
  piv : ent M2 s s = ent X s s
  left : ∀ i j, i < h → j < s → i ≠ j → ent M2 i j = 0
  low : ∀ i, s < i → i < h → ent M2 i s = ent M1 i s
  rem : ∀ i, s < i → i < h → ent M1 i s = ent X i s - (ent X i s).fdiv (ent X s s) * ent X s s
  row : ∀ j, s < j → j < w → ent M2 s j = ent X s j - (ent X s j).fdiv (ent X s s) * ent X s s
  blk : ∀ i j, s < i → i < h → s < j → j < w → ent M2 i j = ent X i j - (ent X i s).fdiv (ent X s s) * ent X s j - (ent X s j).fdiv (ent X s s) * ent M1 i s
section
variable {h w s : Nat} {X M1 M2 L L2 : IM}
theorem trn (D : Dg h w s X) (hs : s < h) (hs' : s < w) (nz : ent X s s ≠ 0) (R : RowCl h w s X M1) (C : ColCl h w s (ent X s s) M1 M2 L L2) : Trn h w s X M1 M2 := by
  have r2 : ∀ i j, i ≤ s → ent M1 i j = ent X i j := fun i j a => by rw [R i j, if_neg (by omega)]
  have r1 : ∀ i j, s < i → i < h → ent M1 i j = ent X i j - (ent X i s).fdiv (ent X s s) * ent X s j := fun i j a b => by rw [R i j, if_pos ⟨a, b⟩]
  refine ⟨hs, hs', nz, fun i j a b c => ?_, ?_, fun i j a b c => ?_, fun i a b => ?_, fun i a b => r1 i s a b, fun j a b => ?_, fun i j a b c d => ?_⟩
  · rw [C.1 i j b, r2 i j (by omega), r2 i s (by omega), D i s b hs' (.inl a) (by omega)]
    simp
  · rw [C.1 s s hs, if_neg (by omega), r2 s s (Nat.le_refl _)]
  · rw [C.1 i j a, if_neg (by omega)]
    by_cases z : s < i
    · rw [r1 i j z a, D i j a (by omega) (.inr b) c, D s j hs (by omega) (.inr b) (by omega)]
      simp
    · rw [r2 i j (by omega)]
      exact D i j a (by omega) (.inr b) c
  · rw [C.1 i s b, if_neg (by omega)]
  · rw [C.1 s j hs, if_pos ⟨a, b⟩, r2 s j (Nat.le_refl _), r2 s s (Nat.le_refl _)]
  · rw [C.1 i j b, if_pos ⟨c, d⟩, r1 i j a b, r2 s j (Nat.le_refl _)]
theorem Trn.remlt (t : Trn h w s X M1 M2) (i : Nat) (a : s < i) (b : i < h) : (ent M1 i s).natAbs < (ent X s s).natAbs := by
  rw [t.rem i a b]; exact rem_lt t.nz
theorem Trn.rowlt (t : Trn h w s X M1 M2) (j : Nat) (a : s < j) (b : j < w) : (ent M2 s j).natAbs < (ent X s s).natAbs := by
  rw [t.row j a b]; exact rem_lt t.nz
theorem Trn.dg (t : Trn h w s X M1 M2) (D : Dg h w s X) : Dg h w s M2 := fun i j a b c d => by
  by_cases z : j < s
  · exact t.left i j a z d
  · rw [t.up i j (by omega) a b]
    exact D i j a b c d
theorem Trn.dg1 (t : Trn h w s X M1 M2) (D : Dg h w s X) (c : Clean h w s M1 M2) : Dg h w (s + 1) M2 := fun i j a b e d => by
  by_cases z : i < s ∨ j < s
  · exact t.dg D i j a b z d
  · by_cases y : i = s
    · rw [y]; exact c.2 j (by omega) b
    · have : j = s := by omega
      rw [this, t.low i (by omega) a]
      exact c.1 i (by omega) a
def grow (B q : Nat) : Nat := B + (B + q - 1) / q * (B + q - 1)
theorem Trn.bd (t : Trn h w s X M1 M2) (D : Dg h w s X) (S2 : Shp h w M2) {B : Nat} (b : Lt B X) : Lt (grow B (ent X s s).natAbs) M2 := fun i j => by
  have q1 : 0 < (ent X s s).natAbs := by have := t.nz; omega
  have le : B ≤ grow B (ent X s s).natAbs := Nat.le_add_right _ _
  have qB := b s s
  by_cases c : i < h ∧ j < w
  · obtain ⟨hi, hj⟩ := c
    by_cases c1 : i < s
    · rw [t.up i j c1 hi hj]; exact Nat.le_trans (b i j) le
    · by_cases c2 : j < s
      · rw [t.left i j hi c2 (by omega)]; exact Nat.zero_le _
      · by_cases c3 : i = s
        · subst c3
          by_cases c4 : j = i
          · subst c4; rw [t.piv]; exact Nat.le_trans qB le
          · have := t.rowlt j (by omega) hj; omega
        · by_cases c4 : j = s
          · subst c4
            rw [t.low i (by omega) hi]
            have := t.remlt i (by omega) hi; omega
          · rw [t.blk i j (by omega) hi (by omega) hj]
            have a1 := b i j
            have a2 := Nat.mul_le_mul (quot_le t.nz (b i s)) (b s j)
            have a3 := Nat.mul_le_mul (quot_le t.nz (b s j)) (Nat.le_sub_one_of_lt (t.remlt i (by omega) hi))
            rw [← Int.natAbs_mul] at a2 a3
            generalize ent X i j = u at *
            generalize (ent X i s).fdiv (ent X s s) * ent X s j = v at *
            generalize (ent X s j).fdiv (ent X s s) * ent M1 i s = v' at *
            have e : grow B (ent X s s).natAbs = B + ((B + (ent X s s).natAbs - 1) / (ent X s s).natAbs * B + (B + (ent X s s).natAbs - 1) / (ent X s s).natAbs * ((ent X s s).natAbs - 1)) := by
              unfold grow
              rw [← Nat.mul_add, show B + ((ent X s s).natAbs - 1) = B + (ent X s s).natAbs - 1 by omega]
            rw [e]
            omega
  · rw [ent_outS S2 c]; exact Nat.zero_le _
theorem Trn.dirty (t : Trn h w s X M1 M2) (c : ¬ Clean h w s M1 M2) : ∃ i j, s ≤ i ∧ i < h ∧ s ≤ j ∧ j < w ∧ ent M2 i j ≠ 0 ∧ (ent M2 i j).natAbs < (ent X s s).natAbs := by
  refine Classical.byContradiction fun z => c ⟨fun i a b => Classical.byContradiction fun y => z ⟨i, s, by omega, b, Nat.le_refl _, t.hs', ?_, ?_⟩, fun j a b => Classical.byContradiction fun y => z ⟨s, j, Nat.le_refl _, t.hs, by omega, b, y, t.rowlt j a b⟩⟩
  · rw [t.low i a b]; exact y
  · rw [t.low i a b]; exact t.remlt i a b
theorem Trn.div (t : Trn h w s X M1 M2) (D : Dg h w s X) (d : ∀ i j, s ≤ i → i < h → s ≤ j → j < w → ent X s s ∣ ent X i j) : Clean h w s M1 M2 ∧ ∀ i j, s < i → i < h → j < w → ent M2 s s ∣ ent M2 i j := by
  have c1 : ∀ i, s < i → i < h → ent M1 i s = 0 := fun i a b => by rw [t.rem i a b]; exact rem_dvd t.nz (d i s (by omega) b (Nat.le_refl _) t.hs')
  refine ⟨⟨c1, fun j a b => ?_⟩, fun i j a b c => ?_⟩
  · rw [t.row j a b]; exact rem_dvd t.nz (d s j (Nat.le_refl _) t.hs (by omega) b)
  · rw [t.piv]
    by_cases z : j < s
    · rw [t.left i j b z (by omega)]; exact Int.dvd_zero _
    · by_cases y : j = s
      · rw [y, t.low i a b, c1 i a b]; exact Int.dvd_zero _
      · rw [t.blk i j a b (by omega) c, c1 i a b, Int.mul_zero, Int.sub_zero]
        exact Int.dvd_sub (d i j (by omega) b (by omega) c) (Int.dvd_trans (d s j (Nat.le_refl _) t.hs (by omega) c) (Int.dvd_mul_left _ _))
/-- the last factor -/
theorem last_bd {B : Nat} {p : Int} (hp : p ≠ 0) (C : ColCl h w s p M1 M2 L L2) (R : RowCl h w s X M1) (S2 : Shp w w L2) (b : Lt B L) (hX : Lt (2 ^ 55) X) : Lt (2 ^ 63 * B) L2 := fun i j => by
  by_cases c : i < w ∧ j < w
  · rw [C.2 i j c.1]
    have b1 := b i j
    have e : ent M1 s j = ent X s j := by rw [R s j, if_neg (by omega)]
    rw [e]
    have q1 := Nat.le_trans (fdiv_abs (ent X s j) p) (hX s j)
    have q2 := Nat.mul_le_mul q1 (b i s)
    rw [← Int.natAbs_mul] at q2
    generalize (ent X s j).fdiv p * ent L i s = v at *
    generalize ent L i j = u at *
    have e3 : 2 ^ 63 * B = 2 ^ 55 * B + (2 ^ 63 - 2 ^ 55) * B := by rw [← Nat.add_mul]
    have e4 : B ≤ (2 ^ 63 - 2 ^ 55) * B := Nat.le_mul_of_pos_left B (by decide)
    split <;> omega
  · rw [ent_outS S2 c]; exact Nat.zero_le _
end
end Ef
end
section
/-! M15: mathematics: the stages' bounds, every turn -/
namespace Ef
open PySem PySem.Spec PyProof.Rows L2 Evl
/-- what is held of the three matrices at stage s -/
def Crr (A : IM) (h w s : Nat) (M L : IM) : Prop := (∃ G, Sem h w A M L G) ∧ Dg h w s M ∧ Nz h w s M
/-- after a turn: all three ways on -/
structure Aft (A : IM) (h w s q : Nat) (M1 M2 L2 : IM) : Prop where
  done : Clean h w s M1 M2 → Crr A h w (s + 1) (if ent M2 s s < 0 then negRow M2 s else M2) L2 ∧ (∀ i, i ≤ s → ent (if ent M2 s s < 0 then negRow M2 s else M2) i i ≠ 0) ∧ ∀ B, Lt B M2 → Lt B (if ent M2 s s < 0 then negRow M2 s else M2)
  again : Crr A h w s M2 L2
  p0 : ent M2 s s ≠ 0
  pq : (ent M2 s s).natAbs = q
  dirty : ¬ Clean h w s M1 M2 → ∃ i j, s ≤ i ∧ i < h ∧ s ≤ j ∧ j < w ∧ ent M2 i j ≠ 0 ∧ (ent M2 i j).natAbs < q
  add : Clean h w s M1 M2 → ∀ i, s < i → i < h → Crr A h w s (addRow M2 s i 1) L2 ∧ (∀ B, Lt B M2 → Lt B (addRow M2 s i 1)) ∧ ent (addRow M2 s i 1) s s = ent M2 s s ∧ (∀ k, s < k → k < h → ent (addRow M2 s i 1) k s = 0) ∧ ∀ j, j < w → ¬ ent M2 s s ∣ ent M2 i j → s < j ∧ ent (addRow M2 s i 1) s j = ent M2 i j
theorem Crr.aft {A : IM} {h w s a b : Nat} {M L M1 M2 L2 : IM} (K : Crr A h w s M L) (S : Shp h w M) (SL : Shp w w L) (hs : s < min h w) (l : Least h w M s (some (a, b))) (S2 : Shp h w M2) (SL2 : Shp w w L2) (R : RowCl h w s (swapCol (swapM M s a) s b) M1)
    (C : ColCl h w s (ent (swapCol (swapM M s a) s b) s s) M1 M2 (swapCol L s b) L2) : Aft A h w s (ent M a b).natAbs M1 M2 L2 ∧ Trn h w s (swapCol (swapM M s a) s b) M1 M2 := by
  obtain ⟨⟨G, sem⟩, dg, nz⟩ := K
  obtain ⟨l1, l2, l3, l4, l5, l6, l7⟩ := l
  have hs1 : s < h := by omega
  have hs2 : s < w := by omega
  have ep : ent (swapCol (swapM M s a) s b) s s = ent M a b := by rw [ent_sw2 S hs1 hs2 l2 l4 s s hs1, sw_self, sw_self]
  have eu : ∀ i, i < s → ent (swapCol (swapM M s a) s b) i i = ent M i i := fun i hi => by rw [ent_sw2 S hs1 hs2 l2 l4 i i (by omega), sw_lo l1 hi, sw_lo l3 hi]
  obtain ⟨G2, sem2⟩ := sem.turn S SL hs1 hs2 l2 l4 R C
  have dgX := dg.swap S hs1 hs2 l2 l4 l1 l3
  have t := trn dgX hs1 hs2 (by rw [ep]; exact l5) R C
  have nz1 : ∀ i, i < s → ent M i i ≠ 0 := nz.resolve_right fun z => l5 (z a b l1 l2 l3 l4)
  have nz2 : ∀ i, i < s → ent M2 i i ≠ 0 := fun i hi => by rw [t.up i i hi (by omega) (by omega), eu i hi]; exact nz1 i hi
  have p0 : ent M2 s s ≠ 0 := by rw [t.piv, ep]; exact l5
  refine ⟨⟨fun c => ?_, ⟨⟨G2, sem2⟩, t.dg dgX, .inl nz2⟩, p0, by rw [t.piv, ep], fun c => by rw [← ep]; exact t.dirty c, fun c i hi hi2 => ?_⟩, t⟩
  · have eY : ∀ i j, ent (if ent M2 s s < 0 then negRow M2 s else M2) i j = ent M2 i j ∨ ent (if ent M2 s s < 0 then negRow M2 s else M2) i j = - ent M2 i j := fun i j => by
      split
      · rw [ent_neg S2 hs1]
        split
        · rename_i z; rw [z]; exact .inr rfl
        · exact .inl rfl
      · exact .inl rfl
    have nzY : ∀ i, i ≤ s → ent (if ent M2 s s < 0 then negRow M2 s else M2) i i ≠ 0 := fun i hi => by
      have k : ent M2 i i ≠ 0 := by
        by_cases z : i = s
        · rw [z]; exact p0
        · exact nz2 i (by omega)
      rcases eY i i with y | y <;> omega
    refine ⟨⟨⟨G2, ?_⟩, fun i j a b c' d => ?_, .inl fun i hi => nzY i (by omega)⟩, nzY, fun B hB i j => ?_⟩
    · split
      · exact sem2.negR (s := s) fun i j _ _ => by
          rw [ent_neg S2 hs1]
          split
          · rename_i z; rw [z]
          · rfl
      · exact sem2
    · have := t.dg1 dgX c i j a b c' d
      rcases eY i j with y | y <;> omega
    · have := hB i j
      rcases eY i j with y | y <;> omega
  · have eA : ∀ k j, ent (addRow M2 s i 1) k j = if k = s then ent M2 s j + 1 * ent M2 i j else ent M2 k j := fun k j => ent_addRow S2 1 k j hs1 hi2
    have cz : ∀ k, s < k → k < h → ent M2 k s = 0 := fun k a b => by rw [t.low k a b]; exact c.1 k a b
    have ro : ∀ j, j < w → s < j → ent (addRow M2 s i 1) s j = ent M2 i j := fun j hj hsj => by rw [eA, if_pos rfl, c.2 j hsj hj]; omega
    have ss : ent (addRow M2 s i 1) s s = ent M2 s s := by rw [eA, if_pos rfl, cz i hi hi2]; omega
    have dgA : Dg h w s (addRow M2 s i 1) := fun k j a b e d => by
      rw [eA]
      split
      · rename_i z
        subst z
        rw [t.left k j a (by omega) d, t.left i j hi2 (by omega) (by omega)]
        rfl
      · exact t.dg dgX k j a b e d
    refine ⟨⟨⟨G2, sem2.rowop (s := i) (q := fun k => if k = s then -1 else 0) hi2 (if_neg (by omega)) fun k j _ _ => ?_⟩, dgA, .inl fun k hk => ?_⟩, fun B hB k j => ?_, ss, fun k a b => ?_, fun j hj nd => ?_⟩
    · rw [eA]
      by_cases z : k = s
      · rw [if_pos z, if_pos z, z]; omega
      · rw [if_neg z, if_neg z, Int.zero_mul, Int.sub_zero]
    · rw [eA, if_neg (by omega)]; exact nz2 k hk
    · by_cases z : k = s ∧ j < w
      · obtain ⟨z, hj⟩ := z
        subst z
        by_cases y : k < j
        · rw [ro j hj y]; exact hB i j
        · by_cases x : j = k
          · rw [x, ss]; exact hB k k
          · rw [dgA k j hs1 hj (.inr (by omega)) (by omega)]; exact Nat.zero_le _
      · rw [eA]
        split
        · rename_i z2
          have : ¬ j < w := fun y => z ⟨z2, y⟩
          rw [ent_outS S2 (fun y => this y.2), ent_outS S2 (fun y => this y.2)]
          exact Nat.zero_le _
        · exact hB k j
    · rw [eA, if_neg (by omega)]; exact cz k a b
    · have lt : s < j := Classical.byContradiction fun z => nd (by
        by_cases y : j = s
        · rw [y, cz i hi hi2]; exact Int.dvd_zero _
        · rw [t.left i j hi2 (by omega) (by omega)]; exact Int.dvd_zero _)
      exact ⟨lt, ro j hj lt⟩
theorem Crr.skip {A : IM} {h w s : Nat} {M L : IM} (K : Crr A h w s M L) (z : ∀ i j, s ≤ i → i < h → s ≤ j → j < w → ent M i j = 0) : Crr A h w (s + 1) M L :=
  ⟨K.1, fun i j a b c d => by
    by_cases y : i < s ∨ j < s
    · exact K.2.1 i j a b y d
    · exact z i j (by omega) a (by omega) b, .inr fun i j a b c d => z i j (by omega) b (by omega) d⟩
/-- stage 1: what the least entry bounds -/
def T : Nat → Nat
  | 0 => 2 ^ 55
  | 1 => 162315152
  | 2 => 18016
  | 3 => 229
  | 4 => 26
  | _ => 6
theorem T_step : ∀ q, q < 6 → 1 ≤ q → grow (T q) q ≤ T (q - 1) := by decide +kernel
theorem T_anti : ∀ b, b < 7 → ∀ a, a ≤ b → T b ≤ T a := by decide +kernel
theorem T_top : ∀ b, b < 7 → T b ≤ 2 ^ 55 := by decide +kernel
def St (h w : Nat) : Nat → Nat → IM → IM → Prop
  | 0, _, M, L => Lt 2 M ∧ Lt 1 L
  | 1, m, M, L => m ≤ 13 ∧ Lt (2 ^ (63 * (15 - m))) L ∧ ((∃ q, q ≤ 6 ∧ m = 2 * q + 1 ∧ Lt (T q) M ∧ ∀ a b, Least h w M 1 (some (a, b)) → (ent M a b).natAbs ≤ q) ∨
      ∃ q, 1 ≤ q ∧ q ≤ 6 ∧ m = 2 * q ∧ Lt (T (q - 1)) M ∧ (ent M 1 1).natAbs = q ∧ (∀ k, 1 < k → k < h → ent M k 1 = 0) ∧ ∃ j, 1 < j ∧ j < w ∧ ¬ ent M 1 1 ∣ ent M 1 j)
  | s + 2, m, M, L => Lt (2 ^ 55) M ∧ (Lt (2 ^ 1008) L ∨ ∃ i j, s + 2 ≤ i ∧ i < h ∧ s + 2 ≤ j ∧ j < w ∧ ent M i j ≠ 0) ∧ ∀ a b, Least h w M (s + 2) (some (a, b)) → (ent M a b).natAbs ≤ m
def Js (s : Nat) (M L : IM) : Prop := match s with
  | 0 => Lt 2 M ∧ Lt 1 L
  | 1 => Lt 6 M ∧ Lt (2 ^ 63) L
  | 2 => Lt (2 ^ 55) M ∧ Lt (2 ^ 1008) L
  | _ => Lt (2 ^ 1008) L ∨ ∀ i, i < s → ent M i i ≠ 0
/-- the least entry divides all where the bound is near -/
theorem dvd_near {x p : Int} {q : Nat} (hp : p.natAbs = q) (h1 : x ≠ 0 → q ≤ x.natAbs) (h2 : x.natAbs ≤ q ∨ q = 1) : p ∣ x := by
  rcases h2 with h2 | h2
  · by_cases z : x = 0
    · rw [z]; exact Int.dvd_zero p
    · have := h1 z
      exact Int.natAbs_dvd_natAbs.mp (by rw [show x.natAbs = p.natAbs by omega]; exact Nat.dvd_refl _)
  · exact Int.natAbs_dvd_natAbs.mp (by rw [hp, h2]; exact Nat.one_dvd _)
/-- the block after the swaps, seen from the pivot -/
theorem least_dvd {h w s a b : Nat} {M : IM} (S : Shp h w M) (hs : s < h) (hs' : s < w) (l : Least h w M s (some (a, b))) (near : ∀ i j, (ent M i j).natAbs ≤ (ent M a b).natAbs ∨ (ent M a b).natAbs = 1) :
    ∀ i j, s ≤ i → i < h → s ≤ j → j < w → ent (swapCol (swapM M s a) s b) s s ∣ ent (swapCol (swapM M s a) s b) i j := by
  obtain ⟨l1, l2, l3, l4, l5, l6, l7⟩ := l
  intro i j a1 a2 a3 a4
  rw [ent_sw2 S hs hs' l2 l4 s s hs, ent_sw2 S hs hs' l2 l4 i j a2, sw_self, sw_self]
  exact dvd_near rfl (l6 _ _ (sw_ge l1 a1) (sw_lt hs l2 a2) (sw_ge l3 a3) (sw_lt hs' l4 a4)) (near _ _)
theorem least_le {h w s i j : Nat} {M : IM} {q : Nat} (a1 : s ≤ i) (a2 : i < h) (a3 : s ≤ j) (a4 : j < w) (nz : ent M i j ≠ 0) (le : (ent M i j).natAbs ≤ q) : ∀ a b, Least h w M s (some (a, b)) → (ent M a b).natAbs ≤ q := fun a b l =>
  Nat.le_trans (l.2.2.2.2.2.1 i j a1 a2 a3 a4 nz) le
theorem Trn.still {h w s B : Nat} {X M1 M2 : IM} (t : Trn h w s X M1 M2) (D : Dg h w s X) (S2 : Shp h w M2) (z : ∀ i, s < i → i < h → ent X i s = 0) (b : Lt B X) : Lt B M2 := fun i j => by
  have qB := b s s
  by_cases c : i < h ∧ j < w
  · obtain ⟨hi, hj⟩ := c
    have z1 : ∀ i, s < i → i < h → ent M1 i s = 0 := fun i a b => by rw [t.rem i a b, z i a b]; simp
    by_cases c1 : i < s
    · rw [t.up i j c1 hi hj]; exact b i j
    · by_cases c2 : j < s
      · rw [t.left i j hi c2 (by omega)]; exact Nat.zero_le _
      · by_cases c3 : i = s
        · subst c3
          by_cases c4 : j = i
          · subst c4; rw [t.piv]; exact qB
          · have := t.rowlt j (by omega) hj; omega
        · by_cases c4 : j = s
          · subst c4
            rw [t.low i (by omega) hi, z1 i (by omega) hi]; exact Nat.zero_le _
          · rw [t.blk i j (by omega) hi (by omega) hj, z1 i (by omega) hi, z i (by omega) hi, Int.mul_zero, Int.zero_fdiv, Int.zero_mul, Int.sub_zero, Int.sub_zero]
            exact b i j
  · rw [ent_outS S2 c]; exact Nat.zero_le _
theorem st_bd {h w s m : Nat} {M L : IM} (hs : s < 3) (k : St h w s m M L) : Lt (2 ^ 55) M := by
  match s, hs, k with
  | 0, _, k => exact k.1.mono (by decide)
  | 1, _, ⟨_, _, .inl ⟨q, a, _, b, _⟩⟩ => exact b.mono (T_top q (by omega))
  | 1, _, ⟨_, _, .inr ⟨q, _, a, _, b, _⟩⟩ => exact b.mono (T_top (q - 1) (by omega))
  | 2, _, k => exact k.1
theorem sw_id (s i : Nat) : sw s s i = i := by unfold sw; split <;> simp_all
theorem pow_step {m : Nat} (h : m ≤ 13) : 2 ^ 63 * 2 ^ (63 * (15 - m)) = 2 ^ (63 * (16 - m)) := by
  rw [← Nat.pow_add, show 63 + 63 * (15 - m) = 63 * (16 - m) by omega]
theorem pow_le2 {a b : Nat} (h : a ≤ b) : 2 ^ a ≤ 2 ^ b := Nat.pow_le_pow_right (by decide) h
/-- what the three ways on must bring -/
structure Nxt (h w s m : Nat) (M1 M2 L2 : IM) : Prop where
  done : Clean h w s M1 M2 → Js (s + 1) (if ent M2 s s < 0 then negRow M2 s else M2) L2
  dirty : ¬ Clean h w s M1 M2 → ∃ m', m' < m ∧ St h w s m' M2 L2
  add : Clean h w s M1 M2 → ∀ i, s < i → i < h → (∃ j, j < w ∧ ¬ ent M2 s s ∣ ent M2 i j) → ∃ m', m' < m ∧ St h w s m' (addRow M2 s i 1) L2
theorem nxt {A : IM} {h w s m a b : Nat} {M L M1 M2 L2 : IM} (h3 : h ≤ 3) (K : Crr A h w s M L) (I : St h w s m M L) (S : Shp h w M) (SL : Shp w w L) (hs : s < min h w) (l : Least h w M s (some (a, b))) (S2 : Shp h w M2) (SL2 : Shp w w L2) (R : RowCl h w s (swapCol (swapM M s a) s b) M1)
    (C : ColCl h w s (ent (swapCol (swapM M s a) s b) s s) M1 M2 (swapCol L s b) L2) : Nxt h w s m M1 M2 L2 := by
  obtain ⟨af, t⟩ := K.aft S SL hs l S2 SL2 R C
  have l' := id l
  obtain ⟨l1, l2, l3, l4, l5, l6, l7⟩ := l'
  have hs1 : s < h := by omega
  have hs2 : s < w := by omega
  have bM := st_bd (by omega) I
  have dgX := K.2.1.swap S hs1 hs2 l2 l4 l1 l3
  have bX : ∀ {B}, Lt B M → Lt B (swapCol (swapM M s a) s b) := fun h => h.swap S hs1 hs2 l2 l4
  have bL : ∀ {B}, Lt B L → Lt (2 ^ 63 * B) L2 := fun h => last_bd t.nz C R SL2 (h.swapC SL hs2 l4) (bX bM)
  have pq : (ent (swapCol (swapM M s a) s b) s s).natAbs = (ent M a b).natAbs := by rw [← t.piv]; exact af.pq
  have gr : ∀ {B}, Lt B M → Lt (grow B (ent M a b).natAbs) M2 := fun h => by rw [← pq]; exact t.bd dgX S2 (bX h)
  have near := fun n => t.div dgX (least_dvd S hs1 hs2 l n)
  have q1 : 1 ≤ (ent M a b).natAbs := by omega
  match s with
  | 0 =>
    obtain ⟨b1, b2⟩ := I
    have dv := near fun i j => by have := b1 i j; omega
    refine ⟨fun c => ⟨(af.done c).2.2 _ ((gr b1).mono ?_), bL b2⟩, fun c => absurd dv.1 c, fun c i h1 h2 ⟨j, h5, h4⟩ => absurd (dv.2 i j h1 h2 h5) h4⟩
    have := b1 a b
    generalize (ent M a b).natAbs = q at *
    have : q = 1 ∨ q = 2 := by omega
    rcases this with rfl | rfl <;> decide
  | 1 =>
    obtain ⟨m13, b2, fr⟩ := I
    have bl := bL b2
    rw [pow_step m13] at bl
    have L1 : Lt (2 ^ 1008) L2 := bl.mono (pow_le2 (by omega))
    have L3 : ∀ m', m' < m → Lt (2 ^ (63 * (15 - m'))) L2 := fun m' hm => bl.mono (pow_le2 (by omega))
    -- the usual turn
    have usual : (ent M a b).natAbs ≤ 6 → 2 * (ent M a b).natAbs < m → Lt (T (ent M a b).natAbs) M → Nxt h w 1 m M1 M2 L2 := fun q6 qm bT => by
      have g := gr bT
      have pqa := af.pq
      have dty := af.dirty
      have nr := near
      generalize (ent M a b).natAbs = q at *
      by_cases c6 : q = 6
      · subst c6
        have dv := nr fun i j => .inl (bT i j)
        exact ⟨fun c => ⟨(af.done c).2.2 _ (g.mono (by decide)), L1⟩, fun c => absurd dv.1 c, fun c i h1 h2 ⟨j, h5, h4⟩ => absurd (dv.2 i j h1 h2 h5) h4⟩
      · have g2 : Lt (T (q - 1)) M2 := g.mono (T_step q (by omega) q1)
        refine ⟨fun c => ⟨(af.done c).2.2 _ (g2.mono (T_top _ (by omega))), L1⟩, fun c => ?_, fun c i h1 h2 ⟨j, h5, h4⟩ => ?_⟩
        · obtain ⟨i, j, d1, d2, d3, d4, d5, d6⟩ := dty c
          exact ⟨2 * (q - 1) + 1, by omega, by omega, L3 _ (by omega), .inl ⟨q - 1, by omega, rfl, g2, least_le d1 d2 d3 d4 d5 (by omega)⟩⟩
        · obtain ⟨_, e2, e3, e4, e5⟩ := af.add c i h1 h2
          obtain ⟨f1, f2⟩ := e5 j h5 h4
          exact ⟨2 * q, qm, by omega, L3 _ qm, .inr ⟨q, q1, q6, rfl, e2 _ g2, by rw [e3]; exact pqa, e4, j, f1, h5, by rw [e3, f2]; exact h4⟩⟩
    rcases fr with ⟨q, q6, em, bT, le⟩ | ⟨q, q0, q6, em, bT, pv, cz, j, j1, jw, nd⟩
    · have := le a b l
      exact usual (by omega) (by omega) (bT.mono (T_anti q (by omega) _ this))
    · have leq : (ent M a b).natAbs ≤ q := by
        rw [← pv]
        exact l6 1 1 (Nat.le_refl _) hs1 (Nat.le_refl _) hs2 (by omega)
      by_cases c : (ent M a b).natAbs < q
      · exact usual (by omega) (by omega) (bT.mono (T_anti (q - 1) (by omega) _ (by omega)))
      · have ab : a = 1 ∧ b = 1 := Classical.byContradiction fun z => by
          have := l7 (fun y => z ⟨congrArg Prod.fst y, congrArg Prod.snd y⟩)
          omega
        obtain ⟨rfl, rfl⟩ := ab
        have eX : ∀ i j, i < h → ent (swapCol (swapM M 1 1) 1 1) i j = ent M i j := fun i j hi => by rw [ent_sw2 S hs1 hs2 l2 l4 i j hi, sw_id, sw_id]
        have g2 : Lt (T (q - 1)) M2 := t.still dgX S2 (fun i a c => by rw [eX i 1 c]; exact cz i a c) (bX bT)
        have nc : ¬ Clean h w 1 M1 M2 := fun y => by
          have := y.2 j j1 jw
          rw [t.row j j1 jw, eX _ _ hs1, eX _ _ hs1] at this
          exact rem_ne nd this
        refine ⟨fun y => absurd y nc, fun _ => ?_, fun y => absurd y nc⟩
        obtain ⟨i, j, d1, d2, d3, d4, d5, d6⟩ := af.dirty nc
        exact ⟨2 * (q - 1) + 1, by omega, by omega, L3 _ (by omega), .inl ⟨q - 1, by omega, rfl, g2, least_le d1 d2 d3 d4 d5 (by omega)⟩⟩
  | s + 3 => omega
  | 2 =>
    obtain ⟨b1, b2, b3⟩ := I
    have g2 : Lt (2 ^ 55) M2 := t.still dgX S2 (fun i a c => absurd c (by omega)) (bX b1)
    refine ⟨fun c => .inr fun i hi => (af.done c).2.1 i (by omega), fun c => ?_, fun c i h1 h2 => absurd h2 (by omega)⟩
    obtain ⟨i, j, d1, d2, d3, d4, d5, d6⟩ := af.dirty c
    have := b3 a b l
    exact ⟨(ent M a b).natAbs - 1, by omega, g2, .inr ⟨2, 2, Nat.le_refl _, hs1, Nat.le_refl _, hs2, af.p0⟩, least_le d1 d2 d3 d4 d5 (by omega)⟩
def Jb (A : IM) (h w s : Nat) (M L : IM) : Prop := Crr A h w s M L ∧ Js s M L
def Ib (A : IM) (h w s m : Nat) (M L : IM) : Prop := Crr A h w s M L ∧ St h w s m M L
theorem diag_bd (A : IM) (h w : Nat) (h3 : h ≤ 3) : DiagInv h w (Jb A h w) (Ib A h w) where
  enter s M L hs S SL J := by
    obtain ⟨K, J⟩ := J
    match s with
    | 0 => exact ⟨0, K, J⟩
    | 1 => exact ⟨13, K, by decide, J.2.mono (pow_le2 (by decide)), .inl ⟨6, by decide, rfl, J.1, fun a b _ => J.1 a b⟩⟩
    | 2 => exact ⟨2 ^ 55, K, J.1, .inl J.2, fun a b _ => J.1 a b⟩
    | s + 3 => omega
  bound s m M L a b hs S SL I l i j := by
    obtain ⟨l1, l2, l3, l4, l5, l6, l7⟩ := l
    exact Nat.lt_of_le_of_lt ((st_bd (by omega) I.2).swap S (by omega) (by omega) l2 l4 i j) (by decide)
  none s m M L hs S SL I l := by
    obtain ⟨K, I⟩ := I
    refine ⟨K.skip l, ?_⟩
    have l : ∀ i j, s ≤ i → i < h → s ≤ j → j < w → ent M i j = 0 := l
    match s with
    | 0 => exact ⟨I.1.mono (by decide), I.2.mono (by decide)⟩
    | 1 => exact ⟨st_bd (by decide) I, I.2.1.mono (pow_le2 (by omega))⟩
    | 2 =>
      obtain ⟨_, b2, _⟩ := I
      rcases b2 with b2 | ⟨i, j, d1, d2, d3, d4, d5⟩
      · exact .inl b2
      · exact absurd (l i j d1 d2 d3 d4) d5
    | s + 3 => omega
  turn s m M L a b M1 M2 L2 hs S SL I l S2 SL2 R C := by
    obtain ⟨af, t⟩ := I.1.aft S SL hs l S2 SL2 R C
    have n := nxt h3 I.1 I.2 S SL hs l S2 SL2 R C
    refine ⟨fun c _ => ⟨(af.done c).1, n.done c⟩, fun c => ?_, fun c i h1 h2 h4 => ?_⟩
    · obtain ⟨m', e, k⟩ := n.dirty c
      exact ⟨m', e, af.again, k⟩
    · obtain ⟨m', e, k⟩ := n.add c i h1 h2 h4
      exact ⟨m', e, (af.add c i h1 h2).1, k⟩
end Ef
end
section
/-! M16: mathematics: the dual's bases; LawFacts -/
namespace Ef
open PySem PySem.Spec PyProof.Rows L2 Evl
/-! ### the start -/
theorem ent_unit (w : Nat) (w4 : w ≤ 4) (i j : Nat) (hi : i < w) (hj : j < w) : ent (unitM w) i j = if i = j then 1 else 0 := by
  have key : ∀ w : Nat, w < 5 → ∀ i, i < w → ∀ j, j < w → ent (unitM w) i j = if i = j then 1 else 0 := by decide +kernel
  exact key w (by omega) i hi j hj
theorem sm_del (w i : Nat) (hi : i < w) (c : Nat → Int) : (sm (List.range w) fun k => (if i = k then 1 else 0) * c k) = c i := by
  rw [show (sm (List.range w) fun k => (if i = k then 1 else 0) * c k) = sm (List.range w) fun k => c k * if i = k then 1 else 0 from sm_congr fun k _ => Int.mul_comm _ _, sm_delta List.nodup_range, if_pos (List.mem_range.mpr hi)]
theorem sem_start {h w : Nat} (A : IM) (w4 : w ≤ 4) : Sem h w A A (unitM w) fun i j => if i = j then 1 else 0 := by
  have e : ∀ (j : Nat) (c : Nat → Int), j < w → (sm (List.range w) fun k => ent (unitM w) j k * c k) = c j := fun j c hj => by
    rw [← sm_del w j hj c]
    exact sm_congr fun k hk => by rw [ent_unit w w4 j k hj (List.mem_range.mp hk)]
  refine ⟨fun i j hi hj => ?_, fun i j hi hj => ?_, fun n c => ?_⟩
  · exact e i (fun k => if k = j then 1 else 0) hi
  · rw [sm_del w i hi fun k => ent (unitM w) k j]
    exact ent_unit w w4 i j hi hj
  · have : ∀ i, (sm (List.range w) fun j => ent A i j * sm (List.range w) fun k => ent (unitM w) j k * c k) = sm (List.range w) fun j => ent A i j * c j := fun i => sm_congr fun j hj => by rw [e j c (List.mem_range.mp hj)]
    constructor
    · intro z i hi; rw [← this]; exact z i hi
    · intro z i hi; rw [this]; exact z i hi
theorem jb_start {h w : Nat} (A : IM) (w4 : w ≤ 4) (b : ∀ i j, (ent A i j).natAbs ≤ 2) : Jb A h w 0 A (unitM w) := by
  refine ⟨⟨⟨_, sem_start A w4⟩, fun i j _ _ z _ => by omega, .inl fun i hi => by omega⟩, b, fun i j => ?_⟩
  by_cases c : i < w ∧ j < w
  · rw [ent_unit w w4 i j c.1 c.2]
    split <;> decide
  · rw [ent_outS (Shp.unit w) c]; decide
/-! ### the end -/
def freeJ (p : Int) (h w : Nat) (N : IM) : List Nat := (List.range w).filter fun j => decide (p ∣ dgAt h w N j)
def restQ (p : Int) (h w : Nat) (N : IM) : List Nat := (List.range w).filter fun j => !decide (p ∣ dgAt h w N j)
theorem mem_free {p : Int} {h w : Nat} {N : IM} {j : Nat} : j ∈ freeJ p h w N ↔ j < w ∧ p ∣ dgAt h w N j := by
  unfold freeJ
  rw [List.mem_filter, List.mem_range, decide_eq_true_eq]
theorem mem_rest {p : Int} {h w : Nat} {N : IM} {j : Nat} : j ∈ restQ p h w N ↔ j < w ∧ ¬ p ∣ dgAt h w N j := by
  unfold restQ
  rw [List.mem_filter, List.mem_range, Bool.not_eq_true', decide_eq_false_iff_not]
theorem sem_dual {p : Int} (hp : IsP p) {h w : Nat} {A N L : IM} {G : NF} (S : Sem h w A N L G) (D : Dg h w (min h w) N) : DualD p w (List.range h) (ent A) (ent L) G (freeJ p h w N) (restQ p h w N) := by
  refine ⟨S.LG, S.GL, List.Pairwise.filter _ List.nodup_range, List.Pairwise.filter _ List.nodup_range, fun j hj => (mem_free.mp hj).1, fun j hj => (mem_rest.mp hj).1, fun j hj => ?_, fun x => ?_⟩
  · rw [mem_free, mem_rest]
    exact ⟨fun a b => b.2 a.2, fun a => ⟨hj, Classical.byContradiction fun z => a ⟨hj, z⟩⟩⟩
  · have k := S.ker p fun k => sm (List.range w) fun j => G k j * x j
    have e1 : ∀ i, (sm (List.range w) fun j => ent A i j * sm (List.range w) fun k => ent L j k * sm (List.range w) fun a => G k a * x a) = sm (List.range w) fun j => ent A i j * x j := fun i => sm_congr fun j hj => by
      rw [sm_mulsw]
      rw [show (sm (List.range w) fun a => (sm (List.range w) fun k => ent L j k * G k a) * x a) = sm (List.range w) fun a => (if j = a then 1 else 0) * x a from sm_congr fun a ha => by rw [S.LG j a (List.mem_range.mp hj) (List.mem_range.mp ha)], sm_del w j (List.mem_range.mp hj)]
    have e2 : ∀ (i : Nat) (c : Nat → Int), i < h → (sm (List.range w) fun j => ent N i j * c j) = if i < w then ent N i i * c i else 0 := fun i c hi => by
      by_cases z : i < w
      · rw [if_pos z, sm_erase (List.mem_range.mpr z)]
        rw [show (sm ((List.range w).erase i) fun j => ent N i j * c j) = sm ((List.range w).erase i) fun _ => 0 from sm_congr fun j hj => by
          have hj' := (List.Nodup.mem_erase_iff List.nodup_range).mp hj
          have := List.mem_range.mp hj'.2
          rw [D i j hi this (by omega) (fun y => hj'.1 y.symm), Int.zero_mul], sm_zero, Int.add_zero]
      · rw [if_neg z]
        rw [show (sm (List.range w) fun j => ent N i j * c j) = sm (List.range w) fun _ => 0 from sm_congr fun j hj => by
          have := List.mem_range.mp hj
          rw [D i j hi this (by omega) (by omega), Int.zero_mul], sm_zero]
    constructor
    · intro z q hq
      obtain ⟨hqw, hq2⟩ := mem_rest.mp hq
      have hm : q < min h w := Classical.byContradiction fun y => hq2 (by unfold dgAt; rw [if_neg y]; exact Int.dvd_zero p)
      have z2 := k.mp (fun i hi => by rw [e1]; exact z i (List.mem_range.mpr hi)) q (by omega)
      rw [e2 q _ (by omega), if_pos hqw] at z2
      refine (isP_euclid hp z2).resolve_left fun y => hq2 ?_
      unfold dgAt
      rwa [if_pos hm]
    · intro z i hi
      rw [← e1]
      refine k.mpr (fun i hi => ?_) i (List.mem_range.mp hi)
      rw [e2 i _ hi]
      split
      · rename_i hw
        by_cases y : p ∣ ent N i i
        · exact Int.dvd_trans y (Int.dvd_mul_right _ _)
        · refine Int.dvd_trans (z i (mem_rest.mpr ⟨hw, fun d => y ?_⟩)) (Int.dvd_mul_left _ _)
          unfold dgAt at d
          rwa [if_pos (by omega)] at d
      · exact Int.dvd_zero p
theorem ker_free (p : Int) (h w : Nat) (N L : IM) : kerRows p h w N L = (freeJ p h w N).map fun j => L.map fun row => row.getD j 0 := rfl
theorem ent_ker {p : Int} {h w : Nat} {N L : IM} {a : Nat} (SL : Shp w w L) (ha : a < (freeJ p h w N).length) (i : Nat) (hi : i < w) : ent (kerRows p h w N L) a i = ent L i ((freeJ p h w N)[a]) := by
  rw [ker_free]
  unfold ent
  rw [List.getD_eq_getElem?_getD (i := a), List.getElem?_map, List.getElem?_eq_getElem ha]
  show (L.map fun row => row.getD (freeJ p h w N)[a] 0).getD i 0 = _
  rw [List.getD_eq_getElem?_getD (i := i), List.getElem?_map, List.getElem?_eq_getElem (by rw [SL.1]; exact hi), List.getD_eq_getElem?_getD (l := L) (i := i), List.getElem?_eq_getElem (by rw [SL.1]; exact hi)]
  rfl
theorem dual_rows {p : Int} {h w : Nat} {N L : IM} (SL : Shp w w L) {V : List Nat} (hV : ∀ j ∈ V, j < w) (c : Nat → Int) :
    (∀ a ∈ List.range (dualM w (kerRows p h w N L)).length, p ∣ sm V fun j => ent (dualM w (kerRows p h w N L)) a j * c j) ↔ ∀ k ∈ freeJ p h w N, p ∣ sm V fun j => tr (ent L) k j * c j := by
  have lk : (kerRows p h w N L).length = (freeJ p h w N).length := by rw [ker_free, List.length_map]
  unfold dualM
  split
  · rename_i e
    rw [e] at lk
    have fe : freeJ p h w N = [] := List.length_eq_zero_iff.mp lk.symm
    rw [fe]
    refine ⟨fun _ k hk => (by cases hk), fun _ a ha => sm_dvd fun j _ => ?_⟩
    have a0 : a = 0 := by have := List.mem_range.mp ha; simp at this; exact this
    subst a0
    have : ent [List.replicate w 0] 0 j = 0 := by
      show (List.replicate w (0 : Int)).getD j 0 = 0
      rw [List.getD_eq_getElem?_getD, List.getElem?_replicate]
      split <;> rfl
    rw [this, Int.zero_mul]
    exact Int.dvd_zero p
  · have e : ∀ a (ha : a < (freeJ p h w N).length), (sm V fun j => ent (kerRows p h w N L) a j * c j) = sm V fun j => tr (ent L) ((freeJ p h w N)[a]) j * c j := fun a ha => sm_congr fun j hj => by rw [ent_ker SL ha j (hV j hj)]; rfl
    constructor
    · intro z k hk
      obtain ⟨a, ha, ek⟩ := List.getElem_of_mem hk
      have := z a (List.mem_range.mpr (by omega))
      rwa [e a ha, ek] at this
    · intro z a ha
      have ha' : a < (freeJ p h w N).length := by have := List.mem_range.mp ha; omega
      rw [e a ha']
      exact z _ (List.getElem_mem ha')
theorem RkIs.congr {p : Int} {R R' U : List Nat} {X X' : NF} {s : Nat} (key : ∀ V : List Nat, (∀ j ∈ V, j ∈ U) → ∀ c : Nat → Int, (∀ i ∈ R, p ∣ sm V fun j => X i j * c j) ↔ ∀ i ∈ R', p ∣ sm V fun j => X' i j * c j) (h : RkIs p R X U s) : RkIs p R' X' U s := by
  obtain ⟨⟨P, a, b, l, i⟩, fs, lf, hf⟩ := h
  exact ⟨⟨P, a, b, l, fun c hc => i c ((key P b c).mpr hc)⟩, fs, lf, fun c hc => (key U (fun _ h => h) c).mp (hf c hc)⟩
/-! ### the bases -/
theorem lists_ok (w : Nat) (w4 : w ≤ 4) : ((lawLists w).map natsI).Pairwise (· ≤ ·) ∧ ((lawLists w).map (compl w)).Perm (lawLists w) ∧ ∀ r ∈ lawLists w, r.Nodup ∧ (compl w r).Nodup ∧ r.length + (compl w r).length = w := by
  have key : ∀ w : Nat, w < 5 → ((lawLists w).map natsI).Pairwise (· ≤ ·) ∧ ((lawLists w).map (compl w)).Perm (lawLists w) ∧ ∀ r ∈ lawLists w, r.Nodup ∧ (compl w r).Nodup ∧ r.length + (compl w r).length = w := by decide +kernel
  exact key w (by omega)
theorem mem_compl {w j : Nat} {r : List Nat} : j ∈ compl w r ↔ j < w ∧ j ∉ r := by
  unfold compl
  rw [List.mem_filter, List.mem_range, Bool.not_eq_true', decide_eq_false_iff_not]
def isB (p : Int) (M : IM) (w : Nat) (r : List Nat) : Bool := decide (rankF p M r = rankF p M (List.range w)) && decide (r.length = rankF p M (List.range w))
theorem bases_isB (p : Int) (M : IM) (w : Nat) : basesF p M w = (lawLists w).filter (isB p M w) := by
  unfold basesF
  rw [List.filter_filter]
  rfl
theorem bases_dual {p : Int} {w : Nat} {A D : IM} (w4 : w ≤ 4) (e : ∀ r ∈ lawLists w, isB p A w r = isB p D w (compl w r)) : (basesF p D w).map natsI = sortL ((basesF p A w).map fun Cs => natsI (compl w Cs)) := by
  obtain ⟨h1, h2, _⟩ := lists_ok w w4
  refine (sortL_eq ?_ ?_).symm
  · rw [bases_isB, bases_isB]
    have a : (lawLists w).filter (isB p A w) = (lawLists w).filter ((isB p D w) ∘ compl w) := List.filter_congr fun r hr => e r hr
    have b : ((lawLists w).filter ((isB p D w) ∘ compl w)).map (compl w) = ((lawLists w).map (compl w)).filter (isB p D w) := List.filter_map.symm
    rw [a, show (fun Cs => natsI (compl w Cs)) = natsI ∘ compl w from rfl, ← List.map_map, b]
    exact (h2.filter _).map _
  · rw [bases_isB]
    exact h1.sublist ((List.filter_sublist).map natsI)
theorem isB_dual {p : Int} (hp : IsP p) (h0 : 0 ≤ p) {h w : Nat} {A N L : IM} {G : NF} (w4 : w ≤ 4) (lA : A.length = h) (SL : Shp w w L) (DD : DualD p w (List.range h) (ent A) (ent L) G (freeJ p h w N) (restQ p h w N)) :
    ∀ r ∈ lawLists w, isB p A w r = isB p (dualM w (kerRows p h w N L)) w (compl w r) := by
  intro r hr
  obtain ⟨_, _, h3⟩ := lists_ok w w4
  obtain ⟨n1, n2, ln⟩ := h3 r hr
  have r1 := (lawLists_lt w w4 r hr).1
  have c1 : ∀ j ∈ compl w r, j < w := fun j hj => (mem_compl.mp hj).1
  have kA := DD.rankA hp (by have := rankF_all hp h0 A w; rwa [lA] at this)
  have kD := DD.rankN hp (RkIs.congr (fun V hV c => dual_rows SL (fun j hj => List.mem_range.mp (hV j hj)) c) (rankF_all hp h0 (dualM w (kerRows p h w N L)) w))
  have ct := DD.count
  have fA : rankF p A r = r.length ↔ Ind p (List.range h) (ent A) r := by have := rankF_full hp h0 (M := A) n1; rwa [lA] at this
  have fD : rankF p (dualM w (kerRows p h w N L)) (compl w r) = (compl w r).length ↔ Ind p (freeJ p h w N) (tr (ent L)) (compl w r) := by
    rw [rankF_full hp h0 n2]
    exact ⟨fun z c hc => z c ((dual_rows SL c1 c).mpr hc), fun z c hc => z c ((dual_rows SL c1 c).mp hc)⟩
  unfold isB
  rw [kA, kD, Bool.eq_iff_iff, Bool.and_eq_true, Bool.and_eq_true, decide_eq_true_eq, decide_eq_true_eq, decide_eq_true_eq, decide_eq_true_eq]
  have key : (compl w r).length = (freeJ p h w N).length → (Ind p (List.range h) (ent A) r ↔ Ind p (freeJ p h w N) (tr (ent L)) (compl w r)) := fun l =>
    DD.ind hp n1 n2 r1 c1 (fun j hj => ⟨fun a b => (mem_compl.mp b).2 a, fun a => Classical.byContradiction fun z => a (mem_compl.mpr ⟨hj, z⟩)⟩) l
  constructor
  · rintro ⟨a, b⟩
    have l : (compl w r).length = (freeJ p h w N).length := by omega
    exact ⟨by rw [← l]; exact fD.mpr ((key l).mp (fA.mp (by omega))), l⟩
  · rintro ⟨a, l⟩
    have b : r.length = (restQ p h w N).length := by omega
    exact ⟨by rw [← b]; exact fA.mpr ((key l).mpr (fD.mp (by omega))), b⟩
/-! ### the numbers stay short enough -/
theorem ok_dual {p : Int} (h0 : 0 ≤ p) {h w : Nat} {N L : IM} (hh : 0 < h) (h3 : h ≤ 3) (hw : 0 < w) (w4 : w ≤ 4) (SL : Shp w w L) (J : Js (min h w) N L) : RankOk p (dualM w (kerRows p h w N L)) := by
  by_cases hp : 0 < p
  · exact .inr (.inl hp)
  have p0 : p = 0 := by omega
  have short : Lt (2 ^ 1008) L → RankOk p (dualM w (kerRows p h w N L)) := fun b => by
    refine .inr (.inr fun i j => ?_)
    have z0 : (0 : Int).natAbs < 2 ^ 10000 := by rw [Int.natAbs_zero]; exact Nat.pow_pos (by decide)
    have lk : (kerRows p h w N L).length = (freeJ p h w N).length := by rw [ker_free, List.length_map]
    unfold dualM
    split
    · by_cases z : i = 0
      · subst z
        have : ent [List.replicate w 0] 0 j = 0 := by
          show (List.replicate w (0 : Int)).getD j 0 = 0
          rw [List.getD_eq_getElem?_getD, List.getElem?_replicate]
          split <;> rfl
        rw [this]; exact z0
      · rw [ent_out' (by show 1 ≤ i; omega)]; exact z0
    · by_cases c : i < (freeJ p h w N).length ∧ j < w
      · rw [ent_ker SL c.1 j c.2]
        exact Nat.lt_of_le_of_lt (b _ _) (Nat.pow_lt_pow_right (by decide) (by decide))
      · have S : Shp (freeJ p h w N).length w (kerRows p h w N L) := by
          rw [← lk]; exact Shp.of (kerRows_wid p h w N L SL.1)
        rw [ent_outS S c]; exact z0
  have hm : min h w = 1 ∨ min h w = 2 ∨ min h w = 3 := by omega
  rcases hm with e | e | e
  · rw [e] at J
    exact short (J.2.mono (Nat.pow_le_pow_right (by decide) (by decide)))
  · rw [e] at J
    exact short J.2
  · rw [e] at J
    rcases J with b | d
    · exact short b
    · refine .inl ?_
      have le : (freeJ p h w N).length ≤ 1 := List.Nodup.length_le_of_subset (l₂ := [3]) (List.Pairwise.filter _ List.nodup_range) fun j hj => by
        obtain ⟨a, b⟩ := mem_free.mp hj
        by_cases c : j < 3
        · unfold dgAt at b
          rw [if_pos (by omega), p0, Int.zero_dvd] at b
          exact absurd b (d j c)
        · rw [show j = 3 by omega]; exact List.mem_cons_self
      unfold dualM
      split
      · exact Nat.le_refl 1
      · rw [ker_free, List.length_map]; exact le
theorem lawFacts : LawFacts where
  bad := fun h w M _ _ h3 _ w4 => fact_bad h w M h3 w4
  net := fun h w M _ _ h3 _ w4 N => fact_net h w M h3 w4 N
  chg := fun h w M S h0 h3 w0 w4 _ e => fact_chg h w M S h3 w4 e
  dual := fun h w M p S hh h3 hw w4 b hp h0 _ => ⟨Jb M h w, Ib M h w, diag_bd M h w h3, jb_start M w4 b, fun N L ⟨⟨⟨G, sem⟩, dg, _⟩, js⟩ SL =>
    ⟨ok_dual h0 hh h3 hw w4 SL js, bases_dual w4 (isB_dual hp h0 w4 S.1 SL (sem_dual hp sem dg))⟩⟩
end Ef
end
section
/-! H1: all callees, chained from what the text says (printed by wip/tools/head.py) -/
namespace Ef
open PySem PySem.Spec PyProof.Rows L2 Evl
structure TextOk (P : Program) (K : PySem.W.Frag) (mg : Str → Option Value) (CM CW CC CD CB fI : Addr) : Prop where
  t_is_prime : DefOk K mg "is_prime" s_is_prime ["n"]
  t_choices : DefOk K mg "choices" s_choices ["many", "size"]
  t_Matrix : InitOk K mg CM "Matrix" "Matrix.__init__" s_Matrix_init ["self", "rows"]
  t_Mdiag : CmOk K CM "diagonal" "Matrix.diagonal" s_Matrix_diagonal ["cls", "numbers", "height", "width"]
  t_Munit : CmOk K CM "unit" "Matrix.unit" s_Matrix_unit ["cls", "n"]
  t_Mpart : MethOk K CM "part" "Matrix.part" s_Matrix_part ["self", "rows", "columns"]
  t_Mtrans : MethOk K CM "transposed" "Matrix.transposed" s_Matrix_transposed ["self"]
  t_det : DefOk K mg "determinant_of" s_determinant_of ["rows"]
  t_Mdet : MethOk K CM "determinant" "Matrix.determinant" s_Matrix_determinant ["self"]
  t_Mtimes : MethOk K CM "times" "Matrix.times" s_Matrix_times ["self", "vector"]
  t_added_row : DefOk K mg "added_row" s_added_row ["rows", "target", "source", "factor"]
  t_added_column : DefOk K mg "added_column" s_added_column ["rows", "target", "source", "factor"]
  t_exch : DefOk K mg "exchanged_columns" s_exchanged_columns ["rows", "first", "second"]
  t_Work : InitOk K mg CW "Work" "Work.__init__" s_Work_init ["self", "matrix"]
  t_least : MethOk K CW "least_place" "Work.least_place" s_Work_least_place ["self", "start"]
  t_turn : MethOk K CW "turn_sign" "Work.turn_sign" s_Work_turn_sign ["self", "at"]
  t_bring : MethOk K CW "bring" "Work.bring" s_Work_bring ["self", "at", "place"]
  t_spread : MethOk K CW "spread" "Work.spread" s_Work_spread ["self", "at"]
  t_clear : MethOk K CW "clear" "Work.clear" s_Work_clear ["self", "at"]
  t_diagonal : DefOk K mg "diagonal" s_diagonal ["matrix"]
  t_divisors : DefOk K mg "divisors" s_divisors ["matrix"]
  t_Chars : InitOk K mg CC "Chars" "Chars.__init__" s_Chars_init ["self", "endless", "primes"]
  t_PD : DefOk K mg "prime_divisors" s_prime_divisors ["n"]
  t_every : CmOk K CC "every" "Chars.every" s_Chars_every ["cls"]
  t_none : CmOk K CC "none" "Chars.none" s_Chars_none ["cls"]
  t_zero_of : CmOk K CC "zero_of" "Chars.zero_of" s_Chars_zero_of ["cls", "n"]
  t_invert : MethOk K CC "__invert__" "Chars.__invert__" s_Chars_invert ["self"]
  t_unit_of : CmOk K CC "unit_of" "Chars.unit_of" s_Chars_unit_of ["cls", "n"]
  t_shared : DefOk K mg "shared" s_shared ["first", "second"]
  t_or : MethOk K CC "__or__" "Chars.__or__" s_Chars_or ["self", "other"]
  t_column_part : DefOk K mg "column_part" s_column_part ["matrix", "columns"]
  t_independent : DefOk K mg "independent" s_independent ["matrix", "columns"]
  t_all_columns : DefOk K mg "all_columns" s_all_columns ["matrix"]
  t_changes : DefOk K mg "changes" s_changes ["matrix"]
  t_bad_square : DefOk K mg "bad_square" s_bad_square ["matrix"]
  t_checked : DefOk K mg "checked" s_checked ["p"]
  t_is_zero : DefOk K mg "is_zero" s_is_zero ["n", "p"]
  t_check_length : DefOk K mg "check_length" s_check_length ["matrix", "b"]
  t_Dg : InitOk K mg CD "Diagonal" "Diagonal.__init__" s_Diagonal_init ["self", "matrix", "b", "p"]
  t_kernel : KwOk K mg "kernel" s_kernel ["matrix", "p"]
  t_dual : KwOk K mg "dual" s_dual ["matrix", "p"]
  t_l_cell : DefOk K mg "_law_cell" s_l_cell ["_law_script", "_law_k"]
  t_l_draws : DefOk K mg "_law_draws" s_l_draws ["_law_cell_here", "_law_sizes"]
  t_l_is_prime : DefOk K mg "_law_is_prime" s_l_is_prime ["_law_n"]
  t_l_prime_from : DefOk K mg "_law_prime_from" s_l_prime_from ["_law_n"]
  t_l_less : DefOk K mg "_law_less" s_l_less ["_law_row", "_law_base", "_law_at", "_law_char"]
  t_l_rank : DefOk K mg "_law_rank" s_l_rank ["_law_rows_here", "_law_columns", "_law_char"]
  t_l_lists : DefOk K mg "_law_lists" s_l_lists ["_law_many"]
  t_l_bases : DefOk K mg "_law_bases" s_l_bases ["_law_rows_here", "_law_char"]
  t_l_rows : DefOk K mg "_law_rows" s_l_rows ["_law_cell_here", "_law_height", "_law_width", "_law_reach"]
  t_l_drawn : DefOk K mg "_law_drawn" s_l_drawn ["_law_script", "_law_head"]
  t_l_det : DefOk K mg "_law_determinant" s_l_determinant ["_law_rows_here"]
  t_l_bad : DefOk K mg "_law_bad" s_l_bad ["_law_rows_here"]
  t_l_refused : DefOk K mg "_law_refused" s_l_refused ["_law_matrix", "_law_char"]
  t_law : DefOk K mg "law" s_law ["_law_script"]
  mc : MatC K CM
  wc : WorkC K CW
  cc : ChC K CC
  dc : DgC K CD
  bc : PySem.BadX.BadTxt P K mg CB fI
  ic : C8.InsC K CM
  gM : mg "Matrix" = some (.ref CM)
  gC : mg "Chars" = some (.ref CC)
  f_range : mg "range" = none
  f_len : mg "len" = none
  f_list : mg "list" = none
  f_tuple : mg "tuple" = none
  f_enumerate : mg "enumerate" = none
  f_sum : mg "sum" = none
  f_zip : mg "zip" = none
  f_min : mg "min" = none
  f_max : mg "max" = none
  f_abs : mg "abs" = none
  f_any : mg "any" = none
  f_int : mg "int" = none
  f_sorted : mg "sorted" = none
  f_set : mg "set" = none
  f_isinstance : mg "isinstance" = none
theorem chain (LF : LawFacts) {P : Program} {w : World} {K : PySem.W.Frag} {mg : Str → Option Value} {base : Heap} {CM CW CC CD CB fI : Addr} (T : TextOk P K mg CM CW CC CD CB fI) :
    ∃ f fd, FnOk P w K mg base CX0 13 f fd ["_law_script"] (spLaw K) ∧ mg "law" = some (.ref f) ∧ Fun K "law" "law" s_law f fd := by
  cases T
  have q_is_prime : Clb P w K mg base CX0 "is_prime" 1 ["n"] spIsPrime := by
    apply c_is_prime <;> assumption
  have q_choices : Clb P w K mg base CX0 "choices" 8 ["many", "size"] (spChoices 8) := by
    apply c_choices <;> assumption
  have q_Matrix : KClb P w K mg base CX0 CM "Matrix" 1 ["self", "rows"] (spMatInit K CM) := by
    apply c_Matrix <;> assumption
  have q_Mdiag : CmClb P w K mg base CX0 CM "diagonal" 3 (spDiag K CM) := by
    apply c_Mdiag <;> assumption
  have q_Munit : CmClb P w K mg base CX0 CM "unit" 4 (spUnit K CM) := by
    apply c_Munit <;> assumption
  have q_Mpart : MClb P w K mg base CX0 CM "part" 3 ["self", "rows", "columns"] (spPart K CM) := by
    apply c_Mpart <;> assumption
  have q_Mtrans : MClb P w K mg base CX0 CM "transposed" 3 ["self"] (spTrans K CM) := by
    apply c_Mtrans <;> assumption
  have q_det : Clb P w K mg base CX0 "determinant_of" 1 ["rows"] (spDet K) := by
    apply c_det <;> assumption
  have q_Mdet : MClb P w K mg base CX0 CM "determinant" 2 ["self"] (spMdet K CM) := by
    apply c_Mdet <;> assumption
  have q_Mtimes : MClb P w K mg base CX0 CM "times" 1 ["self", "vector"] (spTimes0 K CM) := by
    apply c_Mtimes <;> assumption
  have q_added_row : Clb P w K mg base CX0 "added_row" 1 ["rows", "target", "source", "factor"] spAddRow := by
    apply c_added_row <;> assumption
  have q_added_column : Clb P w K mg base CX0 "added_column" 1 ["rows", "target", "source", "factor"] spAddCol := by
    apply c_added_column <;> assumption
  have q_exch : Clb P w K mg base CX0 "exchanged_columns" 1 ["rows", "first", "second"] spExch := by
    apply c_exch <;> assumption
  have q_Work : KClb P w K mg base CX0 CW "Work" 5 ["self", "matrix"] (spWork K CM CW) := by
    apply c_Work <;> assumption
  have q_least : MClb P w K mg base CX0 CW "least_place" 1 ["self", "start"] (spLeast K CW) := by
    apply c_least <;> assumption
  have q_turn : MClb P w K mg base CX0 CW "turn_sign" 1 ["self", "at"] (spTurn CW) := by
    apply c_turn <;> assumption
  have q_bring : MClb P w K mg base CX0 CW "bring" 2 ["self", "at", "place"] (spBring K CW) := by
    apply c_bring <;> assumption
  have q_spread : MClb P w K mg base CX0 CW "spread" 2 ["self", "at"] (spSpread CW) := by
    apply c_spread <;> assumption
  have q_clear : MClb P w K mg base CX0 CW "clear" 2 ["self", "at"] (spClear CW) := by
    apply c_clear <;> assumption
  have q_diagonal : Clb P w K mg base CX0 "diagonal" 7 ["matrix"] (spDiagonal K CM) := by
    apply c_diagonal <;> assumption
  have q_divisors : Clb P w K mg base CX0 "divisors" 8 ["matrix"] (spDivisors K CM) := by
    apply c_divisors <;> assumption
  have q_Chars : KClb P w K mg base CX0 CC "Chars" 2 ["self", "endless", "primes"] (spChInit K CC) := by
    apply c_Chars <;> assumption
  have q_PD : Clb P w K mg base CX0 "prime_divisors" 1 ["n"] (spPD K) := by
    apply c_PD <;> assumption
  have q_every : CmClb P w K mg base CX0 CC "every" 4 (spEvery K CC true) := by
    apply c_every <;> assumption
  have q_none : CmClb P w K mg base CX0 CC "none" 4 (spEvery K CC false) := by
    apply c_none <;> assumption
  have q_zero_of : CmClb P w K mg base CX0 CC "zero_of" 4 (spOf1 K CC false) := by
    apply c_zero_of <;> assumption
  have q_invert : MClb P w K mg base CX0 CC "__invert__" 4 ["self"] (spInv K CC) := by
    apply c_invert <;> assumption
  have q_unit_of : CmClb P w K mg base CX0 CC "unit_of" 5 (spOf1 K CC true) := by
    apply c_unit_of <;> assumption
  have q_shared : Clb P w K mg base CX0 "shared" 1 ["first", "second"] (spShared K CC) := by
    apply c_shared <;> assumption
  have q_or : MClb P w K mg base CX0 CC "__or__" 5 ["self", "other"] (spOr K CC) := by
    apply c_or <;> assumption
  have q_column_part : Clb P w K mg base CX0 "column_part" 4 ["matrix", "columns"] (spColPart K CM) := by
    apply c_column_part <;> assumption
  have q_independent : Clb P w K mg base CX0 "independent" 9 ["matrix", "columns"] (spIndep K CM CC) := by
    apply c_independent <;> assumption
  have q_all_columns : Clb P w K mg base CX0 "all_columns" 9 ["matrix"] (spAllCols K CM) := by
    apply c_all_columns <;> assumption
  have q_changes : Clb P w K mg base CX0 "changes" 10 ["matrix"] (spChanges K CM) := by
    apply c_changes <;> assumption
  have q_bad_square : Clb P w K mg base CX0 "bad_square" 9 ["matrix"] (spBad K CM) := by
    apply c_bad_square <;> assumption
  have q_checked : Clb P w K mg base (L2.CX P w) "checked" 3 ["p"] (spChecked CB) := by
    apply c_checked <;> assumption
  have q_is_zero : Clb P w K mg base CX0 "is_zero" 4 ["n", "p"] spIsZero := by
    apply c_is_zero <;> assumption
  have q_check_length : Clb P w K mg base CX0 "check_length" 1 ["matrix", "b"] (spCheckLen K CM) := by
    apply c_check_length <;> assumption
  have q_Dg : KClb P w K mg base (L2.CX P w) CD "Diagonal" 8 ["self", "matrix", "b", "p"] (spDgInit K CB CM CD) := by
    apply c_Dg <;> assumption
  have q_kernel : KwClb P w K mg base (L2.CX P w) "kernel" 10 ["matrix", "p"] (spKernel K CB CM) := by
    apply c_kernel <;> assumption
  have q_dual : KwClb P w K mg base (L2.CX P w) "dual" 11 ["matrix", "p"] (spDual K CB CM) := by
    apply c_dual <;> assumption
  have q_l_cell : Clb P w K mg base CX0 "_law_cell" 1 ["_law_script", "_law_k"] (spCell K) := by
    apply c_l_cell <;> assumption
  have q_l_draws : Clb P w K mg base CX0 "_law_draws" 1 ["_law_cell_here", "_law_sizes"] (spDraws K) := by
    apply c_l_draws <;> assumption
  have q_l_is_prime : Clb P w K mg base CX0 "_law_is_prime" 1 ["_law_n"] spLPrime := by
    apply c_l_is_prime <;> assumption
  have q_l_prime_from : Clb P w K mg base CX0 "_law_prime_from" 2 ["_law_n"] spPrimeFrom := by
    apply c_l_prime_from <;> assumption
  have q_l_less : Clb P w K mg base CX0 "_law_less" 1 ["_law_row", "_law_base", "_law_at", "_law_char"] (spLess K) := by
    apply c_l_less <;> assumption
  have q_l_rank : Clb P w K mg base CX0 "_law_rank" 2 ["_law_rows_here", "_law_columns", "_law_char"] (spRank K) := by
    apply c_l_rank <;> assumption
  have q_l_lists : Clb P w K mg base CX0 "_law_lists" 1 ["_law_many"] (spLists K) := by
    apply c_l_lists <;> assumption
  have q_l_bases : Clb P w K mg base CX0 "_law_bases" 3 ["_law_rows_here", "_law_char"] (spBases K) := by
    apply c_l_bases <;> assumption
  have q_l_rows : Clb P w K mg base CX0 "_law_rows" 2 ["_law_cell_here", "_law_height", "_law_width", "_law_reach"] (spRowsL K) := by
    apply c_l_rows <;> assumption
  have q_l_drawn : Clb P w K mg base CX0 "_law_drawn" 3 ["_law_script", "_law_head"] (spDrawn K) := by
    apply c_l_drawn <;> assumption
  have q_l_det : Clb P w K mg base CX0 "_law_determinant" 4 ["_law_rows_here"] (spLDet K 3) := by
    refine c_l_det ?_ ?_ ?_ 3 <;> assumption
  have q_l_bad : Clb P w K mg base CX0 "_law_bad" 5 ["_law_rows_here"] (spLBad K) := by
    apply c_l_bad <;> assumption
  have q_l_refused : Clb P w K mg base CX0 "_law_refused" 12 ["_law_matrix", "_law_char"] (spRefused K CM) := by
    apply c_l_refused <;> assumption
  apply c_law <;> assumption
end Ef
end
section
/-! H2: what the head leaves gives the text's facts (printed by wip/tools/head2.py) -/
namespace Ef
open PySem PySem.Spec PyProof.Rows L2 Evl
/-! ### where a def stands -/
inductive Pl where
  | glo (x : Str)
  | met (C m : Str)
  | cm (C m : Str)
def cmAd (K : PySem.W.Frag) (C : Addr) (m : Str) : Addr := match PySem.W.findCls K (.ref C) (.type "type") m with
  | some (.get _ (.ref p) _ _) => p
  | _ => 0
def cmFn (K : PySem.W.Frag) (p : Addr) : Addr := match PySem.W.recIn K p "classmethod" with
  | some (.ref g :: _) => g
  | _ => 0
def Pl.ad (K : PySem.W.Frag) : Pl → Addr
  | .glo x => He.ga K x
  | .met C m => He.ma K (He.ga K C) m
  | .cm C m => cmFn K (cmAd K (He.ga K C) m)
structure Df where
  at_ : Pl
  name : Str
  qual : Str
  st : Stmt
def fnZ (K : PySem.W.Frag) (a : Addr) : He.FnW := match K.lookup a with
  | some ⟨_, _, .func fd, _⟩ => some (fd.name, fd.qualname, fd.params, fd.body, fd.scope, fd.globals, fd.closure, fd.builtins)
  | _ => none
def Df.val (d : Df) : He.FnW := some (d.name, d.qual, defArgs d.st, .stmts (defBody d.st), defScope d.st, mainGlobals, [], builtinsNs)
def nonB : Value → Bool
  | .none => true
  | _ => false
theorem nonB_ok {v : Value} (h : nonB v = true) : v = .none := by
  cases v with
  | none => rfl
  | _ => cases h
def Df.ok (K : PySem.W.Frag) (d : Df) : Bool := PySem.W.keepIn K (.ref (d.at_.ad K)) && (match K.lookup (d.at_.ad K) with
  | some ⟨_, _, .func fd, _⟩ => PySem.W.codeIn K fd.code d.qual && nonB fd.defaults
  | _ => false)
theorem Df.fn_ {K : PySem.W.Frag} {d : Df} (e : fnZ K (d.at_.ad K) = d.val) (c : d.ok K = true) : ∃ fd, Fun K d.name d.qual d.st (d.at_.ad K) fd := by
  obtain ⟨kp, c2⟩ := He.ba c
  unfold fnZ at e
  cases q : K.lookup (d.at_.ad K) with
  | none =>
    rw [q] at c2
    cases c2
  | some o =>
    obtain ⟨oc, od, dt, osl⟩ := o
    rw [q] at c2 e
    cases dt with
    | func fd =>
      obtain ⟨n1, n2, n3, n4, n5, n6, n7, n8, n9, n10, n11, n12, n13, n14, n15⟩ := fd
      have e2 : (some (n1, n2, n3, n4, n5, n6, n7, n15) : He.FnW) = some (d.name, d.qual, defArgs d.st, .stmts (defBody d.st), defScope d.st, mainGlobals, [], builtinsNs) := e
      simp only [Option.some.injEq, Prod.mk.injEq] at e2
      obtain ⟨h1, h2, h3, h4, h5, h6, h7, h8⟩ := e2
      subst h1 h2 h3 h4 h5 h6 h7 h8
      have c3 : (PySem.W.codeIn K n13 d.qual && nonB n8) = true := c2
      obtain ⟨k1, k2⟩ := He.ba c3
      rw [nonB_ok k2] at q
      exact ⟨_, ⟨⟨oc, od, n9, n10, n11, n12, n13, n14, osl, rfl, q, k1⟩, kp⟩⟩
    | _ => cases c2
/-! ### classmethods -/
def cmB (K : PySem.W.Frag) (C : Addr) (m : Str) : Bool := PySem.W.readsIn K C (.type "type") && (He.eqO (PySem.W.specialIn K (.ref C) "__getattribute__") (some (some (.builtin "type.__getattribute__"))) &&
  ((match PySem.W.findCls K (.ref C) (.type "type") m with
    | some (.get (.builtin s) (.ref _) .none (.ref D)) => decide (s = "classmethod.__get__") && decide (D = C)
    | _ => false) && ((match PySem.W.recIn K (cmAd K C m) "classmethod" with
    | some (.ref _ :: _) => true
    | _ => false) && PySem.W.fnIn K (cmFn K (cmAd K C m)))))
theorem cmB_ok {K : PySem.W.Frag} {C : Addr} {m : Str} (h : cmB K C m = true) : ClX.CRead K C (.type "type") ∧ ClX.CMet K C (.type "type") m (cmAd K C m) (cmFn K (cmAd K C m)) := by
  obtain ⟨h1, h⟩ := He.ba h
  obtain ⟨h2, h⟩ := He.ba h
  obtain ⟨h3, h⟩ := He.ba h
  obtain ⟨h4, h5⟩ := He.ba h
  refine ⟨⟨h1, He.eqO_ok h2⟩, ?_, ?_, h5⟩
  · unfold cmAd
    split at h3
    · rename_i s p D e
      obtain ⟨a, b⟩ := He.ba h3
      rw [e, of_decide_eq_true a, of_decide_eq_true b]
    · cases h3
  · split at h4
    · rename_i g rest e
      refine ⟨rest, ?_⟩
      unfold cmFn
      rw [e]
    · cases h4
/-! ### isinstance -/
def insB (K : PySem.W.Frag) (C : Addr) : Bool := He.eqO (PySem.W.findIn K (.ref C) "__class__") (some (some (.builtin "object.__class__"))) && (He.eqO (PySem.W.specialIn K (.builtin "object.__class__") "__get__") (some (some (.builtin "getset_descriptor.__get__"))) &&
  (decide (PySem.W.takesIn K (.builtin "object.__class__") = some true) && (decide (PySem.W.mroIn K C (.type "object") = some true) && decide (PySem.W.kitOne K (.ref C) (.ref C) = some true))))
/-! ### the own exception -/
def badCls (K : PySem.W.Frag) (C : Addr) : Bool := match K.lookup C with
  | some ⟨.type c, _, .cls cd, sl⟩ => decide (c = "type") && ((match cd.mro with
    | .ref D :: bm => decide (D = C) && PySem.HandSPX.refsVE bm
    | _ => false) && (cd.hasDict && (!cd.hasDel && (match sl.toList with
    | [_, _, _, _, some (.builtin i), _] => decide (i = "ValueError.__new__")
    | _ => false))))
  | _ => false
theorem badCls_ok {K : PySem.W.Frag} {C : Addr} (h : badCls K C = true) : ∃ nm q N bs bm sn sub ab col dd k0 k1 k2 k3 k5, K.lookup C = some (excClassObj nm q C N bs bm true sn sub ab col dd k0 k1 k2 k3 k5 "ValueError.__new__") ∧ PySem.HandSPX.refsVE bm = true := by
  unfold badCls at h
  split at h
  · rename_i c od cd sl e
    obtain ⟨h1, h⟩ := He.ba h
    obtain ⟨h2, h⟩ := He.ba h
    obtain ⟨h3, h⟩ := He.ba h
    obtain ⟨h4, h5⟩ := He.ba h
    obtain ⟨n1, n2, n3, n4, n5, n6, n7, n8, n9, n10, n11⟩ := cd
    obtain ⟨ls⟩ := sl
    dsimp only at h2 h3 h4 h5
    split at h2
    · rename_i D bm
      obtain ⟨a, b⟩ := He.ba h2
      split at h5
      · rename_i k0 k1 k2 k3 i k5
        rw [of_decide_eq_true h1, of_decide_eq_true a, h3, show n11 = false by simpa using h4, of_decide_eq_true h5] at e
        exact ⟨_, _, _, _, _, _, _, _, _, _, _, _, _, _, _, e, b⟩
      · cases h5
    · cases h2
  · cases h
def fnI (K : PySem.W.Frag) (a : Addr) : He.FnW := match K.lookup a with
  | some ⟨_, _, .func fd, _⟩ => some (fd.name, fd.qualname, fd.params, fd.body, fd.scope, fd.globals, [], fd.builtins)
  | _ => none
abbrev stBad : Stmt := inClass (topS 4) 0
def valI : He.FnW := some ("__init__", "BadCharacteristic.__init__", defArgs stBad, .stmts (defBody stBad), defScope stBad, mainGlobals, [], builtinsNs)
def fileB (K : PySem.W.Frag) (file : Str) (a : Addr) : Bool := match K.lookup a with
  | some ⟨_, _, .fields vs, _⟩ => (match (vs[2]? : Option Value) with
    | some (.str z _) => file == z
    | _ => false)
  | _ => false
def cellB (K : PySem.W.Frag) (C : Addr) : List (Str × Addr) → Bool
  | [(x, cc)] => decide (x = "__class__") && (match K.lookup cc with
    | some ⟨_, _, .cell (some (.ref D)), _⟩ => decide (D = C)
    | _ => false)
  | _ => false
def refB (f : Addr → Bool) : Value → Bool
  | .ref a => f a
  | _ => false
def iniB (K : PySem.W.Frag) (file : Str) (C fI : Addr) : Bool := match K.lookup fI with
  | some ⟨_, _, .func fd, _⟩ => PySem.W.codeIn K fd.code "BadCharacteristic.__init__" && (nonB fd.defaults && (nonB fd.kwdefaults && (refB (fileB K file) fd.code && cellB K C fd.closure)))
  | _ => false
theorem iniB_ok {K : PySem.W.Frag} {file : Str} {C fI : Addr} (h : iniB K file C fI = true) (e : fnI K fI = valI) :
    ∃ (oc : Value) (od : Option Addr) (doc pm : Value) (an : Option Addr) (cda cc : Addr) (ct : Value) (osl : Array (Option Value)) (p1 p2 : Pos) (cl : Value) (cld : Option Addr) (csl : Array (Option Value)) (ccl : Value) (cdd : Option Addr) (vs : Array Value) (ccs : Array (Option Value)) (f2 : Str) (tf : Tok),
    K.lookup fI = some ⟨oc, od, .func (PySem.W.fnX "__init__" "BadCharacteristic.__init__" (PySem.BadX.iA p1 p2) PySem.BadX.iB PySem.BadX.iS [("__class__", cc)] .none .none doc pm an (.ref cda) ct), osl⟩ ∧ PySem.W.codeIn K (.ref cda) "BadCharacteristic.__init__" = true ∧
    K.lookup cc = some ⟨cl, cld, .cell (some (.ref C)), csl⟩ ∧ K.lookup cda = some ⟨ccl, cdd, .fields vs, ccs⟩ ∧ vs[2]? = some (.str f2 tf) ∧ (file == f2) = true := by
  unfold iniB at h
  unfold fnI at e
  split at h
  · rename_i oc od fd osl q
    rw [q] at e
    obtain ⟨n1, n2, n3, n4, n5, n6, n7, n8, n9, n10, n11, n12, n13, n14, n15⟩ := fd
    have hh : PySem.W.codeIn K n13 "BadCharacteristic.__init__" = true ∧ nonB n8 = true ∧ nonB n9 = true ∧ refB (fileB K file) n13 = true ∧ cellB K C n7 = true := by
      obtain ⟨h1, r1⟩ := He.ba h
      obtain ⟨h2, r2⟩ := He.ba r1
      obtain ⟨h3, r3⟩ := He.ba r2
      obtain ⟨h4, h5⟩ := He.ba r3
      exact ⟨h1, h2, h3, h4, h5⟩
    clear h
    obtain ⟨h1, h2, h3, h4, h5⟩ := hh
    have e2 : (some (n1, n2, n3, n4, n5, n6, [], n15) : He.FnW) = valI := e
    clear e
    unfold valI at e2
    simp only [Option.some.injEq, Prod.mk.injEq] at e2
    obtain ⟨e1, e2, e3, e4, e5, e6, _, e8⟩ := e2
    cases n13 with
    | ref cda =>
      have h4' : fileB K file cda = true := h4
      unfold fileB at h4'
      split at h4'
      · rename_i ccl cdd vs ccs q2
        split at h4'
        · rename_i f2 tf q3
          unfold cellB at h5
          split at h5
          · rename_i x cc
            obtain ⟨h6, h7⟩ := He.ba h5
            split at h7
            · rename_i cl cld D csl q4
              refine ⟨oc, od, n10, n11, n12, cda, cc, n14, osl, ⟨14, 17, 14, 21⟩, ⟨14, 23, 14, 24⟩, cl, cld, csl, ccl, cdd, vs, ccs, f2, tf, ?_, h1, ?_, q2, q3, h4'⟩
              · rw [q, nonB_ok h2, nonB_ok h3, of_decide_eq_true h6, e1, e2, e3, e4, e5, e6, e8]
                rfl
              · rw [q4, of_decide_eq_true h7]
            · cases h7
          · cases h5
        · cases h4'
      · cases h4'
    | _ => cases h4
  · cases h
def badB (K : PySem.W.Frag) (file : Str) (C fI : Addr) : Bool := badCls K C && (He.eqO (PySem.W.findIn K (.ref C) "__setattr__") (some (some (.builtin "object.__setattr__"))) && (He.eqO (PySem.W.findIn K (.ref C) "__getattribute__") (some (some (.builtin "BaseException.__getattribute__"))) &&
  (He.eqO (PySem.W.findIn K (.ref C) "__getattr__") (some none) && (He.eqO (PySem.W.findIn K (.ref C) "p") (some none) && (He.eqO (PySem.W.findIn K (.ref C) "__init__") (some (some (.ref fI))) && (decide (PySem.W.typeIn K (.ref fI) = some (.type "function")) &&
  (PySem.W.keepIn K (.ref C) && (decide (PySem.W.subIn K (.ref C) (.type "BaseException") = some true) && (decide (PySem.W.subIn K (.ref C) (.type "ValueError") = some true) && (decide (PySem.W.typeIn K (.ref C) = some (.type "type")) && (PySem.W.hasDictIn K C &&
  (decide (PySem.W.exmOne K (.ref C) (.ref C) = some true) && (He.eqO (PySem.W.ks_superIn K C C "__init__") (some (some (.builtin "ValueError.__init__"))) && (decide (PySem.W.mroIn K C (.ref C) = some true) && (He.eqO (PySem.W.nsIn K cStatics "thirdparty.any") (some none) && iniB K file C fI)))))))))))))))

def d_is_prime : Df := ⟨.glo "is_prime", "is_prime", "is_prime", s_is_prime⟩
def d_choices : Df := ⟨.glo "choices", "choices", "choices", s_choices⟩
def d_Matrix : Df := ⟨.met "Matrix" "__init__", "__init__", "Matrix.__init__", s_Matrix_init⟩
def d_Mdiag : Df := ⟨.cm "Matrix" "diagonal", "diagonal", "Matrix.diagonal", s_Matrix_diagonal⟩
def d_Munit : Df := ⟨.cm "Matrix" "unit", "unit", "Matrix.unit", s_Matrix_unit⟩
def d_Mpart : Df := ⟨.met "Matrix" "part", "part", "Matrix.part", s_Matrix_part⟩
def d_Mtrans : Df := ⟨.met "Matrix" "transposed", "transposed", "Matrix.transposed", s_Matrix_transposed⟩
def d_det : Df := ⟨.glo "determinant_of", "determinant_of", "determinant_of", s_determinant_of⟩
def d_Mdet : Df := ⟨.met "Matrix" "determinant", "determinant", "Matrix.determinant", s_Matrix_determinant⟩
def d_Mtimes : Df := ⟨.met "Matrix" "times", "times", "Matrix.times", s_Matrix_times⟩
def d_added_row : Df := ⟨.glo "added_row", "added_row", "added_row", s_added_row⟩
def d_added_column : Df := ⟨.glo "added_column", "added_column", "added_column", s_added_column⟩
def d_exch : Df := ⟨.glo "exchanged_columns", "exchanged_columns", "exchanged_columns", s_exchanged_columns⟩
def d_Work : Df := ⟨.met "Work" "__init__", "__init__", "Work.__init__", s_Work_init⟩
def d_least : Df := ⟨.met "Work" "least_place", "least_place", "Work.least_place", s_Work_least_place⟩
def d_turn : Df := ⟨.met "Work" "turn_sign", "turn_sign", "Work.turn_sign", s_Work_turn_sign⟩
def d_bring : Df := ⟨.met "Work" "bring", "bring", "Work.bring", s_Work_bring⟩
def d_spread : Df := ⟨.met "Work" "spread", "spread", "Work.spread", s_Work_spread⟩
def d_clear : Df := ⟨.met "Work" "clear", "clear", "Work.clear", s_Work_clear⟩
def d_diagonal : Df := ⟨.glo "diagonal", "diagonal", "diagonal", s_diagonal⟩
def d_divisors : Df := ⟨.glo "divisors", "divisors", "divisors", s_divisors⟩
def d_Chars : Df := ⟨.met "Chars" "__init__", "__init__", "Chars.__init__", s_Chars_init⟩
def d_PD : Df := ⟨.glo "prime_divisors", "prime_divisors", "prime_divisors", s_prime_divisors⟩
def d_every : Df := ⟨.cm "Chars" "every", "every", "Chars.every", s_Chars_every⟩
def d_none : Df := ⟨.cm "Chars" "none", "none", "Chars.none", s_Chars_none⟩
def d_zero_of : Df := ⟨.cm "Chars" "zero_of", "zero_of", "Chars.zero_of", s_Chars_zero_of⟩
def d_invert : Df := ⟨.met "Chars" "__invert__", "__invert__", "Chars.__invert__", s_Chars_invert⟩
def d_unit_of : Df := ⟨.cm "Chars" "unit_of", "unit_of", "Chars.unit_of", s_Chars_unit_of⟩
def d_shared : Df := ⟨.glo "shared", "shared", "shared", s_shared⟩
def d_or : Df := ⟨.met "Chars" "__or__", "__or__", "Chars.__or__", s_Chars_or⟩
def d_column_part : Df := ⟨.glo "column_part", "column_part", "column_part", s_column_part⟩
def d_independent : Df := ⟨.glo "independent", "independent", "independent", s_independent⟩
def d_all_columns : Df := ⟨.glo "all_columns", "all_columns", "all_columns", s_all_columns⟩
def d_changes : Df := ⟨.glo "changes", "changes", "changes", s_changes⟩
def d_bad_square : Df := ⟨.glo "bad_square", "bad_square", "bad_square", s_bad_square⟩
def d_checked : Df := ⟨.glo "checked", "checked", "checked", s_checked⟩
def d_is_zero : Df := ⟨.glo "is_zero", "is_zero", "is_zero", s_is_zero⟩
def d_check_length : Df := ⟨.glo "check_length", "check_length", "check_length", s_check_length⟩
def d_Dg : Df := ⟨.met "Diagonal" "__init__", "__init__", "Diagonal.__init__", s_Diagonal_init⟩
def d_kernel : Df := ⟨.glo "kernel", "kernel", "kernel", s_kernel⟩
def d_dual : Df := ⟨.glo "dual", "dual", "dual", s_dual⟩
def d_l_cell : Df := ⟨.glo "_law_cell", "_law_cell", "_law_cell", s_l_cell⟩
def d_l_draws : Df := ⟨.glo "_law_draws", "_law_draws", "_law_draws", s_l_draws⟩
def d_l_is_prime : Df := ⟨.glo "_law_is_prime", "_law_is_prime", "_law_is_prime", s_l_is_prime⟩
def d_l_prime_from : Df := ⟨.glo "_law_prime_from", "_law_prime_from", "_law_prime_from", s_l_prime_from⟩
def d_l_less : Df := ⟨.glo "_law_less", "_law_less", "_law_less", s_l_less⟩
def d_l_rank : Df := ⟨.glo "_law_rank", "_law_rank", "_law_rank", s_l_rank⟩
def d_l_lists : Df := ⟨.glo "_law_lists", "_law_lists", "_law_lists", s_l_lists⟩
def d_l_bases : Df := ⟨.glo "_law_bases", "_law_bases", "_law_bases", s_l_bases⟩
def d_l_rows : Df := ⟨.glo "_law_rows", "_law_rows", "_law_rows", s_l_rows⟩
def d_l_drawn : Df := ⟨.glo "_law_drawn", "_law_drawn", "_law_drawn", s_l_drawn⟩
def d_l_det : Df := ⟨.glo "_law_determinant", "_law_determinant", "_law_determinant", s_l_determinant⟩
def d_l_bad : Df := ⟨.glo "_law_bad", "_law_bad", "_law_bad", s_l_bad⟩
def d_l_refused : Df := ⟨.glo "_law_refused", "_law_refused", "_law_refused", s_l_refused⟩
def d_law : Df := ⟨.glo "law", "law", "law", s_law⟩
def fns : List Df := [d_is_prime, d_choices, d_Matrix, d_Mdiag, d_Munit, d_Mpart, d_Mtrans, d_det, d_Mdet, d_Mtimes, d_added_row, d_added_column, d_exch, d_Work, d_least, d_turn, d_bring, d_spread, d_clear, d_diagonal, d_divisors, d_Chars, d_PD, d_every, d_none, d_zero_of, d_invert, d_unit_of, d_shared, d_or, d_column_part, d_independent, d_all_columns, d_changes, d_bad_square, d_checked, d_is_zero, d_check_length, d_Dg, d_kernel, d_dual, d_l_cell, d_l_draws, d_l_is_prime, d_l_prime_from, d_l_less, d_l_rank, d_l_lists, d_l_bases, d_l_rows, d_l_drawn, d_l_det, d_l_bad, d_l_refused, d_law]
def glos0 : List Str := ["is_prime", "choices", "determinant_of", "added_row", "added_column", "exchanged_columns", "diagonal", "divisors", "prime_divisors", "shared", "column_part", "independent", "all_columns", "changes", "bad_square", "checked", "is_zero", "check_length", "kernel", "dual"]
def glos1 : List Str := ["_law_cell", "_law_draws", "_law_is_prime", "_law_prime_from", "_law_less", "_law_rank", "_law_lists", "_law_bases", "_law_rows", "_law_drawn", "_law_determinant", "_law_bad", "_law_refused", "law", "Matrix", "Work", "Chars", "Diagonal", "BadCharacteristic"]
def glos : List Str := glos0 ++ glos1
def frees : List Str := ["range", "len", "list", "tuple", "enumerate", "sum", "zip", "min", "max", "abs", "any", "int", "sorted", "set", "isinstance", "super"]
def mets : List (Str × Str) := [("Matrix", "part"), ("Matrix", "transposed"), ("Matrix", "determinant"), ("Matrix", "times"), ("Work", "least_place"), ("Work", "turn_sign"), ("Work", "bring"), ("Work", "spread"), ("Work", "clear"), ("Chars", "__invert__"), ("Chars", "__or__")]
def cmes : List (Str × Str) := [("Matrix", "diagonal"), ("Matrix", "unit"), ("Chars", "every"), ("Chars", "none"), ("Chars", "zero_of"), ("Chars", "unit_of")]
def nots : List (Str × Str) := [("Matrix", "rows"), ("Matrix", "height"), ("Matrix", "width"), ("Work", "first"), ("Work", "middle"), ("Work", "last"), ("Chars", "endless"), ("Chars", "primes"), ("Diagonal", "p"), ("Diagonal", "first"), ("Diagonal", "last"), ("Diagonal", "numbers"), ("Diagonal", "sides")]
def mkrs : List Str := ["Matrix", "Work", "Chars", "Diagonal"]
def clss : List Str := ["Matrix", "Work", "Chars", "Diagonal"]
abbrev PR : Program := PySem.Challenge.pw_everyfield_k62_whole_bad_squares_and_dua
def fileZ : Str := PR.main.file
def okZ (K : PySem.W.Frag) : Bool := (glos.all fun x => (He.Fa.glo x).ok K) && ((frees.all fun x => (He.Fa.free x).ok K) && ((mets.all fun q => (He.Fa.meth q.1 q.2).ok K) && ((cmes.all fun q => cmB K (He.ga K q.1) q.2) && ((nots.all fun q => (He.Fa.noat q.1 q.2).ok K) &&
  ((mkrs.all fun x => (He.Fa.mkr x).ok K) && ((clss.all fun x => (He.Fa.cls x).ok K) && ((fns.all fun d => d.ok K) && (insB K (He.ga K "Matrix") && (PySem.W.selfFirst K (He.ga K "Chars") && badB K fileZ (He.ga K "BadCharacteristic") (He.ma K (He.ga K "BadCharacteristic") "__init__"))))))))))
abbrev AlZ : Type := Bool × List He.FnW × He.FnW
def obsZ (K : PySem.W.Frag) : AlZ := (okZ K, fns.map fun d => fnZ K (d.at_.ad K), fnI K (He.ma K (He.ga K "BadCharacteristic") "__init__"))
def valZ : AlZ := (true, fns.map Df.val, valI)
def SaysZ (K : PySem.W.Frag) : Prop := obsZ K = valZ
section
variable {K : PySem.W.Frag} {h : Heap} {mg : Str → Option Value}
theorem SaysZ.ok (c : SaysZ K) : okZ K = true := congrArg (fun z : AlZ => z.1) c
theorem SaysZ.glo (c : SaysZ K) (X : K.In h) (G : h.Ns mainGlobals mg) (x : Str) (hx : x ∈ glos) : mg x = some (.ref (He.ga K x)) := He.glo_ok X G (List.all_eq_true.mp (He.ba c.ok).1 x hx)
theorem SaysZ.free (c : SaysZ K) (X : K.In h) (G : h.Ns mainGlobals mg) (x : Str) (hx : x ∈ frees) : mg x = none := He.free_ok X G (List.all_eq_true.mp (He.ba (He.ba c.ok).2).1 x hx)
theorem SaysZ.meth (c : SaysZ K) (C m : Str) (hx : (C, m) ∈ mets) : Meth K (He.ga K C) m (He.ma K (He.ga K C) m) := He.meth_ok (List.all_eq_true.mp (He.ba (He.ba (He.ba c.ok).2).2).1 (C, m) hx)
theorem SaysZ.cm (c : SaysZ K) (C m : Str) (hx : (C, m) ∈ cmes) : ClX.CRead K (He.ga K C) (.type "type") ∧ ClX.CMet K (He.ga K C) (.type "type") m (cmAd K (He.ga K C) m) (cmFn K (cmAd K (He.ga K C) m)) := cmB_ok (List.all_eq_true.mp (He.ba (He.ba (He.ba (He.ba c.ok).2).2).2).1 (C, m) hx)
theorem SaysZ.noat (c : SaysZ K) (C m : Str) (hx : (C, m) ∈ nots) : NoAttr K (He.ga K C) m := He.noat_ok (List.all_eq_true.mp (He.ba (He.ba (He.ba (He.ba (He.ba c.ok).2).2).2).2).1 (C, m) hx)
theorem SaysZ.mkr (c : SaysZ K) (x : Str) (hx : x ∈ mkrs) : Mk K (He.ga K x) (He.ma K (He.ga K x) "__init__") := He.mkr_ok (List.all_eq_true.mp (He.ba (He.ba (He.ba (He.ba (He.ba (He.ba c.ok).2).2).2).2).2).1 x hx)
theorem SaysZ.clsT (c : SaysZ K) (x : Str) (hx : x ∈ clss) : Cls K (He.ga K x) := He.cls_ok (List.all_eq_true.mp (He.ba (He.ba (He.ba (He.ba (He.ba (He.ba (He.ba c.ok).2).2).2).2).2).2).1 x hx)
theorem SaysZ.r8 (c : SaysZ K) : ((fns.all fun d => d.ok K) && (insB K (He.ga K "Matrix") && (PySem.W.selfFirst K (He.ga K "Chars") && badB K fileZ (He.ga K "BadCharacteristic") (He.ma K (He.ga K "BadCharacteristic") "__init__")))) = true := (He.ba (He.ba (He.ba (He.ba (He.ba (He.ba (He.ba c.ok).2).2).2).2).2).2).2
theorem SaysZ.df (c : SaysZ K) (i : Nat) {d : Df} (h : fns[i]? = some d := by rfl) : ∃ fd, Fun K d.name d.qual d.st (d.at_.ad K) fd := by
  have e : (fns.map fun d => fnZ K (d.at_.ad K)) = fns.map Df.val := congrArg (fun z : AlZ => z.2.1) c
  have e2 : (fns.map fun d => fnZ K (d.at_.ad K))[i]? = (fns.map Df.val)[i]? := by rw [e]
  rw [List.getElem?_map, List.getElem?_map, h] at e2
  exact Df.fn_ (Option.some.inj e2) (List.all_eq_true.mp (He.ba c.r8).1 d (List.mem_of_getElem? h))
theorem SaysZ.sfT (c : SaysZ K) : PySem.W.selfFirst K (He.ga K "Chars") = true := (He.ba (He.ba (He.ba c.r8).2).2).1
theorem SaysZ.insT (c : SaysZ K) : C8.InsC K (He.ga K "Matrix") := by
  obtain ⟨h1, h⟩ := He.ba (He.ba (He.ba c.r8).2).1
  obtain ⟨h2, h⟩ := He.ba h
  obtain ⟨h3, h⟩ := He.ba h
  obtain ⟨h4, h5⟩ := He.ba h
  exact ⟨c.clsT "Matrix" (by decide +kernel), He.eqO_ok h1, He.eqO_ok h2, of_decide_eq_true h3, of_decide_eq_true h4, of_decide_eq_true h5⟩
theorem SaysZ.badT (c : SaysZ K) (X : K.In h) (G : h.Ns mainGlobals mg) : PySem.BadX.BadTxt PR K mg (He.ga K "BadCharacteristic") (He.ma K (He.ga K "BadCharacteristic") "__init__") := by
  obtain ⟨h1, k⟩ := He.ba (He.ba (He.ba (He.ba c.r8).2).2).2
  obtain ⟨h2, k⟩ := He.ba k
  obtain ⟨h3, k⟩ := He.ba k
  obtain ⟨h4, k⟩ := He.ba k
  obtain ⟨h5, k⟩ := He.ba k
  obtain ⟨h6, k⟩ := He.ba k
  obtain ⟨h7, k⟩ := He.ba k
  obtain ⟨h8, k⟩ := He.ba k
  obtain ⟨h9, k⟩ := He.ba k
  obtain ⟨h10, k⟩ := He.ba k
  obtain ⟨h11, k⟩ := He.ba k
  obtain ⟨h12, k⟩ := He.ba k
  obtain ⟨h13, k⟩ := He.ba k
  obtain ⟨h14, k⟩ := He.ba k
  obtain ⟨h15, k⟩ := He.ba k
  obtain ⟨h16, h17⟩ := He.ba k
  exact { gC := c.glo X G "BadCharacteristic" (by decide +kernel), gS := c.free X G "super" (by decide +kernel), cls := badCls_ok h1, sa := He.eqO_ok h2, ga := He.eqO_ok h3, gg := He.eqO_ok h4, noN := He.eqO_ok h5, iC := He.eqO_ok h6, tC := of_decide_eq_true h7, kC := h8, exC := of_decide_eq_true h9, veC := of_decide_eq_true h10, tyC := of_decide_eq_true h11, hdC := h12, te := of_decide_eq_true h13, su := He.eqO_ok h14, mm := of_decide_eq_true h15, op := He.eqO_ok h16, top := by decide +kernel, fn := iniB_ok h17 (congrArg (fun z : AlZ => z.2.2) c) }
theorem kbn_of {x : Str} {st : Stmt} {f : Addr} {fd : FuncData} {a b : Str} (F : Fun K x x st f fd)
    (h : ∀ (kV doc pm : Value) (an : Option Addr) (cdv ct : Value) (u v : Value), bindArgs (PySem.W.fnOf x x (defArgs st) (defBody st) (defScope st) .none kV doc pm an cdv ct) ⟨[u], [("p", v)]⟩ = pure [(a, u), (b, v)]) : KBn K fd [a, b] 1 ["p"] (fun us ws => us ++ ws) (fun us ws => us ++ ws) := by
  obtain ⟨oc, od, kV, doc, pm, an, cdv, ct, osl, rfl, lk, hcd⟩ := F.ex
  exact ⟨fun s us ws _ h1 h2 => match us, ws, h1, h2 with | [u], [v], _, _ => BindsTo.of_eq (h kV doc pm an cdv ct u v), fun h1 h2 => h1.append h2⟩
end
theorem textOk {K : PySem.W.Frag} {h : Heap} {mg : Str → Option Value} (c : SaysZ K) (X : K.In h) (G : h.Ns mainGlobals mg) : TextOk PR K mg (He.ga K "Matrix") (He.ga K "Work") (He.ga K "Chars") (He.ga K "Diagonal") (He.ga K "BadCharacteristic") (He.ma K (He.ga K "BadCharacteristic") "__init__") := by

  have z_is_prime : DefOk K mg "is_prime" s_is_prime ["n"] := by
    obtain ⟨fd, F⟩ := c.df 0 (d := d_is_prime) rfl
    exact ⟨⟨_, fd, F, c.glo X G "is_prime" (by decide +kernel), F.binds fun _ _ _ _ _ _ us hl => match us, hl with | [_], _ => rfl⟩⟩
  have z_choices : DefOk K mg "choices" s_choices ["many", "size"] := by
    obtain ⟨fd, F⟩ := c.df 1 (d := d_choices) rfl
    exact ⟨⟨_, fd, F, c.glo X G "choices" (by decide +kernel), F.binds fun _ _ _ _ _ _ us hl => match us, hl with | [_, _], _ => rfl⟩⟩
  have z_Matrix : InitOk K mg (He.ga K "Matrix") "Matrix" "Matrix.__init__" s_Matrix_init ["self", "rows"] := by
    obtain ⟨fd, F⟩ := c.df 2 (d := d_Matrix) rfl
    exact ⟨⟨_, fd, F, c.mkr "Matrix" (by decide +kernel), c.glo X G "Matrix" (by decide +kernel), F.binds fun _ _ _ _ _ _ us hl => match us, hl with | [_, _], _ => rfl⟩⟩
  have z_Mdiag : CmOk K (He.ga K "Matrix") "diagonal" "Matrix.diagonal" s_Matrix_diagonal ["cls", "numbers", "height", "width"] := by
    obtain ⟨fd, F⟩ := c.df 3 (d := d_Mdiag) rfl
    exact ⟨⟨_, _, _, fd, (c.cm "Matrix" "diagonal" (by decide +kernel)).1, (c.cm "Matrix" "diagonal" (by decide +kernel)).2, F, F.binds fun _ _ _ _ _ _ us hl => match us, hl with | [_, _, _, _], _ => rfl⟩⟩
  have z_Munit : CmOk K (He.ga K "Matrix") "unit" "Matrix.unit" s_Matrix_unit ["cls", "n"] := by
    obtain ⟨fd, F⟩ := c.df 4 (d := d_Munit) rfl
    exact ⟨⟨_, _, _, fd, (c.cm "Matrix" "unit" (by decide +kernel)).1, (c.cm "Matrix" "unit" (by decide +kernel)).2, F, F.binds fun _ _ _ _ _ _ us hl => match us, hl with | [_, _], _ => rfl⟩⟩
  have z_Mpart : MethOk K (He.ga K "Matrix") "part" "Matrix.part" s_Matrix_part ["self", "rows", "columns"] := by
    obtain ⟨fd, F⟩ := c.df 5 (d := d_Mpart) rfl
    exact ⟨⟨_, fd, F, c.meth "Matrix" "part" (by decide +kernel), F.binds fun _ _ _ _ _ _ us hl => match us, hl with | [_, _, _], _ => rfl⟩⟩
  have z_Mtrans : MethOk K (He.ga K "Matrix") "transposed" "Matrix.transposed" s_Matrix_transposed ["self"] := by
    obtain ⟨fd, F⟩ := c.df 6 (d := d_Mtrans) rfl
    exact ⟨⟨_, fd, F, c.meth "Matrix" "transposed" (by decide +kernel), F.binds fun _ _ _ _ _ _ us hl => match us, hl with | [_], _ => rfl⟩⟩
  have z_det : DefOk K mg "determinant_of" s_determinant_of ["rows"] := by
    obtain ⟨fd, F⟩ := c.df 7 (d := d_det) rfl
    exact ⟨⟨_, fd, F, c.glo X G "determinant_of" (by decide +kernel), F.binds fun _ _ _ _ _ _ us hl => match us, hl with | [_], _ => rfl⟩⟩
  have z_Mdet : MethOk K (He.ga K "Matrix") "determinant" "Matrix.determinant" s_Matrix_determinant ["self"] := by
    obtain ⟨fd, F⟩ := c.df 8 (d := d_Mdet) rfl
    exact ⟨⟨_, fd, F, c.meth "Matrix" "determinant" (by decide +kernel), F.binds fun _ _ _ _ _ _ us hl => match us, hl with | [_], _ => rfl⟩⟩
  have z_Mtimes : MethOk K (He.ga K "Matrix") "times" "Matrix.times" s_Matrix_times ["self", "vector"] := by
    obtain ⟨fd, F⟩ := c.df 9 (d := d_Mtimes) rfl
    exact ⟨⟨_, fd, F, c.meth "Matrix" "times" (by decide +kernel), F.binds fun _ _ _ _ _ _ us hl => match us, hl with | [_, _], _ => rfl⟩⟩
  have z_added_row : DefOk K mg "added_row" s_added_row ["rows", "target", "source", "factor"] := by
    obtain ⟨fd, F⟩ := c.df 10 (d := d_added_row) rfl
    exact ⟨⟨_, fd, F, c.glo X G "added_row" (by decide +kernel), F.binds fun _ _ _ _ _ _ us hl => match us, hl with | [_, _, _, _], _ => rfl⟩⟩
  have z_added_column : DefOk K mg "added_column" s_added_column ["rows", "target", "source", "factor"] := by
    obtain ⟨fd, F⟩ := c.df 11 (d := d_added_column) rfl
    exact ⟨⟨_, fd, F, c.glo X G "added_column" (by decide +kernel), F.binds fun _ _ _ _ _ _ us hl => match us, hl with | [_, _, _, _], _ => rfl⟩⟩
  have z_exch : DefOk K mg "exchanged_columns" s_exchanged_columns ["rows", "first", "second"] := by
    obtain ⟨fd, F⟩ := c.df 12 (d := d_exch) rfl
    exact ⟨⟨_, fd, F, c.glo X G "exchanged_columns" (by decide +kernel), F.binds fun _ _ _ _ _ _ us hl => match us, hl with | [_, _, _], _ => rfl⟩⟩
  have z_Work : InitOk K mg (He.ga K "Work") "Work" "Work.__init__" s_Work_init ["self", "matrix"] := by
    obtain ⟨fd, F⟩ := c.df 13 (d := d_Work) rfl
    exact ⟨⟨_, fd, F, c.mkr "Work" (by decide +kernel), c.glo X G "Work" (by decide +kernel), F.binds fun _ _ _ _ _ _ us hl => match us, hl with | [_, _], _ => rfl⟩⟩
  have z_least : MethOk K (He.ga K "Work") "least_place" "Work.least_place" s_Work_least_place ["self", "start"] := by
    obtain ⟨fd, F⟩ := c.df 14 (d := d_least) rfl
    exact ⟨⟨_, fd, F, c.meth "Work" "least_place" (by decide +kernel), F.binds fun _ _ _ _ _ _ us hl => match us, hl with | [_, _], _ => rfl⟩⟩
  have z_turn : MethOk K (He.ga K "Work") "turn_sign" "Work.turn_sign" s_Work_turn_sign ["self", "at"] := by
    obtain ⟨fd, F⟩ := c.df 15 (d := d_turn) rfl
    exact ⟨⟨_, fd, F, c.meth "Work" "turn_sign" (by decide +kernel), F.binds fun _ _ _ _ _ _ us hl => match us, hl with | [_, _], _ => rfl⟩⟩
  have z_bring : MethOk K (He.ga K "Work") "bring" "Work.bring" s_Work_bring ["self", "at", "place"] := by
    obtain ⟨fd, F⟩ := c.df 16 (d := d_bring) rfl
    exact ⟨⟨_, fd, F, c.meth "Work" "bring" (by decide +kernel), F.binds fun _ _ _ _ _ _ us hl => match us, hl with | [_, _, _], _ => rfl⟩⟩
  have z_spread : MethOk K (He.ga K "Work") "spread" "Work.spread" s_Work_spread ["self", "at"] := by
    obtain ⟨fd, F⟩ := c.df 17 (d := d_spread) rfl
    exact ⟨⟨_, fd, F, c.meth "Work" "spread" (by decide +kernel), F.binds fun _ _ _ _ _ _ us hl => match us, hl with | [_, _], _ => rfl⟩⟩
  have z_clear : MethOk K (He.ga K "Work") "clear" "Work.clear" s_Work_clear ["self", "at"] := by
    obtain ⟨fd, F⟩ := c.df 18 (d := d_clear) rfl
    exact ⟨⟨_, fd, F, c.meth "Work" "clear" (by decide +kernel), F.binds fun _ _ _ _ _ _ us hl => match us, hl with | [_, _], _ => rfl⟩⟩
  have z_diagonal : DefOk K mg "diagonal" s_diagonal ["matrix"] := by
    obtain ⟨fd, F⟩ := c.df 19 (d := d_diagonal) rfl
    exact ⟨⟨_, fd, F, c.glo X G "diagonal" (by decide +kernel), F.binds fun _ _ _ _ _ _ us hl => match us, hl with | [_], _ => rfl⟩⟩
  have z_divisors : DefOk K mg "divisors" s_divisors ["matrix"] := by
    obtain ⟨fd, F⟩ := c.df 20 (d := d_divisors) rfl
    exact ⟨⟨_, fd, F, c.glo X G "divisors" (by decide +kernel), F.binds fun _ _ _ _ _ _ us hl => match us, hl with | [_], _ => rfl⟩⟩
  have z_Chars : InitOk K mg (He.ga K "Chars") "Chars" "Chars.__init__" s_Chars_init ["self", "endless", "primes"] := by
    obtain ⟨fd, F⟩ := c.df 21 (d := d_Chars) rfl
    exact ⟨⟨_, fd, F, c.mkr "Chars" (by decide +kernel), c.glo X G "Chars" (by decide +kernel), F.binds fun _ _ _ _ _ _ us hl => match us, hl with | [_, _, _], _ => rfl⟩⟩
  have z_PD : DefOk K mg "prime_divisors" s_prime_divisors ["n"] := by
    obtain ⟨fd, F⟩ := c.df 22 (d := d_PD) rfl
    exact ⟨⟨_, fd, F, c.glo X G "prime_divisors" (by decide +kernel), F.binds fun _ _ _ _ _ _ us hl => match us, hl with | [_], _ => rfl⟩⟩
  have z_every : CmOk K (He.ga K "Chars") "every" "Chars.every" s_Chars_every ["cls"] := by
    obtain ⟨fd, F⟩ := c.df 23 (d := d_every) rfl
    exact ⟨⟨_, _, _, fd, (c.cm "Chars" "every" (by decide +kernel)).1, (c.cm "Chars" "every" (by decide +kernel)).2, F, F.binds fun _ _ _ _ _ _ us hl => match us, hl with | [_], _ => rfl⟩⟩
  have z_none : CmOk K (He.ga K "Chars") "none" "Chars.none" s_Chars_none ["cls"] := by
    obtain ⟨fd, F⟩ := c.df 24 (d := d_none) rfl
    exact ⟨⟨_, _, _, fd, (c.cm "Chars" "none" (by decide +kernel)).1, (c.cm "Chars" "none" (by decide +kernel)).2, F, F.binds fun _ _ _ _ _ _ us hl => match us, hl with | [_], _ => rfl⟩⟩
  have z_zero_of : CmOk K (He.ga K "Chars") "zero_of" "Chars.zero_of" s_Chars_zero_of ["cls", "n"] := by
    obtain ⟨fd, F⟩ := c.df 25 (d := d_zero_of) rfl
    exact ⟨⟨_, _, _, fd, (c.cm "Chars" "zero_of" (by decide +kernel)).1, (c.cm "Chars" "zero_of" (by decide +kernel)).2, F, F.binds fun _ _ _ _ _ _ us hl => match us, hl with | [_, _], _ => rfl⟩⟩
  have z_invert : MethOk K (He.ga K "Chars") "__invert__" "Chars.__invert__" s_Chars_invert ["self"] := by
    obtain ⟨fd, F⟩ := c.df 26 (d := d_invert) rfl
    exact ⟨⟨_, fd, F, c.meth "Chars" "__invert__" (by decide +kernel), F.binds fun _ _ _ _ _ _ us hl => match us, hl with | [_], _ => rfl⟩⟩
  have z_unit_of : CmOk K (He.ga K "Chars") "unit_of" "Chars.unit_of" s_Chars_unit_of ["cls", "n"] := by
    obtain ⟨fd, F⟩ := c.df 27 (d := d_unit_of) rfl
    exact ⟨⟨_, _, _, fd, (c.cm "Chars" "unit_of" (by decide +kernel)).1, (c.cm "Chars" "unit_of" (by decide +kernel)).2, F, F.binds fun _ _ _ _ _ _ us hl => match us, hl with | [_, _], _ => rfl⟩⟩
  have z_shared : DefOk K mg "shared" s_shared ["first", "second"] := by
    obtain ⟨fd, F⟩ := c.df 28 (d := d_shared) rfl
    exact ⟨⟨_, fd, F, c.glo X G "shared" (by decide +kernel), F.binds fun _ _ _ _ _ _ us hl => match us, hl with | [_, _], _ => rfl⟩⟩
  have z_or : MethOk K (He.ga K "Chars") "__or__" "Chars.__or__" s_Chars_or ["self", "other"] := by
    obtain ⟨fd, F⟩ := c.df 29 (d := d_or) rfl
    exact ⟨⟨_, fd, F, c.meth "Chars" "__or__" (by decide +kernel), F.binds fun _ _ _ _ _ _ us hl => match us, hl with | [_, _], _ => rfl⟩⟩
  have z_column_part : DefOk K mg "column_part" s_column_part ["matrix", "columns"] := by
    obtain ⟨fd, F⟩ := c.df 30 (d := d_column_part) rfl
    exact ⟨⟨_, fd, F, c.glo X G "column_part" (by decide +kernel), F.binds fun _ _ _ _ _ _ us hl => match us, hl with | [_, _], _ => rfl⟩⟩
  have z_independent : DefOk K mg "independent" s_independent ["matrix", "columns"] := by
    obtain ⟨fd, F⟩ := c.df 31 (d := d_independent) rfl
    exact ⟨⟨_, fd, F, c.glo X G "independent" (by decide +kernel), F.binds fun _ _ _ _ _ _ us hl => match us, hl with | [_, _], _ => rfl⟩⟩
  have z_all_columns : DefOk K mg "all_columns" s_all_columns ["matrix"] := by
    obtain ⟨fd, F⟩ := c.df 32 (d := d_all_columns) rfl
    exact ⟨⟨_, fd, F, c.glo X G "all_columns" (by decide +kernel), F.binds fun _ _ _ _ _ _ us hl => match us, hl with | [_], _ => rfl⟩⟩
  have z_changes : DefOk K mg "changes" s_changes ["matrix"] := by
    obtain ⟨fd, F⟩ := c.df 33 (d := d_changes) rfl
    exact ⟨⟨_, fd, F, c.glo X G "changes" (by decide +kernel), F.binds fun _ _ _ _ _ _ us hl => match us, hl with | [_], _ => rfl⟩⟩
  have z_bad_square : DefOk K mg "bad_square" s_bad_square ["matrix"] := by
    obtain ⟨fd, F⟩ := c.df 34 (d := d_bad_square) rfl
    exact ⟨⟨_, fd, F, c.glo X G "bad_square" (by decide +kernel), F.binds fun _ _ _ _ _ _ us hl => match us, hl with | [_], _ => rfl⟩⟩
  have z_checked : DefOk K mg "checked" s_checked ["p"] := by
    obtain ⟨fd, F⟩ := c.df 35 (d := d_checked) rfl
    exact ⟨⟨_, fd, F, c.glo X G "checked" (by decide +kernel), F.binds fun _ _ _ _ _ _ us hl => match us, hl with | [_], _ => rfl⟩⟩
  have z_is_zero : DefOk K mg "is_zero" s_is_zero ["n", "p"] := by
    obtain ⟨fd, F⟩ := c.df 36 (d := d_is_zero) rfl
    exact ⟨⟨_, fd, F, c.glo X G "is_zero" (by decide +kernel), F.binds fun _ _ _ _ _ _ us hl => match us, hl with | [_, _], _ => rfl⟩⟩
  have z_check_length : DefOk K mg "check_length" s_check_length ["matrix", "b"] := by
    obtain ⟨fd, F⟩ := c.df 37 (d := d_check_length) rfl
    exact ⟨⟨_, fd, F, c.glo X G "check_length" (by decide +kernel), F.binds fun _ _ _ _ _ _ us hl => match us, hl with | [_, _], _ => rfl⟩⟩
  have z_Dg : InitOk K mg (He.ga K "Diagonal") "Diagonal" "Diagonal.__init__" s_Diagonal_init ["self", "matrix", "b", "p"] := by
    obtain ⟨fd, F⟩ := c.df 38 (d := d_Dg) rfl
    exact ⟨⟨_, fd, F, c.mkr "Diagonal" (by decide +kernel), c.glo X G "Diagonal" (by decide +kernel), F.binds fun _ _ _ _ _ _ us hl => match us, hl with | [_, _, _, _], _ => rfl⟩⟩
  have z_kernel : KwOk K mg "kernel" s_kernel ["matrix", "p"] := by
    obtain ⟨fd, F⟩ := c.df 39 (d := d_kernel) rfl
    exact ⟨⟨_, fd, F, c.glo X G "kernel" (by decide +kernel), kbn_of F fun _ _ _ _ _ _ u v => rfl⟩⟩
  have z_dual : KwOk K mg "dual" s_dual ["matrix", "p"] := by
    obtain ⟨fd, F⟩ := c.df 40 (d := d_dual) rfl
    exact ⟨⟨_, fd, F, c.glo X G "dual" (by decide +kernel), kbn_of F fun _ _ _ _ _ _ u v => rfl⟩⟩
  have z_l_cell : DefOk K mg "_law_cell" s_l_cell ["_law_script", "_law_k"] := by
    obtain ⟨fd, F⟩ := c.df 41 (d := d_l_cell) rfl
    exact ⟨⟨_, fd, F, c.glo X G "_law_cell" (by decide +kernel), F.binds fun _ _ _ _ _ _ us hl => match us, hl with | [_, _], _ => rfl⟩⟩
  have z_l_draws : DefOk K mg "_law_draws" s_l_draws ["_law_cell_here", "_law_sizes"] := by
    obtain ⟨fd, F⟩ := c.df 42 (d := d_l_draws) rfl
    exact ⟨⟨_, fd, F, c.glo X G "_law_draws" (by decide +kernel), F.binds fun _ _ _ _ _ _ us hl => match us, hl with | [_, _], _ => rfl⟩⟩
  have z_l_is_prime : DefOk K mg "_law_is_prime" s_l_is_prime ["_law_n"] := by
    obtain ⟨fd, F⟩ := c.df 43 (d := d_l_is_prime) rfl
    exact ⟨⟨_, fd, F, c.glo X G "_law_is_prime" (by decide +kernel), F.binds fun _ _ _ _ _ _ us hl => match us, hl with | [_], _ => rfl⟩⟩
  have z_l_prime_from : DefOk K mg "_law_prime_from" s_l_prime_from ["_law_n"] := by
    obtain ⟨fd, F⟩ := c.df 44 (d := d_l_prime_from) rfl
    exact ⟨⟨_, fd, F, c.glo X G "_law_prime_from" (by decide +kernel), F.binds fun _ _ _ _ _ _ us hl => match us, hl with | [_], _ => rfl⟩⟩
  have z_l_less : DefOk K mg "_law_less" s_l_less ["_law_row", "_law_base", "_law_at", "_law_char"] := by
    obtain ⟨fd, F⟩ := c.df 45 (d := d_l_less) rfl
    exact ⟨⟨_, fd, F, c.glo X G "_law_less" (by decide +kernel), F.binds fun _ _ _ _ _ _ us hl => match us, hl with | [_, _, _, _], _ => rfl⟩⟩
  have z_l_rank : DefOk K mg "_law_rank" s_l_rank ["_law_rows_here", "_law_columns", "_law_char"] := by
    obtain ⟨fd, F⟩ := c.df 46 (d := d_l_rank) rfl
    exact ⟨⟨_, fd, F, c.glo X G "_law_rank" (by decide +kernel), F.binds fun _ _ _ _ _ _ us hl => match us, hl with | [_, _, _], _ => rfl⟩⟩
  have z_l_lists : DefOk K mg "_law_lists" s_l_lists ["_law_many"] := by
    obtain ⟨fd, F⟩ := c.df 47 (d := d_l_lists) rfl
    exact ⟨⟨_, fd, F, c.glo X G "_law_lists" (by decide +kernel), F.binds fun _ _ _ _ _ _ us hl => match us, hl with | [_], _ => rfl⟩⟩
  have z_l_bases : DefOk K mg "_law_bases" s_l_bases ["_law_rows_here", "_law_char"] := by
    obtain ⟨fd, F⟩ := c.df 48 (d := d_l_bases) rfl
    exact ⟨⟨_, fd, F, c.glo X G "_law_bases" (by decide +kernel), F.binds fun _ _ _ _ _ _ us hl => match us, hl with | [_, _], _ => rfl⟩⟩
  have z_l_rows : DefOk K mg "_law_rows" s_l_rows ["_law_cell_here", "_law_height", "_law_width", "_law_reach"] := by
    obtain ⟨fd, F⟩ := c.df 49 (d := d_l_rows) rfl
    exact ⟨⟨_, fd, F, c.glo X G "_law_rows" (by decide +kernel), F.binds fun _ _ _ _ _ _ us hl => match us, hl with | [_, _, _, _], _ => rfl⟩⟩
  have z_l_drawn : DefOk K mg "_law_drawn" s_l_drawn ["_law_script", "_law_head"] := by
    obtain ⟨fd, F⟩ := c.df 50 (d := d_l_drawn) rfl
    exact ⟨⟨_, fd, F, c.glo X G "_law_drawn" (by decide +kernel), F.binds fun _ _ _ _ _ _ us hl => match us, hl with | [_, _], _ => rfl⟩⟩
  have z_l_det : DefOk K mg "_law_determinant" s_l_determinant ["_law_rows_here"] := by
    obtain ⟨fd, F⟩ := c.df 51 (d := d_l_det) rfl
    exact ⟨⟨_, fd, F, c.glo X G "_law_determinant" (by decide +kernel), F.binds fun _ _ _ _ _ _ us hl => match us, hl with | [_], _ => rfl⟩⟩
  have z_l_bad : DefOk K mg "_law_bad" s_l_bad ["_law_rows_here"] := by
    obtain ⟨fd, F⟩ := c.df 52 (d := d_l_bad) rfl
    exact ⟨⟨_, fd, F, c.glo X G "_law_bad" (by decide +kernel), F.binds fun _ _ _ _ _ _ us hl => match us, hl with | [_], _ => rfl⟩⟩
  have z_l_refused : DefOk K mg "_law_refused" s_l_refused ["_law_matrix", "_law_char"] := by
    obtain ⟨fd, F⟩ := c.df 53 (d := d_l_refused) rfl
    exact ⟨⟨_, fd, F, c.glo X G "_law_refused" (by decide +kernel), F.binds fun _ _ _ _ _ _ us hl => match us, hl with | [_, _], _ => rfl⟩⟩
  have z_law : DefOk K mg "law" s_law ["_law_script"] := by
    obtain ⟨fd, F⟩ := c.df 54 (d := d_law) rfl
    exact ⟨⟨_, fd, F, c.glo X G "law" (by decide +kernel), F.binds fun _ _ _ _ _ _ us hl => match us, hl with | [_], _ => rfl⟩⟩
  exact ⟨z_is_prime, z_choices, z_Matrix, z_Mdiag, z_Munit, z_Mpart, z_Mtrans, z_det, z_Mdet, z_Mtimes, z_added_row, z_added_column, z_exch, z_Work, z_least, z_turn, z_bring, z_spread, z_clear, z_diagonal, z_divisors, z_Chars, z_PD, z_every, z_none, z_zero_of, z_invert, z_unit_of, z_shared, z_or, z_column_part, z_independent, z_all_columns, z_changes, z_bad_square, z_checked, z_is_zero, z_check_length, z_Dg, z_kernel, z_dual, z_l_cell, z_l_draws, z_l_is_prime, z_l_prime_from, z_l_less, z_l_rank, z_l_lists, z_l_bases, z_l_rows, z_l_drawn, z_l_det, z_l_bad, z_l_refused, z_law, ⟨c.clsT "Matrix" (by decide +kernel), c.noat "Matrix" "rows" (by decide +kernel), c.noat "Matrix" "height" (by decide +kernel), c.noat "Matrix" "width" (by decide +kernel)⟩, ⟨c.clsT "Work" (by decide +kernel), c.noat "Work" "first" (by decide +kernel), c.noat "Work" "middle" (by decide +kernel), c.noat "Work" "last" (by decide +kernel)⟩, ⟨c.clsT "Chars" (by decide +kernel), c.noat "Chars" "endless" (by decide +kernel), c.noat "Chars" "primes" (by decide +kernel), c.sfT⟩, ⟨c.clsT "Diagonal" (by decide +kernel), c.noat "Diagonal" "p" (by decide +kernel), c.noat "Diagonal" "first" (by decide +kernel), c.noat "Diagonal" "last" (by decide +kernel), c.noat "Diagonal" "numbers" (by decide +kernel), c.noat "Diagonal" "sides" (by decide +kernel)⟩, c.badT X G, c.insT, c.glo X G "Matrix" (by decide +kernel), c.glo X G "Chars" (by decide +kernel), c.free X G "range" (by decide +kernel), c.free X G "len" (by decide +kernel), c.free X G "list" (by decide +kernel), c.free X G "tuple" (by decide +kernel), c.free X G "enumerate" (by decide +kernel), c.free X G "sum" (by decide +kernel), c.free X G "zip" (by decide +kernel), c.free X G "min" (by decide +kernel), c.free X G "max" (by decide +kernel), c.free X G "abs" (by decide +kernel), c.free X G "any" (by decide +kernel), c.free X G "int" (by decide +kernel), c.free X G "sorted" (by decide +kernel), c.free X G "set" (by decide +kernel), c.free X G "isinstance" (by decide +kernel)⟩
end Ef
end
section
set_option maxHeartbeats 0
/-! H3: the head, the run -/
namespace Ef
open PySem PySem.Spec PyProof.Rows L2 Evl
abbrev RZ : PySem.W.OpenRow := PySem.W.OpenLaw.row PySem.Challenge.rw_everyfield_k62_whole_bad_squares_and_dua
def ad0 : List Addr := [2, 3, 6, 4, 21, 31, 53, 74, 95, 116, 137, 158, 167, 174, 181, 188, 193, 347, 356, 361, 366, 371, 502, 511, 516, 521, 528, 535, 581, 592, 597, 604, 635, 644, 651, 658, 665, 672, 679, 686]
def ad1 : List Addr := [693, 700, 707, 714, 721, 726, 731, 736, 741, 746, 751, 756, 763, 768, 773, 0, 20, 30, 52, 73, 94, 115, 136, 157, 166, 173, 180, 187, 192, 346, 355, 360, 365, 370, 501, 510, 515, 520, 527, 534]
def ad2 : List Addr := [580, 591, 596, 603, 634, 643, 650, 657, 664, 671, 678, 685, 692, 699, 706, 713, 720, 725, 730, 735, 740, 745, 750, 755, 762, 767, 772, 15, 16, 17, 18, 19, 29, 32, 50, 51, 71, 72, 92, 93]
def ad3 : List Addr := [113, 114, 134, 135, 155, 156, 161, 162, 163, 164, 165, 168, 169, 170, 171, 172, 175, 176, 177, 178, 179, 182, 183, 184, 185, 186, 189, 190, 191, 207, 216, 226, 236, 246, 256, 266, 274, 282, 289, 296]
def ad4 : List Addr := [303, 310, 317, 324, 329, 336, 344, 345, 348, 349, 352, 353, 354, 357, 358, 359, 362, 363, 364, 367, 368, 369, 383, 392, 400, 410, 418, 425, 432, 437, 444, 451, 456, 463, 468, 473, 480, 487, 494, 499]
def ad5 : List Addr := [500, 503, 504, 507, 508, 509, 512, 513, 514, 517, 518, 519, 522, 523, 524, 525, 526, 529, 530, 531, 532, 533, 547, 554, 561, 568, 573, 578, 579, 582, 583, 586, 587, 588, 589, 590, 593, 594, 595, 598]
def ad6 : List Addr := [599, 600, 601, 602, 618, 625, 632, 633, 636, 637, 640, 641, 642, 645, 646, 647, 648, 649, 652, 653, 654, 655, 656, 659, 660, 661, 662, 663, 666, 667, 668, 669, 670, 673, 674, 675, 676, 677, 680, 681]
def ad7 : List Addr := [682, 683, 684, 687, 688, 689, 690, 691, 694, 695, 696, 697, 698, 701, 702, 703, 704, 705, 708, 709, 710, 711, 712, 715, 716, 717, 718, 719, 722, 723, 724, 727, 728, 729, 732, 733, 734, 737, 738, 739]
def ad8 : List Addr := [742, 743, 744, 747, 748, 749, 752, 753, 754, 757, 758, 759, 760, 761, 764, 765, 766, 769, 770, 771, 49, 38, 70, 59, 91, 80, 112, 101, 133, 122, 154, 143, 206, 214, 215, 224, 225, 234, 235, 244]
def ad9 : List Addr := [245, 254, 255, 264, 265, 272, 273, 281, 288, 295, 302, 309, 316, 323, 328, 335, 343, 337, 382, 390, 391, 398, 399, 408, 409, 417, 424, 431, 436, 443, 450, 455, 462, 467, 472, 479, 486, 493, 498, 546]
def ad10 : List Addr := [553, 560, 567, 572, 577, 617, 624, 631, 44, 45, 46, 47, 48, 65, 66, 67, 68, 69, 86, 87, 88, 89, 90, 107, 108, 109, 110, 111, 128, 129, 130, 131, 132, 149, 150, 151, 152, 153, 201, 202]
def ad11 : List Addr := [203, 204, 205, 213, 217, 223, 227, 233, 237, 243, 247, 253, 257, 263, 267, 271, 275, 276, 277, 278, 279, 280, 283, 284, 285, 286, 287, 290, 291, 292, 293, 294, 297, 298, 299, 300, 301, 304, 305, 306]
def ad12 : List Addr := [307, 308, 311, 312, 313, 314, 315, 318, 319, 320, 321, 322, 325, 326, 327, 330, 331, 332, 333, 334, 338, 339, 340, 341, 342, 379, 380, 381, 389, 393, 397, 401, 407, 411, 412, 413, 414, 415, 416, 419]
def ad13 : List Addr := [420, 421, 422, 423, 426, 427, 428, 429, 430, 433, 434, 435, 438, 439, 440, 441, 442, 445, 446, 447, 448, 449, 452, 453, 454, 457, 458, 459, 460, 461, 464, 465, 466, 469, 470, 471, 474, 475, 476, 477]
def ad14 : List Addr := [478, 481, 482, 483, 484, 485, 488, 489, 490, 491, 492, 495, 496, 497, 543, 544, 545, 548, 549, 550, 551, 552, 555, 556, 557, 558, 559, 562, 563, 564, 565, 566, 569, 570, 571, 574, 575, 576, 612, 613]
def ad15 : List Addr := [614, 615, 616, 619, 620, 621, 622, 623, 626, 627, 628, 629, 630]
/-- the objects that the text reaches (what He.asD finds in 5 steps) -/
def adZ : List Addr := ad0 ++ (ad1 ++ (ad2 ++ (ad3 ++ (ad4 ++ (ad5 ++ (ad6 ++ (ad7 ++ (ad8 ++ (ad9 ++ (ad10 ++ (ad11 ++ (ad12 ++ (ad13 ++ (ad14 ++ (ad15)))))))))))))))
def frZ (g : Addr → Option Obj) : PySem.W.Frag := He.frG g adZ
def hkZ : PySem.W.Hook where
  α := AlZ
  obs := fun s => obsZ (frZ s.heap.get?)
  val := fun _ => valZ
  says := fun _ h => ∃ K : PySem.W.Frag, K.In h ∧ SaysZ K
  of := fun _ _ e => ⟨_, He.frG_in, e⟩
  keeps := fun _ _ _ ⟨K, hK, c⟩ k => ⟨K, PySem.W.Frag.In.keeps hK k, c⟩
def obZ (s : PySem.W.SharedT) : AlZ := obsZ (frZ (HandSHeadRun.getT s))
theorem obZ_eq (s : PySem.W.SharedT) : obZ s = hkZ.obs s.abs := by
  have e : HandSHeadRun.getT s = s.abs.heap.get? := funext (HandSHeadRun.getT_eq s)
  unfold obZ
  rw [e]
  rfl
def nmA : List Str := ["_wall", "__name__", "FieldError", "BadNumber", "BadCharacteristic", "BadText", "BadRow", "UnlikeShapes", "NotSquare", "prime_divisors", "is_prime", "checked", "is_zero", "MOST_PRIME", "MOST_DIGITS_chars", "is_number", "Chars", "shared", "MOST_DIGITS_matrices", "is_integer"]
def nmB : List Str := ["choices", "determinant_of", "Matrix", "sum_rows", "product_rows", "added_row", "added_column", "exchanged_columns", "Work", "diagonal", "divisors", "check_length", "Diagonal", "kernel", "column_part", "independent", "all_columns", "changes", "bad_square", "dual"]
def nmC : List Str := ["_law_cell", "_law_draws", "_law_is_integer", "_law_is_prime", "_law_prime_from", "_law_less", "_law_rank", "_law_lists", "_law_bases", "_law_rows", "_law_determinant", "_law_bad", "_law_refused", "_law_drawn"]
def looseZ : List Str := nmA ++ nmB ++ nmC
noncomputable abbrev endZ (w : World) (os : OsState) := HandSHeadRun.endF (HandSHeadRun.stepQ (HandSHeadRun.denQ HandSHeadRun.tabQ) RZ.prog w) 20000 RZ.prog w os
def kZ (s : PySem.W.SharedT) : PySem.W.Frag := frZ (HandSHeadRun.getT s)
/-! three looks behind one run, each a declaration of its own: the kernel's memory -/
theorem runA (w : World) (os : OsState) : (endZ w os).map (fun s => (HandSHeadRun.looksF RZ.prog (PySem.W.boot_heap w.params) s.abs, HandSHeadRun.seenQ (PySem.W.view RZ.prog [61]) looseZ (PySem.importedModules RZ.prog.main.body) (fun s => PySem.W.xlAt (PySem.W.view RZ.prog [61]) [] s && PySem.W.recOk RZ.toRowW.records s) s.abs)) = some (true, PySem.W.openGood (PySem.W.view RZ.prog [61]) looseZ) := by
  kernel_rfl
theorem runB (w : World) (os : OsState) : (endZ w os).map (fun s => okZ (kZ s)) = some true := by
  kernel_rfl
theorem runC (w : World) (os : OsState) : (endZ w os).map (fun s => (fns.map fun d => fnZ (kZ s) (d.at_.ad (kZ s)), fnI (kZ s) (He.ma (kZ s) (He.ga (kZ s) "BadCharacteristic") "__init__"))) = some (fns.map Df.val, valI) := by
  kernel_rfl
theorem runZ (w : World) : HandSHeadRun.RunEq RZ (PySem.W.view RZ.prog [61]) hkZ obZ 20000 looseZ w := by
  intro os
  have h1 := runA w os
  have h2 := runB w os
  have h3 := runC w os
  show (endZ w os).map _ = _
  generalize endZ w os = x at h1 h2 h3 ⊢
  cases x with
  | none => cases h1
  | some s =>
    have e1 := Option.some.inj h1
    have e2 := Option.some.inj h2
    have e3 := Option.some.inj h3
    have a1 := congrArg Prod.fst e1
    have a2 := congrArg Prod.snd e1
    have a3 := congrArg Prod.fst e3
    have a4 := congrArg Prod.snd e3
    exact congrArg some (Prod.ext a1 (Prod.ext a2 (Prod.ext e2 (Prod.ext a3 a4))))
end Ef
end
section
set_option maxHeartbeats 0
/-! H4: the law's end, under LawFacts -/
open PySem PySem.W PySem.Calls PyProof.Rows
theorem Ef.holds_of (LF : Ef.LawFacts) : PySem.Challenge.rw_everyfield_k62_whole_bad_squares_and_dua.Holds := by
  w_on; o_law
  refine HandSHeadRun.head_any (r := OpenLaw.row PySem.Challenge.rw_everyfield_k62_whole_bad_squares_and_dua) (q := view (OpenLaw.row PySem.Challenge.rw_everyfield_k62_whole_bad_squares_and_dua).prog [61]) (H := Ef.hkZ) (ob := Ef.obZ) (M := 20000) (loose := Ef.looseZ) (d := HandSHeadRun.topDef (OpenLaw.row PySem.Challenge.rw_everyfield_k62_whole_bad_squares_and_dua).prog 61) (kwd := []) Ef.obZ_eq
    (by kernel_rfl) (fun s => by kernel_rfl) Ef.runZ (by kernel_rfl) (by kernel_rfl) (by kernel_rfl) (by rfl) (by first | assumption | decide +kernel) (by decide +kernel) ⟨rfl, rfl, rfl, rfl, rfl, by decide +kernel⟩ ?hw ?hc
  case hw => w_witness2
  case hc =>
    refine L2.walk_ofE (l := PySem.Challenge.rw_everyfield_k62_whole_bad_squares_and_dua) (n := 63) (k := 13) (x := "_law_script") (CX := L2.CX0) rfl (by decide) (by kernel_rfl) ⟨rfl, by decide, by decide⟩ ?F (fun _ _ _ _ z => z)
    intro w mg fa h Y G hmg0
    obtain ⟨K, KX, c⟩ := Y
    have hmg : mg ("law" : PySem.Str) = some (.ref fa) := by
      have e : (HandSHeadRun.topDef (OpenLaw.row PySem.Challenge.rw_everyfield_k62_whole_bad_squares_and_dua).prog 61).name = ("law" : PySem.Str) := by kernel_rfl
      rw [← e]
      exact hmg0
    have T := Ef.textOk c KX G
    obtain ⟨fd, F⟩ := c.df 54 (d := Ef.d_law) rfl
    have ef := hmg.symm.trans (c.glo KX G "law" (by decide +kernel))
    cases ef
    have hb : ∀ (s : Shared) (u : Value), BindsTo s fd ⟨[u], []⟩ [("_law_script", u)] := by
      obtain ⟨oc, od, kV, doc, pm, an, cdv, ct, osl, rfl, lk, hcd⟩ := F.ex
      exact fun s u => BindsTo.of_eq rfl
    refine ⟨K, fd, Ef.spLaw K, KX, hb, fun H a ns hl _ hS => ⟨.ref a, ns, rfl, ⟨a, rfl, hS⟩, fun _ => rfl⟩, fun base _ _ => ?_⟩
    obtain ⟨f2, fd2, ok, gm2, F2⟩ := Ef.chain (P := (PySem.Challenge.rw_everyfield_k62_whole_bad_squares_and_dua).prog) (w := w) (base := base) LF T
    have ef2 := gm2.symm.trans (c.glo KX G "law" (by decide +kernel))
    cases ef2
    obtain ⟨oc, od, kV, doc, pm, an, cdv, ct, osl, rfl, lk, hcd⟩ := F.ex
    obtain ⟨oc2, od2, kV2, doc2, pm2, an2, cdv2, ct2, osl2, rfl, lk2, hcd2⟩ := F2.ex
    have l2 := lk.symm.trans lk2
    cases l2
    exact ok
end
theorem PySem.Challenge.cw_everyfield_k62_whole_bad_squares_and_dua_holds : PySem.Challenge.rw_everyfield_k62_whole_bad_squares_and_dua.Holds :=
  Ef.holds_of Ef.lawFacts
